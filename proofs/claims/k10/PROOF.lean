import PyProof.Rows.All
import Wide.All
import OpenK.AllK
import Wide.FinOn
import HandS.ForMost
import HandS.Wide
import HandS.Deep
import HandS.EndBits
import HandS.IsInst
import HandS.EndTab
import HandS.SortInts
import HandS.Conv
import HandS.TupLe
import HandS.Zip
import HandS.SetFor
import HandS.WordsDict
import HandS.Style
import HandS.TryOnly
import HandS.ExcCtx
import HandS.ExcOwn
import HandS.ExcIs
import HandS.WordsExc
import HandS.Hot
import HandS.HotCalls
import HandS.CallLocal
import PySem.Challenge.RW_unlikeroads_k10_handed_stays
set_option Elab.async false
set_option linter.all false
set_option maxRecDepth 100000
set_option maxHeartbeats 1000000
set_option autoImplicit false
/-! Ab1: abstract values, cells, the relation to the layer's heap. -/
namespace Ab
open PySem L2

inductive Kd where
  | lst | obj (c : Nat) | dct (kvs : List (Int × Bool))
  deriving DecidableEq
inductive Vl where
  | non | bl (b : Bool) | int (i : Int) | str (s : Str)
  | tup (xs : List Vl) | rol (xs : List Vl) | new (k : Kd) (xs : List Vl) | loc (n : Nat) | fn (n : Nat)
abbrev Cell := Kd × List Vl
abbrev AH := List Cell
inductive Res (α : Type) where
  | ok (a : α) (A : AH) | exc (c : Nat) (A : AH) | bad
structure Ev where
  b : Nat
  s : List (Option Vl)
structure Tb where
  K : PySem.W.Frag
  C : Nat → Addr
  flds : Nat → List Str
  fa : Nat → Addr
  /-- the lambdas, their cells while their frame runs; tables of code; values that are known for good -/
  lam : Nat → Expr
  cl : Nat → Option (List (Str × Addr))
  tabs : List (Addr × Str)
  fix : List (V × Vl)

mutual
def plain : Vl → Bool
  | .tup xs => plains xs
  | .rol xs => plains xs
  | .loc _ => false
  | .new _ _ => false
  | _ => true
def plains : List Vl → Bool
  | [] => true
  | x :: r => plain x && plains r
end
mutual
def lt (n : Nat) : Vl → Bool
  | .tup xs => lts n xs
  | .rol xs => lts n xs
  | .new _ xs => lts n xs
  | .loc m => decide (m < n)
  | _ => true
def lts (n : Nat) : List Vl → Bool
  | [] => true
  | x :: r => lt n x && lts n r
end
mutual
def box : Vl → AH → Vl × AH
  | .tup xs, A => if plains xs = true then (.tup xs, A) else (.tup (boxs xs A).1, (boxs xs A).2)
  | .new k xs, A => (.loc (boxs xs A).2.length, (boxs xs A).2 ++ [(k, (boxs xs A).1)])
  | d, A => (d, A)
def boxs : List Vl → AH → List Vl × AH
  | [], A => ([], A)
  | x :: r, A => ((box x A).1 :: (boxs r (box x A).2).1, (boxs r (box x A).2).2)
end
def mapV (f : Vl → List Nat → Option (Vl × List Nat)) : List Vl → List Nat → Option (List Vl × List Nat)
  | [], vis => some ([], vis)
  | x :: r, vis => match f x vis with
    | none => none
    | some (y, v1) => match mapV f r v1 with
      | none => none
      | some (ys, v2) => some (y :: ys, v2)
def unb (n : Nat) (A : AH) : Nat → Vl → List Nat → Option (Vl × List Nat)
  | 0, d, vis => if plain d = true then some (d, vis) else none
  | f + 1, d, vis => if plain d = true then some (d, vis) else match d with
    | .loc m => if m < n then some (.loc m, vis) else if vis.contains m = true then none else match A[m]? with
      | none => none
      | some (k, xs) => match mapV (unb n A f) xs (m :: vis) with
        | none => none
        | some (ys, v) => some (.new k ys, v)
    | .tup xs => match mapV (unb n A f) xs vis with
      | none => none
      | some (ys, v) => some (.tup ys, v)
    | .new k xs => match mapV (unb n A f) xs vis with
      | none => none
      | some (ys, v) => some (.new k ys, v)
    | _ => none
def gc (n : Nat) (d : Vl) (A : AH) : Res Vl := if A.length ≤ n then .ok d A else match unb n A 5 d [] with
  | some (d', _) => .ok d' (A.take n)
  | none => .ok d A

/-! ### plain things -/
mutual
theorem lt_plain (n : Nat) : ∀ d : Vl, plain d = true → lt n d = true
  | .non, _ => rfl
  | .bl _, _ => rfl
  | .int _, _ => rfl
  | .str _, _ => rfl
  | .fn _, _ => rfl
  | .tup xs, h => by
    rw [lt]; rw [plain] at h; exact lts_plains n xs h
  | .rol xs, h => by
    rw [lt]; rw [plain] at h; exact lts_plains n xs h
  | .new _ _, h => by rw [plain] at h; cases h
  | .loc _, h => by rw [plain] at h; cases h
theorem lts_plains (n : Nat) : ∀ xs : List Vl, plains xs = true → lts n xs = true
  | [], _ => rfl
  | x :: r, h => by
    rw [plains, Bool.and_eq_true] at h
    rw [lts, lt_plain n x h.1, lts_plains n r h.2]; rfl
end
theorem box_plain : ∀ (d : Vl) (A : AH), plain d = true → box d A = (d, A)
  | .non, _, _ => rfl
  | .bl _, _, _ => rfl
  | .int _, _, _ => rfl
  | .str _, _, _ => rfl
  | .fn _, _, _ => rfl
  | .tup xs, A, h => by
    rw [plain] at h
    rw [box, if_pos h]
  | .rol _, _, _ => rfl
  | .new _ _, _, h => by rw [plain] at h; cases h
  | .loc _, _, h => by rw [plain] at h; cases h
theorem boxs_plains : ∀ (xs : List Vl) (A : AH), plains xs = true → boxs xs A = (xs, A)
  | [], _, _ => rfl
  | x :: r, A, h => by
    rw [plains, Bool.and_eq_true] at h
    rw [boxs, box_plain x A h.1, boxs_plains r A h.2]
theorem unb_plain {n : Nat} {A : AH} {f : Nat} {d : Vl} {vis : List Nat} (h : plain d = true) : unb n A f d vis = some (d, vis) := by
  cases f <;> simp [unb, h]
theorem mapV_plains {n : Nat} {A : AH} {f : Nat} : ∀ {xs : List Vl} {vis : List Nat}, plains xs = true → mapV (unb n A f) xs vis = some (xs, vis)
  | [], _, _ => rfl
  | x :: r, vis, h => by
    rw [plains, Bool.and_eq_true] at h
    simp [mapV, unb_plain h.1, mapV_plains h.2]
theorem gc_plain {n : Nat} {d : Vl} {A : AH} (h : plain d = true) : gc n d A = .ok d (A.take n) := by
  unfold gc
  split
  · rw [List.take_of_length_le (by assumption)]
  · rw [unb_plain h]

/-! ### the relation -/
def imm : HO → Bool
  | .tup _ => true
  | .frz _ _ => true
  | .ext _ => true
  | _ => false
def isT : HO → Bool
  | .tbl _ => true
  | _ => false
def KOk (T : Tb) : Kd → List V → HO → Prop
  | .lst, vs, o => o = .lst vs
  | .obj c, vs, o => ∃ dx, o = .ins (T.C c) dx ((T.flds c).zip vs) ∧ vs.length ≤ (T.flds c).length
  | .dct kvs, vs, o => vs = [] ∧ o = .dK (kvs.map fun p => (Sum.inl p.1, V.bl p.2))
theorem KOk.mut {T : Tb} {k : Kd} {vs : List V} {o : HO} (h : KOk T k vs o) : imm o = false := by
  cases k with
  | lst => rw [show o = .lst vs from h]; rfl
  | obj c => obtain ⟨dx, rfl, _⟩ := h; rfl
  | dct kvs => obtain ⟨_, rfl⟩ := h; rfl
theorem KOk.nt {T : Tb} {k : Kd} {vs : List V} {o : HO} (h : KOk T k vs o) : isT o = false := by
  cases k with
  | lst => rw [show o = .lst vs from h]; rfl
  | obj c => obtain ⟨dx, rfl, _⟩ := h; rfl
  | dct kvs => obtain ⟨_, rfl⟩ := h; rfl
/-- the closure of lambda n; the cells that it holds are those of T.cl n -/
def LamV (T : Tb) (H : Hp) (n : Nat) (v : V) : Prop := ∃ (f c' : Addr) (q : Str) (ps : Arguments) (body : Expr) (sc : Scope) (pos : Pos) (cells cl : List (Str × Addr)) (pm ct : Value),
  v = .ref f ∧ T.cl n = some cl ∧ T.lam n = .Lambda ps body sc pos ∧ (∀ y ∈ sc.names, y.2 = .free → ∃ c, cells.lookup y.1 = some c ∧ cl.lookup y.1 = some c) ∧
  H f = some (.frz (PySem.W.kla_obj "<lambda>" q ps body sc (cloFrom cells sc.names []) pm c' ct) (.own 0)) ∧ H c' = some (LamX.CodeO c' q)
def FnV (T : Tb) (H : Hp) (n : Nat) (v : V) : Prop := (n < 1000 ∧ v = .ref (T.fa n)) ∨ (1000 ≤ n ∧ LamV T H n v)
def ROk (T : Tb) (H : Hp) (a : Addr) (xs : List V) : Prop :=
  (∃ o, H a = some (.frz o (.lst xs))) ∨
    ∃ (o : Obj) (its : Array Value) (n : Nat), T.K.lookup a = some o ∧ o.cls = .type "list" ∧ o.dict = none ∧ o.data = .seq its n ∧ its.size ≤ sizeLine ∧ Vals xs its.toList
theorem ROk.sq {T : Tb} {H : Hp} {a : Addr} {xs : List V} (h : ROk T H a xs) : SqL T.K H a xs := by
  rcases h with h | h
  · exact .inl (.inr h)
  · exact .inr h
mutual
inductive Rp (T : Tb) (ι : List Addr) (H : Hp) : V → Vl → List Addr → Prop
  | non : Rp T ι H .non .non []
  | bl (b : Bool) : Rp T ι H (.bl b) (.bl b) []
  | int (i : Int) : Rp T ι H (.int i) (.int i) []
  | str (x : Str) : Rp T ι H (.str x) (.str x) []
  | fn {n : Nat} {v : V} : FnV T H n v → Rp T ι H v (.fn n) []
  | loc {n : Nat} {a : Addr} : ι[n]? = some a → Rp T ι H (.ref a) (.loc n) []
  | tup {a : Addr} {vs : List V} {xs : List Vl} {fp : List Addr} : SqT T.K H a vs → Rps T ι H vs xs fp → Rp T ι H (.ref a) (.tup xs) fp
  | rol {a : Addr} {vs : List V} {xs : List Vl} : ROk T H a vs → Rps T ι H vs xs [] → Rp T ι H (.ref a) (.rol xs) []
  | new {a : Addr} {k : Kd} {o : HO} {vs : List V} {xs : List Vl} {fp : List Addr} : H a = some o → KOk T k vs o → Rps T ι H vs xs fp → Rp T ι H (.ref a) (.new k xs) (fp ++ [a])
inductive Rps (T : Tb) (ι : List Addr) (H : Hp) : List V → List Vl → List Addr → Prop
  | nil : Rps T ι H [] [] []
  | cons {v : V} {d : Vl} {fp : List Addr} {vs : List V} {ds : List Vl} {fq : List Addr} : Rp T ι H v d fp → Rps T ι H vs ds fq → Rps T ι H (v :: vs) (d :: ds) (fp ++ fq)
end
structure Ext (ι : List Addr) (H : Hp) (ι' : List Addr) (H' : Hp) : Prop where
  pre : ∃ nw, ι' = ι ++ nw ∧ ∀ a ∈ nw, H a = none
  keep : ∀ a o, H a = some o → isT o = false → (a ∉ ι ∨ imm o = true) → H' a = some o
  dom : ∀ a o, H a = some o → ∃ o', H' a = some o'
structure Wx (T : Tb) (ι : List Addr) (H : Hp) : Prop where
  fix : ∀ p ∈ T.fix, Rp T ι H p.1 p.2 []
  tab : LamX.Tabs T.tabs H
structure Wd (T : Tb) (ι : List Addr) (A : AH) (H : Hp) : Prop where
  len : ι.length = A.length
  nd : ι.Nodup
  cel : ∀ (n : Nat) (k : Kd) (xs : List Vl) (a : Addr), A[n]? = some (k, xs) → ι[n]? = some a → ∃ o vs, H a = some o ∧ KOk T k vs o ∧ Rps T ι H vs xs []
  x : Wx T ι H
def CL (n : Nat) (A : AH) : Prop := ∀ (m : Nat) (k : Kd) (xs : List Vl), m < n → A[m]? = some (k, xs) → lts n xs = true
structure Nx (T : Tb) (b : Nat) (ι : List Addr) (A : AH) (H : Hp) (ι' : List Addr) (A' : AH) (H' : Hp) : Prop where
  wd : Wd T ι' A' H'
  ext : Ext ι H ι' H'
  cl : ∀ n, n ≤ b → CL n A → CL n A'

section
variable {T : Tb} {ι ι' : List Addr} {H H' H0 : Hp} {A A' : AH} {b : Nat}
theorem Ext.refl : Ext ι H ι H := ⟨⟨[], by simp, by simp⟩, fun _ _ h _ _ => h, fun _ o h => ⟨o, h⟩⟩
theorem FnV.ref {n : Nat} {v : V} (h : FnV T H n v) : ∃ a, v = .ref a := by
  rcases h with ⟨_, h⟩ | ⟨_, f, _, _, _, _, _, _, _, _, _, _, h, _⟩
  · exact ⟨_, h⟩
  · exact ⟨f, h⟩
/-- a table stays where tables and code objects stay -/
theorem tab_keeps (k : ∀ a o, H a = some o → (imm o = true ∨ isT o = true) → H' a = some o) {L : List (Addr × Str)} (h : LamX.Tabs L H) : LamX.Tabs L H' := fun p hp => by
  obtain ⟨ps, h1, h2, h3⟩ := h p hp
  refine ⟨ps, k _ _ h1 (.inr rfl), h2, fun pos cv e => ?_⟩
  obtain ⟨c, e1, e2⟩ := h3 pos cv e
  exact ⟨c, e1, k _ _ e2 (.inl rfl)⟩
theorem Ext.back (e : Ext ι H ι' H') {a : Addr} (h : H' a = none) : H a = none := by
  cases q : H a with
  | none => rfl
  | some o =>
    obtain ⟨o', z⟩ := e.dom a o q
    rw [h] at z; cases z
theorem Ext.trans {ι2 : List Addr} {H2 : Hp} (e : Ext ι H ι' H') (f : Ext ι' H' ι2 H2) : Ext ι H ι2 H2 := by
  obtain ⟨nw, rfl, hn⟩ := e.pre
  obtain ⟨nv, rfl, hv⟩ := f.pre
  refine ⟨⟨nw ++ nv, by simp, fun a ha => ?_⟩, fun a o h t k => ?_, fun a o h => ?_⟩
  · rcases List.mem_append.mp ha with q | q
    · exact hn a q
    · exact e.back (hv a q)
  · refine f.keep a o (e.keep a o h t k) t ?_
    rcases k with k | k
    · refine .inl fun z => ?_
      rcases List.mem_append.mp z with z | z
      · exact k z
      · rw [hn a z] at h; cases h
    · exact .inr k
  · obtain ⟨o1, h1⟩ := e.dom a o h
    exact f.dom a o1 h1
theorem Nx.refl (w : Wd T ι A H) : Nx T b ι A H ι A H := ⟨w, .refl, fun _ _ h => h⟩
theorem Nx.trans {ι2 : List Addr} {H2 : Hp} {A2 : AH} (e : Nx T b ι A H ι' A' H') (f : Nx T b ι' A' H' ι2 A2 H2) : Nx T b ι A H ι2 A2 H2 := ⟨f.wd, e.ext.trans f.ext, fun n h z => f.cl n h (e.cl n h z)⟩
theorem Wd.has (w : Wd T ι A H) {a : Addr} (h : a ∈ ι) : ∃ o, H a = some o ∧ imm o = false := by
  obtain ⟨n, hn⟩ := List.mem_iff_getElem?.mp h
  have hl : n < A.length := by
    rw [← w.len]
    exact (List.getElem?_eq_some_iff.mp hn).1
  obtain ⟨o, vs, h1, h2, _⟩ := w.cel n A[n].1 A[n].2 a (by rw [List.getElem?_eq_getElem hl]) hn
  exact ⟨o, h1, h2.mut⟩
theorem Wd.fresh (w : Wd T ι A H) {a : Addr} (h : H a = none) : a ∉ ι := fun z => by
  obtain ⟨o, q, _⟩ := w.has z
  rw [h] at q; cases q
theorem Ext.sqT (e : Ext ι H ι' H') {a : Addr} {vs : List V} (h : SqT T.K H a vs) : SqT T.K H' a vs := by
  rcases h with (h | ⟨o, h⟩) | h
  · exact .inl (.inl (e.keep a _ h rfl (.inr rfl)))
  · exact .inl (.inr ⟨o, e.keep a _ h rfl (.inr rfl)⟩)
  · exact .inr h
theorem Ext.rok (e : Ext ι H ι' H') {a : Addr} {vs : List V} (h : ROk T H a vs) : ROk T H' a vs := by
  rcases h with ⟨o, h⟩ | h
  · exact .inl ⟨o, e.keep a _ h rfl (.inr rfl)⟩
  · exact .inr h
theorem Ext.at (e : Ext ι H ι' H') {n : Nat} {a : Addr} (h : ι[n]? = some a) : ι'[n]? = some a := by
  obtain ⟨nw, rfl, _⟩ := e.pre
  rw [List.getElem?_append_left (List.getElem?_eq_some_iff.mp h).1]
  exact h
theorem FnV.keep {n : Nat} {v : V} (h : FnV T H n v) (k : ∀ a o, H a = some o → imm o = true → isT o = false → H' a = some o) : FnV T H' n v := by
  rcases h with h | ⟨h, f, c', q, ps, body, sc, pos, cells, cl, pm, ct, h1, h2, h3, h4, h5, h6⟩
  · exact .inl h
  · exact .inr ⟨h, f, c', q, ps, body, sc, pos, cells, cl, pm, ct, h1, h2, h3, h4, k _ _ h5 rfl rfl, k _ _ h6 rfl rfl⟩
mutual
theorem Rp.mono (e : Ext ι H ι' H') : ∀ (d : Vl) (v : V) (fp : List Addr), Rp T ι H v d fp → (∀ a ∈ fp, a ∉ ι) → Rp T ι' H' v d fp
  | .non, _, _, h, _ => by cases h; exact .non
  | .bl b, _, _, h, _ => by cases h; exact .bl b
  | .int b, _, _, h, _ => by cases h; exact .int b
  | .str b, _, _, h, _ => by cases h; exact .str b
  | .fn b, _, _, h, _ => by
    cases h with
    | fn h => exact .fn (h.keep fun a o z1 z2 z3 => e.keep a o z1 z3 (.inr z2))
  | .loc n, _, _, h, _ => by
    cases h with
    | loc h => exact .loc (e.at h)
  | .tup xs, _, _, h, hf => by
    cases h with
    | tup h1 h2 => exact .tup (e.sqT h1) (Rps.mono e xs _ _ h2 hf)
  | .rol xs, _, _, h, hf => by
    cases h with
    | rol h1 h2 => exact .rol (e.rok h1) (Rps.mono e xs _ _ h2 hf)
  | .new k xs, _, _, h, hf => by
    cases h with
    | new h1 h2 h3 => exact .new (e.keep _ _ h1 h2.nt (.inl (hf _ (by simp)))) h2 (Rps.mono e xs _ _ h3 fun a ha => hf a (by simp [ha]))
theorem Rps.mono (e : Ext ι H ι' H') : ∀ (ds : List Vl) (vs : List V) (fp : List Addr), Rps T ι H vs ds fp → (∀ a ∈ fp, a ∉ ι) → Rps T ι' H' vs ds fp
  | [], _, _, h, _ => by cases h; exact .nil
  | d :: ds, _, _, h, hf => by
    cases h with
    | cons h1 h2 => exact .cons (Rp.mono e d _ _ h1 fun a ha => hf a (by simp [ha])) (Rps.mono e ds _ _ h2 fun a ha => hf a (by simp [ha]))
end
theorem ext_app (w : Wd T ι A H) {nw : List Addr} (h : ∀ a ∈ nw, a ∉ ι) : ∀ (n : Nat) (a : Addr), ι[n]? = some a → (ι ++ nw)[n]? = some a := fun n a e => by
  rw [List.getElem?_append_left (List.getElem?_eq_some_iff.mp e).1]; exact e
-- more places, the same heap
mutual
theorem Rp.app (nw : List Addr) : ∀ (d : Vl) (v : V) (fp : List Addr), Rp T ι H v d fp → Rp T (ι ++ nw) H v d fp
  | .non, _, _, h => by cases h; exact .non
  | .bl b, _, _, h => by cases h; exact .bl b
  | .int b, _, _, h => by cases h; exact .int b
  | .str b, _, _, h => by cases h; exact .str b
  | .fn b, _, _, h => by
    cases h with
    | fn h => exact .fn h
  | .loc n, _, _, h => by
    cases h with
    | loc h => exact .loc (by rw [List.getElem?_append_left (List.getElem?_eq_some_iff.mp h).1]; exact h)
  | .tup xs, _, _, h => by
    cases h with
    | tup h1 h2 => exact .tup h1 (Rps.app nw xs _ _ h2)
  | .rol xs, _, _, h => by
    cases h with
    | rol h1 h2 => exact .rol h1 (Rps.app nw xs _ _ h2)
  | .new k xs, _, _, h => by
    cases h with
    | new h1 h2 h3 => exact .new h1 h2 (Rps.app nw xs _ _ h3)
theorem Rps.app (nw : List Addr) : ∀ (ds : List Vl) (vs : List V) (fp : List Addr), Rps T ι H vs ds fp → Rps T (ι ++ nw) H vs ds fp
  | [], _, _, h => by cases h; exact .nil
  | d :: ds, _, _, h => by
    cases h with
    | cons h1 h2 => exact .cons (Rp.app nw d _ _ h1) (Rps.app nw ds _ _ h2)
end
mutual
theorem Rp.fp_plain : ∀ (d : Vl) (v : V) (fp : List Addr), Rp T ι H v d fp → plain d = true → fp = []
  | .non, _, _, h, _ => by cases h; rfl
  | .bl b, _, _, h, _ => by cases h; rfl
  | .int b, _, _, h, _ => by cases h; rfl
  | .str b, _, _, h, _ => by cases h; rfl
  | .fn b, _, _, h, _ => by cases h; rfl
  | .loc n, _, _, h, hp => by cases h; rfl
  | .tup xs, _, _, h, hp => by
    cases h with
    | tup h1 h2 => rw [plain] at hp; exact Rps.fp_plain xs _ _ h2 hp
  | .rol xs, _, _, h, _ => by cases h; rfl
  | .new k xs, _, _, h, hp => by rw [plain] at hp; cases hp
theorem Rps.fp_plain : ∀ (ds : List Vl) (vs : List V) (fp : List Addr), Rps T ι H vs ds fp → plains ds = true → fp = []
  | [], _, _, h, _ => by cases h; rfl
  | d :: ds, _, _, h, hp => by
    rw [plains, Bool.and_eq_true] at hp
    cases h with
    | cons h1 h2 => rw [Rp.fp_plain d _ _ h1 hp.1, Rps.fp_plain ds _ _ h2 hp.2]; rfl
end
mutual
/-- places below n alone -/
theorem Rp.take {n : Nat} : ∀ (d : Vl) (v : V) (fp : List Addr), Rp T ι H v d fp → lt n d = true → Rp T (ι.take n) H v d fp
  | .non, _, _, h, _ => by cases h; exact .non
  | .bl b, _, _, h, _ => by cases h; exact .bl b
  | .int b, _, _, h, _ => by cases h; exact .int b
  | .str b, _, _, h, _ => by cases h; exact .str b
  | .fn b, _, _, h, _ => by
    cases h with
    | fn h => exact .fn h
  | .loc m, _, _, h, hl => by
    cases h with
    | loc h =>
      rw [lt] at hl
      exact .loc (by rw [List.getElem?_take_of_lt (of_decide_eq_true hl)]; exact h)
  | .tup xs, _, _, h, hl => by
    rw [lt] at hl
    cases h with
    | tup h1 h2 => exact .tup h1 (Rps.take xs _ _ h2 hl)
  | .rol xs, _, _, h, hl => by
    rw [lt] at hl
    cases h with
    | rol h1 h2 => exact .rol h1 (Rps.take xs _ _ h2 hl)
  | .new k xs, _, _, h, hl => by
    rw [lt] at hl
    cases h with
    | new h1 h2 h3 => exact .new h1 h2 (Rps.take xs _ _ h3 hl)
theorem Rps.take {n : Nat} : ∀ (ds : List Vl) (vs : List V) (fp : List Addr), Rps T ι H vs ds fp → lts n ds = true → Rps T (ι.take n) H vs ds fp
  | [], _, _, h, _ => by cases h; exact .nil
  | d :: ds, _, _, h, hl => by
    rw [lts, Bool.and_eq_true] at hl
    cases h with
    | cons h1 h2 => exact .cons (Rp.take d _ _ h1 hl.1) (Rps.take ds _ _ h2 hl.2)
end
mutual

theorem Rp.lt : ∀ (d : Vl) (v : V) (fp : List Addr), Rp T ι H v d fp → Ab.lt ι.length d = true
  | .non, _, _, _ => rfl
  | .bl b, _, _, _ => rfl
  | .int b, _, _, _ => rfl
  | .str b, _, _, _ => rfl
  | .fn b, _, _, _ => rfl
  | .loc m, _, _, h => by
    cases h with
    | loc h => rw [Ab.lt]; exact decide_eq_true (List.getElem?_eq_some_iff.mp h).1
  | .tup xs, _, _, h => by
    cases h with
    | tup h1 h2 => rw [Ab.lt]; exact Rps.lt xs _ _ h2
  | .rol xs, _, _, h => by
    cases h with
    | rol h1 h2 => rw [Ab.lt]; exact Rps.lt xs _ _ h2
  | .new k xs, _, _, h => by
    cases h with
    | new h1 h2 h3 => rw [Ab.lt]; exact Rps.lt xs _ _ h3
theorem Rps.lt : ∀ (ds : List Vl) (vs : List V) (fp : List Addr), Rps T ι H vs ds fp → lts ι.length ds = true
  | [], _, _, _ => rfl
  | d :: ds, _, _, h => by
    cases h with
    | cons h1 h2 => rw [lts, Rp.lt d _ _ h1, Rps.lt ds _ _ h2]; rfl
end
theorem Wd.cl (w : Wd T ι A H) : CL A.length A := fun m k xs hm h => by
  have hl : m < ι.length := by rw [w.len]; exact hm
  obtain ⟨o, vs, _, _, r⟩ := w.cel m k xs ι[m] h (List.getElem?_eq_getElem hl)
  have := Rps.lt xs vs [] r
  rw [w.len] at this
  exact this
theorem Wx.ext (w : Wx T ι H) (e : Ext ι H ι' H') (t : LamX.Tabs T.tabs H') : Wx T ι' H' := ⟨fun p hp => Rp.mono e _ _ _ (w.fix p hp) (by simp), t⟩
theorem Wx.app (w : Wx T ι H) (nw : List Addr) : Wx T (ι ++ nw) H := ⟨fun p hp => Rp.app nw _ _ _ (w.fix p hp), w.tab⟩
theorem Wd.take (w : Wd T ι A H) {n : Nat} (c : CL n A) (hn : n ≤ A.length) (wx : Wx T (ι.take n) H) : Wd T (ι.take n) (A.take n) H := by
  refine ⟨by rw [List.length_take, List.length_take, w.len], w.nd.sublist (List.take_sublist _ _), fun m k xs a h1 h2 => ?_, wx⟩
  have hm : m < n := by
    have := (List.getElem?_eq_some_iff.mp h1).1
    rw [List.length_take] at this
    omega
  rw [List.getElem?_take_of_lt hm] at h1 h2
  obtain ⟨o, vs, e1, e2, r⟩ := w.cel m k xs a h1 h2
  exact ⟨o, vs, e1, e2, Rps.take xs vs [] r (c m k xs hm h1)⟩
/-- a new object that no place knows -/
theorem Wd.upd (w : Wd T ι A H) {p : Addr} {o : HO} (h : H p = none) : Wd T ι A (L2.upd H p o) := by
  have e : Ext ι H ι (L2.upd H p o) := ⟨⟨[], by simp, by simp⟩, fun a u q _ _ => by rw [upd_ne (ne_of_none q h)]; exact q, fun a u q => ⟨u, by rw [upd_ne (ne_of_none q h)]; exact q⟩⟩
  refine ⟨w.len, w.nd, fun n k xs a h1 h2 => ?_, w.x.ext e (tab_keeps (fun a u q _ => by rw [upd_ne (ne_of_none q h)]; exact q) w.x.tab)⟩
  obtain ⟨u, vs, e1, e2, r⟩ := w.cel n k xs a h1 h2
  exact ⟨u, vs, by rw [upd_ne (ne_of_none e1 h)]; exact e1, e2, Rps.mono e xs vs [] r (by simp)⟩
theorem Ext.upd {p : Addr} {o : HO} (e : Ext ι H ι' H') (h : H' p = none) : Ext ι H ι' (L2.upd H' p o) := ⟨e.pre, fun a u q t k => by
  have := e.keep a u q t k
  rw [upd_ne (ne_of_none this h)]; exact this, fun a u q => by
  obtain ⟨u', z⟩ := e.dom a u q
  exact ⟨u', by rw [upd_ne (ne_of_none z h)]; exact z⟩⟩
theorem Nx.upd {p : Addr} {o : HO} (e : Nx T b ι A H ι' A' H') (h : H' p = none) : Nx T b ι A H ι' A' (L2.upd H' p o) := ⟨e.wd.upd h, e.ext.upd h, e.cl⟩
theorem CL.pre {n : Nat} (h : CL n A) (hp : ∀ m : Nat, m < n → A'[m]? = A[m]?) : CL n A' := fun m k xs hm e => h m k xs hm (by rw [← hp m hm]; exact e)
end
end Ab

set_option Elab.async false
set_option linter.all false
set_option maxRecDepth 100000
set_option maxHeartbeats 1000000
set_option autoImplicit false
/-! Ab2: boxing, cutting back, the readings of code. -/
namespace Ab
open PySem L2
section
variable {T : Tb} {ι ι' ι0 : List Addr} {H H' H0 : Hp} {A A' A0 : AH} {b : Nat}
theorem Wd.push (w : Wd T ι A H) {a : Addr} {o : HO} {k : Kd} {vs : List V} {xs : List Vl} (ha : a ∉ ι) (h1 : H a = some o) (h2 : KOk T k vs o) (h3 : Rps T ι H vs xs []) : Wd T (ι ++ [a]) (A ++ [(k, xs)]) H := by
  refine ⟨by simp [w.len], ?_, fun n k' ys c e1 e2 => ?_, w.x.app _⟩
  · rw [List.nodup_append]
    refine ⟨w.nd, by simp, fun x hx y hy => ?_⟩
    rw [List.mem_singleton] at hy
    subst hy
    exact fun z => ha (z ▸ hx)
  · by_cases hn : n < A.length
    · rw [List.getElem?_append_left hn] at e1
      rw [List.getElem?_append_left (by rw [w.len]; exact hn)] at e2
      obtain ⟨u, us, q1, q2, q3⟩ := w.cel n k' ys c e1 e2
      exact ⟨u, us, q1, q2, Rps.app [a] ys us [] q3⟩
    · have hl := (List.getElem?_eq_some_iff.mp e1).1
      have hn2 : n = A.length := by simp at hl; omega
      subst hn2
      rw [List.getElem?_append_right (Nat.le_refl _), Nat.sub_self] at e1
      rw [List.getElem?_append_right (by rw [w.len]; exact Nat.le_refl _), w.len, Nat.sub_self] at e2
      cases e1; cases e2
      exact ⟨o, vs, h1, h2, Rps.app [a] xs vs [] h3⟩
mutual
theorem box_ok : ∀ (d : Vl) (v : V) (fp : List Addr) (ι : List Addr) (A : AH), Wd T ι A H → Rp T ι H v d fp → fp.Nodup → (∀ a ∈ fp, a ∉ ι) →
    Wd T (ι ++ fp) (box d A).2 H ∧ Rp T (ι ++ fp) H v (box d A).1 [] ∧ ∃ ex, (box d A).2 = A ++ ex
  | .non, _, _, ι, A, w, h, _, _ => by cases h; exact ⟨by simpa [box] using w, .non, [], by simp [box]⟩
  | .bl b, _, _, ι, A, w, h, _, _ => by cases h; exact ⟨by simpa [box] using w, .bl b, [], by simp [box]⟩
  | .int b, _, _, ι, A, w, h, _, _ => by cases h; exact ⟨by simpa [box] using w, .int b, [], by simp [box]⟩
  | .str b, _, _, ι, A, w, h, _, _ => by cases h; exact ⟨by simpa [box] using w, .str b, [], by simp [box]⟩
  | .fn b, _, _, ι, A, w, h, _, _ => by
    cases h with
    | fn h => exact ⟨by simpa [box] using w, .fn h, [], by simp [box]⟩
  | .loc n, _, _, ι, A, w, h, _, _ => by
    cases h with
    | loc h => exact ⟨by simpa [box] using w, by rw [List.append_nil]; exact .loc h, [], by simp [box]⟩
  | .rol xs, _, _, ι, A, w, h, _, _ => by
    cases h with
    | rol h1 h2 => exact ⟨by simpa [box] using w, by rw [List.append_nil]; exact .rol h1 h2, [], by simp [box]⟩
  | .tup xs, _, fp, ι, A, w, h, nd, hf => by
    cases h with
    | tup h1 h2 =>
      rw [box]
      split
      · rename_i hp
        have e := Rps.fp_plain xs _ _ h2 hp
        subst e
        exact ⟨by simpa using w, by rw [List.append_nil]; exact .tup h1 h2, [], by simp⟩
      · obtain ⟨q1, q2, ex, q3⟩ := boxs_ok xs _ fp ι A w h2 nd hf
        exact ⟨q1, .tup h1 q2, ex, q3⟩
  | .new k xs, _, _, ι, A, w, h, nd, hf => by
    cases h with
    | @new a _ o vs _ fp h1 h2 h3 =>
      rw [List.nodup_append] at nd
      obtain ⟨n1, n2, n3⟩ := nd
      obtain ⟨q1, q2, ex, q3⟩ := boxs_ok xs vs fp ι A w h3 n1 fun x hx => hf x (by simp [hx])
      have ha : a ∉ ι ++ fp := fun z => by
        rcases List.mem_append.mp z with z | z
        · exact hf a (by simp) z
        · exact n3 a z a (by simp) rfl
      have q4 := q1.push ha h1 h2 q2
      rw [List.append_assoc] at q4
      refine ⟨by rw [box]; exact q4, ?_, ex ++ [(k, (boxs xs A).1)], by rw [box, q3]; simp⟩
      rw [box]
      refine .loc ?_
      rw [← q1.len, ← List.append_assoc, List.getElem?_append_right (Nat.le_refl _), Nat.sub_self]
      rfl
theorem boxs_ok : ∀ (ds : List Vl) (vs : List V) (fp : List Addr) (ι : List Addr) (A : AH), Wd T ι A H → Rps T ι H vs ds fp → fp.Nodup → (∀ a ∈ fp, a ∉ ι) →
    Wd T (ι ++ fp) (boxs ds A).2 H ∧ Rps T (ι ++ fp) H vs (boxs ds A).1 [] ∧ ∃ ex, (boxs ds A).2 = A ++ ex
  | [], _, _, ι, A, w, h, _, _ => by cases h; exact ⟨by simpa [boxs] using w, .nil, [], by simp [boxs]⟩
  | d :: ds, _, _, ι, A, w, h, nd, hf => by
    cases h with
    | @cons v _ fp vs _ fq h1 h2 =>
      rw [List.nodup_append] at nd
      obtain ⟨n1, n2, n3⟩ := nd
      obtain ⟨q1, q2, ex, q3⟩ := box_ok d v fp ι A w h1 n1 fun x hx => hf x (by simp [hx])
      obtain ⟨p1, p2, ey, p3⟩ := boxs_ok ds vs fq (ι ++ fp) _ q1 (Rps.app fp ds vs fq h2) n2 fun x hx z => by
        rcases List.mem_append.mp z with z | z
        · exact hf x (by simp [hx]) z
        · exact n3 x z x hx rfl
      rw [List.append_assoc] at p1 p2
      refine ⟨by rw [boxs]; exact p1, ?_, ex ++ ey, by rw [boxs, p3, q3]; simp⟩
      rw [boxs]
      have q5 := Rp.app fq _ _ _ q2
      rw [List.append_assoc] at q5
      exact .cons (fp := []) (fq := []) q5 p2
end
theorem mapV_ok {n f : Nat} (w : Wd T ι A H)
    (ih : ∀ (d : Vl) (v : V) (fp : List Addr) (vis : List Nat) (d' : Vl) (vis' : List Nat), Rp T ι H v d fp → fp.Nodup → (∀ a ∈ fp, a ∉ ι) → unb n A f d vis = some (d', vis') →
      ∃ fq, Rp T (ι.take n) H v d' fq ∧ fq.Nodup ∧ (∀ m ∈ vis, m ∈ vis') ∧ ∀ a ∈ fq, a ∈ fp ∨ ∃ m, n ≤ m ∧ m ∉ vis ∧ m ∈ vis' ∧ ι[m]? = some a) :
    ∀ (ds : List Vl) (vs : List V) (fp : List Addr) (vis : List Nat) (ds' : List Vl) (vis' : List Nat), Rps T ι H vs ds fp → fp.Nodup → (∀ a ∈ fp, a ∉ ι) → mapV (unb n A f) ds vis = some (ds', vis') →
      ∃ fq, Rps T (ι.take n) H vs ds' fq ∧ fq.Nodup ∧ (∀ m ∈ vis, m ∈ vis') ∧ ∀ a ∈ fq, a ∈ fp ∨ ∃ m, n ≤ m ∧ m ∉ vis ∧ m ∈ vis' ∧ ι[m]? = some a
  | [], _, _, vis, _, _, h, _, _, e => by
    cases h
    cases e
    exact ⟨[], .nil, by simp, fun _ h => h, by simp⟩
  | d :: ds, _, _, vis, _, _, h, nd, hf, e => by
    cases h with
    | @cons v _ fp vs _ fq h1 h2 =>
      rw [List.nodup_append] at nd
      obtain ⟨n1, n2, n3⟩ := nd
      rw [mapV] at e
      split at e
      · cases e
      · rename_i y v1 e1
        split at e
        · cases e
        · rename_i ys v2 e2
          cases e
          obtain ⟨g1, r1, k1, s1, t1⟩ := ih d v fp vis y v1 h1 n1 (fun x hx => hf x (by simp [hx])) e1
          obtain ⟨g2, r2, k2, s2, t2⟩ := mapV_ok w ih ds vs fq v1 ys _ h2 n2 (fun x hx => hf x (by simp [hx])) e2
          refine ⟨g1 ++ g2, .cons r1 r2, ?_, fun m hm => s2 m (s1 m hm), fun a ha => ?_⟩
          · rw [List.nodup_append]
            refine ⟨k1, k2, fun x hx y hy z => ?_⟩
            subst z
            rcases t1 x hx with z1 | ⟨m1, c1, c2, c3, c4⟩
            · rcases t2 x hy with z2 | ⟨m2, d1, d2, d3, d4⟩
              · exact n3 x z1 x z2 rfl
              · exact hf x (by simp [z1]) (List.mem_of_getElem? d4)
            · rcases t2 x hy with z2 | ⟨m2, d1, d2, d3, d4⟩
              · exact hf x (by simp [z2]) (List.mem_of_getElem? c4)
              · have : m1 = m2 := by
                  obtain ⟨l1, _⟩ := List.getElem?_eq_some_iff.mp c4
                  exact (List.getElem?_inj l1 w.nd).mp (c4.trans d4.symm)
                subst this
                exact d2 c3
          · rcases List.mem_append.mp ha with q | q
            · rcases t1 a q with z1 | ⟨m1, c1, c2, c3, c4⟩
              · exact .inl (by simp [z1])
              · exact .inr ⟨m1, c1, c2, s2 m1 c3, c4⟩
            · rcases t2 a q with z1 | ⟨m1, c1, c2, c3, c4⟩
              · exact .inl (by simp [z1])
              · exact .inr ⟨m1, c1, fun z => c2 (s1 m1 z), c3, c4⟩
theorem unb_ok {n : Nat} (w : Wd T ι A H) : ∀ (f : Nat) (d : Vl) (v : V) (fp : List Addr) (vis : List Nat) (d' : Vl) (vis' : List Nat), Rp T ι H v d fp → fp.Nodup → (∀ a ∈ fp, a ∉ ι) → unb n A f d vis = some (d', vis') →
      ∃ fq, Rp T (ι.take n) H v d' fq ∧ fq.Nodup ∧ (∀ m ∈ vis, m ∈ vis') ∧ ∀ a ∈ fq, a ∈ fp ∨ ∃ m, n ≤ m ∧ m ∉ vis ∧ m ∈ vis' ∧ ι[m]? = some a
  | 0, d, v, fp, vis, d', vis', h, nd, hf, e => by
    rw [unb] at e
    split at e
    · rename_i hp
      cases e
      have e := Rp.fp_plain d v fp h hp
      subst e
      exact ⟨[], Rp.take d v [] h (lt_plain n d hp), by simp, fun _ h => h, by simp⟩
    · cases e
  | f + 1, d, v, fp, vis, d', vis', h, nd, hf, e => by
    rw [unb.eq_def] at e
    dsimp only at e
    split at e
    · rename_i hp
      cases e
      have e := Rp.fp_plain d v fp h hp
      subst e
      exact ⟨[], Rp.take d v [] h (lt_plain n d hp), by simp, fun _ h => h, by simp⟩
    · cases h with
      | @loc m a hl =>
        dsimp only at e
        split at e
        · rename_i hm
          cases e
          exact ⟨[], .loc (by rw [List.getElem?_take_of_lt hm]; exact hl), by simp, fun _ h => h, by simp⟩
        · rename_i hm
          split at e
          · cases e
          · rename_i hc
            split at e
            · cases e
            · rename_i k xs ec
              split at e
              · cases e
              · rename_i ys v2 em
                cases e
                obtain ⟨o, vs, q1, q2, q3⟩ := w.cel m k xs a ec hl
                obtain ⟨g, r, kd, s, t⟩ := mapV_ok w (unb_ok w f) xs vs [] (m :: vis) ys _ q3 (by simp) (by simp) em
                refine ⟨g ++ [a], .new q1 q2 r, ?_, fun x hx => s x (by simp [hx]), fun x hx => ?_⟩
                · rw [List.nodup_append]
                  refine ⟨kd, by simp, fun x hx y hy z => ?_⟩
                  rw [List.mem_singleton] at hy
                  subst hy
                  subst z
                  rcases t x hx with z1 | ⟨m1, c1, c2, c3, c4⟩
                  · cases z1
                  · obtain ⟨l1, _⟩ := List.getElem?_eq_some_iff.mp c4
                    have : m1 = m := (List.getElem?_inj l1 w.nd).mp (c4.trans hl.symm)
                    exact c2 (by simp [this])
                · rcases List.mem_append.mp hx with z | z
                  · rcases t x z with z1 | ⟨m1, c1, c2, c3, c4⟩
                    · cases z1
                    · exact .inr ⟨m1, c1, fun q => c2 (by simp [q]), c3, c4⟩
                  · rw [List.mem_singleton] at z
                    subst z
                    exact .inr ⟨m, Nat.le_of_not_lt hm, fun q => hc (by simpa using q), s m (by simp), hl⟩
      | tup h1 h2 =>
        dsimp only at e
        split at e
        · cases e
        · rename_i ys v2 em
          cases e
          obtain ⟨g, r, kd, s, t⟩ := mapV_ok w (unb_ok w f) _ _ _ vis ys _ h2 nd hf em
          exact ⟨g, .tup h1 r, kd, s, t⟩
      | @new a k o vs xs fc h1 h2 h3 =>
        dsimp only at e
        rw [List.nodup_append] at nd
        obtain ⟨n1, n2, n3⟩ := nd
        split at e
        · cases e
        · rename_i ys v2 em
          cases e
          obtain ⟨g, r, kd, s, t⟩ := mapV_ok w (unb_ok w f) _ _ _ vis ys _ h3 n1 (fun x hx => hf x (by simp [hx])) em
          refine ⟨g ++ [a], .new h1 h2 r, ?_, s, fun x hx => ?_⟩
          · rw [List.nodup_append]
            refine ⟨kd, by simp, fun x hx y hy z => ?_⟩
            rw [List.mem_singleton] at hy
            subst hy
            subst z
            rcases t x hx with z1 | ⟨m1, c1, c2, c3, c4⟩
            · exact n3 x z1 x (by simp) rfl
            · exact hf x (by simp) (List.mem_of_getElem? c4)
          · rcases List.mem_append.mp hx with z | z
            · rcases t x z with z1 | q
              · exact .inl (by simp [z1])
              · exact .inr q
            · exact .inl (by simp at z; simp [z])
      | non => cases e
      | bl _ => cases e
      | int _ => cases e
      | str _ => cases e
      | fn _ => cases e
      | rol _ _ => cases e

/-- addresses of a new thing -/
def Fr (H0 : Hp) (ι : List Addr) (fp : List Addr) : Prop := fp.Nodup ∧ ∀ a ∈ fp, H0 a = none ∧ a ∉ ι
theorem Fr.nil : Fr H0 ι [] := ⟨by simp, by simp⟩
theorem Fr.off {fp : List Addr} (h : Fr H0 ι fp) : ∀ a ∈ fp, a ∉ ι := fun a ha => (h.2 a ha).2
theorem Fr.back {fp : List Addr} (e : Ext ι0 H0 ι H) (h : Fr H ι' fp) : Fr H0 ι' fp := ⟨h.1, fun a ha => ⟨e.back (h.2 a ha).1, (h.2 a ha).2⟩⟩

theorem gc_ok {ι3 : List Addr} {A3 : AH} {H3 : Hp} {n : Nat} {d : Vl} {v : V} {fp : List Addr} (w0 : Wd T ι0 A0 H0) (x : Nx T b ι0 A0 H0 ι3 A3 H3) (hb : b ≤ n) (h0 : A0.length ≤ n) (c : CL n A3) (r : Rp T ι3 H3 v d fp) (f : Fr H0 ι3 fp) :
    ∃ d2 A2 ι2 fq, gc n d A3 = .ok d2 A2 ∧ Nx T b ι0 A0 H0 ι2 A2 H3 ∧ Rp T ι2 H3 v d2 fq ∧ Fr H0 ι2 fq := by
  unfold gc
  split
  · exact ⟨d, A3, ι3, fp, rfl, x, r, f⟩
  · rename_i hn
    split
    · rename_i d2 vis e
      obtain ⟨fq, q1, q2, q3, q4⟩ := unb_ok x.wd 5 d v fp [] d2 vis r f.1 f.off e
      obtain ⟨nw, en, fn⟩ := x.ext.pre
      have hl : ι0.length ≤ n := by rw [w0.len]; exact h0
      have et : ι3.take n = ι0 ++ nw.take (n - ι0.length) := by rw [en, List.take_append, List.take_of_length_le hl]
      have ee : Ext ι0 H0 (ι3.take n) H3 := ⟨⟨_, et, fun a ha => fn a (List.mem_of_mem_take ha)⟩, x.ext.keep, x.ext.dom⟩
      refine ⟨d2, A3.take n, ι3.take n, fq, rfl, ⟨x.wd.take c (by omega) (w0.x.ext ee x.wd.x.tab), ee, fun m hm z => (x.cl m hm z).pre fun j hj => ?_⟩, q1, q2, fun a ha => ?_⟩
      · rw [List.getElem?_take_of_lt (by omega)]
      · rcases q4 a ha with z | ⟨m, c1, c2, c3, c4⟩
        · exact ⟨(f.2 a z).1, fun q => (f.2 a z).2 (List.mem_of_mem_take q)⟩
        · have hm : ι0.length ≤ m := Nat.le_trans hl c1
          have c5 := c4
          rw [en, List.getElem?_append_right hm] at c5
          refine ⟨fn a (List.mem_of_getElem? c5), fun q => ?_⟩
          obtain ⟨j, hj⟩ := List.mem_iff_getElem?.mp q
          have jl : j < n := by
            have := (List.getElem?_eq_some_iff.mp hj).1
            rw [List.length_take] at this
            omega
          rw [List.getElem?_take_of_lt jl] at hj
          obtain ⟨l1, _⟩ := List.getElem?_eq_some_iff.mp c4
          have : m = j := (List.getElem?_inj l1 x.wd.nd).mp (c4.trans hj.symm)
          omega
    · exact ⟨d, A3, ι3, fp, rfl, x, r, f⟩
end

/-! ### the readings -/
def Res.bind {α β : Type} (r : Res α) (k : α → AH → Res β) : Res β := match r with
  | .ok a A => k a A
  | .exc c A => .exc c A
  | .bad => .bad
inductive SR where
  | nx (s : List (Option Vl)) (A : AH) | rt (d : Vl) (A : AH) | exc (c : Nat) (A : AH) | bad
abbrev CE := Ev → AH → Res Vl
abbrev CT := Ev → AH → Res Bool
abbrev CA := Ev → AH → Res (List Vl)
abbrev CS := Ev → AH → SR
abbrev XE := Nat → Hp → Prop
def Po (T : Tb) (b : Nat) (ι : List Addr) (A : AH) (H : Hp) (r : Res Vl) (Q : VK) (E : XE) : Prop := match r with
  | .ok d A' => ∀ ι' H' v fp, Nx T b ι A H ι' A' H' → Rp T ι' H' v d fp → Fr H ι' fp → Q v H'
  | .exc c A' => ∀ ι' H', Nx T b ι A H ι' A' H' → E c H'
  | .bad => False
def PoA (T : Tb) (b : Nat) (ι : List Addr) (A : AH) (H : Hp) (r : Res (List Vl)) (Q : List V → Hp → Prop) (E : XE) : Prop := match r with
  | .ok ds A' => ∀ ι' H' vs fp, Nx T b ι A H ι' A' H' → Rps T ι' H' vs ds fp → Fr H ι' fp → Q vs H'
  | .exc c A' => ∀ ι' H', Nx T b ι A H ι' A' H' → E c H'
  | .bad => False
def PoT (T : Tb) (b : Nat) (ι : List Addr) (A : AH) (H : Hp) (r : Res Bool) (Q : Bool → Hp → Prop) (E : XE) : Prop := match r with
  | .ok k A' => ∀ ι' H', Nx T b ι A H ι' A' H' → Q k H'
  | .exc c A' => ∀ ι' H', Nx T b ι A H ι' A' H' → E c H'
  | .bad => False
def Er (T : Tb) (ι : List Addr) (H : Hp) (σ : L2.St) (s : List (Option Vl)) : Prop := σ.length = s.length ∧ ∀ (i : Nat) (d : Vl), s[i]? = some (some d) → ∃ v, σ[i]? = some (some v) ∧ Rp T ι H v d []
def PoS (T : Tb) (b : Nat) (ι : List Addr) (A : AH) (H : Hp) (r : SR) (D : Ends) (E : XE) : Prop := match r with
  | .nx s A' => ∀ ι' H' σ', Nx T b ι A H ι' A' H' → Er T ι' H' σ' s → D.nx σ' H'
  | .rt d A' => ∀ ι' H' v fp, Nx T b ι A H ι' A' H' → Rp T ι' H' v d fp → Fr H ι' fp → D.rt v H'
  | .exc c A' => ∀ ι' H', Nx T b ι A H ι' A' H' → E c H'
  | .bad => False
structure At (T : Tb) (σ : L2.St) (H : Hp) (ι : List Addr) (A : AH) (ρ : Ev) : Prop where
  wd : Wd T ι A H
  er : Er T ι H σ ρ.s
  bl : ρ.b ≤ A.length
def tE (T : Tb) (E : XE) (c : CE) : TE := fun σ H Q => ∃ ι A ρ, At T σ H ι A ρ ∧ Po T ρ.b ι A H (c ρ A) Q E
def tT (T : Tb) (E : XE) (c : CT) : TT := fun σ H Q => ∃ ι A ρ, At T σ H ι A ρ ∧ PoT T ρ.b ι A H (c ρ A) Q E
def tA (T : Tb) (E : XE) (c : CA) : TA := fun σ H Q => ∃ ι A ρ, At T σ H ι A ρ ∧ PoA T ρ.b ι A H (c ρ A) Q E
def tS (T : Tb) (E : XE) (c : CS) : TS := fun D σ H => ∃ ι A ρ, At T σ H ι A ρ ∧ PoS T ρ.b ι A H (c ρ A) D E

section
variable {T : Tb} {ι ι' ι1 : List Addr} {H H' H1 : Hp} {A A' A1 : AH} {b : Nat} {σ : L2.St} {ρ : Ev} {E : XE}
theorem Er.mono {s : List (Option Vl)} (e : Ext ι H ι' H') (h : Er T ι H σ s) : Er T ι' H' σ s := ⟨h.1, fun i d hd => by
  obtain ⟨v, h1, h2⟩ := h.2 i d hd
  exact ⟨v, h1, Rp.mono e d v [] h2 (by simp)⟩⟩
theorem Nx.le (w : Wd T ι A H) (x : Nx T b ι A H ι' A' H') : A.length ≤ A'.length := by
  obtain ⟨nw, e, _⟩ := x.ext.pre
  rw [← w.len, ← x.wd.len, e, List.length_append]
  omega
theorem At.next (a : At T σ H ι A ρ) (x : Nx T ρ.b ι A H ι' A' H') : At T σ H' ι' A' ρ := ⟨x.wd, a.er.mono x.ext, Nat.le_trans a.bl (x.le a.wd)⟩
theorem Po.re {r : Res Vl} {Q : VK} (x : Nx T b ι A H ι1 A1 H1) (h : Po T b ι A H r Q E) : Po T b ι1 A1 H1 r Q E := by
  cases r with
  | ok d A' => exact fun ι' H' v fp n r f => h ι' H' v fp (x.trans n) r (f.back x.ext)
  | exc c A' => exact fun ι' H' n => h ι' H' (x.trans n)
  | bad => exact h
theorem PoA.re {r : Res (List Vl)} {Q : List V → Hp → Prop} (x : Nx T b ι A H ι1 A1 H1) (h : PoA T b ι A H r Q E) : PoA T b ι1 A1 H1 r Q E := by
  cases r with
  | ok d A' => exact fun ι' H' v fp n r f => h ι' H' v fp (x.trans n) r (f.back x.ext)
  | exc c A' => exact fun ι' H' n => h ι' H' (x.trans n)
  | bad => exact h
theorem PoT.re {r : Res Bool} {Q : Bool → Hp → Prop} (x : Nx T b ι A H ι1 A1 H1) (h : PoT T b ι A H r Q E) : PoT T b ι1 A1 H1 r Q E := by
  cases r with
  | ok d A' => exact fun ι' H' n => h ι' H' (x.trans n)
  | exc c A' => exact fun ι' H' n => h ι' H' (x.trans n)
  | bad => exact h
theorem PoS.re {r : SR} {D : Ends} (x : Nx T b ι A H ι1 A1 H1) (h : PoS T b ι A H r D E) : PoS T b ι1 A1 H1 r D E := by
  cases r with
  | nx s A' => exact fun ι' H' σ' n => h ι' H' σ' (x.trans n)
  | rt d A' => exact fun ι' H' v fp n r f => h ι' H' v fp (x.trans n) r (f.back x.ext)
  | exc c A' => exact fun ι' H' n => h ι' H' (x.trans n)
  | bad => exact h
end
end Ab

set_option Elab.async false
set_option linter.all false
set_option maxRecDepth 100000
set_option maxHeartbeats 1000000
set_option autoImplicit false
/-! Ab3: code and its rules: names, constants, operators, arguments, tests. -/
namespace Ab
open PySem L2

/-! ### weaker readings -/
theorem PE.imp {X : Cx} {e : Expr} {t t' : TE} (h : PE X e t) (k : ∀ σ H Q, t' σ H Q → t σ H Q) : PE X e t' := ⟨fun pins s σ H Q I q => h.run pins s σ H Q I (k σ H Q q)⟩
theorem PT.imp {X : Cx} {e : Expr} {t t' : TT} (h : PT X e t) (k : ∀ σ H Q, t' σ H Q → t σ H Q) : PT X e t' := ⟨fun pins s σ H Q I q => h.run pins s σ H Q I (k σ H Q q)⟩
theorem PW.imp {X : Cx} {e : Expr} {t t' : TT} (h : PW X e t) (k : ∀ σ H Q, t' σ H Q → t σ H Q) : PW X e t' := ⟨fun wh pins s σ H Q I q => h.run wh pins s σ H Q I (k σ H Q q)⟩
theorem PA.imp {X : Cx} {e : List Expr} {t t' : TA} (h : PA X e t) (k : ∀ σ H Q, t' σ H Q → t σ H Q) : PA X e t' := ⟨fun pos pins s σ H Q I q => h.run pos pins s σ H Q I (k σ H Q q)⟩
theorem PS.imp {X : Cx} {e : Stmt} {t t' : TS} (h : PS X e t) (k : ∀ D σ H, t' D σ H → t D σ H) : PS X e t' := ⟨fun pins s σ H D I q => h.run pins s σ H D I (k D σ H q)⟩
theorem PSs.imp {X : Cx} {e : List Stmt} {t t' : TS} (h : PSs X e t) (k : ∀ D σ H, t' D σ H → t D σ H) : PSs X e t' := ⟨fun pins s σ H D I q => h.run pins s σ H D I (k D σ H q)⟩

/-! ### code -/
def cVar (i : Nat) : CE := fun ρ A => match ρ.s[i]? with
  | some (some d) => .ok d A
  | _ => .bad
def cC (d : Vl) : CE := fun _ A => .ok d A
def cNil : CA := fun _ A => .ok [] A
def cCons (c : CE) (cs : CA) : CA := fun ρ A => (c ρ A).bind fun d A1 => (cs ρ A1).bind fun ds A2 => .ok (d :: ds) A2
abbrev FB := Nat → List Vl → AH → Res Vl
def cF (F : FB) (cs : CA) : CE := fun ρ A => (cs ρ A).bind fun ds A1 => F ρ.b ds A1
def cF1 (F : FB) (c : CE) : CE := fun ρ A => (c ρ A).bind fun d A1 => F ρ.b [d] A1
def cF2 (F : FB) (ca cb : CE) : CE := fun ρ A => (ca ρ A).bind fun x A1 => (cb ρ A1).bind fun y A2 => F ρ.b [x, y] A2
def cTup (cs : CA) : CE := fun ρ A => (cs ρ A).bind fun ds A1 => if ds.length ≤ 100000 then .ok (.tup ds) A1 else .bad
def cLst (cs : CA) : CE := fun ρ A => (cs ρ A).bind fun ds A1 => if ds.length ≤ 100000 then .ok (.new .lst ds) A1 else .bad
def asB (d : Vl) (A : AH) : Res Bool := match d with
  | .bl k => .ok k A
  | _ => .bad
def cTst (c : CE) : CT := fun ρ A => (c ρ A).bind asB
def cAnd (a c : CT) : CT := fun ρ A => (a ρ A).bind fun k A1 => if k = true then c ρ A1 else .ok false A1
def cOr (a c : CT) : CT := fun ρ A => (a ρ A).bind fun k A1 => if k = true then .ok true A1 else c ρ A1
def cNot (a : CT) : CT := fun ρ A => (a ρ A).bind fun k A1 => .ok (!k) A1
def cAndV (a c : CE) : CE := fun ρ A => ((a ρ A).bind asB).bind fun k A1 => if k = true then c ρ A1 else .ok (.bl false) A1
def cOrV (a c : CE) : CE := fun ρ A => ((a ρ A).bind asB).bind fun k A1 => if k = true then .ok (.bl true) A1 else c ρ A1
def cNotV (a : CE) : CE := fun ρ A => ((a ρ A).bind asB).bind fun k A1 => .ok (.bl (!k)) A1
def cIfE (t : CT) (a c : CE) : CE := fun ρ A => (t ρ A).bind fun k A1 => if k = true then a ρ A1 else c ρ A1

/-- what a built-in does to values and heap, by its rule r -/
def SF (T : Tb) (r : List V → Hp → VK → Prop) (F : FB) : Prop := ∀ (b : Nat) (ι : List Addr) (A : AH) (H : Hp) (ι1 : List Addr) (A1 : AH) (H1 : Hp) (vs : List V) (ds : List Vl) (fp : List Addr) (Q : VK) (E : XE),
  Wd T ι A H → b ≤ A.length → Nx T b ι A H ι1 A1 H1 → Rps T ι1 H1 vs ds fp → Fr H ι1 fp → Po T b ι A H (F b ds A1) Q E → r vs H1 Q
def r1 (r : V → Hp → VK → Prop) : List V → Hp → VK → Prop := fun vs H Q => ∃ v, vs = [v] ∧ r v H Q
def r2 (r : R2) : List V → Hp → VK → Prop := fun vs H Q => ∃ v w, vs = [v, w] ∧ r v w H Q

theorem r2_iff {r : R2} {v w : V} {H : Hp} {Q : VK} : r2 r [v, w] H Q ↔ r v w H Q := ⟨fun ⟨_, _, e, h⟩ => by cases e; exact h, fun h => ⟨v, w, rfl, h⟩⟩
theorem r1_iff {r : V → Hp → VK → Prop} {v : V} {H : Hp} {Q : VK} : r1 r [v] H Q ↔ r v H Q := ⟨fun ⟨_, e, h⟩ => by cases e; exact h, fun h => ⟨v, rfl, h⟩⟩
section
variable {T : Tb} {E : XE} {ι ι1 ι2 : List Addr} {H H1 H2 : Hp} {A A1 A2 : AH} {b : Nat} {σ : L2.St} {ρ : Ev}
/-- what is known of new things later -/
theorem Rps.next {vs : List V} {ds : List Vl} {fp : List Addr} (w : Wd T ι1 A1 H1) (x : Nx T b ι1 A1 H1 ι2 A2 H2) (r : Rps T ι1 H1 vs ds fp) (f : Fr H ι1 fp) (hd : ∀ a ∈ fp, ∃ o, H1 a = some o) : Rps T ι2 H2 vs ds fp ∧ Fr H ι2 fp := by
  refine ⟨Rps.mono x.ext ds vs fp r f.off, f.1, fun a ha => ⟨(f.2 a ha).1, fun z => ?_⟩⟩
  obtain ⟨nw, e, hn⟩ := x.ext.pre
  rw [e] at z
  rcases List.mem_append.mp z with z | z
  · exact (f.2 a ha).2 z
  · obtain ⟨o, ho⟩ := hd a ha
    rw [hn a z] at ho; cases ho
mutual
theorem Rp.dom : ∀ (d : Vl) (v : V) (fp : List Addr), Rp T ι H v d fp → ∀ a ∈ fp, ∃ o, H a = some o
  | .non, _, _, h => by cases h; simp
  | .bl b, _, _, h => by cases h; simp
  | .int b, _, _, h => by cases h; simp
  | .str b, _, _, h => by cases h; simp
  | .fn b, _, _, h => by cases h; simp
  | .loc n, _, _, h => by cases h; simp
  | .tup xs, _, _, h => by
    cases h with
    | tup h1 h2 => exact Rps.dom xs _ _ h2
  | .rol xs, _, _, h => by cases h; simp
  | .new k xs, _, _, h => by
    cases h with
    | new h1 h2 h3 =>
      intro a ha
      rcases List.mem_append.mp ha with z | z
      · exact Rps.dom xs _ _ h3 a z
      · rw [List.mem_singleton] at z
        subst z
        exact ⟨_, h1⟩
theorem Rps.dom : ∀ (ds : List Vl) (vs : List V) (fp : List Addr), Rps T ι H vs ds fp → ∀ a ∈ fp, ∃ o, H a = some o
  | [], _, _, h => by cases h; simp
  | d :: ds, _, _, h => by
    cases h with
    | cons h1 h2 =>
      intro a ha
      rcases List.mem_append.mp ha with z | z
      · exact Rp.dom d _ _ h1 a z
      · exact Rps.dom ds _ _ h2 a z
end
theorem Rps.one {v : V} {d : Vl} {fp : List Addr} (h : Rp T ι H v d fp) : Rps T ι H [v] [d] fp := by
  have := Rps.cons h (Rps.nil (T := T) (ι := ι) (H := H))
  rwa [List.append_nil] at this
/-- two stages of new things -/
theorem Fr.app {fp fq : List Addr} (f : Fr H ι2 fp) (g : Fr H1 ι2 fq) (e : Ext ι H ι1 H1) (hd : ∀ a ∈ fp, ∃ o, H1 a = some o) : Fr H ι2 (fp ++ fq) := by
  refine ⟨?_, fun a ha => ?_⟩
  · rw [List.nodup_append]
    refine ⟨f.1, g.1, fun x hx y hy z => ?_⟩
    subst z
    obtain ⟨o, ho⟩ := hd x hx
    rw [(g.2 x hy).1] at ho; cases ho
  · rcases List.mem_append.mp ha with z | z
    · exact f.2 a z
    · exact ⟨e.back (g.2 a z).1, (g.2 a z).2⟩

theorem tE_one {F : FB} {c : CE} {r : List V → Hp → VK → Prop} {Q : VK} (hf : SF T r F) (h : tE T E (cF1 F c) σ H Q) : tE T E c σ H fun v H1 => r [v] H1 Q := by
  obtain ⟨ι, A, ρ, a, p⟩ := h
  refine ⟨ι, A, ρ, a, ?_⟩
  unfold cF1 at p
  cases e : c ρ A with
  | bad => rw [e] at p; exact p
  | exc k A' => rw [e] at p; exact p
  | ok d A' =>
    rw [e] at p
    exact fun ι' H' v fp n rp f => hf ρ.b ι A H ι' A' H' [v] [d] fp Q E a.wd a.bl n (Rps.one rp) f p
theorem tE_two {F : FB} {ca cb : CE} {r : List V → Hp → VK → Prop} {Q : VK} (hf : SF T r F) (h : tE T E (cF2 F ca cb) σ H Q) : tE T E ca σ H fun v H1 => tE T E cb σ H1 fun w H2 => r [v, w] H2 Q := by
  obtain ⟨ι, A, ρ, a, p⟩ := h
  refine ⟨ι, A, ρ, a, ?_⟩
  unfold cF2 at p
  cases e : ca ρ A with
  | bad => rw [e] at p; exact p
  | exc k A' => rw [e] at p; exact p
  | ok d A' =>
    rw [e] at p
    intro ι1 H1 v fp n rp f
    refine ⟨ι1, A', ρ, a.next n, ?_⟩
    have p : Po T ρ.b ι A H ((cb ρ A').bind fun y A2 => F ρ.b [d, y] A2) Q E := p
    cases e2 : cb ρ A' with
    | bad => rw [e2] at p; exact p
    | exc k A2 => rw [e2] at p; exact fun ι' H' m => p ι' H' (n.trans m)
    | ok d2 A2 =>
      rw [e2] at p
      intro ι2 H2 w fq m rq g
      have hd := Rp.dom d v fp rp
      obtain ⟨rp2, f2⟩ := Rps.next (H := H) n.wd m (Rps.one rp) f hd
      have fr := f2.app g n.ext hd
      have rr : Rps T ι2 H2 [v, w] [d, d2] (fp ++ fq) := by
        cases rp2 with
        | cons q1 q2 =>
          cases q2
          simp only [List.append_nil]
          have := Rps.cons q1 (Rps.one rq)
          exact this
      exact hf ρ.b ι A H ι2 A2 H2 [v, w] [d, d2] _ Q E a.wd a.bl (n.trans m) rr fr p
theorem tA_cons {c : CE} {cs : CA} {Q : List V → Hp → Prop} (h : tA T E (cCons c cs) σ H Q) : tE T E c σ H fun v H1 => tA T E cs σ H1 fun vs H2 => Q (v :: vs) H2 := by
  obtain ⟨ι, A, ρ, a, p⟩ := h
  refine ⟨ι, A, ρ, a, ?_⟩
  unfold cCons at p
  cases e : c ρ A with
  | bad => rw [e] at p; exact p
  | exc k A' => rw [e] at p; exact p
  | ok d A' =>
    rw [e] at p
    intro ι1 H1 v fp n rp f
    refine ⟨ι1, A', ρ, a.next n, ?_⟩
    have p : PoA T ρ.b ι A H ((cs ρ A').bind fun ds A2 => .ok (d :: ds) A2) Q E := p
    cases e2 : cs ρ A' with
    | bad => rw [e2] at p; exact p
    | exc k A2 => rw [e2] at p; exact fun ι' H' m => p ι' H' (n.trans m)
    | ok ds A2 =>
      rw [e2] at p
      intro ι2 H2 ws fq m rq g
      have hd := Rp.dom d v fp rp
      obtain ⟨rp2, f2⟩ := Rps.next (H := H) n.wd m (Rps.one rp) f hd
      have fr := f2.app g n.ext hd
      have rr : Rps T ι2 H2 (v :: ws) (d :: ds) (fp ++ fq) := by
        cases rp2 with
        | cons q1 q2 =>
          cases q2
          simp only [List.append_nil]
          exact Rps.cons q1 rq
      exact p ι2 H2 (v :: ws) _ (n.trans m) rr fr
theorem tA_F {F : FB} {cs : CA} {r : List V → Hp → VK → Prop} {Q : VK} (hf : SF T r F) (h : tE T E (cF F cs) σ H Q) : tA T E cs σ H fun vs H1 => r vs H1 Q := by
  obtain ⟨ι, A, ρ, a, p⟩ := h
  refine ⟨ι, A, ρ, a, ?_⟩
  unfold cF at p
  cases e : cs ρ A with
  | bad => rw [e] at p; exact p
  | exc k A' => rw [e] at p; exact p
  | ok d A' =>
    rw [e] at p
    exact fun ι' H' v fp n rp f => hf ρ.b ι A H ι' A' H' v d fp Q E a.wd a.bl n rp f p
theorem tE_test {c : CE} {Q : Bool → Hp → Prop} (h : tT T E (cTst c) σ H Q) : tE T E c σ H fun v H1 => ∃ k, v = .bl k ∧ Q k H1 := by
  obtain ⟨ι, A, ρ, a, p⟩ := h
  refine ⟨ι, A, ρ, a, ?_⟩
  unfold cTst at p
  cases e : c ρ A with
  | bad => rw [e] at p; exact p
  | exc k A' => rw [e] at p; exact p
  | ok d A' =>
    rw [e] at p
    cases d with
    | bl k =>
      intro ι1 H1 v fp n rp f
      cases rp
      exact ⟨k, rfl, p ι1 H1 n⟩
    | _ => exact False.elim p
end

section
variable {X : Cx} {T : Tb} {E : XE} {a b : Expr} {pos : Pos} {ca cb : CE} {F : FB} {es : List Expr} {cs : CA}
theorem ge_var {i : Nat} {x : Str} (h : PE X (.Name x pos) (tVar i)) : PE X (.Name x pos) (tE T E (cVar i)) := PE.imp h fun σ H Q q => by
  obtain ⟨ι, A, ρ, a, p⟩ := q
  unfold cVar at p
  split at p
  · rename_i d e
    obtain ⟨v, h1, h2⟩ := a.er.2 i d e
    exact ⟨v, h1, p ι H v [] (.refl a.wd) h2 .nil⟩
  · exact p.elim
theorem ge_c {v : V} {d : Vl} {e : Expr} (h : PE X e (tC v)) (r : ∀ ι H, Rp T ι H v d []) : PE X e (tE T E (cC d)) := PE.imp h fun σ H Q q => by
  obtain ⟨ι, A, ρ, a, p⟩ := q
  exact p ι H v [] (.refl a.wd) (r ι H) .nil
theorem ge_int {i j} : PE X (.Constant (.int i) j pos) (tE T E (cC (.int i))) := ge_c pe_int fun _ _ => .int i
theorem ge_bl {i j} : PE X (.Constant (.bool i) j pos) (tE T E (cC (.bl i))) := ge_c pe_bl fun _ _ => .bl i
theorem ge_non {j} : PE X (.Constant .none j pos) (tE T E (cC .non)) := ge_c pe_non fun _ _ => .non
theorem ge_str {i j} : PE X (.Constant (.str i) j pos) (tE T E (cC (.str i))) := ge_c pe_str fun _ _ => .str i
theorem ga_nil : PA X [] (tA T E cNil) := PA.imp pa_nil fun σ H Q q => by
  obtain ⟨ι, A, ρ, a, p⟩ := q
  exact p ι H [] [] (.refl a.wd) .nil .nil
theorem ge_op {op : Operator} {r : R2} (ho : OpR X (binaryOp op) r) (hf : SF T (r2 r) F) (ha : PE X a (tE T E ca)) (hb : PE X b (tE T E cb)) : PE X (.BinOp a op b pos) (tE T E (cF2 F ca cb)) :=
  PE.imp (pe_op ho ha hb) fun σ H Q q => by
    have z := tE_two hf q
    simp only [r2_iff] at z
    exact z
theorem ge_un {op : UnaryOp} {r : V → Hp → VK → Prop} (ho : UnR X (unaryOp op) r) (hf : SF T (r1 r) F) (ha : PE X a (tE T E ca)) : PE X (.UnaryOp op a pos) (tE T E (cF1 F ca)) :=
  PE.imp (pe_un ho ha) fun σ H Q q => by
    have z := tE_one hf q
    simp only [r1_iff] at z
    exact z
theorem ge_cmp {op : CmpOp} {r : R2} (ho : OpR X (compareOp op) r) (hf : SF T (r2 r) F) (ha : PE X a (tE T E ca)) (hb : PE X b (tE T E cb)) (hm : behindInMarks op b = false) : PE X (.Compare a [op] [b] pos) (tE T E (cF2 F ca cb)) :=
  PE.imp (pe_cmpR ho ha hb hm) fun σ H Q q => by
    have z := tE_two hf q
    simp only [r2_iff] at z
    exact z
theorem gt_cmp {op : CmpOp} {r : R2} (ho : OpR X (compareOp op) r) (hf : SF T (r2 r) F) (ha : PE X a (tE T E ca)) (hb : PE X b (tE T E cb)) (hm : behindInMarks op b = false) : PT X (.Compare a [op] [b] pos) (tT T E (cTst (cF2 F ca cb))) :=
  PT.imp (pt_cmpR ho ha hb hm) fun σ H Q q => by
    have z := tE_two hf (tE_test q)
    simp only [r2_iff] at z
    exact z
theorem ge_ix {r : R2} (ho : IxR X r) (hf : SF T (r2 r) F) (ha : PE X a (tE T E ca)) (hb : PE X b (tE T E cb)) (hs : PlainIx b) : PE X (.Subscript a b pos) (tE T E (cF2 F ca cb)) :=
  PE.imp (pe_ix ho ha hb hs) fun σ H Q q => by
    have z := tE_two hf q
    simp only [r2_iff] at z
    exact z
theorem gt_val {c : CE} (h : PE X a (tE T E c)) (he : ∀ whole, isTrue a X.env whole = (do let v ← whole; standAt a.pos; holding [v] (truthy v)) := by intro _; rfl) : PT X a (tT T E (cTst c)) :=
  PT.imp (pt_val h he) fun σ H Q q => tE_test q
/-! tests -/
theorem tT_bind {t : CT} {k : Ev → Bool → AH → Res Bool} {σ : L2.St} {H : Hp} {Q R : Bool → Hp → Prop} (h : tT T E (fun ρ A => (t ρ A).bind (k ρ)) σ H Q)
    (hk : ∀ c H1, (∃ ι A ρ, At T σ H1 ι A ρ ∧ PoT T ρ.b ι A H1 (k ρ c A) Q E) → R c H1) : tT T E t σ H R := by
  obtain ⟨ι, A, ρ, a, p⟩ := h
  refine ⟨ι, A, ρ, a, ?_⟩
  dsimp only at p
  cases e : t ρ A with
  | bad => rw [e] at p; exact p
  | exc k A' => rw [e] at p; exact p
  | ok c A' =>
    rw [e] at p
    exact fun ι1 H1 n => hk c H1 ⟨ι1, A', ρ, a.next n, PoT.re n p⟩
theorem gw_and1 {t : CT} (ha : PT X a (tT T E t)) : PW X (.BoolOp .And [a] pos) (tT T E t) := pw_and1 ha
theorem gw_or1 {t : CT} (ha : PT X a (tT T E t)) : PW X (.BoolOp .Or [a] pos) (tT T E t) := pw_or1 ha
theorem gw_and {t u : CT} {rest : List Expr} (ha : PT X a (tT T E t)) (hb : PW X (.BoolOp .And (b :: rest) pos) (tT T E u)) : PW X (.BoolOp .And (a :: b :: rest) pos) (tT T E (cAnd t u)) :=
  PW.imp (pw_and ha hb) fun σ H Q q => tT_bind q fun c H1 ⟨ι, A, ρ, a, p⟩ => by
    cases c with
    | true => simp only [if_true] at p ⊢; exact ⟨ι, A, ρ, a, p⟩
    | false =>
      rw [if_neg Bool.false_ne_true]
      exact p ι H1 (.refl a.wd)
theorem gw_or {t u : CT} {rest : List Expr} (ha : PT X a (tT T E t)) (hb : PW X (.BoolOp .Or (b :: rest) pos) (tT T E u)) : PW X (.BoolOp .Or (a :: b :: rest) pos) (tT T E (cOr t u)) :=
  PW.imp (pw_or ha hb) fun σ H Q q => tT_bind q fun c H1 ⟨ι, A, ρ, a, p⟩ => by
    cases c with
    | true => simp only [if_true] at p ⊢; exact p ι H1 (.refl a.wd)
    | false =>
      rw [if_neg Bool.false_ne_true] at p ⊢
      exact ⟨ι, A, ρ, a, p⟩
theorem gt_not {t : CT} (ha : PT X a (tT T E t)) : PT X (.UnaryOp .Not a pos) (tT T E (cNot t)) :=
  PT.imp (pt_not ha) fun σ H Q q => tT_bind q fun c H1 ⟨ι, A, ρ, a, p⟩ => p ι H1 (.refl a.wd)
/-! values -/
theorem tE_bindB {c : CE} {k : Ev → Bool → AH → Res Vl} {σ : L2.St} {H : Hp} {Q : VK} {R : Bool → Hp → Prop} (h : tE T E (fun ρ A => ((c ρ A).bind asB).bind (k ρ)) σ H Q)
    (hk : ∀ c H1, (∃ ι A ρ, At T σ H1 ι A ρ ∧ Po T ρ.b ι A H1 (k ρ c A) Q E) → R c H1) : tE T E c σ H fun v H1 => ∃ c, v = .bl c ∧ R c H1 := by
  obtain ⟨ι, A, ρ, a, p⟩ := h
  refine ⟨ι, A, ρ, a, ?_⟩
  dsimp only at p
  cases e : c ρ A with
  | bad => rw [e] at p; exact p
  | exc k A' => rw [e] at p; exact p
  | ok d A' =>
    rw [e] at p
    cases d with
    | bl q =>
      intro ι1 H1 v fp n rp f
      cases rp
      exact ⟨q, rfl, hk q H1 ⟨ι1, A', ρ, a.next n, Po.re n p⟩⟩
    | _ => exact False.elim p
theorem ge_and {rest : List Expr} (ha : PE X a (tE T E ca)) (hb : PE X (.BoolOp .And (b :: rest) pos) (tE T E cb)) : PE X (.BoolOp .And (a :: b :: rest) pos) (tE T E (cAndV ca cb)) :=
  PE.imp (pe_and ha hb) fun σ H Q q => tE_bindB q fun c H1 ⟨ι, A, ρ, a, p⟩ => by
    cases c with
    | true => simp only [if_true] at p ⊢; exact ⟨ι, A, ρ, a, p⟩
    | false =>
      rw [if_neg Bool.false_ne_true]
      exact p ι H1 _ [] (.refl a.wd) (.bl false) .nil
theorem ge_or {rest : List Expr} (ha : PE X a (tE T E ca)) (hb : PE X (.BoolOp .Or (b :: rest) pos) (tE T E cb)) : PE X (.BoolOp .Or (a :: b :: rest) pos) (tE T E (cOrV ca cb)) :=
  PE.imp (pe_or ha hb) fun σ H Q q => tE_bindB q fun c H1 ⟨ι, A, ρ, a, p⟩ => by
    cases c with
    | true => simp only [if_true] at p ⊢; exact p ι H1 _ [] (.refl a.wd) (.bl true) .nil
    | false =>
      rw [if_neg Bool.false_ne_true] at p ⊢
      exact ⟨ι, A, ρ, a, p⟩
theorem ge_one {op} (h : PE X a (tE T E ca)) : PE X (.BoolOp op [a] pos) (tE T E ca) := pe_one h
theorem ge_not (ha : PE X a (tE T E ca)) : PE X (.UnaryOp .Not a pos) (tE T E (cNotV ca)) :=
  PE.imp (pe_not ha) fun σ H Q q => tE_bindB q fun c H1 ⟨ι, A, ρ, a, p⟩ => p ι H1 _ [] (.refl a.wd) (.bl (!c)) .nil
theorem ge_if {c : Expr} {t : CT} (hc : PT X c (tT T E t)) (ha : PE X a (tE T E ca)) (hb : PE X b (tE T E cb)) : PE X (.IfExp c a b pos) (tE T E (cIfE t ca cb)) :=
  PE.imp (pe_ifExp hc ha hb) fun σ H Q q => by
    obtain ⟨ι, A, ρ, a, p⟩ := q
    refine ⟨ι, A, ρ, a, ?_⟩
    unfold cIfE at p
    cases e : t ρ A with
    | bad => rw [e] at p; exact p
    | exc k A' => rw [e] at p; exact p
    | ok c A' =>
      rw [e] at p
      intro ι1 H1 n
      have p : Po T ρ.b ι1 A' H1 (if c = true then ca ρ A' else cb ρ A') Q E := Po.re n p
      cases c with
      | true => simp only [if_true] at p ⊢; exact ⟨ι1, A', ρ, a.next n, p⟩
      | false =>
        rw [if_neg Bool.false_ne_true] at p ⊢
        exact ⟨ι1, A', ρ, a.next n, p⟩
theorem ga_cons (ha : PE X a (tE T E ca)) (hr : PA X es (tA T E cs)) (hs : starEach (a :: es) X.env = (false, eval a X.env) :: starEach es X.env := by rfl) : PA X (a :: es) (tA T E (cCons ca cs)) :=
  PA.imp (pa_cons ha hr hs) fun σ H Q q => tA_cons q
theorem new_ok {b : Nat} {ι ι1 : List Addr} {A A1 : AH} {H H1 : Hp} {vs : List V} {ds : List Vl} {fp : List Addr} {p : Addr} {Q : VK} (n : Nx T b ι A H ι1 A1 H1) (r : Rps T ι1 H1 vs ds fp) (f : Fr H ι1 fp) (h : H1 p = none)
    (q : Po T b ι A H (.ok (.new .lst ds) A1) Q E) : Q (.ref p) (upd H1 p (.lst vs)) := by
  have e : Ext ι1 H1 ι1 (upd H1 p (.lst vs)) := Ext.refl.upd h
  refine q ι1 _ _ (fp ++ [p]) (n.upd h) (.new upd_same rfl (Rps.mono e ds vs fp r f.off)) ⟨?_, fun a ha => ?_⟩
  · rw [List.nodup_append]
    refine ⟨f.1, by simp, fun x hx y hy z => ?_⟩
    rw [List.mem_singleton] at hy
    subst hy; subst z
    obtain ⟨o, ho⟩ := Rps.dom ds vs fp r x hx
    rw [h] at ho; cases ho
  · rcases List.mem_append.mp ha with z | z
    · exact f.2 a z
    · rw [List.mem_singleton] at z
      subst z
      exact ⟨n.ext.back h, n.wd.fresh h⟩
theorem tup_ok {b : Nat} {ι ι1 : List Addr} {A A1 : AH} {H H1 : Hp} {vs : List V} {ds : List Vl} {fp : List Addr} {p : Addr} {Q : VK} (n : Nx T b ι A H ι1 A1 H1) (r : Rps T ι1 H1 vs ds fp) (f : Fr H ι1 fp) (h : H1 p = none)
    (q : Po T b ι A H (.ok (.tup ds) A1) Q E) : Q (.ref p) (upd H1 p (.tup vs)) := by
  have e : Ext ι1 H1 ι1 (upd H1 p (.tup vs)) := Ext.refl.upd h
  exact q ι1 _ _ fp (n.upd h) (.tup (.inl (.inl upd_same)) (Rps.mono e ds vs fp r f.off)) f
theorem size_ok {n : Nat} (h : n ≤ 100000) : n ≤ sizeLine := Nat.le_trans h (by decide)
theorem size_lt {n : Nat} (h : n < 100000) : n < sizeLine := Nat.lt_of_lt_of_le h (by decide)
theorem Rps.len {ι : List Addr} {H : Hp} : ∀ {ds : List Vl} {vs : List V} {fp : List Addr}, Rps T ι H vs ds fp → vs.length = ds.length
  | [], _, _, h => by cases h; rfl
  | d :: ds, _, _, h => by
    cases h with
    | cons h1 h2 => simp [Rps.len h2]
theorem ge_tup {x1} (h : PA X es (tA T E cs)) : PE X (.Tuple es x1 pos) (tE T E (cTup cs)) := PE.imp (pe_tup h) fun σ H Q q => by
  obtain ⟨ι, A, ρ, a, p⟩ := q
  refine ⟨ι, A, ρ, a, ?_⟩
  unfold cTup at p
  cases e : cs ρ A with
  | bad => rw [e] at p; exact p
  | exc k A' => rw [e] at p; exact p
  | ok ds A' =>
    rw [e] at p
    intro ι1 H1 vs fp n r f
    have p : Po T ρ.b ι A H (if ds.length ≤ 100000 then .ok (.tup ds) A' else .bad) Q E := p
    split at p
    · rename_i hl
      exact ⟨by rw [r.len]; exact size_ok hl, fun q hq => tup_ok n r f hq p⟩
    · exact p.elim
theorem ge_lst (h : PA X es (tA T E cs)) : PE X (.List es pos) (tE T E (cLst cs)) := PE.imp (pe_lst h) fun σ H Q q => by
  obtain ⟨ι, A, ρ, a, p⟩ := q
  refine ⟨ι, A, ρ, a, ?_⟩
  unfold cLst at p
  cases e : cs ρ A with
  | bad => rw [e] at p; exact p
  | exc k A' => rw [e] at p; exact p
  | ok ds A' =>
    rw [e] at p
    intro ι1 H1 vs fp n r f
    have p : Po T ρ.b ι A H (if ds.length ≤ 100000 then .ok (.new .lst ds) A' else .bad) Q E := p
    split at p
    · rename_i hl
      exact ⟨by rw [r.len]; exact size_ok hl, fun q hq => new_ok n r f hq p⟩
    · exact p.elim
theorem ge_callB {id : String} {x : Str} {p : Pos} {r : List V → Hp → VK → Prop} (hc : CallR X (.builtin id) r) (hf : SF T r F) (hg : Gl X x) (hm : X.mg x = none) (hv : bootBuiltins x = some (.builtin id)) (ha : PA X (a :: es) (tA T E cs)) (hn : x ≠ "__name__" := by decide) (hdb : (x == ("__debug__" : Str)) = false := by decide)
    (he : starEach (a :: es) X.env = (false, eval a X.env) :: starEach es X.env := by rfl) (hpl : (backTo pos (starEach es X.env)).any (·.1) = false := by rfl) : PE X (.Call (.Name x p) (a :: es) [] pos) (tE T E (cF F cs)) :=
  PE.imp (pe_callB hc hg hm hv ha hn hdb he hpl) fun σ H Q q => tA_F hf q
theorem ge_callTy {Ty : String} {x : Str} {p : Pos} {r : List V → Hp → VK → Prop} (hc : CallR X (.type Ty) r) (hf : SF T r F) (hg : Gl X x) (hm : X.mg x = none) (hv : bootBuiltins x = some (.type Ty)) (ha : PA X (a :: es) (tA T E cs)) (hn : x ≠ "__name__" := by decide) (hdb : (x == ("__debug__" : Str)) = false := by decide)
    (he : starEach (a :: es) X.env = (false, eval a X.env) :: starEach es X.env := by rfl) (hpl : (backTo pos (starEach es X.env)).any (·.1) = false := by rfl) : PE X (.Call (.Name x p) (a :: es) [] pos) (tE T E (cF F cs)) :=
  PE.imp (pe_callTy hc hg hm hv ha hn hdb he hpl) fun σ H Q q => tA_F hf q
end
end Ab

set_option Elab.async false
set_option linter.all false
set_option maxRecDepth 100000
set_option maxHeartbeats 1000000
set_option autoImplicit false
/-! Ab4: what built-ins do. -/
namespace Ab
open PySem PySem.Spec PyProof.Rows L2

def mutL (A : AH) : Vl → Option (List Vl)
  | .new .lst xs => some xs
  | .loc n => match A[n]? with
    | some (.lst, xs) => some xs
    | _ => none
  | _ => none
def seqL (A : AH) : Vl → Option (List Vl)
  | .new .lst xs => some xs
  | .rol xs => some xs
  | .loc n => match A[n]? with
    | some (.lst, xs) => some xs
    | _ => none
  | _ => none
def seqA (A : AH) : Vl → Option (List Vl)
  | .tup xs => some xs
  | d => seqL A d
section
variable {T : Tb} {ι : List Addr} {H : Hp} {A : AH}
theorem Rps.one_inv {vs : List V} {x : Vl} {fp : List Addr} (h : Rps T ι H vs [x] fp) : ∃ v, vs = [v] ∧ Rp T ι H v x fp := by
  cases h with
  | cons h1 h2 => cases h2; exact ⟨_, rfl, by rw [List.append_nil]; exact h1⟩
theorem Rps.two_inv {vs : List V} {x y : Vl} {fp : List Addr} (h : Rps T ι H vs [x, y] fp) : ∃ v w f g, vs = [v, w] ∧ fp = f ++ g ∧ Rp T ι H v x f ∧ Rp T ι H w y g := by
  cases h with
  | cons h1 h2 => obtain ⟨w, rfl, h3⟩ := h2.one_inv; exact ⟨_, _, _, _, rfl, rfl, h1, h3⟩
theorem Fr.sub {H0 : Hp} {fp fq : List Addr} (s : fq.Sublist fp) (f : Fr H0 ι fp) : Fr H0 ι fq := ⟨f.1.sublist s, fun a ha => f.2 a (s.mem ha)⟩
theorem mutL_ok {v : V} {d : Vl} {fp : List Addr} {xs : List Vl} (w : Wd T ι A H) (r : Rp T ι H v d fp) (e : mutL A d = some xs) : ∃ p vs fq, v = .ref p ∧ H p = some (.lst vs) ∧ Rps T ι H vs xs fq ∧ fq.Sublist fp := by
  cases d with
  | new k ys =>
    cases k with
    | lst =>
      cases r with
      | new h1 h2 h3 =>
        cases e
        rw [show _ = HO.lst _ from h2] at h1
        exact ⟨_, _, _, rfl, h1, h3, List.sublist_append_left _ _⟩
    | _ => cases e
  | loc n =>
    cases r with
    | loc hl =>
      simp only [mutL] at e
      split at e
      · rename_i ys ha
        cases e
        obtain ⟨o, vs, q1, q2, q3⟩ := w.cel _ _ _ _ ha hl
        rw [show o = HO.lst vs from q2] at q1
        exact ⟨_, vs, [], rfl, q1, q3, List.nil_sublist _⟩
      · cases e
  | _ => cases e
theorem seqL_ok {v : V} {d : Vl} {fp : List Addr} {xs : List Vl} (w : Wd T ι A H) (r : Rp T ι H v d fp) (e : seqL A d = some xs) : ∃ p vs fq, v = .ref p ∧ SqL T.K H p vs ∧ Rps T ι H vs xs fq ∧ fq.Sublist fp := by
  cases d with
  | rol ys =>
    cases e
    cases r with
    | rol h1 h2 => exact ⟨_, _, [], rfl, h1.sq, h2, List.Sublist.refl _⟩
  | new k ys =>
    cases k with
    | lst =>
      obtain ⟨p, vs, fq, h1, h2, h3, h4⟩ := mutL_ok w r (show mutL A (.new .lst ys) = some xs from e)
      exact ⟨p, vs, fq, h1, .inl (.inl h2), h3, h4⟩
    | _ => cases e
  | loc n =>
    obtain ⟨p, vs, fq, h1, h2, h3, h4⟩ := mutL_ok w r (show mutL A (.loc n) = some xs from e)
    exact ⟨p, vs, fq, h1, .inl (.inl h2), h3, h4⟩
  | _ => cases e
theorem seqA_ok {v : V} {d : Vl} {fp : List Addr} {xs : List Vl} (w : Wd T ι A H) (r : Rp T ι H v d fp) (e : seqA A d = some xs) : ∃ p vs fq, v = .ref p ∧ (SqL T.K H p vs ∨ SqT T.K H p vs) ∧ Rps T ι H vs xs fq ∧ fq.Sublist fp := by
  cases d with
  | tup ys =>
    cases e
    cases r with
    | tup h1 h2 => exact ⟨_, _, _, rfl, .inr h1, h2, List.Sublist.refl _⟩
  | _ =>
    obtain ⟨p, vs, fq, h1, h2, h3, h4⟩ := seqL_ok w r (show seqL A _ = some xs from e)
    exact ⟨p, vs, fq, h1, .inl h2, h3, h4⟩
theorem Rps.append : ∀ {xs ys : List Vl} {vs us : List V} {fp fq : List Addr}, Rps T ι H vs xs fp → Rps T ι H us ys fq → Rps T ι H (vs ++ us) (xs ++ ys) (fp ++ fq)
  | [], _, _, _, _, _, h, k => by cases h; exact k
  | x :: xs, ys, _, us, _, fq, h, k => by
    cases h with
    | cons h1 h2 =>
      rw [List.append_assoc]
      exact .cons h1 (Rps.append h2 k)
theorem Rps.drop : ∀ (n : Nat) {xs : List Vl} {vs : List V} {fp : List Addr}, Rps T ι H vs xs fp → ∃ fq, Rps T ι H (vs.drop n) (xs.drop n) fq ∧ fq.Sublist fp
  | 0, _, _, _, h => ⟨_, h, List.Sublist.refl _⟩
  | n + 1, [], _, _, h => by cases h; exact ⟨[], .nil, List.Sublist.refl _⟩
  | n + 1, x :: xs, _, _, h => by
    cases h with
    | cons h1 h2 =>
      obtain ⟨fq, q1, q2⟩ := Rps.drop n h2
      exact ⟨fq, q1, q2.trans (List.sublist_append_right _ _)⟩
theorem Rps.takeN : ∀ (n : Nat) {xs : List Vl} {vs : List V} {fp : List Addr}, Rps T ι H vs xs fp → ∃ fq, Rps T ι H (vs.take n) (xs.take n) fq ∧ fq.Sublist fp
  | 0, _, _, _, h => ⟨[], .nil, List.nil_sublist _⟩
  | n + 1, [], _, _, h => by cases h; exact ⟨[], .nil, List.Sublist.refl _⟩
  | n + 1, x :: xs, _, _, h => by
    cases h with
    | cons h1 h2 =>
      obtain ⟨fq, q1, q2⟩ := Rps.takeN n h2
      exact ⟨_, .cons h1 q1, List.Sublist.append (List.Sublist.refl _) q2⟩
theorem Rps.get : ∀ {i : Nat} {xs : List Vl} {vs : List V} {fp : List Addr} {d : Vl}, Rps T ι H vs xs fp → xs[i]? = some d → ∃ v fq, vs[i]? = some v ∧ Rp T ι H v d fq ∧ fq.Sublist fp
  | _, [], _, _, _, h, e => by simp at e
  | 0, x :: xs, _, _, _, h, e => by
    cases h with
    | cons h1 h2 => simp at e; subst e; exact ⟨_, _, rfl, h1, List.sublist_append_left _ _⟩
  | i + 1, x :: xs, _, _, _, h, e => by
    cases h with
    | cons h1 h2 =>
      obtain ⟨v, fq, q1, q2, q3⟩ := Rps.get (i := i) h2 (by simpa using e)
      exact ⟨v, fq, by simpa using q1, q2, q3.trans (List.sublist_append_right _ _)⟩
end

/-! ### whole numbers -/
def fI (C : Int → Int → Bool) (g : Int → Int → Vl) : FB := fun _ ds A => match ds with
  | [.int i, .int j] => if C i j = true then .ok (g i j) A else .bad
  | _ => .bad
theorem sf_I {T : Tb} {C : Int → Int → Bool} {C' : Int → Int → Prop} {g : Int → Int → Vl} {g' : Int → Int → V} (hc : ∀ i j, C i j = true → C' i j) (hg : ∀ ι H i j, Rp T ι H (g' i j) (g i j) []) : SF T (r2 (rI C' g')) (fI C g) := by
  intro b ι A H ι1 A1 H1 vs ds fp Q E w hb n r f p
  unfold fI at p
  split at p
  · rename_i i j
    obtain ⟨v, w, f1, f2, rfl, rfl, q1, q2⟩ := r.two_inv
    cases q1; cases q2
    split at p
    · rename_i h
      exact ⟨_, _, rfl, i, j, rfl, rfl, hc i j h, p ι1 H1 _ [] n (hg ι1 H1 i j) .nil⟩
    · exact p.elim
  · exact p.elim
def fI0 (g : Int → Int → Vl) : FB := fun _ ds A => match ds with
  | [.int i, .int j] => .ok (g i j) A
  | _ => .bad
theorem sf_I0 {T : Tb} {g : Int → Int → Vl} {g' : Int → Int → V} (hg : ∀ ι H i j, Rp T ι H (g' i j) (g i j) []) : SF T (r2 (rI0 g')) (fI0 g) := by
  intro b ι A H ι1 A1 H1 vs ds fp Q E w hb n r f p
  unfold fI0 at p
  split at p
  · rename_i i j
    obtain ⟨v, w, f1, f2, rfl, rfl, q1, q2⟩ := r.two_inv
    cases q1; cases q2
    exact ⟨_, _, rfl, i, j, rfl, rfl, p ι1 H1 _ [] n (hg ι1 H1 i j) .nil⟩
  · exact p.elim
def fSub : FB := fI0 fun i j => .int (i - j)
theorem sf_sub {T : Tb} : SF T (r2 (rI0 fun i j => .int (i - j))) fSub := sf_I0 fun _ _ i j => .int _
def fLt : FB := fI0 fun i j => .bl (decide (i < j))
theorem sf_lt {T : Tb} : SF T (r2 (rI0 fun i j => .bl (decide (i < j)))) fLt := sf_I0 fun _ _ i j => .bl _
def fLe : FB := fI0 fun i j => .bl (decide (i ≤ j))
theorem sf_le {T : Tb} : SF T (r2 (rI0 fun i j => .bl (decide (i ≤ j)))) fLe := sf_I0 fun _ _ i j => .bl _
def fGt : FB := fI0 fun i j => .bl (decide (j < i))
theorem sf_gt {T : Tb} : SF T (r2 (rI0 fun i j => .bl (decide (j < i)))) fGt := sf_I0 fun _ _ i j => .bl _
def fGe : FB := fI0 fun i j => .bl (decide (j ≤ i))
theorem sf_ge {T : Tb} : SF T (r2 (rI0 fun i j => .bl (decide (j ≤ i)))) fGe := sf_I0 fun _ _ i j => .bl _
def fMod : FB := fI (fun _ j => decide (0 < j)) fun i j => .int (i % j)
theorem sf_mod {T : Tb} : SF T (r2 (rI (fun _ j => 0 < j) fun i j => .int (i % j))) fMod := sf_I (fun _ _ h => of_decide_eq_true h) fun _ _ i j => .int _
def fDiv : FB := fI (fun _ j => decide (0 < j ∧ j < 1073741824)) fun i j => .int (i / j)
theorem sf_div {T : Tb} : SF T (r2 (rI CDiv fun i j => .int (i / j))) fDiv := sf_I (fun i j h => by have z := of_decide_eq_true h; exact z) fun _ _ i j => .int _
def fPow : FB := fI (fun i j => decide (0 ≤ j ∧ j ≤ 1000000 ∧ i.natAbs < 2 ^ 64)) fun i j => .int (i ^ j.toNat)
theorem sf_pow {T : Tb} : SF T (r2 (rI CPow fun i j => .int (i ^ j.toNat))) fPow := sf_I (fun i j h => by have z := of_decide_eq_true h; exact z) fun _ _ i j => .int _
/-- two factors of together less than a hundred million bits -/
def CMulB (i j : Int) : Prop := i.natAbs.log2 + j.natAbs.log2 < 100000000
theorem CMulB.ok {i j : Int} (h : CMulB i j) : IntMulOk i j := by
  have b : ∀ x : Int, Builtin.Int.intBits x ≤ x.natAbs.log2 + 1 := fun x => by
    unfold Builtin.Int.intBits
    split <;> omega
  have h1 := b i
  have h2 := b j
  have h3 : i.natAbs.log2 + j.natAbs.log2 < 100000000 := h
  have e : bitsLine = 134217728 := by decide
  unfold IntMulOk
  intro z
  rw [Bool.and_eq_true] at z
  have z2 := z.2
  unfold Builtin.Int.intTooBig at z2
  have z3 := of_decide_eq_true z2
  rw [e] at z3
  omega
theorem op_mulB {X : Cx} : OpR X (binaryOp .Mult) (rI CMulB fun i j => .int (i * j)) := opI fun _ _ _ _ _ _ _ hc q => PyProof.Rows.mul_int q hc.ok

/-! ### sums of either kind -/
theorem op_or {X : Cx} {f : Value → Value → Sem Value} {r r' : R2} (h : OpR X f r) (h' : OpR X f r') : OpR X f (fun x y H Q => r x y H Q ∨ r' x y H Q) := by
  intro pins s σ H x y v u Q I rx ry q
  rcases q with q | q
  · exact h pins s σ H x y v u Q I rx ry q
  · exact h' pins s σ H x y v u Q I rx ry q
def fAdd : FB := fun _ ds A => match ds with
  | [.int i, .int j] => .ok (.int (i + j)) A
  | [x, y] => match mutL A x with
    | none => .bad
    | some xs => match mutL A y with
      | none => .bad
      | some ys => if xs.length + ys.length ≤ 100000 then .ok (.new .lst (xs ++ ys)) A else .bad
  | _ => .bad
theorem sf_add {T : Tb} : SF T (r2 fun x y H Q => rI0 (fun i j => .int (i + j)) x y H Q ∨ rCat x y H Q) fAdd := by
  intro b ι A H ι1 A1 H1 vs ds fp Q E w hb n r f p
  unfold fAdd at p
  split at p
  · rename_i i j
    obtain ⟨v, w, f1, f2, rfl, rfl, q1, q2⟩ := r.two_inv
    cases q1; cases q2
    exact ⟨_, _, rfl, .inl ⟨i, j, rfl, rfl, p ι1 H1 _ [] n (.int _) .nil⟩⟩
  · rename_i x y _
    obtain ⟨v, u, f1, f2, rfl, rfl, q1, q2⟩ := r.two_inv
    split at p
    · exact p.elim
    · rename_i xs ex
      split at p
      · exact p.elim
      · rename_i ys ey
        split at p
        · rename_i hl
          obtain ⟨a, as, g1, rfl, h1, h2, h3⟩ := mutL_ok n.wd q1 ex
          obtain ⟨c, cs, g2, rfl, k1, k2, k3⟩ := mutL_ok n.wd q2 ey
          exact ⟨_, _, rfl, .inr ⟨a, c, as, cs, rfl, rfl, h1, k1, by rw [h2.len, k2.len]; exact size_ok hl, fun q hq => new_ok n (h2.append k2) (f.sub (h3.append k3)) hq p⟩⟩
        · exact p.elim
  · exact p.elim
def fMul : FB := fun _ ds A => match ds with
  | [.int i, .int j] => if i.natAbs.log2 + j.natAbs.log2 < 100000000 then .ok (.int (i * j)) A else .bad
  | [x, .int j] => match mutL A x with
    | none => .bad
    | some xs => if plains xs = true ∧ -100000 ≤ j ∧ j ≤ 100000 ∧ xs.length * j.toNat ≤ 100000 then .ok (.new .lst (List.replicate j.toNat xs).flatten) A else .bad
  | _ => .bad

/-! ### lengths, sums, truths -/
def fLen : FB := fun _ ds A => match ds with
  | [x] => match seqA A x with
    | none => .bad
    | some xs => .ok (.int xs.length) A
  | _ => .bad
theorem sf_len {T : Tb} : SF T (fun xs H Q => ∃ p ys, xs = [.ref p] ∧ (SqL T.K H p ys ∨ SqT T.K H p ys) ∧ Q (.int ys.length) H) fLen := by
  intro b ι A H ι1 A1 H1 vs ds fp Q E w hb n r f p
  unfold fLen at p
  split at p
  · rename_i x
    obtain ⟨v, rfl, q1⟩ := r.one_inv
    split at p
    · exact p.elim
    · rename_i xs ex
      obtain ⟨a, as, g1, rfl, h1, h2, h3⟩ := seqA_ok n.wd q1 ex
      refine ⟨a, as, rfl, h1, ?_⟩
      rw [h2.len]
      exact p ι1 H1 _ [] n (.int _) .nil
  · exact p.elim
def toInts : List Vl → Option (List Int)
  | [] => some []
  | .int i :: r => match toInts r with
    | none => none
    | some l => some (i :: l)
  | _ => none
def toBls : List Vl → Option (List Bool)
  | [] => some []
  | .bl i :: r => match toBls r with
    | none => none
    | some l => some (i :: l)
  | _ => none
theorem toInts_ok {T : Tb} {ι : List Addr} {H : Hp} : ∀ {xs : List Vl} {vs : List V} {fp : List Addr} {ns : List Int}, Rps T ι H vs xs fp → toInts xs = some ns → vs = ns.map V.int
  | [], _, _, _, h, e => by cases h; cases e; rfl
  | x :: r, _, _, _, h, e => by
    cases h with
    | cons h1 h2 =>
      cases x with
      | int i =>
        unfold toInts at e
        split at e
        · cases e
        · rename_i l hl
          cases e
          cases h1
          rw [toInts_ok h2 hl]; rfl
      | _ => cases e
theorem toBls_ok {T : Tb} {ι : List Addr} {H : Hp} : ∀ {xs : List Vl} {vs : List V} {fp : List Addr} {ns : List Bool}, Rps T ι H vs xs fp → toBls xs = some ns → vs = ns.map V.bl
  | [], _, _, _, h, e => by cases h; cases e; rfl
  | x :: r, _, _, _, h, e => by
    cases h with
    | cons h1 h2 =>
      cases x with
      | bl i =>
        unfold toBls at e
        split at e
        · cases e
        · rename_i l hl
          cases e
          cases h1
          rw [toBls_ok h2 hl]; rfl
      | _ => cases e
def fInts (g : List Int → Vl) : FB := fun _ ds A => match ds with
  | [x] => match seqL A x with
    | none => .bad
    | some xs => match toInts xs with
      | none => .bad
      | some ns => .ok (g ns) A
  | _ => .bad
def fBls (g : List Bool → Vl) : FB := fun _ ds A => match ds with
  | [x] => match seqL A x with
    | none => .bad
    | some xs => match toBls xs with
      | none => .bad
      | some ns => .ok (g ns) A
  | _ => .bad
def fSum : FB := fInts fun ns => .int ns.sum
def fAll : FB := fBls fun bs => .bl (bs.all id)
def fAny : FB := fBls fun bs => .bl (bs.any id)
theorem sf_sum {T : Tb} : SF T (rSum T.K) fSum := by
  intro b ι A H ι1 A1 H1 vs ds fp Q E w hb n r f p
  unfold fSum fInts at p
  split at p
  · rename_i x
    obtain ⟨v, rfl, q1⟩ := r.one_inv
    split at p
    · exact p.elim
    · rename_i xs ex
      obtain ⟨a, as, g1, rfl, h1, h2, h3⟩ := seqL_ok n.wd q1 ex
      split at p
      · exact p.elim
      · rename_i ns en
        rw [toInts_ok h2 en] at h1
        exact ⟨a, ns, rfl, h1, p ι1 H1 _ [] n (.int _) .nil⟩
  · exact p.elim
theorem sf_all {T : Tb} : SF T (rAll T.K) fAll := by
  intro b ι A H ι1 A1 H1 vs ds fp Q E w hb n r f p
  unfold fAll fBls at p
  split at p
  · rename_i x
    obtain ⟨v, rfl, q1⟩ := r.one_inv
    split at p
    · exact p.elim
    · rename_i xs ex
      obtain ⟨a, as, g1, rfl, h1, h2, h3⟩ := seqL_ok n.wd q1 ex
      split at p
      · exact p.elim
      · rename_i ns en
        rw [toBls_ok h2 en] at h1
        exact ⟨a, ns, rfl, h1, p ι1 H1 _ [] n (.bl _) .nil⟩
  · exact p.elim
theorem sf_any {T : Tb} : SF T (rAny T.K) fAny := by
  intro b ι A H ι1 A1 H1 vs ds fp Q E w hb n r f p
  unfold fAny fBls at p
  split at p
  · rename_i x
    obtain ⟨v, rfl, q1⟩ := r.one_inv
    split at p
    · exact p.elim
    · rename_i xs ex
      obtain ⟨a, as, g1, rfl, h1, h2, h3⟩ := seqL_ok n.wd q1 ex
      split at p
      · exact p.elim
      · rename_i ns en
        rw [toBls_ok h2 en] at h1
        exact ⟨a, ns, rfl, h1, p ι1 H1 _ [] n (.bl _) .nil⟩
  · exact p.elim
def fAbs : FB := fun _ ds A => match ds with
  | [.int i] => .ok (.int (if i < 0 then -i else i)) A
  | _ => .bad
theorem sf_abs {T : Tb} : SF T (fun xs H Q => ∃ i, xs = [.int i] ∧ Q (.int (if i < 0 then -i else i)) H) fAbs := by
  intro b ι A H ι1 A1 H1 vs ds fp Q E w hb n r f p
  unfold fAbs at p
  split at p
  · rename_i i
    obtain ⟨v, rfl, q1⟩ := r.one_inv
    cases q1
    exact ⟨i, rfl, p ι1 H1 _ [] n (.int _) .nil⟩
  · exact p.elim
def fNeg : FB := fun _ ds A => match ds with
  | [.int i] => .ok (.int (-i)) A
  | _ => .bad
theorem sf_neg {T : Tb} : SF T (r1 (rU fun i => .int (-i))) fNeg := by
  intro b ι A H ι1 A1 H1 vs ds fp Q E w hb n r f p
  unfold fNeg at p
  split at p
  · rename_i i
    obtain ⟨v, rfl, q1⟩ := r.one_inv
    cases q1
    exact ⟨_, rfl, i, rfl, p ι1 H1 _ [] n (.int _) .nil⟩
  · exact p.elim
def fMax : FB := fI0 fun i j => .int (if j > i then j else i)
def fMin : FB := fI0 fun i j => .int (if j < i then j else i)
theorem sf_max {T : Tb} : SF T (fun xs H Q => ∃ i j, xs = [.int i, .int j] ∧ Q (.int (if j > i then j else i)) H) fMax := by
  intro b ι A H ι1 A1 H1 vs ds fp Q E w hb n r f p
  obtain ⟨v, w, rfl, i, j, rfl, rfl, q⟩ := sf_I0 (g := fun i j => .int (if j > i then j else i)) (g' := fun i j => .int (if j > i then j else i)) (fun _ _ i j => .int _) b ι A H ι1 A1 H1 vs ds fp Q E w hb n r f p
  exact ⟨i, j, rfl, q⟩
theorem sf_min {T : Tb} : SF T (fun xs H Q => ∃ i j, xs = [.int i, .int j] ∧ Q (.int (if j < i then j else i)) H) fMin := by
  intro b ι A H ι1 A1 H1 vs ds fp Q E w hb n r f p
  obtain ⟨v, w, rfl, i, j, rfl, rfl, q⟩ := sf_I0 (g := fun i j => .int (if j < i then j else i)) (g' := fun i j => .int (if j < i then j else i)) (fun _ _ i j => .int _) b ι A H ι1 A1 H1 vs ds fp Q E w hb n r f p
  exact ⟨i, j, rfl, q⟩

/-! ### items -/
def fIx : FB := fun _ ds A => match ds with
  | [x, .int i] => match seqA A x with
    | none => .bad
    | some xs => match atI xs i with
      | none => .bad
      | some d => .ok d A
  | _ => .bad
theorem sf_ix {T : Tb} : SF T (r2 (rIx T.K)) fIx := by
  intro b ι A H ι1 A1 H1 vs ds fp Q E w hb n r f p
  unfold fIx at p
  split at p
  · rename_i x i
    obtain ⟨v, u, f1, f2, rfl, rfl, q1, q2⟩ := r.two_inv
    cases q2
    split at p
    · exact p.elim
    · rename_i xs ex
      obtain ⟨a, as, g1, rfl, h1, h2, h3⟩ := seqA_ok n.wd q1 ex
      split at p
      · exact p.elim
      · rename_i d ed
        obtain ⟨j, ej, ed⟩ : ∃ j, ixN xs.length i = some j ∧ xs[j]? = some d := by
          unfold atI at ed
          cases q : ixN xs.length i with
          | none => rw [q] at ed; cases ed
          | some j => rw [q] at ed; exact ⟨j, rfl, ed⟩
        obtain ⟨z, g2, k1, k2, k3⟩ := h2.get ed
        have ea : atI as i = some z := by
          unfold atI
          rw [h2.len, ej]; exact k1
        have q := p ι1 H1 z g2 n k2 (f.sub (k3.trans (h3.trans (List.sublist_append_left _ _))))
        refine ⟨_, _, rfl, ?_⟩
        rcases h1 with h1 | h1
        · exact .inl ⟨a, as, i, z, rfl, rfl, h1, ea, q⟩
        · exact .inr (.inl ⟨a, as, i, z, rfl, rfl, h1, ea, q⟩)
  · exact p.elim

/-! ### list(x) -/
def fList : FB := fun _ ds A => match ds with
  | [x] => match seqA A x with
    | none => .bad
    | some xs => .ok (.new .lst xs) A
  | _ => .bad
theorem sf_list {T : Tb} : SF T (fun xs H Q => ∃ p ys, xs = [.ref p] ∧ (SqL T.K H p ys ∨ SqT T.K H p ys) ∧ ∀ l, H l = none → Q (.ref l) (upd H l (.lst ys))) fList := by
  intro b ι A H ι1 A1 H1 vs ds fp Q E w hb n r f p
  unfold fList at p
  split at p
  · rename_i x
    obtain ⟨v, rfl, q1⟩ := r.one_inv
    split at p
    · exact p.elim
    · rename_i xs ex
      obtain ⟨a, as, g1, rfl, h1, h2, h3⟩ := seqA_ok n.wd q1 ex
      exact ⟨a, as, rfl, h1, fun q hq => new_ok n h2 (f.sub h3) hq p⟩
  · exact p.elim

/-! ### == by data -/
def mapO {α β : Type} (f : α → Option β) : List α → Option (List β)
  | [] => some []
  | x :: r => match f x with
    | none => none
    | some y => match mapO f r with
      | none => none
      | some l => some (y :: l)
def toD (A : AH) : Nat → Vl → Option PyData
  | 0, _ => none
  | f + 1, d => match d with
    | .non => some .none
    | .bl k => some (.bool k)
    | .int i => some (.int i)
    | .str x => some (.str x)
    | .tup xs => match mapO (toD A f) xs with
      | none => none
      | some l => some (.tuple l)
    | d => match seqL A d with
      | none => none
      | some xs => match mapO (toD A f) xs with
        | none => none
        | some l => some (.list l)
section
variable {T : Tb} {ι : List Addr} {H : Hp} {A : AH}
theorem mapO_toD {f : Nat} (ih : ∀ (d : Vl) (v : V) (fp : List Addr) (e : PyData), Rp T ι H v d fp → toD A f d = some e → Dp T.K H v e) : ∀ (xs : List Vl) (vs : List V) (fp : List Addr) (l : List PyData), Rps T ι H vs xs fp → mapO (toD A f) xs = some l → DpAll T.K H vs l
  | [], _, _, _, h, e => by cases h; cases e; exact .nil
  | x :: r, _, _, _, h, e => by
    cases h with
    | cons h1 h2 =>
      unfold mapO at e
      split at e
      · cases e
      · rename_i y ey
        split at e
        · cases e
        · rename_i l el
          cases e
          exact .cons (ih x _ _ y h1 ey) (mapO_toD ih r _ _ l h2 el)
theorem toD_ok (w : Wd T ι A H) : ∀ (f : Nat) (d : Vl) (v : V) (fp : List Addr) (e : PyData), Rp T ι H v d fp → toD A f d = some e → Dp T.K H v e
  | 0, _, _, _, _, _, h => by cases h
  | f + 1, d, v, fp, e, r, h => by
    unfold toD at h
    split at h
    · cases r; cases h; exact .non
    · cases r; cases h; exact .bl _
    · cases r; cases h; exact .int _
    · cases r; cases h; exact .str _
    · split at h
      · cases h
      · rename_i l el
        cases h
        cases r with
        | tup h1 h2 => exact .tup h1 (mapO_toD (toD_ok w f) _ _ _ l h2 el)
    · split at h
      · cases h
      · rename_i xs ex
        split at h
        · cases h
        · rename_i l el
          cases h
          obtain ⟨a, as, g1, rfl, h1, h2, h3⟩ := seqL_ok w r ex
          exact .lst h1 (mapO_toD (toD_ok w f) _ _ _ l h2 el)
end
def fEqD (neg : Bool) : FB := fun _ ds A => match ds with
  | [.int i, .int j] => .ok (.bl (if neg = true then !decide (i = j) else decide (i = j))) A
  | [.bl i, .bl j] => .ok (.bl (if neg = true then !decide (i = j) else decide (i = j))) A
  | [x, y] => match toD A 8 x with
    | none => .bad
    | some d => match toD A 8 y with
      | none => .bad
      | some e => if SeqAt.shaped d = true ∧ SeqAt.shaped e = true then .ok (.bl (if neg = true then !PyData.eqv d e else PyData.eqv d e)) A else .bad
  | _ => .bad
def rEqA (K : PySem.W.Frag) (neg : Bool) : R2 := if neg = true then (fun x y H Q => rNe x y H Q ∨ rNeD K x y H Q) else (fun x y H Q => rEq x y H Q ∨ rEqD K x y H Q)
theorem sf_eq {T : Tb} : SF T (r2 fun x y H Q => rEq x y H Q ∨ rEqD T.K x y H Q) (fEqD false) := by
  intro b ι A H ι1 A1 H1 vs ds fp Q E w hb n r f p
  unfold fEqD at p
  split at p
  · rename_i i j
    obtain ⟨v, u, f1, f2, rfl, rfl, q1, q2⟩ := r.two_inv
    cases q1; cases q2
    refine ⟨_, _, rfl, .inl ⟨rfl, ?_⟩⟩
    have e : decide (V.int i = V.int j) = decide (i = j) := by simp
    rw [e]
    exact p ι1 H1 _ [] n (.bl _) .nil
  · rename_i i j
    obtain ⟨v, u, f1, f2, rfl, rfl, q1, q2⟩ := r.two_inv
    cases q1; cases q2
    refine ⟨_, _, rfl, .inl ⟨rfl, ?_⟩⟩
    have e : decide (V.bl i = V.bl j) = decide (i = j) := by simp
    rw [e]
    exact p ι1 H1 _ [] n (.bl _) .nil
  · rename_i x y _ _
    obtain ⟨v, u, f1, f2, rfl, rfl, q1, q2⟩ := r.two_inv
    split at p
    · exact p.elim
    · rename_i d ed
      split at p
      · exact p.elim
      · rename_i e ee
        split at p
        · rename_i hs
          exact ⟨_, _, rfl, .inr ⟨d, e, toD_ok n.wd 8 x v f1 d q1 ed, toD_ok n.wd 8 y u f2 e q2 ee, hs.1, hs.2, p ι1 H1 _ [] n (.bl _) .nil⟩⟩
        · exact p.elim
  · exact p.elim
theorem sf_ne {T : Tb} : SF T (r2 fun x y H Q => rNe x y H Q ∨ rNeD T.K x y H Q) (fEqD true) := by
  intro b ι A H ι1 A1 H1 vs ds fp Q E w hb n r f p
  unfold fEqD at p
  split at p
  · rename_i i j
    obtain ⟨v, u, f1, f2, rfl, rfl, q1, q2⟩ := r.two_inv
    cases q1; cases q2
    refine ⟨_, _, rfl, .inl ⟨rfl, ?_⟩⟩
    have e : decide (V.int i = V.int j) = decide (i = j) := by simp
    rw [e]
    exact p ι1 H1 _ [] n (.bl _) .nil
  · rename_i i j
    obtain ⟨v, u, f1, f2, rfl, rfl, q1, q2⟩ := r.two_inv
    cases q1; cases q2
    refine ⟨_, _, rfl, .inl ⟨rfl, ?_⟩⟩
    have e : decide (V.bl i = V.bl j) = decide (i = j) := by simp
    rw [e]
    exact p ι1 H1 _ [] n (.bl _) .nil
  · rename_i x y _ _
    obtain ⟨v, u, f1, f2, rfl, rfl, q1, q2⟩ := r.two_inv
    split at p
    · exact p.elim
    · rename_i d ed
      split at p
      · exact p.elim
      · rename_i e ee
        split at p
        · rename_i hs
          exact ⟨_, _, rfl, .inr ⟨d, e, toD_ok n.wd 8 x v f1 d q1 ed, toD_ok n.wd 8 y u f2 e q2 ee, hs.1, hs.2, p ι1 H1 _ [] n (.bl _) .nil⟩⟩
        · exact p.elim
  · exact p.elim
end Ab

set_option Elab.async false
set_option linter.all false
set_option maxRecDepth 100000
set_option maxHeartbeats 1000000
set_option autoImplicit false
/-! Ab5: more built-ins: sorted, list(range), isinstance, in, slices, append; calls. -/
namespace Ab
open PySem PySem.Spec PyProof.Rows L2

/-! ### sorted -/
def ins (x : Int) : List Int → List Int
  | [] => [x]
  | y :: r => if x ≤ y then x :: y :: r else y :: ins x r
def isort : List Int → List Int
  | [] => []
  | x :: r => ins x (isort r)
theorem ins_perm (x : Int) : ∀ l : List Int, (ins x l).Perm (x :: l)
  | [] => List.Perm.refl _
  | y :: r => by
    unfold ins
    split
    · exact List.Perm.refl _
    · exact ((ins_perm x r).cons y).trans (List.Perm.swap x y r)
theorem isort_perm : ∀ l : List Int, (isort l).Perm l
  | [] => List.Perm.refl _
  | x :: r => (ins_perm x (isort r)).trans ((isort_perm r).cons x)
theorem ins_sorted (x : Int) : ∀ l : List Int, l.Pairwise (· ≤ ·) → (ins x l).Pairwise (· ≤ ·)
  | [], _ => by unfold ins; exact List.pairwise_singleton _ _
  | y :: r, h => by
    unfold ins
    rw [List.pairwise_cons] at h
    split
    · rename_i hxy
      rw [List.pairwise_cons, List.pairwise_cons]
      exact ⟨fun z hz => by
        rcases List.mem_cons.mp hz with e | e
        · rw [e]; exact hxy
        · exact Int.le_trans hxy (h.1 z e), h.1, h.2⟩
    · rename_i hxy
      rw [List.pairwise_cons]
      refine ⟨fun z hz => ?_, ins_sorted x r h.2⟩
      rcases List.mem_cons.mp ((ins_perm x r).mem_iff.mp hz) with e | e
      · rw [e]; omega
      · exact h.1 z e
theorem isort_sorted : ∀ l : List Int, (isort l).Pairwise (· ≤ ·)
  | [] => List.Pairwise.nil
  | x :: r => ins_sorted x _ (isort_sorted r)
theorem isort_eq {a l : List Int} (p : a.Perm l) (s : a.Pairwise (· ≤ ·)) : isort l = a :=
  PySem.W.ksm_same ((isort_perm l).trans p.symm) (isort_sorted l) s
theorem rps_ints {T : Tb} {ι : List Addr} {H : Hp} : ∀ ns : List Int, Rps T ι H (ns.map V.int) (ns.map Vl.int) []
  | [] => .nil
  | n :: r => .cons (fp := []) (fq := []) (.int n) (rps_ints r)
def fSorted : FB := fInts fun ns => .new .lst ((isort ns).map Vl.int)
theorem sf_sorted {T : Tb} : SF T (rSortedI T.K) fSorted := by
  intro b ι A H ι1 A1 H1 vs ds fp Q E w hb n r f p
  unfold fSorted fInts at p
  split at p
  · rename_i x
    obtain ⟨v, rfl, q1⟩ := r.one_inv
    split at p
    · exact p.elim
    · rename_i xs ex
      obtain ⟨a, as, g1, rfl, h1, h2, h3⟩ := seqL_ok n.wd q1 ex
      split at p
      · exact p.elim
      · rename_i ns en
        rw [toInts_ok h2 en] at h1
        refine ⟨a, ns, rfl, h1, fun ns' q hp hs hq => ?_⟩
        rw [← isort_eq hp hs]
        exact new_ok n (rps_ints _) .nil hq p
  · exact p.elim

/-! ### list(range(..)) -/
def rgL (a b : Int) : List Vl := (List.range (b - a).toNat).map fun i => Vl.int (a + (i : Nat))
theorem rps_rg {T : Tb} {ι : List Addr} {H : Hp} (a b : Int) : Rps T ι H (rgV a b) (rgL a b) [] := by
  unfold rgV rgL
  have h : ∀ l : List Nat, Rps T ι H (l.map fun i => V.int (a + (i : Nat))) (l.map fun i => Vl.int (a + (i : Nat))) [] := fun l => by
    induction l with
    | nil => exact .nil
    | cons x r ih => exact .cons (fp := []) (fq := []) (.int _) ih
  exact h _
def fRgL : FB := fun _ ds A => match ds with
  | [.int i, .int j] => if 0 ≤ i ∧ j ≤ 100000 ∧ i ≤ 100000 ∧ -100000 ≤ j then .ok (.new .lst (rgL i j)) A else .bad
  | _ => .bad
def cRgL1 (c : CE) : CE := fun ρ A => (c ρ A).bind fun d A1 => fRgL ρ.b [.int 0, d] A1
section
variable {X : Cx} {T : Tb} {E : XE} {a e : Expr} {pos p q : Pos} {ca cb : CE}
theorem sf_rgL {b : Nat} {ι ι1 : List Addr} {A A1 : AH} {H H1 : Hp} {x y : Vl} {v w : V} {f1 f2 : List Addr} {Q : VK} (n : Nx T b ι A H ι1 A1 H1) (r1 : Rp T ι1 H1 v x f1) (r2 : Rp T ι1 H1 w y f2) (h : Po T b ι A H (fRgL b [x, y] A1) Q E) :
    ∃ i j, v = .int i ∧ w = .int j ∧ RgOk i j ∧ ∀ l, H1 l = none → Q (.ref l) (upd H1 l (.lst (rgV i j))) := by
  unfold fRgL at h
  split at h
  · rename_i i j e
    cases e
    cases r1; cases r2
    split at h
    · rename_i hc
      exact ⟨i, j, rfl, rfl, ⟨by omega, by omega, by omega, by omega, by omega⟩, fun l hl => new_ok n (rps_rg i j) .nil hl h⟩
    · exact h.elim
  · exact h.elim
theorem ge_listRg1 (hc : X.calm = true) (hgl : Gl X "list") (hml : X.mg "list" = none) (hgr : Gl X "range") (hmr : X.mg "range" = none) (ha : PE X a (tE T E ca)) {pr qr : Pos}
    (na : starEach [a] X.env = (false, eval a X.env) :: starEach [] X.env := by rfl) : PE X (.Call (.Name "list" p) [.Call (.Name "range" pr) [a] [] qr] [] q) (tE T E (cRgL1 ca)) :=
  PE.imp (pe_listRg hc hgl hml (prg_1 hgr hmr ha na) rfl) fun σ H Q h => by
    obtain ⟨ι, A, ρ, at0, p⟩ := h
    refine ⟨ι, A, ρ, at0, ?_⟩
    unfold cRgL1 at p
    cases e : ca ρ A with
    | bad => rw [e] at p; exact p
    | exc k A' => rw [e] at p; exact p
    | ok d A' =>
      rw [e] at p
      intro ι1 H1 v fp n rp f
      obtain ⟨i, j, e1, e2, hr, hq⟩ := sf_rgL n (.int 0) rp (show Po T ρ.b ι A H (fRgL ρ.b [.int 0, d] A') Q E from p)
      cases e1
      exact ⟨j, e2, hr, hq⟩
theorem ge_listRg2 {b : Expr} (hc : X.calm = true) (hgl : Gl X "list") (hml : X.mg "list" = none) (hgr : Gl X "range") (hmr : X.mg "range" = none) (ha : PE X a (tE T E ca)) (hb : PE X b (tE T E cb)) {pr qr : Pos}
    (na : starEach [a, b] X.env = (false, eval a X.env) :: starEach [b] X.env := by rfl) (nb : starEach [b] X.env = (false, eval b X.env) :: starEach [] X.env := by rfl) (hp : (backTo qr (starEach [b] X.env)).any (·.1) = false := by rfl) :
    PE X (.Call (.Name "list" p) [.Call (.Name "range" pr) [a, b] [] qr] [] q) (tE T E (cF2 fRgL ca cb)) :=
  PE.imp (pe_listRg hc hgl hml (prg_2 hgr hmr ha hb na nb hp) rfl) fun σ H Q h => by
    have z := tE_two (r := fun vs H Q => ∃ v w, vs = [v, w] ∧ ∃ i j, v = .int i ∧ w = .int j ∧ RgOk i j ∧ ∀ l, H l = none → Q (.ref l) (upd H l (.lst (rgV i j)))) (fun b ι A H ι1 A1 H1 vs ds fp Q E w hb n r f p => by
      by_cases hd : ∃ x y, ds = [x, y]
      · obtain ⟨x, y, rfl⟩ := hd
        obtain ⟨v, u, g1, g2, rfl, rfl, q1, q2⟩ := r.two_inv
        exact ⟨v, u, rfl, sf_rgL n q1 q2 p⟩
      · unfold fRgL at p
        split at p
        · exact absurd ⟨_, _, rfl⟩ hd
        · exact p.elim) h
    obtain ⟨ι, A, ρ, at0, p⟩ := z
    refine ⟨ι, A, ρ, at0, ?_⟩
    cases e : ca ρ A with
    | bad => rw [e] at p; exact p
    | exc k A' => rw [e] at p; exact p
    | ok d A' =>
      rw [e] at p
      intro ι1 H1 v fp n rp f
      obtain ⟨ι2, A2, ρ2, at2, p2⟩ := p ι1 H1 v fp n rp f
      refine ⟨ι2, A2, ρ2, at2, ?_⟩
      cases e2 : cb ρ2 A2 with
      | bad => rw [e2] at p2; exact p2
      | exc k A' => rw [e2] at p2; exact p2
      | ok d2 A3 =>
        rw [e2] at p2
        intro ι3 H3 w fq m rq g
        obtain ⟨v', w', e3, i, j, e4, e5, hr, hq⟩ := p2 ι3 H3 w fq m rq g
        cases e3
        exact ⟨i, j, e4, e5, hr, hq⟩
end

/-! ### isinstance with a built-in class -/
inductive Tg where
  | non | bl | int | str | lst | tup | dct
  deriving DecidableEq
def Tg.nm : Tg → String
  | .non => "NoneType" | .bl => "bool" | .int => "int" | .str => "str" | .lst => "list" | .tup => "tuple" | .dct => "dict"
def tgOf (A : AH) : Vl → Option Tg
  | .non => some .non
  | .bl _ => some .bl
  | .int _ => some .int
  | .str _ => some .str
  | .tup _ => some .tup
  | .rol _ => some .lst
  | .new .lst _ => some .lst
  | .new (.dct _) _ => some .dct
  | .loc n => match A[n]? with
    | some (.lst, _) => some .lst
    | some (.dct _, _) => some .dct
    | _ => none
  | _ => none
def isiB : Tg → Tg → Bool
  | .bl, .int => true
  | a, b => decide (a = b)
theorem kit_tab (t n : Tg) (h : n ≠ .non ∧ n ≠ .dct) : kitB t.nm n.nm = some (isiB t n) := by
  obtain ⟨h1, h2⟩ := h
  cases n <;> first | exact absurd rfl h1 | exact absurd rfl h2 | (cases t <;> decide +kernel)
def fIsi (n : Tg) : FB := fun _ ds A => match ds with
  | [x] => match tgOf A x with
    | none => .bad
    | some t => .ok (.bl (isiB t n)) A
  | _ => .bad
theorem tgOf_ok {T : Tb} {ι : List Addr} {A : AH} {H : Hp} {v : V} {d : Vl} {fp : List Addr} {t : Tg} (w : Wd T ι A H) (r : Rp T ι H v d fp) (e : tgOf A d = some t) : TyX T.K H v (.type t.nm) := by
  cases r with
  | non => cases e; exact .base .non
  | bl b => cases e; exact .base (.bl b)
  | int b => cases e; exact .base (.int b)
  | str b => cases e; exact .base (.str b)
  | fn _ => cases e
  | @loc n a hl =>
    simp only [tgOf] at e
    split at e
    · rename_i xs ha
      cases e
      obtain ⟨o, vs, q1, q2, q3⟩ := w.cel _ _ _ _ ha hl
      rw [show o = HO.lst vs from q2] at q1
      exact .base (.lst q1)
    · rename_i kvs xs ha
      cases e
      obtain ⟨o, vs, q1, q2, q3⟩ := w.cel _ _ _ _ ha hl
      rw [q2.2] at q1
      exact .base (.dK q1)
    · cases e
  | tup h1 h2 =>
    cases e
    rcases h1 with (h | ⟨o, h⟩) | ⟨o, its, n, h, h', _⟩
    · exact .base (.tup h)
    · exact .fTuple h
    · exact .kTuple h h'
  | rol h1 h2 =>
    cases e
    rcases h1 with ⟨o, h⟩ | ⟨o, its, n, h, h', _⟩
    · exact .base (.frz h)
    · exact .kList h h'
  | @new a k o vs xs fp h1 h2 h3 =>
    cases k with
    | lst =>
      cases e
      rw [show o = HO.lst vs from h2] at h1
      exact .base (.lst h1)
    | dct kvs =>
      cases e
      rw [h2.2] at h1
      exact .base (.dK h1)
    | obj c => cases e
theorem sf_isi {T : Tb} {n : Tg} (hn : n ≠ .non ∧ n ≠ .dct) : SF T (fun vs H Q => ∃ v, vs = [v] ∧ rIsi T.K [v, .ty n.nm] H Q) (fIsi n) := by
  intro b ι A H ι1 A1 H1 vs ds fp Q E w hb x r f p
  unfold fIsi at p
  split at p
  · rename_i d
    obtain ⟨v, rfl, q1⟩ := r.one_inv
    split at p
    · exact p.elim
    · rename_i t et
      exact ⟨v, rfl, v, .ty n.nm, .type t.nm, .type n.nm, isiB t n, rfl, .ty _, tgOf_ok x.wd q1 et, kit_ty (kit_tab t n hn), p ι1 H1 _ [] x (.bl _) .nil⟩
  · exact p.elim
theorem ge_isi {X : Cx} {T : Tb} {E : XE} {a : Expr} {ca : CE} {pos p q : Pos} {x : Str} (n : Tg) (hK : T.K = X.K) (hn : n ≠ .non ∧ n ≠ .dct) (hg : Gl X "isinstance") (hm : X.mg "isinstance" = none) (hg2 : Gl X x) (hm2 : X.mg x = none) (hv : bootBuiltins x = some (.type n.nm)) (ha : PE X a (tE T E ca)) (hx : x ≠ "__name__") (hxd : (x == ("__debug__" : Str)) = false)
    (hb : bootBuiltins "isinstance" = some (.builtin "isinstance"))
    (hs : starEach [a, .Name x q] X.env = (false, eval a X.env) :: starEach [.Name x q] X.env := by rfl) : PE X (.Call (.Name "isinstance" p) [a, .Name x q] [] pos) (tE T E (cF1 (fIsi n) ca)) := by
  refine PE.imp (pe_callB call_isi hg hm hb (pa_cons ha (pa_cons (pe_bltn (v := .ty n.nm) hg2 hm2 hv rfl hx hxd) pa_nil) hs) (by decide) (by decide) hs) fun σ H Q h => ?_
  have z := tE_one (sf_isi hn) h
  rw [hK] at z
  obtain ⟨ι, A, ρ, at0, p⟩ := z
  refine ⟨ι, A, ρ, at0, ?_⟩
  cases e : ca ρ A with
  | bad => rw [e] at p; exact p
  | exc k A' => rw [e] at p; exact p
  | ok d A' =>
    rw [e] at p
    intro ι1 H1 v fp n rp f
    obtain ⟨v', e1, z⟩ := p ι1 H1 v fp n rp f
    cases e1
    exact z

/-! ### in -/
def sc : Vl → Option V
  | .non => some .non
  | .bl b => some (.bl b)
  | .int b => some (.int b)
  | .str b => some (.str b)
  | _ => none
def fIn (neg : Bool) : FB := fun _ ds A => match ds with
  | [x, y] => match seqA A y with
    | none => .bad
    | some xs => match sc x, mapO sc xs with
      | some v, some vs => .ok (.bl (if neg then !inV v vs else inV v vs)) A
      | _, _ => match toD A 8 x, toD A 8 y with
        | some d, some (.list l) => if SeqAt.shaped d = true ∧ SeqAt.shaped (.list l) = true then .ok (.bl (if neg then !l.any (fun z => PyData.eqv z d) else l.any (fun z => PyData.eqv z d))) A else .bad
        | _, _ => .bad
  | _ => .bad
section
variable {T : Tb} {ι : List Addr} {H : Hp} {A : AH}
theorem sc_ok {d : Vl} {v u : V} {fp : List Addr} (r : Rp T ι H v d fp) (e : sc d = some u) : v = u ∧ flatV u = true := by
  cases r <;> first | (cases e; exact ⟨rfl, rfl⟩) | cases e
theorem scs_ok : ∀ {xs : List Vl} {vs us : List V} {fp : List Addr}, Rps T ι H vs xs fp → mapO sc xs = some us → vs = us ∧ us.all flatV = true
  | [], _, _, _, h, e => by cases h; cases e; exact ⟨rfl, rfl⟩
  | x :: r, _, _, _, h, e => by
    cases h with
    | cons h1 h2 =>
      unfold mapO at e
      split at e
      · cases e
      · rename_i y ey
        split at e
        · cases e
        · rename_i l el
          cases e
          obtain ⟨rfl, q1⟩ := sc_ok h1 ey
          obtain ⟨rfl, q2⟩ := scs_ok h2 el
          exact ⟨rfl, by rw [List.all_cons, q1, q2]; rfl⟩
end
def rInA (K : PySem.W.Frag) (neg : Bool) : R2 := fun x y H Q => rIn K neg x y H Q ∨ ∃ d ds, Dp K H x d ∧ Dp K H y (.list ds) ∧ SeqAt.shaped d = true ∧ SeqAt.shaped (.list ds) = true ∧ Q (.bl (if neg then !ds.any (fun z => PyData.eqv z d) else ds.any fun z => PyData.eqv z d)) H
theorem op_inA {X : Cx} (hu : X.A.units + 65 < cLine) : OpR X (compareOp .In) (rInA X.K false) := op_or op_in_seq (op_inD hu)
theorem op_notInA {X : Cx} (hu : X.A.units + 65 < cLine) : OpR X (compareOp .NotIn) (rInA X.K true) := op_or op_notIn_seq (op_notInD hu)
theorem sf_in {T : Tb} {neg : Bool} : SF T (r2 (rInA T.K neg)) (fIn neg) := by
  intro b ι A H ι1 A1 H1 vs ds fp Q E w hb n r f p
  unfold fIn at p
  split at p
  · rename_i x y
    obtain ⟨v, u, f1, f2, rfl, rfl, q1, q2⟩ := r.two_inv
    split at p
    · exact p.elim
    · rename_i xs ex
      split at p
      · rename_i v' vs' ev evs
        obtain ⟨a, as, g1, rfl, h1, h2, h3⟩ := seqA_ok n.wd q2 ex
        obtain ⟨rfl, fl⟩ := sc_ok q1 ev
        obtain ⟨rfl, fls⟩ := scs_ok h2 evs
        exact ⟨_, _, rfl, .inl ⟨a, _, rfl, h1, fl, fls, p ι1 H1 _ [] n (.bl _) .nil⟩⟩
      · split at p
        · rename_i d l ed el
          split at p
          · rename_i hs
            exact ⟨_, _, rfl, .inr ⟨d, l, toD_ok n.wd 8 x v f1 d q1 ed, toD_ok n.wd 8 y u f2 _ q2 el, hs.1, hs.2, p ι1 H1 _ [] n (.bl _) .nil⟩⟩
          · exact p.elim
        · exact p.elim
  · exact p.elim

/-! ### slices -/
def cut {α : Type} (xs : List α) (lo hi : Option Int) : List α := (xs.drop (HT.sIx xs.length 0 lo)).take (HT.sIx xs.length xs.length hi - HT.sIx xs.length 0 lo)
def cPart (c : Option CE) : Ev → AH → Res (Option Int) := fun ρ A => match c with
  | none => .ok none A
  | some c => (c ρ A).bind fun d A1 => match d with
    | .int i => .ok (some i) A1
    | _ => .bad
def fCut (x : Vl) (lo hi : Option Int) (A : AH) : Res Vl := match seqL A x with
  | none => .bad
  | some xs => .ok (.new .lst (cut xs lo hi)) A
def cSl (c : CE) (lo hi : Option CE) : CE := fun ρ A => (c ρ A).bind fun x A1 => (cPart lo ρ A1).bind fun l A2 => (cPart hi ρ A2).bind fun h A3 => fCut x l h A3
inductive PPart (X : Cx) (T : Tb) (E : XE) : Option Expr → Option CE → Prop
  | none : PPart X T E Option.none Option.none
  | some {e : Expr} {c : CE} (h : PE X e (tE T E c)) : PPart X T E (Option.some e) (Option.some c)
def tO (T : Tb) (E : XE) (c : Option CE) : TO := fun σ H Q => ∃ ι A ρ, At T σ H ι A ρ ∧ match cPart c ρ A with
  | .ok i A' => ∀ ι' H', Nx T ρ.b ι A H ι' A' H' → Q i H'
  | .exc k A' => ∀ ι' H', Nx T ρ.b ι A H ι' A' H' → E k H'
  | .bad => False
theorem PPart.po {X : Cx} {T : Tb} {E : XE} {e : Option Expr} {c : Option CE} (h : PPart X T E e c) : PO X e (tO T E c) := by
  cases h with
  | none =>
    refine ⟨fun pins s σ H Q I h => po_none.run pins s σ H Q I ?_⟩
    obtain ⟨ι, A, ρ, a, p⟩ := h
    exact p ι H (.refl a.wd)
  | some h =>
    refine ⟨fun pins s σ H Q I q => (po_some h).run pins s σ H Q I ?_⟩
    obtain ⟨ι, A, ρ, a, p⟩ := q
    refine ⟨ι, A, ρ, a, ?_⟩
    rename_i e' c'
    unfold cPart at p
    dsimp only at p
    cases ec : c' ρ A with
    | bad => rw [ec] at p; exact p
    | exc k A' => rw [ec] at p; exact p
    | ok d A' =>
      rw [ec] at p
      intro ι1 H1 v fp n rp f
      cases d with
      | int i => cases rp; exact ⟨i, rfl, p ι1 H1 n⟩
      | _ => exact False.elim p
theorem ge_sl {X : Cx} {T : Tb} {E : XE} {a : Expr} {ca : CE} {lo hi : Option Expr} {clo chi : Option CE} {p2 pos : Pos} (hK : T.K = X.K) (ha : PE X a (tE T E ca)) (hl : PPart X T E lo clo) (hh : PPart X T E hi chi) : PE X (.Subscript a (.Slice lo hi none p2) pos) (tE T E (cSl ca clo chi)) :=
  PE.imp (pe_slice sl_list ha hl.po hh.po) fun σ H Q q => by
    obtain ⟨ι, A, ρ, at0, p⟩ := q
    refine ⟨ι, A, ρ, at0, ?_⟩
    unfold cSl at p
    cases e : ca ρ A with
    | bad => rw [e] at p; exact p
    | exc k A' => rw [e] at p; exact p
    | ok d A' =>
      rw [e] at p
      intro ι1 H1 v fp n rp f
      refine ⟨ι1, A', ρ, at0.next n, ?_⟩
      have p : Po T ρ.b ι A H ((cPart clo ρ A').bind fun l A2 => (cPart chi ρ A2).bind fun h A3 => fCut d l h A3) Q E := p
      cases e2 : cPart clo ρ A' with
      | bad => rw [e2] at p; exact p
      | exc k A2 => rw [e2] at p; exact fun ι' H' m => p ι' H' (n.trans m)
      | ok l A2 =>
        rw [e2] at p
        intro ι2 H2 n2
        refine ⟨ι2, A2, ρ, (at0.next n).next n2, ?_⟩
        have p : Po T ρ.b ι A H ((cPart chi ρ A2).bind fun h A3 => fCut d l h A3) Q E := p
        cases e3 : cPart chi ρ A2 with
        | bad => rw [e3] at p; exact p
        | exc k A3 => rw [e3] at p; exact fun ι' H' m => p ι' H' ((n.trans n2).trans m)
        | ok h A3 =>
          rw [e3] at p
          intro ι3 H3 n3
          have p : Po T ρ.b ι A H (fCut d l h A3) Q E := p
          unfold fCut at p
          split at p
          · exact p.elim
          · rename_i xs ex
            obtain ⟨rp3, f3⟩ := Rps.next (H := H) n.wd (n2.trans n3) (Rps.one rp) f (Rp.dom d v fp rp)
            obtain ⟨v', ev, rp3⟩ := rp3.one_inv
            cases ev
            obtain ⟨c, cs, g1, rfl, h1, h2, h3⟩ := seqL_ok n3.wd rp3 ex
            rw [hK] at h1
            refine ⟨c, cs, rfl, h1, fun q hq => ?_⟩
            obtain ⟨g2, k1, k2⟩ := h2.drop (HT.sIx xs.length 0 l)
            obtain ⟨g3, k3, k4⟩ := k1.takeN (HT.sIx xs.length xs.length h - HT.sIx xs.length 0 l)
            have ecut : cutV cs l h = (cs.drop (HT.sIx xs.length 0 l)).take (HT.sIx xs.length xs.length h - HT.sIx xs.length 0 l) := by
              unfold cutV; rw [h2.len]
            rw [ecut]
            exact new_ok ((n.trans n2).trans n3) k3 (f3.sub (k4.trans (k2.trans h3))) hq p
end Ab

set_option Elab.async false
set_option linter.all false
set_option maxRecDepth 100000
set_option maxHeartbeats 1000000
set_option autoImplicit false
/-! Ab6: stores, append; calls and defs. -/
namespace Ab
open PySem PySem.Spec PyProof.Rows L2

section
variable {T : Tb} {ι ι0 ι1 : List Addr} {H H0 H1 : Hp} {A A0 A1 : AH} {b : Nat}
mutual
theorem lt_mono {m n : Nat} (h : m ≤ n) : ∀ d : Vl, lt m d = true → lt n d = true
  | .non, _ => rfl
  | .bl _, _ => rfl
  | .int _, _ => rfl
  | .str _, _ => rfl
  | .fn _, _ => rfl
  | .loc k, e => by rw [lt] at e ⊢; exact decide_eq_true (Nat.lt_of_lt_of_le (of_decide_eq_true e) h)
  | .tup xs, e => by rw [lt] at e ⊢; exact lts_mono h xs e
  | .rol xs, e => by rw [lt] at e ⊢; exact lts_mono h xs e
  | .new _ xs, e => by rw [lt] at e ⊢; exact lts_mono h xs e
theorem lts_mono {m n : Nat} (h : m ≤ n) : ∀ xs : List Vl, lts m xs = true → lts n xs = true
  | [], _ => rfl
  | x :: r, e => by
    rw [lts, Bool.and_eq_true] at e ⊢
    exact ⟨lt_mono h x e.1, lts_mono h r e.2⟩
end
theorem lts_append {n : Nat} : ∀ {xs ys : List Vl}, lts n (xs ++ ys) = (lts n xs && lts n ys)
  | [], ys => by simp [lts]
  | x :: xs, ys => by simp [lts, lts_append, Bool.and_assoc]
/-- a cell is changed -/
theorem Nx.store {l : Nat} {a : Addr} {k : Kd} {xs : List Vl} {k' : Kd} {xs' : List Vl} {o' : HO} {vs' : List V} (n : Nx T b ι0 A0 H0 ι1 A1 H1) (hA : A1[l]? = some (k, xs)) (ha : ι1[l]? = some a) (h2 : KOk T k' vs' o') (h3 : Rps T ι1 H1 vs' xs' [])
    (hcl : ∀ m, l < m → m ≤ b → lts m xs = true → lts m xs' = true) : Nx T b ι0 A0 H0 ι1 (A1.set l (k', xs')) (L2.upd H1 a o') := by
  obtain ⟨o, vs, q1, q2, q3⟩ := n.wd.cel l k xs a hA ha
  have hl : l < A1.length := (List.getElem?_eq_some_iff.mp hA).1
  have hi : imm o = false := q2.mut
  have e1 : Ext ι1 H1 ι1 (L2.upd H1 a o') := ⟨⟨[], by simp, by simp⟩, fun c u hc _ hk => by
    have hca : c ≠ a := fun z => by
      subst z
      rcases hk with hk | hk
      · exact hk (List.mem_of_getElem? ha)
      · rw [q1] at hc; cases hc; rw [hi] at hk; cases hk
    rw [upd_ne hca]; exact hc, fun c u hc => by
    by_cases hca : c = a
    · subst hca; exact ⟨o', upd_same⟩
    · exact ⟨u, by rw [upd_ne hca]; exact hc⟩⟩
  have tk : LamX.Tabs T.tabs (L2.upd H1 a o') := tab_keeps (fun c u hc hk => by
    have hca : c ≠ a := fun z => by
      subst z
      rw [q1] at hc; cases hc
      rcases hk with hk | hk
      · rw [hi] at hk; cases hk
      · rw [q2.nt] at hk; cases hk
    rw [upd_ne hca]; exact hc) n.wd.x.tab
  refine ⟨⟨by rw [List.length_set]; exact n.wd.len, n.wd.nd, fun j kj ys c e f => ?_, n.wd.x.ext e1 tk⟩, n.ext.trans e1, fun m hm z => ?_⟩
  · by_cases hj : l = j
    · subst hj
      rw [List.getElem?_set_self hl] at e
      cases e
      rw [ha] at f; cases f
      exact ⟨o', vs', upd_same, h2, Rps.mono e1 _ _ _ h3 (by simp)⟩
    · rw [List.getElem?_set_ne hj] at e
      obtain ⟨u, us, p1, p2, p3⟩ := n.wd.cel j kj ys c e f
      have hca : c ≠ a := fun z => by
        subst z
        obtain ⟨l1, _⟩ := List.getElem?_eq_some_iff.mp ha
        exact hj ((List.getElem?_inj l1 n.wd.nd).mp (ha.trans f.symm))
      exact ⟨u, us, by rw [upd_ne hca]; exact p1, p2, Rps.mono e1 _ _ _ p3 (by simp)⟩
  · intro j kj ys hj e
    by_cases hjl : l = j
    · subst hjl
      rw [List.getElem?_set_self hl] at e
      cases e
      exact hcl m hj hm (n.cl m hm z l k xs hj hA)
    · rw [List.getElem?_set_ne hjl] at e
      exact n.cl m hm z j kj ys hj e
/-- new things get their places -/
theorem Nx.boxed {ds : List Vl} {vs : List V} {fp : List Addr} (hb : b ≤ A1.length) (n : Nx T b ι0 A0 H0 ι1 A1 H1) (r : Rps T ι1 H1 vs ds fp) (f : Fr H0 ι1 fp) :
    Nx T b ι0 A0 H0 (ι1 ++ fp) (boxs ds A1).2 H1 ∧ Rps T (ι1 ++ fp) H1 vs (boxs ds A1).1 [] ∧ ∃ ex, (boxs ds A1).2 = A1 ++ ex := by
  obtain ⟨q1, q2, ex, q3⟩ := boxs_ok ds vs fp ι1 A1 n.wd r f.1 f.off
  refine ⟨⟨q1, ?_, fun m hm z => (n.cl m hm z).pre fun j hj => ?_⟩, q2, ex, q3⟩
  · obtain ⟨nw, e, hn⟩ := n.ext.pre
    refine ⟨⟨nw ++ fp, by rw [e, List.append_assoc], fun a ha => ?_⟩, n.ext.keep, n.ext.dom⟩
    rcases List.mem_append.mp ha with z | z
    · exact hn a z
    · exact (f.2 a z).1
  · rw [q3, List.getElem?_append_left (by omega)]
theorem Nx.boxed1 {d : Vl} {v : V} {fp : List Addr} (hb : b ≤ A1.length) (n : Nx T b ι0 A0 H0 ι1 A1 H1) (r : Rp T ι1 H1 v d fp) (f : Fr H0 ι1 fp) :
    Nx T b ι0 A0 H0 (ι1 ++ fp) (box d A1).2 H1 ∧ Rp T (ι1 ++ fp) H1 v (box d A1).1 [] ∧ ∃ ex, (box d A1).2 = A1 ++ ex := by
  obtain ⟨q1, q2, ex, q3⟩ := box_ok d v fp ι1 A1 n.wd r f.1 f.off
  refine ⟨⟨q1, ?_, fun m hm z => (n.cl m hm z).pre fun j hj => ?_⟩, q2, ex, q3⟩
  · obtain ⟨nw, e, hn⟩ := n.ext.pre
    refine ⟨⟨nw ++ fp, by rw [e, List.append_assoc], fun a ha => ?_⟩, n.ext.keep, n.ext.dom⟩
    rcases List.mem_append.mp ha with z | z
    · exact hn a z
    · exact (f.2 a z).1
  · rw [q3, List.getElem?_append_left (by omega)]
/-- cut back -/
theorem Nx.cut {n : Nat} (w0 : Wd T ι0 A0 H0) (x : Nx T b ι0 A0 H0 ι1 A1 H1) (hb : b ≤ n) (h0 : A0.length ≤ n) (c : CL n A1) : Nx T b ι0 A0 H0 (ι1.take n) (A1.take n) H1 := by
  by_cases hn : A1.length ≤ n
  · rw [List.take_of_length_le hn, List.take_of_length_le (by rw [x.wd.len]; exact hn)]
    exact x
  · obtain ⟨nw, en, fn⟩ := x.ext.pre
    have hl : ι0.length ≤ n := by rw [w0.len]; exact h0
    have et : ι1.take n = ι0 ++ nw.take (n - ι0.length) := by rw [en, List.take_append, List.take_of_length_le hl]
    have ee : Ext ι0 H0 (ι1.take n) H1 := ⟨⟨_, et, fun a ha => fn a (List.mem_of_mem_take ha)⟩, x.ext.keep, x.ext.dom⟩
    exact ⟨x.wd.take c (by omega) (w0.x.ext ee x.wd.x.tab), ee, fun m hm z => (x.cl m hm z).pre fun j hj => by rw [List.getElem?_take_of_lt (by omega)]⟩
end

/-! ### list methods -/
def cM (F : FB) (co : CE) (cs : CA) : CE := fun ρ A => (co ρ A).bind fun x A1 => match seqL A1 x with
  | none => .bad
  | some _ => (cs ρ A1).bind fun ds A2 => F ρ.b (x :: ds) A2
def cM0 (F : FB) (co : CE) : CE := fun ρ A => (co ρ A).bind fun x A1 => match seqL A1 x with
  | none => .bad
  | some _ => F ρ.b [x] A1
def rM (r : V → List V → Hp → VK → Prop) : List V → Hp → VK → Prop := fun vs H Q => ∃ x xs, vs = x :: xs ∧ r x xs H Q
theorem ge_m {X : Cx} {T : Tb} {E : XE} {F : FB} {o e : Expr} {es : List Expr} {co : CE} {cs : CA} {name : Str} {apos cpos : Pos} {id : String} {r : V → List V → Hp → VK → Prop} (hK : T.K = X.K) (slot : Slot "list" name id) (hty : typeOf (.builtin id) = pure (.type "method_descriptor")) (hm : MtR X id r) (hf : SF T (rM r) F)
    (ho : PE X o (tE T E co)) (ha : PA X (e :: es) (tA T E cs)) (hbase : attributeBase o name X.env (eval o X.env) = eval o X.env := by rfl)
    (hfew : ((backTo cpos (starEach (e :: es) X.env)).all (fun x => !x.1) && (backToKw cpos (keywordEach [] X.env)).all (fun x => x.1.isSome)
      && decide ((e :: es).length + ([] : List Keyword).length + (if ([] : List Keyword).isEmpty then 0 else 1) < 30)) = true := by rfl)
    (hline : (apos.endLine == cpos.line) = true := by rfl) (hs : starEach (e :: es) X.env = (false, eval e X.env) :: starEach es X.env := by rfl) (hplain : (backTo cpos (starEach es X.env)).any (·.1) = false := by rfl) :
    PE X (.Call (.Attribute o name apos) (e :: es) [] cpos) (tE T E (cM F co cs)) :=
  PE.imp (pe_bm PySem.F.plainAttrs_list slot hty hm ho ha hbase hfew hline hs hplain) fun σ H Q q => by
    obtain ⟨ι, A, ρ, at0, p⟩ := q
    refine ⟨ι, A, ρ, at0, ?_⟩
    unfold cM at p
    cases e1 : co ρ A with
    | bad => rw [e1] at p; exact p
    | exc k A' => rw [e1] at p; exact p
    | ok d A' =>
      rw [e1] at p
      intro ι1 H1 v fp n rp f
      simp only [Res.bind] at p
      split at p
      · exact p.elim
      · rename_i xs ex
        obtain ⟨c, vs, g, e2, h1, h2, h3⟩ := seqL_ok n.wd rp ex
        cases e2
        rw [hK] at h1
        refine ⟨.inl ⟨rfl, vs, h1⟩, ι1, A', ρ, at0.next n, ?_⟩
        cases e3 : cs ρ A' with
        | bad => rw [e3] at p; exact p
        | exc k A2 => rw [e3] at p; exact fun ι' H' m => p ι' H' (n.trans m)
        | ok ds A2 =>
          rw [e3] at p
          intro ι2 H2 ws fq m rq g
          have hd := Rp.dom d _ fp rp
          obtain ⟨rp2, f2⟩ := Rps.next (H := H) n.wd m (Rps.one rp) f hd
          obtain ⟨v', ev, rp2⟩ := rp2.one_inv
          cases ev
          obtain ⟨x', xs', ex, z⟩ := hf ρ.b ι A H ι2 A2 H2 _ _ _ Q E at0.wd at0.bl (n.trans m) (Rps.cons rp2 rq) (f2.app g n.ext hd) p
          cases ex
          exact z
theorem ge_m0 {X : Cx} {T : Tb} {E : XE} {F : FB} {o : Expr} {co : CE} {name : Str} {apos cpos : Pos} {id : String} {r : V → List V → Hp → VK → Prop} (hK : T.K = X.K) (slot : Slot "list" name id) (hty : typeOf (.builtin id) = pure (.type "method_descriptor")) (hm : MtR X id r) (hf : SF T (rM r) F)
    (ho : PE X o (tE T E co)) (hbase : attributeBase o name X.env (eval o X.env) = eval o X.env := by rfl) (hline : (apos.endLine == cpos.line) = true := by rfl) :
    PE X (.Call (.Attribute o name apos) [] [] cpos) (tE T E (cM0 F co)) :=
  PE.imp (pe_bm0 PySem.F.plainAttrs_list slot hty hm ho hbase hline) fun σ H Q q => by
    obtain ⟨ι, A, ρ, at0, p⟩ := q
    refine ⟨ι, A, ρ, at0, ?_⟩
    unfold cM0 at p
    cases e1 : co ρ A with
    | bad => rw [e1] at p; exact p
    | exc k A' => rw [e1] at p; exact p
    | ok d A' =>
      rw [e1] at p
      intro ι1 H1 v fp n rp f
      simp only [Res.bind] at p
      split at p
      · exact p.elim
      · rename_i xs ex
        obtain ⟨c, vs, g, e2, h1, h2, h3⟩ := seqL_ok n.wd rp ex
        cases e2
        rw [hK] at h1
        refine ⟨.inl ⟨rfl, vs, h1⟩, ?_⟩
        obtain ⟨x', xs', ex, z⟩ := hf ρ.b ι A H ι1 A' H1 _ _ _ Q E at0.wd at0.bl n (Rps.one rp) f p
        cases ex
        exact z
/-- what may be put into a cell -/
def mayPut (b l : Nat) (d : Vl) : Bool := decide (b ≤ l) || lt l d
def fAppend : FB := fun b ds A => match ds with
  | [.loc l, y] => match (box y A).2[l]? with
    | some (.lst, xs) => if xs.length < 100000 ∧ mayPut b l (box y A).1 = true then .ok .non ((box y A).2.set l (.lst, xs ++ [(box y A).1])) else .bad
    | _ => .bad
  | _ => .bad
theorem sf_append {T : Tb} : SF T (rM rAppend) fAppend := by
  intro b ι A H ι1 A1 H1 vs ds fp Q E w hb n r f p
  unfold fAppend at p
  split at p
  · rename_i l y
    obtain ⟨v, u, f1, f2, rfl, rfl, q1, q2⟩ := r.two_inv
    cases q1 with
    | @loc _ a hl =>
      rw [List.nil_append] at f
      split at p
      · rename_i xs ex
        split at p
        · rename_i hc
          have hb1 : b ≤ A1.length := Nat.le_trans hb (n.le w)
          obtain ⟨n2, rp2, ey, eA⟩ := n.boxed1 hb1 q2 f
          have ha : (ι1 ++ f2)[l]? = some a := by
            rw [List.getElem?_append_left (List.getElem?_eq_some_iff.mp hl).1]; exact hl
          obtain ⟨o, us, z1, z2, z3⟩ := n2.wd.cel l _ xs a ex ha
          rw [show o = HO.lst us from z2] at z1
          refine ⟨_, _, rfl, a, us, u, rfl, rfl, z1, by rw [z3.len]; exact size_lt hc.1, ?_⟩
          have n3 := n2.store (k' := .lst) (xs' := xs ++ [(box y A1).1]) (o' := .lst (us ++ [u])) (vs' := us ++ [u]) ex ha rfl (by
            have := z3.append (Rps.one rp2)
            exact this) (fun m hm hmb hx => by
            rw [lts_append, hx]
            have hmp := hc.2
            unfold mayPut at hmp
            rw [Bool.or_eq_true] at hmp
            rcases hmp with q | q
            · have := of_decide_eq_true q
              omega
            · simp [lts, lt_mono (Nat.le_of_lt hm) _ q])
          exact p _ _ _ [] n3 .non .nil
        · exact p.elim
      · exact p.elim
  · exact p.elim

/-! ### defs and calls -/
abbrev Fn := List Vl → AH → Res Vl
def fin (n : Nat) : SR → Res Vl
  | .nx _ A => gc n .non A
  | .rt d A => gc n d A
  | .exc c A => .exc c (A.take n)
  | .bad => .bad
def mkFn (k : Nat) (body : CS) : Fn := fun ds A => fin A.length (body ⟨A.length, ds.map some ++ List.replicate (k - ds.length) none⟩ A)
def back (n : Nat) : Res Vl → Res Vl
  | .ok d A => gc n d A
  | .exc c A => .exc c (A.take n)
  | .bad => .bad
def callF (f : Fn) (ds : List Vl) (A : AH) : Res Vl := back A.length (f (boxs ds A).1 (boxs ds A).2)
def cCall (f : Fn) (cs : CA) : CE := fun ρ A => (cs ρ A).bind fun ds A1 => callF f ds A1
def spF (T : Tb) (f : Fn) (np : Nat) : Sp := fun vs H Q E => vs.length = np ∧ ∃ ι A ds, Wd T ι A H ∧ Rps T ι H vs ds [] ∧ Po T A.length ι A H (f ds A) Q fun c H' => E (.ref (T.C c)) none H'
/-- without exceptions -/
def spF0 (T : Tb) (f : Fn) (np : Nat) : Sp := fun vs H Q _ => spF T f np vs H Q fun _ _ _ => False
theorem callF_ok {T : Tb} {f : Fn} {np b : Nat} {ι0 ι1 : List Addr} {A0 A1 : AH} {H0 H1 : Hp} {ds : List Vl} {vs : List V} {fp : List Addr} {Q : VK} {E : XE} {EX : XK} (w0 : Wd T ι0 A0 H0) (hb : b ≤ A0.length) (n : Nx T b ι0 A0 H0 ι1 A1 H1) (r : Rps T ι1 H1 vs ds fp) (fr : Fr H0 ι1 fp)
    (hE : ∀ c H, E c H → EX (.ref (T.C c)) none H) (hl : vs.length = np) (p : Po T b ι0 A0 H0 (callF f ds A1) Q E) : spF T f np vs H1 Q EX := by
  have hb1 : b ≤ A1.length := Nat.le_trans hb (n.le w0)
  obtain ⟨n2, r2, ex, e2⟩ := n.boxed hb1 r fr
  refine ⟨hl, ι1 ++ fp, (boxs ds A1).2, (boxs ds A1).1, n2.wd, r2, ?_⟩
  unfold callF at p
  have hlen : A1.length ≤ (boxs ds A1).2.length := by rw [e2, List.length_append]; omega
  have cl2 : CL A1.length (boxs ds A1).2 := n.wd.cl.pre fun j hj => by rw [e2, List.getElem?_append_left hj]
  cases e : f (boxs ds A1).1 (boxs ds A1).2 with
  | bad => rw [e] at p; exact p
  | exc c A3 =>
    rw [e] at p
    intro ι3 H3 m
    have n3 : Nx T b ι0 A0 H0 ι3 A3 H3 := ⟨m.wd, n2.ext.trans m.ext, fun k hk z => m.cl k (by omega) (n2.cl k hk z)⟩
    exact hE c H3 (p _ _ (n3.cut w0 hb1 (n.le w0) (m.cl _ hlen cl2)))
  | ok d A3 =>
    rw [e] at p
    intro ι3 H3 v fq m rv g
    have n3 : Nx T b ι0 A0 H0 ι3 A3 H3 := ⟨m.wd, n2.ext.trans m.ext, fun k hk z => m.cl k (by omega) (n2.cl k hk z)⟩
    obtain ⟨d2, A4, ι4, fz, eg, n4, r4, f4⟩ := gc_ok w0 n3 hb1 (n.le w0) (m.cl _ hlen cl2) rv (g.back n2.ext)
    have p : Po T b ι0 A0 H0 (gc A1.length d A3) Q E := p
    rw [eg] at p
    exact p ι4 H3 v fz n4 r4 f4
theorem Rps.leng {T : Tb} {ι : List Addr} {H : Hp} {ds : List Vl} {vs : List V} {fp : List Addr} (r : Rps T ι H vs ds fp) : vs.length = ds.length := r.len
/-- the arguments' number, by the code -/
def argN (k : Nat) (cs : CA) : Prop := ∀ ρ A ds A', cs ρ A = .ok ds A' → ds.length = k
theorem argN_nil : argN 0 cNil := fun _ _ _ _ e => by cases e; rfl
theorem argN_cons {k : Nat} {c : CE} {cs : CA} (h : argN k cs) : argN (k + 1) (cCons c cs) := fun ρ A ds A' e => by
  unfold cCons at e
  cases e1 : c ρ A with
  | bad => rw [e1] at e; cases e
  | exc _ _ => rw [e1] at e; cases e
  | ok d A1 =>
    rw [e1] at e
    simp only [Res.bind] at e
    cases e2 : cs ρ A1 with
    | bad => rw [e2] at e; cases e
    | exc _ _ => rw [e2] at e; cases e
    | ok ds A2 =>
      rw [e2] at e
      cases e
      simp [h ρ A1 ds _ e2]
section
variable {X : Cx} {T : Tb} {E : XE} {EX : XK} {CX : CXT} {k : Nat} {fa : Addr} {fd : FuncData} {ps : List Str} {fn : Fn} {sp : Sp} {x : Str} {e : Expr} {es : List Expr} {cs : CA} {p pos : Pos}
theorem ge_call (F : FnOk X.prog X.w X.K X.mg X.base CX k fa fd ps sp) (hsp : ∀ vs H Q, spF T fn ps.length vs H Q EX → sp vs H Q EX) (hE : ∀ c H, E c H → EX (.ref (T.C c)) none H) (hn : argN ps.length cs) (hr : Room k X.A) (hg : Gl X x) (hm : X.mg x = some (.ref fa)) (hk : PySem.W.keepIn X.K (.ref fa) = true) (hb : Binds X.K fd ps []) (hx : Passes CX X EX)
    (ha : PA X (e :: es) (tA T E cs)) (hdb : (x == ("__debug__" : Str)) = false := by decide) (he : starEach (e :: es) X.env = (false, eval e X.env) :: starEach es X.env := by rfl) (hpl : (backTo pos (starEach es X.env)).any (·.1) = false := by rfl) :
    PE X (.Call (.Name x p) (e :: es) [] pos) (tE T E (cCall fn cs)) :=
  PE.imp (pe_call F hr hg hm hk hb .nil hx ha hdb he hpl) fun σ H Q q => by
    obtain ⟨ι, A, ρ, at0, p⟩ := q
    refine ⟨ι, A, ρ, at0, ?_⟩
    unfold cCall at p
    cases e1 : cs ρ A with
    | bad => rw [e1] at p; exact p
    | exc k A' => rw [e1] at p; exact p
    | ok ds A' =>
      rw [e1] at p
      intro ι1 H1 vs fp n rp f
      rw [List.append_nil]
      exact hsp _ _ _ (callF_ok at0.wd at0.bl n rp f hE (by rw [rp.len]; exact hn ρ A ds A' e1) p)
theorem ge_call0 (F : FnOk X.prog X.w X.K X.mg X.base CX k fa fd ps sp) (hsp : ∀ vs H Q, spF T fn ps.length vs H Q EX → sp vs H Q EX) (hE : ∀ c H, E c H → EX (.ref (T.C c)) none H) (hn : ps = []) (hr : Room k X.A) (hg : Gl X x) (hm : X.mg x = some (.ref fa)) (hk : PySem.W.keepIn X.K (.ref fa) = true) (hb : Binds X.K fd ps []) (hx : Passes CX X EX)
    (hdb : (x == ("__debug__" : Str)) = false := by decide) : PE X (.Call (.Name x p) [] [] pos) (tE T E (cCall fn cNil)) :=
  PE.imp (pe_call0 F hr hg hm hk hb .nil hx hdb) fun σ H Q q => by
    obtain ⟨ι, A, ρ, at0, p⟩ := q
    subst hn
    exact hsp _ _ _ (callF_ok (T := T) (f := fn) (np := 0) (ds := []) (vs := []) at0.wd at0.bl (.refl at0.wd) .nil .nil hE rfl p)
end
/-- a def's body read at its start -/
theorem fn_start {T : Tb} {E : XE} {EX : XK} {N : List Str} {np : Nat} {code : CS} {vs : List V} {H : Hp} {Q : VK} (h : spF T (mkFn N.length code) np vs H Q EX) (hE : ∀ c H, EX (.ref (T.C c)) none H → E c H) :
    tS T E code { nx := fun _ H' => Q .non H', rt := Q } (L2.start N vs) H := by
  obtain ⟨hl, ι, A, ds, w, r, p⟩ := h
  have hlen := r.len
  refine ⟨ι, A, ⟨A.length, ds.map some ++ List.replicate (N.length - ds.length) none⟩, ⟨w, ⟨?_, fun i d hd => ?_⟩, Nat.le_refl _⟩, ?_⟩
  · unfold L2.start
    simp [hlen]
  · have hi : i < ds.length := by
      apply Classical.byContradiction
      intro hi
      rw [List.getElem?_append_right (by simpa using hi), List.getElem?_replicate] at hd
      split at hd <;> cases hd
    rw [List.getElem?_append_left (by simpa using hi), List.getElem?_map] at hd
    cases hq : ds[i]? with
    | none => rw [hq] at hd; cases hd
    | some d' =>
      rw [hq] at hd
      cases hd
      obtain ⟨v, fq, q1, q2, q3⟩ := r.get hq
      have : fq = [] := by simpa using q3
      subst this
      refine ⟨v, ?_, q2⟩
      unfold L2.start
      rw [List.getElem?_append_left (by simp [hlen, hi]), List.getElem?_map, q1]; rfl
  · unfold mkFn at p
    cases e : code ⟨A.length, ds.map some ++ List.replicate (N.length - ds.length) none⟩ A with
    | bad => rw [e] at p; exact p
    | exc c A' =>
      rw [e] at p
      exact fun ι' H' n => hE c H' (p _ _ (n.cut w (Nat.le_refl _) (Nat.le_refl _) (n.cl _ (Nat.le_refl _) w.cl)))
    | rt d A' =>
      rw [e] at p
      intro ι' H' v fp n rv f
      obtain ⟨d2, A4, ι4, fz, eg, n4, r4, f4⟩ := gc_ok w n (Nat.le_refl _) (Nat.le_refl _) (n.cl _ (Nat.le_refl _) w.cl) rv f
      have p : Po T A.length ι A H (gc A.length d A') Q _ := p
      rw [eg] at p
      exact p ι4 H' v fz n4 r4 f4
    | nx s A' =>
      rw [e] at p
      intro ι' H' σ' n _
      obtain ⟨d2, A4, ι4, fz, eg, n4, r4, f4⟩ := gc_ok w n (Nat.le_refl _) (Nat.le_refl _) (n.cl _ (Nat.le_refl _) w.cl) .non .nil
      have p : Po T A.length ι A H (gc A.length .non A') Q _ := p
      rw [eg] at p
      exact p ι4 H' .non fz n4 r4 f4
end Ab

set_option Elab.async false
set_option linter.all false
set_option maxRecDepth 100000
set_option maxHeartbeats 1000000
set_option autoImplicit false
/-! Ab7: targets, what is walked, comprehensions, statements, loops. -/
namespace Ab
open PySem PySem.Spec PyProof.Rows L2

/-! ### targets -/
inductive Tgt where
  | nm (i : Nat) | tp (ts : List Tgt)
mutual
def put : Tgt → Vl → List (Option Vl) → Option (List (Option Vl))
  | .nm i, d, s => some (s.set i (some d))
  | .tp ts, d, s => match d with
    | .tup xs => puts ts xs s
    | _ => none
def puts : List Tgt → List Vl → List (Option Vl) → Option (List (Option Vl))
  | [], [], s => some s
  | t :: ts, d :: ds, s => match put t d s with
    | none => none
    | some s1 => puts ts ds s1
  | _, _, _ => none
end
mutual
def den (K : PySem.W.Frag) : Tgt → TG
  | .nm i => gName i
  | .tp ts => gTup K ts.length (dens K ts)
def dens (K : PySem.W.Frag) : List Tgt → TGs
  | [] => gNil
  | t :: ts => gCons (den K t) (dens K ts)
end
mutual
def slots : Tgt → List Nat
  | .nm i => [i]
  | .tp ts => slotss ts
def slotss : List Tgt → List Nat
  | [] => []
  | t :: ts => slots t ++ slotss ts
end
theorem wipe_set {σ : L2.St} {i : Nat} {x : Option V} : ∀ {vs : List Nat}, i ∈ vs → wipe (σ.set i x) vs = wipe σ vs
  | [], h => by cases h
  | v :: vs, h => by
    unfold wipe
    by_cases hv : i ∈ vs
    · rw [wipe_set hv]
    · have e : i = v := by
        rcases List.mem_cons.mp h with z | z
        · exact z
        · exact absurd z hv
      subst e
      have key : ∀ (us : List Nat), i ∉ us → (wipe (σ.set i x) us) = (wipe σ us).set i x := by
        intro us
        induction us with
        | nil => intro _; rfl
        | cons u us ih =>
          intro hu
          simp only [List.mem_cons, not_or] at hu
          unfold wipe
          rw [ih hu.2, List.set_comm _ _ hu.1]
      rw [key vs hv, List.set_set]
section
variable {T : Tb} {ι : List Addr} {H : Hp} {σ : L2.St}
theorem Er.set {s : List (Option Vl)} {i : Nat} {v : V} {d : Vl} (e : Er T ι H σ s) (r : Rp T ι H v d []) : Er T ι H (σ.set i (some v)) (s.set i (some d)) := by
  refine ⟨by rw [List.length_set, List.length_set]; exact e.1, fun j d' h => ?_⟩
  by_cases hj : i = j
  · subst hj
    by_cases hl : i < s.length
    · rw [List.getElem?_set_self hl] at h
      cases h
      exact ⟨v, by rw [List.getElem?_set_self (by rw [e.1]; exact hl)], r⟩
    · rw [List.getElem?_eq_none (by simpa using hl)] at h; cases h
  · rw [List.getElem?_set_ne hj] at h
    obtain ⟨v', h1, h2⟩ := e.2 j d' h
    exact ⟨v', by rw [List.getElem?_set_ne hj]; exact h1, h2⟩
mutual
theorem den_ok : ∀ (t : Tgt) (d : Vl) (v : V) (s s' : List (Option Vl)) (σ : L2.St) (Q : L2.St → Hp → Prop), Er T ι H σ s → Rp T ι H v d [] → put t d s = some s' →
    (∀ σ', Er T ι H σ' s' → (∀ vs, (∀ i ∈ slots t, i ∈ vs) → wipe σ' vs = wipe σ vs) → Q σ' H) → den T.K t v σ H Q
  | .nm i, d, v, s, s', σ, Q, e, r, hp, k => by
    rw [put] at hp
    cases hp
    exact k _ (e.set r) fun vs h => wipe_set (h i (by simp [slots]))
  | .tp ts, d, v, s, s', σ, Q, e, r, hp, k => by
    cases d with
    | tup ys =>
      rw [put] at hp
      cases r with
      | @tup a vs xs _ h1 h2 =>
        obtain ⟨hl, z⟩ := dens_ok ts ys vs s s' σ Q e h2 hp (fun σ' e' h' => k σ' e' fun vs hv => h' vs (by simpa [slots] using hv))
        exact ⟨a, vs, rfl, h1, by rw [h2.len, hl], z⟩
    | _ => simp [put] at hp
theorem dens_ok : ∀ (ts : List Tgt) (ds : List Vl) (vs : List V) (s s' : List (Option Vl)) (σ : L2.St) (Q : L2.St → Hp → Prop), Er T ι H σ s → Rps T ι H vs ds [] → puts ts ds s = some s' →
    (∀ σ', Er T ι H σ' s' → (∀ vs, (∀ i ∈ slotss ts, i ∈ vs) → wipe σ' vs = wipe σ vs) → Q σ' H) → ds.length = ts.length ∧ dens T.K ts vs σ H Q
  | [], [], _, s, s', σ, Q, e, r, hp, k => by
    rw [puts] at hp
    cases hp
    cases r
    exact ⟨rfl, rfl, k σ e fun _ _ => rfl⟩
  | t :: ts, d :: ds, _, s, s', σ, Q, e, r, hp, k => by
    rw [puts] at hp
    split at hp
    · cases hp
    · rename_i s1 e1
      generalize hz : ([] : List Addr) = fz at r
      cases r with
      | @cons v _ fp vs _ fq h1 h2 =>
        have hz2 := List.append_eq_nil_iff.mp hz.symm
        obtain ⟨rfl, rfl⟩ := hz2
        have hl : ds.length = ts.length ∧ den T.K t v σ H (fun σ' H' => dens T.K ts vs σ' H' Q) := by
          have aux : ∀ σ1, Er T ι H σ1 s1 → (∀ us, (∀ i ∈ slots t, i ∈ us) → wipe σ1 us = wipe σ us) → ds.length = ts.length ∧ dens T.K ts vs σ1 H Q := fun σ1 er1 w1 =>
            dens_ok ts ds vs s1 s' σ1 Q er1 h2 hp fun σ' e' h' => k σ' e' fun us hu => (h' us fun i hi => hu i (by simp [slotss, hi])).trans (w1 us fun i hi => hu i (by simp [slotss, hi]))
          have z : den T.K t v σ H (fun σ' H' => ds.length = ts.length ∧ dens T.K ts vs σ' H' Q) := den_ok t d v s s1 σ _ e h1 e1 fun σ' e' h' => aux σ' e' h'
          refine ⟨?_, den_ok t d v s s1 σ _ e h1 e1 fun σ' e' h' => (aux σ' e' h').2⟩
          exact puts_len ts ds s1 s' hp
        exact ⟨by simp [hl.1], v, vs, rfl, hl.2⟩
  | [], _ :: _, _, _, _, _, _, _, _, hp, _ => by rw [puts] at hp <;> first | cases hp | (intros; simp_all)
  | _ :: _, [], _, _, _, _, _, _, _, hp, _ => by rw [puts] at hp <;> first | cases hp | (intros; simp_all)
theorem puts_len : ∀ (ts : List Tgt) (ds : List Vl) (s s' : List (Option Vl)), puts ts ds s = some s' → ds.length = ts.length
  | [], [], _, _, _ => rfl
  | t :: ts, d :: ds, s, s', h => by
    rw [puts] at h
    split at h
    · cases h
    · simp [puts_len ts ds _ s' h]
  | [], _ :: _, _, _, h => by rw [puts] at h <;> first | cases h | (intros; simp_all)
  | _ :: _, [], _, _, h => by rw [puts] at h <;> first | cases h | (intros; simp_all)
end
end

/-! ### what is walked -/
abbrev Wch := List (Nat × List Vl)
abbrev CI := Ev → AH → Res (List Vl × Wch)
instance : Inhabited Vl := ⟨.non⟩
mutual
def eqb : Vl → Vl → Bool
  | .non, .non => true
  | .bl a, .bl b => a == b
  | .int a, .int b => a == b
  | .str a, .str b => a == b
  | .tup a, .tup b => eqbs a b
  | .rol a, .rol b => eqbs a b
  | .new k a, .new j b => decide (k = j) && eqbs a b
  | .loc a, .loc b => a == b
  | .fn a, .fn b => a == b
  | _, _ => false
def eqbs : List Vl → List Vl → Bool
  | [], [] => true
  | x :: xs, y :: ys => eqb x y && eqbs xs ys
  | _, _ => false
end
mutual
theorem eqb_eq : ∀ (a b : Vl), eqb a b = true → a = b
  | .non, b, h => by cases b <;> first | rfl | (simp [eqb] at h)
  | .bl a, b, h => by cases b <;> first | (simp [eqb] at h; subst h; rfl) | (simp [eqb] at h)
  | .int a, b, h => by cases b <;> first | (simp [eqb] at h; subst h; rfl) | (simp [eqb] at h)
  | .str a, b, h => by cases b <;> first | (simp [eqb] at h; subst h; rfl) | (simp [eqb] at h)
  | .loc a, b, h => by cases b <;> first | (simp [eqb] at h; subst h; rfl) | (simp [eqb] at h)
  | .fn a, b, h => by cases b <;> first | (simp [eqb] at h; subst h; rfl) | (simp [eqb] at h)
  | .tup a, b, h => by
    cases b with
    | tup b => rw [eqb] at h; rw [eqbs_eq a b h]
    | _ => simp [eqb] at h
  | .rol a, b, h => by
    cases b with
    | rol b => rw [eqb] at h; rw [eqbs_eq a b h]
    | _ => simp [eqb] at h
  | .new k a, b, h => by
    cases b with
    | new j b =>
      rw [eqb, Bool.and_eq_true] at h
      rw [eqbs_eq a b h.2, of_decide_eq_true h.1]
    | _ => simp [eqb] at h
theorem eqbs_eq : ∀ (a b : List Vl), eqbs a b = true → a = b
  | [], [], _ => rfl
  | x :: xs, y :: ys, h => by
    rw [eqbs, Bool.and_eq_true] at h
    rw [eqb_eq x y h.1, eqbs_eq xs ys h.2]
  | [], _ :: _, h => by simp [eqbs] at h
  | _ :: _, [], h => by simp [eqbs] at h
end
mutual
theorem eqb_refl : ∀ a : Vl, eqb a a = true
  | .non => rfl
  | .bl a => by simp [eqb]
  | .int a => by simp [eqb]
  | .str a => by simp [eqb]
  | .loc a => by simp [eqb]
  | .fn a => by simp [eqb]
  | .tup a => by rw [eqb]; exact eqbs_refl a
  | .rol a => by rw [eqb]; exact eqbs_refl a
  | .new k a => by rw [eqb, eqbs_refl a]; simp
theorem eqbs_refl : ∀ a : List Vl, eqbs a a = true
  | [] => rfl
  | x :: xs => by rw [eqbs, eqb_refl x, eqbs_refl xs]; rfl
end
def seen1 (A : AH) (p : Nat × List Vl) : Bool := match A[p.1]? with
  | some (.lst, xs) => eqbs xs p.2
  | _ => false
def seen (w : Wch) (A : AH) : Bool := w.all (seen1 A)
theorem seen1_iff {A : AH} {p : Nat × List Vl} : seen1 A p = true ↔ A[p.1]? = some (.lst, p.2) := by
  unfold seen1
  constructor
  · intro h
    split at h
    · rename_i xs e
      rw [e, eqbs_eq xs p.2 h]
    · cases h
  · intro h
    rw [h]
    exact eqbs_refl _
theorem seen_nil {A : AH} : seen [] A = true := rfl
def JOk (T : Tb) (b : Nat) (J : It) (ι : List Addr) (A : AH) (H : Hp) (items : List Vl) (w : Wch) : Prop := ∀ ι' A' H', Nx T b ι A H ι' A' H' → seen w A' = true →
  (∀ (i : Nat) (d : Vl), items[i]? = some d → J.go i H' ∧ ∀ x H'', J.yld i H' x H'' → Rp T ι' H'' x d [] ∧ Nx T b ι' A' H' ι' A' H'') ∧ ∀ i : Nat, items.length ≤ i → J.stop i H'
def PoI (T : Tb) (b : Nat) (ι : List Addr) (A : AH) (H : Hp) (r : Res (List Vl × Wch)) (R : It → Hp → Prop) (E : XE) : Prop := match r with
  | .ok p A' => ∀ ι' H' J, Nx T b ι A H ι' A' H' → JOk T b J ι' A' H' p.1 p.2 → seen p.2 A' = true → R J H'
  | .exc c A' => ∀ ι' H', Nx T b ι A H ι' A' H' → E c H'
  | .bad => False
def tI (T : Tb) (E : XE) (c : CI) : TI := fun σ H R => ∃ ι A ρ, At T σ H ι A ρ ∧ PoI T ρ.b ι A H (c ρ A) R E
theorem PI.imp {X : Cx} {tg e : Expr} {t t' : TI} (h : PI X tg e t) (k : ∀ σ H Q, t' σ H Q → t σ H Q) : PI X tg e t' := ⟨fun pins s σ H R I q => h.run pins s σ H R I (k σ H R q)⟩
theorem PI.or {X : Cx} {tg e : Expr} {t t' : TI} (h : PI X tg e t) (h' : PI X tg e t') : PI X tg e (fun σ H R => t σ H R ∨ t' σ H R) := ⟨fun pins s σ H R I q => q.elim (h.run pins s σ H R I) (h'.run pins s σ H R I)⟩

/-- the items of a list that is walked -/
def walkL (x : Vl) (A : AH) : Res (List Vl × Wch) := match x with
  | .loc l => match A[l]? with
    | some (.lst, xs) => .ok (xs, [(l, xs)]) A
    | _ => .bad
  | .new .lst xs => .ok ((boxs xs A).1, []) (boxs xs A).2
  | .rol xs => .ok (xs, []) A
  | _ => .bad
section
variable {T : Tb} {ι ι1 : List Addr} {H H1 : Hp} {A A1 : AH} {b : Nat}
/-- a list at a, now and later -/
def LAt (T : Tb) (b : Nat) (a : Addr) (ι : List Addr) (A : AH) (H : Hp) (items : List Vl) (w : Wch) : Prop := ∀ ι' A' H', Nx T b ι A H ι' A' H' → seen w A' = true → ∃ vs, SqL T.K H' a vs ∧ Rps T ι' H' vs items []
theorem LAt.next {a : Addr} {items : List Vl} {w : Wch} (h : LAt T b a ι A H items w) (n : Nx T b ι A H ι1 A1 H1) : LAt T b a ι1 A1 H1 items w := fun ι' A' H' m s => h ι' A' H' (n.trans m) s
/-- a list at a as it stands now -/
inductive LSt (T : Tb) (ι : List Addr) (A : AH) (H : Hp) (F : List Addr) (a : Addr) (items : List Vl) : Wch → Prop
  | loc {l : Nat} (h1 : ι[l]? = some a) (h2 : A[l]? = some (.lst, items)) : LSt T ι A H F a items [(l, items)]
  | new {vs : List V} (h1 : H a = some (.lst vs)) (h2 : a ∉ ι) (h3 : Rps T ι H vs items []) (h4 : a ∈ F) : LSt T ι A H F a items []
  | rol {vs : List V} (h1 : ROk T H a vs) (h3 : Rps T ι H vs items []) : LSt T ι A H F a items []
theorem LSt.more {a : Addr} {items : List Vl} {w : Wch} {fc F : List Addr} {ex : AH} (h : LSt T ι A H F a items w) (ha : ∀ x ∈ F, x ∉ fc) : LSt T (ι ++ fc) (A ++ ex) H F a items w := by
  cases h with
  | loc h1 h2 => exact .loc (by rw [List.getElem?_append_left (List.getElem?_eq_some_iff.mp h1).1]; exact h1) (by rw [List.getElem?_append_left (List.getElem?_eq_some_iff.mp h2).1]; exact h2)
  | new h1 h2 h3 h4 =>
    refine .new h1 (fun z => ?_) (Rps.app fc _ _ _ h3) h4
    rcases List.mem_append.mp z with z | z
    · exact h2 z
    · exact ha a h4 z
  | rol h1 h3 => exact .rol h1 (Rps.app fc _ _ _ h3)
theorem LSt.now {a : Addr} {items : List Vl} {w : Wch} {F : List Addr} (wd : Wd T ι A H) (h : LSt T ι A H F a items w) : seen w A = true ∧ ∃ vs, SqL T.K H a vs ∧ Rps T ι H vs items [] := by
  cases h with
  | loc h1 h2 =>
    obtain ⟨o, vs, q1, q2, q3⟩ := wd.cel _ _ _ _ h2 h1
    rw [show o = HO.lst vs from q2] at q1
    exact ⟨by simp [seen, seen1_iff, h2], vs, .inl (.inl q1), q3⟩
  | new h1 h2 h3 h4 => exact ⟨rfl, _, .inl (.inl h1), h3⟩
  | rol h1 h3 => exact ⟨rfl, _, h1.sq, h3⟩
theorem LSt.later {a : Addr} {items : List Vl} {w : Wch} {F : List Addr} (h : LSt T ι A H F a items w) : LAt T b a ι A H items w := fun ι' A' H' m hs => by
  cases h with
  | @loc l h1 h2 =>
    have hs2 : A'[l]? = some (Kd.lst, items) := by
      simp only [seen, List.all_cons, List.all_nil, Bool.and_true, seen1_iff] at hs
      exact hs
    obtain ⟨o, vs, q1, q2, q3⟩ := m.wd.cel _ _ _ _ hs2 (m.ext.at h1)
    rw [show o = HO.lst vs from q2] at q1
    exact ⟨vs, .inl (.inl q1), q3⟩
  | new h1 h2 h3 h4 => exact ⟨_, .inl (.inl (m.ext.keep a _ h1 rfl (.inl h2))), Rps.mono m.ext _ _ _ h3 (by simp)⟩
  | rol h1 h3 => exact ⟨_, (m.ext.rok h1).sq, Rps.mono m.ext _ _ _ h3 (by simp)⟩
theorem walkL_ok {x : Vl} {v : V} {fp : List Addr} {items : List Vl} {w : Wch} {A2 : AH} (w0 : Wd T ι A H) (hb : b ≤ A.length) (n : Nx T b ι A H ι1 A1 H1) (r : Rp T ι1 H1 v x fp) (f : Fr H ι1 fp) (e : walkL x A1 = .ok (items, w) A2) :
    ∃ a fc ex, v = .ref a ∧ Nx T b ι A H (ι1 ++ fc) A2 H1 ∧ A2 = A1 ++ ex ∧ LSt T (ι1 ++ fc) A2 H1 fp a items w ∧ fc.Sublist fp := by
  cases x with
  | loc l =>
    simp only [walkL] at e
    split at e
    · rename_i xs ex
      cases e
      cases r with
      | @loc _ a hl =>
        refine ⟨a, [], [], rfl, by simpa using n, by simp, ?_, List.Sublist.refl _⟩
        rw [List.append_nil]
        exact .loc hl ex
    · cases e
  | new k xs =>
    cases k with
    | lst =>
      cases e
      cases r with
      | @new a _ o vs _ fc h1 h2 h3 =>
        rw [show o = HO.lst vs from h2] at h1
        have fsub : Fr H ι1 fc := f.sub (List.sublist_append_left _ _)
        obtain ⟨n2, r2, ex, e2⟩ := n.boxed (Nat.le_trans hb (n.le w0)) h3 fsub
        have hna : a ∉ ι1 ++ fc := fun z => by
          rcases List.mem_append.mp z with z | z
          · exact (f.2 a (by simp)).2 z
          · have := f.1
            rw [List.nodup_append] at this
            exact this.2.2 a z a (by simp) rfl
        exact ⟨a, fc, ex, rfl, n2, e2, .new h1 hna r2 (by simp), List.sublist_append_left _ _⟩
    | _ => cases e
  | rol xs =>
    cases e
    cases r with
    | @rol a vs _ h1 h2 =>
      refine ⟨a, [], [], rfl, by simpa using n, by simp, ?_, List.Sublist.refl _⟩
      rw [List.append_nil]
      exact .rol h1 h2
  | _ => cases e
theorem jok_list {a : Addr} {items : List Vl} {w : Wch} (h : LAt T b a ι A H items w) : JOk T b (Itl T.K a) ι A H items w := fun ι' A' H' m hs => by
  obtain ⟨vs, h1, h2⟩ := h ι' A' H' m hs
  refine ⟨fun i d hd => ?_, fun i hi => ⟨vs, h1, by rw [h2.len]; exact hi⟩⟩
  obtain ⟨x, fq, q1, q2, q3⟩ := h2.get hd
  have : fq = [] := by simpa using q3
  subst this
  refine ⟨⟨vs, x, h1, q1⟩, fun y H'' hy => ?_⟩
  obtain ⟨rfl, hy⟩ := hy
  have := hy vs h1
  rw [q1] at this
  cases this
  exact ⟨q2, .refl m.wd⟩
def enumL : Nat → List Vl → List Vl
  | _, [] => []
  | k, x :: r => .tup [.int (k : Nat), x] :: enumL (k + 1) r
theorem enumL_get : ∀ (k : Nat) (xs : List Vl) (i : Nat), (enumL k xs)[i]? = (xs[i]?).map fun x => .tup [.int ((k + i : Nat) : Int), x]
  | k, [], i => by simp [enumL]
  | k, x :: r, 0 => by simp [enumL]
  | k, x :: r, i + 1 => by
    simp only [enumL, List.getElem?_cons_succ, enumL_get (k + 1) r i]
    rw [show k + 1 + i = k + (i + 1) by omega]
theorem enumL_len : ∀ (k : Nat) (xs : List Vl), (enumL k xs).length = xs.length
  | _, [] => rfl
  | k, x :: r => by simp [enumL, enumL_len]
theorem jok_enum {a : Addr} {items : List Vl} {w : Wch} (h : LAt T b a ι A H items w) : JOk T b (Ite T.K a) ι A H (enumL 0 items) w := fun ι' A' H' m hs => by
  obtain ⟨vs, h1, h2⟩ := h ι' A' H' m hs
  refine ⟨fun i d hd => ?_, fun i hi => ⟨vs, h1, by rw [h2.len]; rw [enumL_len] at hi; exact hi⟩⟩
  rw [enumL_get] at hd
  cases hq : items[i]? with
  | none => rw [hq] at hd; cases hd
  | some d0 =>
    rw [hq] at hd
    cases hd
    obtain ⟨x, fq, q1, q2, q3⟩ := h2.get hq
    have : fq = [] := by simpa using q3
    subst this
    refine ⟨⟨vs, x, h1, q1⟩, fun y H'' hy => ?_⟩
    obtain ⟨t, x', rfl, ht, rfl, hy⟩ := hy
    have e := hy vs h1
    rw [q1] at e
    cases e
    have ex : Ext ι' H' ι' (L2.upd H' t (.tup [.int (i : Nat), x])) := Ext.refl.upd ht
    refine ⟨?_, (Nx.refl m.wd).upd ht⟩
    refine .tup (.inl (.inl upd_same)) ?_
    rw [Nat.zero_add]
    exact .cons (fp := []) (fq := []) (.int _) (Rps.one (Rp.mono ex _ _ _ q2 (by simp)))
theorem jok_zip {a c : Addr} {xs ys : List Vl} {w u : Wch} (h : LAt T b a ι A H xs w) (k : LAt T b c ι A H ys u) : JOk T b (Itz T.K a c) ι A H (List.zipWith (fun x y => .tup [x, y]) xs ys) (w ++ u) := fun ι' A' H' m hs => by
  have hs1 : seen w A' = true ∧ seen u A' = true := by
    unfold seen at hs ⊢
    rw [List.all_append, Bool.and_eq_true] at hs
    exact hs
  obtain ⟨vs, h1, h2⟩ := h ι' A' H' m hs1.1
  obtain ⟨us, k1, k2⟩ := k ι' A' H' m hs1.2
  refine ⟨fun i d hd => ?_, fun i hi => ⟨vs, us, h1, k1, ?_⟩⟩
  · rw [List.getElem?_zipWith] at hd
    cases hx : xs[i]? with
    | none => rw [hx] at hd; simp at hd
    | some x0 =>
      cases hy : ys[i]? with
      | none => rw [hx, hy] at hd; simp at hd
      | some y0 =>
        rw [hx, hy] at hd
        cases hd
        obtain ⟨x, fq, q1, q2, q3⟩ := h2.get hx
        obtain ⟨y, fr, p1, p2, p3⟩ := k2.get hy
        have : fq = [] := by simpa using q3
        subst this
        have : fr = [] := by simpa using p3
        subst this
        refine ⟨⟨vs, us, x, y, h1, k1, q1, p1⟩, fun z H'' hz => ?_⟩
        obtain ⟨t, x', y', rfl, ht, rfl, hz1, hz2⟩ := hz
        have e1 := hz1 vs h1
        have e2 := hz2 us k1
        rw [q1] at e1; rw [p1] at e2
        cases e1; cases e2
        have ex : Ext ι' H' ι' (L2.upd H' t (.tup [x, y])) := Ext.refl.upd ht
        exact ⟨.tup (.inl (.inl upd_same)) (.cons (fp := []) (fq := []) (Rp.mono ex _ _ _ q2 (by simp)) (Rps.one (Rp.mono ex _ _ _ p2 (by simp)))), (Nx.refl m.wd).upd ht⟩
  · rw [h2.len, k2.len]
    rw [List.length_zipWith] at hi
    omega
theorem rgL_get {i j : Int} {k : Nat} {d : Vl} (h : (rgL i j)[k]? = some d) : k < (j - i).toNat ∧ d = .int (i + (k : Nat)) := by
  unfold rgL at h
  rw [List.getElem?_map] at h
  cases hq : (List.range (j - i).toNat)[k]? with
  | none => rw [hq] at h; cases h
  | some k' =>
    rw [hq] at h
    cases h
    have hl := (List.getElem?_eq_some_iff.mp hq).1
    rw [List.getElem?_eq_getElem hl, List.getElem_range] at hq
    cases hq
    exact ⟨by simpa using hl, rfl⟩
theorem rgL_len (i j : Int) : (rgL i j).length = (j - i).toNat := by unfold rgL; simp
theorem jok_range {i j : Int} : JOk T b (Itr i (j - i).toNat) ι A H (rgL i j) [] := fun ι' A' H' m _ => by
  refine ⟨fun k d hd => ?_, fun k hk => by rw [rgL_len] at hk; exact hk⟩
  obtain ⟨h1, rfl⟩ := rgL_get hd
  refine ⟨h1, fun x H'' hy => ?_⟩
  obtain ⟨rfl, rfl⟩ := hy
  exact ⟨.int _, .refl m.wd⟩
theorem jok_tup {a : Addr} {vs : List V} {items : List Vl} (h1 : SqT T.K H a vs) (h2 : Rps T ι H vs items []) : JOk T b (Itt T.K a) ι A H items [] := fun ι' A' H' m _ => by
  have h1 : SqT T.K H' a vs := m.ext.sqT h1
  have h2 := Rps.mono m.ext _ _ _ h2 (by simp)
  refine ⟨fun i d hd => ?_, fun i hi => ⟨vs, h1, by rw [h2.len]; exact hi⟩⟩
  obtain ⟨x, fq, q1, q2, q3⟩ := h2.get hd
  have : fq = [] := by simpa using q3
  subst this
  refine ⟨⟨vs, x, h1, q1⟩, fun y H'' hy => ?_⟩
  obtain ⟨rfl, hy⟩ := hy
  have := hy vs h1
  rw [q1] at this
  cases this
  exact ⟨q2, .refl m.wd⟩
end
/-! code that is walked -/
def walkA (x : Vl) (A : AH) : Res (List Vl × Wch) := match x with
  | .tup xs => .ok ((boxs xs A).1, []) (boxs xs A).2
  | x => walkL x A
def cIt (c : CE) : CI := fun ρ A => (c ρ A).bind fun x A1 => walkA x A1
def cEn (c : CE) : CI := fun ρ A => (c ρ A).bind fun x A1 => (walkL x A1).bind fun p A2 => .ok (enumL 0 p.1, p.2) A2
def cZip (c d : CE) : CI := fun ρ A => (c ρ A).bind fun x A1 => (d ρ A1).bind fun y A2 => (walkL x A2).bind fun p A3 => (walkL y A3).bind fun q A4 => .ok (List.zipWith (fun x y => .tup [x, y]) p.1 q.1, p.2 ++ q.2) A4
def fRg (d e : Vl) (A : AH) : Res (List Vl × Wch) := match d, e with
  | .int i, .int j => if 0 ≤ i ∧ i ≤ 100000 ∧ -100000 ≤ j ∧ j ≤ 100000 then .ok (rgL i j, []) A else .bad
  | _, _ => .bad
def cRg1 (c : CE) : CI := fun ρ A => (c ρ A).bind fun d A1 => fRg (.int 0) d A1
def cRg2 (c e : CE) : CI := fun ρ A => (c ρ A).bind fun d A1 => (e ρ A1).bind fun x A2 => fRg d x A2
section
variable {X : Cx} {T : Tb} {E : XE} {tg a b : Expr} {ca cb : CE} {p pos tpos : Pos} {elts : List Expr} {kk : Nat}
theorem gi_it (hK : T.K = X.K) (ha : PE X a (tE T E ca)) : PI X tg a (tI T E (cIt ca)) :=
  PI.imp (PI.or (pi_list ha) (pi_tup ha)) fun σ H R q => by
    obtain ⟨ι, A, ρ, at0, p⟩ := q
    unfold cIt at p
    cases e : ca ρ A with
    | bad => rw [e] at p; exact False.elim p
    | exc k A' => rw [e] at p; exact .inl ⟨ι, A, ρ, at0, by rw [e]; exact p⟩
    | ok d A' =>
      rw [e] at p
      by_cases ht : ∃ xs, d = .tup xs
      · obtain ⟨xs, rfl⟩ := ht
        refine .inr ⟨ι, A, ρ, at0, ?_⟩
        rw [e]
        intro ι1 H1 v fp n r f
        cases r with
        | @tup c vs _ _ h1 h2 =>
          obtain ⟨n2, r2, ex, e2⟩ := n.boxed (Nat.le_trans at0.bl (n.le at0.wd)) h2 f
          refine ⟨c, rfl, ⟨vs, by rw [← hK]; exact h1⟩, ?_⟩
          have := p _ H1 (Itt T.K c) n2 (jok_tup h1 r2) rfl
          rw [hK] at this
          exact this
      · refine .inl ⟨ι, A, ρ, at0, ?_⟩
        rw [e]
        intro ι1 H1 v fp n r f
        have ew : walkA d A' = walkL d A' := by
          cases d with
          | tup xs => exact absurd ⟨xs, rfl⟩ ht
          | _ => rfl
        have p : PoI T ρ.b ι A H (walkA d A') R E := p
        rw [ew] at p
        cases eq : walkL d A' with
        | bad => rw [eq] at p; exact False.elim p
        | exc k A2 =>
          exfalso
          cases d with
          | loc l =>
            simp only [walkL] at eq
            split at eq <;> cases eq
          | new k xs => cases k <;> cases eq
          | _ => cases eq
        | ok w A2 =>
          rw [eq] at p
          obtain ⟨c, fc, ex, rfl, n2, _, hL, _⟩ := walkL_ok at0.wd at0.bl n r f (items := w.1) (w := w.2) (A2 := A2) eq
          obtain ⟨sn, vs, s1, s2⟩ := hL.now n2.wd
          refine ⟨c, rfl, ⟨vs, by rw [← hK]; exact s1⟩, ?_⟩
          have := p _ H1 (Itl T.K c) n2 (jok_list hL.later) sn
          rw [hK] at this
          exact this
theorem walkL_noexc {d : Vl} {A A2 : AH} {k : Nat} (h : walkL d A = .exc k A2) : False := by
  cases d with
  | loc l =>
    simp only [walkL] at h
    split at h <;> cases h
  | new k xs => cases k <;> cases h
  | _ => cases h
theorem gi_en (hK : T.K = X.K) (hg : Gl X "enumerate") (hm : X.mg "enumerate" = none) (ha : PE X a (tE T E ca)) (hs : starEach [a] X.env = [(false, eval a X.env)] := by rfl) : PI X (.Tuple elts kk tpos) (.Call (.Name "enumerate" p) [a] [] pos) (tI T E (cEn ca)) :=
  PI.imp (pi_enum hg hm (pa_cons ha pa_nil hs) hs) fun σ H R q => by
    obtain ⟨ι, A, ρ, at0, p⟩ := q
    refine ⟨ι, A, ρ, at0, ?_⟩
    unfold cEn at p
    cases e : ca ρ A with
    | bad => rw [e] at p; exact False.elim p
    | exc k A' => rw [e] at p; exact p
    | ok d A' =>
      rw [e] at p
      intro ι1 H1 v fp n r f
      have p : PoI T ρ.b ι A H ((walkL d A').bind fun p A2 => .ok (enumL 0 p.1, p.2) A2) R E := p
      cases eq : walkL d A' with
      | bad => rw [eq] at p; exact False.elim p
      | exc k A2 => exact (walkL_noexc eq).elim
      | ok w A2 =>
        rw [eq] at p
        obtain ⟨c, fc, ex, rfl, n2, _, hL, _⟩ := walkL_ok at0.wd at0.bl n r f (items := w.1) (w := w.2) (A2 := A2) eq
        obtain ⟨sn, vs, s1, s2⟩ := hL.now n2.wd
        refine ⟨c, vs, rfl, by rw [← hK]; exact s1, ?_⟩
        have := p _ H1 (Ite T.K c) n2 (jok_enum hL.later) sn
        rw [hK] at this
        exact this
theorem fRg_ok {d e : Vl} {A A2 : AH} {w : List Vl × Wch} (h : fRg d e A = .ok w A2) : ∃ i j, d = .int i ∧ e = .int j ∧ 0 ≤ i ∧ i ≤ 100000 ∧ -100000 ≤ j ∧ j ≤ 100000 ∧ w = (rgL i j, []) ∧ A2 = A := by
  unfold fRg at h
  split at h
  · split at h
    · rename_i hc
      cases h
      exact ⟨_, _, rfl, rfl, hc.1, hc.2.1, hc.2.2.1, hc.2.2.2, rfl, rfl⟩
    · cases h
  · cases h
theorem fRg_noexc {d e : Vl} {A A2 : AH} {k : Nat} (h : fRg d e A = .exc k A2) : False := by
  unfold fRg at h
  split at h
  · split at h <;> cases h
  · cases h
theorem gi_rg1 (hg : Gl X "range") (hm : X.mg "range" = none) (ha : PE X a (tE T E ca)) (hs : starEach [a] X.env = [(false, eval a X.env)] := by rfl) : PI X tg (.Call (.Name "range" p) [a] [] pos) (tI T E (cRg1 ca)) :=
  PI.imp (pi_range1 hg hm (pa_cons ha pa_nil hs) hs) fun σ H R q => by
    obtain ⟨ι, A, ρ, at0, p⟩ := q
    refine ⟨ι, A, ρ, at0, ?_⟩
    unfold cRg1 at p
    cases e : ca ρ A with
    | bad => rw [e] at p; exact False.elim p
    | exc k A' => rw [e] at p; exact p
    | ok d A' =>
      rw [e] at p
      intro ι1 H1 v fp n r f
      replace p : PoI T ρ.b ι A H (fRg (.int 0) d A') R E := p
      cases eq : fRg (.int 0) d A' with
      | bad => rw [eq] at p; exact False.elim p
      | exc k A2 => exact (fRg_noexc eq).elim
      | ok w A2 =>
        rw [eq] at p
        obtain ⟨i, j, e1, e2, h1, h2, h3, h4, rfl, rfl⟩ := fRg_ok eq
        cases e1
        subst e2
        cases r
        refine ⟨j, rfl, by omega, by omega, ?_⟩
        have := p ι1 H1 (Itr 0 (j - 0).toNat) n jok_range rfl
        rw [Int.sub_zero] at this
        exact this
theorem gi_rg2 (hg : Gl X "range") (hm : X.mg "range" = none) (ha : PE X a (tE T E ca)) (hb : PE X b (tE T E cb)) (hs : starEach [a, b] X.env = [(false, eval a X.env), (false, eval b X.env)] := by rfl) (hs2 : starEach [b] X.env = [(false, eval b X.env)] := by rfl) :
    PI X tg (.Call (.Name "range" p) [a, b] [] pos) (tI T E (cRg2 ca cb)) :=
  PI.imp (pi_range2 hg hm (pa_cons ha (pa_cons hb pa_nil hs2) (by rw [hs, hs2])) hs hs2) fun σ H R q => by
    obtain ⟨ι, A, ρ, at0, p⟩ := q
    refine ⟨ι, A, ρ, at0, ?_⟩
    unfold cRg2 at p
    cases e : ca ρ A with
    | bad => rw [e] at p; exact False.elim p
    | exc k A' => rw [e] at p; exact p
    | ok d A' =>
      rw [e] at p
      intro ι1 H1 v fp n r f
      refine ⟨ι1, A', ρ, at0.next n, ?_⟩
      have p : PoI T ρ.b ι A H ((cb ρ A').bind fun x A2 => fRg d x A2) R E := p
      cases e2 : cb ρ A' with
      | bad => rw [e2] at p; exact False.elim p
      | exc k A2 => rw [e2] at p; exact fun ι' H' m => p ι' H' (n.trans m)
      | ok d2 A2 =>
        rw [e2] at p
        intro ι2 H2 w fq n2 r2 f2
        replace p : PoI T ρ.b ι A H (fRg d d2 A2) R E := p
        cases eq : fRg d d2 A2 with
        | bad => rw [eq] at p; exact False.elim p
        | exc k A2 => exact (fRg_noexc eq).elim
        | ok w A3 =>
          rw [eq] at p
          obtain ⟨i, j, rfl, rfl, h1, h2, h3, h4, rfl, rfl⟩ := fRg_ok eq
          cases r
          cases r2
          exact ⟨i, j, rfl, ⟨by omega, by omega, by omega, by omega⟩, p ι2 H2 _ (n.trans n2) jok_range rfl⟩
theorem gi_zip (hK : T.K = X.K) (hg : Gl X "zip") (hm : X.mg "zip" = none) (ha : PE X a (tE T E ca)) (hb : PE X b (tE T E cb)) (hs : starEach [a, b] X.env = (false, eval a X.env) :: starEach [b] X.env := by rfl) (hs2 : starEach [b] X.env = (false, eval b X.env) :: starEach [] X.env := by rfl) (hpl : (backTo pos (starEach [b] X.env)).any (·.1) = false := by rfl) :
    PI X (.Tuple elts kk tpos) (.Call (.Name "zip" p) [a, b] [] pos) (tI T E (cZip ca cb)) :=
  PI.imp (pi_zip hg hm (pa_cons ha (pa_cons hb pa_nil hs2) hs) hs hpl) fun σ H R q => by
    obtain ⟨ι, A, ρ, at0, p⟩ := q
    refine ⟨ι, A, ρ, at0, ?_⟩
    unfold cZip at p
    cases e : ca ρ A with
    | bad => rw [e] at p; exact False.elim p
    | exc k A' => rw [e] at p; exact p
    | ok d A' =>
      rw [e] at p
      intro ι1 H1 v fp n r f
      refine ⟨ι1, A', ρ, at0.next n, ?_⟩
      have p : PoI T ρ.b ι A H ((cb ρ A').bind fun y A2 => (walkL d A2).bind fun p A3 => (walkL y A3).bind fun q A4 => .ok (List.zipWith (fun x y => .tup [x, y]) p.1 q.1, p.2 ++ q.2) A4) R E := p
      cases e2 : cb ρ A' with
      | bad => rw [e2] at p; exact False.elim p
      | exc k A2 => rw [e2] at p; exact fun ι' H' m => p ι' H' (n.trans m)
      | ok d2 A2 =>
        rw [e2] at p
        intro ι2 H2 w fq n2 r2 f2
        have p : PoI T ρ.b ι A H ((walkL d A2).bind fun p A3 => (walkL d2 A3).bind fun q A4 => .ok (List.zipWith (fun x y => .tup [x, y]) p.1 q.1, p.2 ++ q.2) A4) R E := p
        have hd := Rp.dom d v fp r
        obtain ⟨rr, f3⟩ := Rps.next (H := H) n.wd n2 (Rps.one r) f hd
        obtain ⟨v', ev, rr⟩ := rr.one_inv
        cases ev
        have fall := f3.app f2 n.ext hd
        cases eq : walkL d A2 with
        | bad => rw [eq] at p; exact False.elim p
        | exc k A2 => exact (walkL_noexc eq).elim
        | ok w1 A3 =>
          rw [eq] at p
          have p : PoI T ρ.b ι A H ((walkL d2 A3).bind fun q A4 => .ok (List.zipWith (fun x y => .tup [x, y]) w1.1 q.1, w1.2 ++ q.2) A4) R E := p
          obtain ⟨c1, fc1, ex1, rfl, n3, _, hL1, sb1⟩ := walkL_ok at0.wd at0.bl (n.trans n2) rr f3 (items := w1.1) (w := w1.2) (A2 := A3) eq
          cases eq2 : walkL d2 A3 with
          | bad => rw [eq2] at p; exact False.elim p
          | exc k A2 => exact (walkL_noexc eq2).elim
          | ok w2 A4 =>
            rw [eq2] at p
            have hnd := fall.1
            rw [List.nodup_append] at hnd
            have fr3 : Fr H (ι2 ++ fc1) fq := ⟨hnd.2.1, fun x hx => ⟨(fall.2 x (by simp [hx])).1, fun z => by
              rcases List.mem_append.mp z with z | z
              · exact (fall.2 x (by simp [hx])).2 z
              · exact hnd.2.2 x (sb1.mem z) x hx rfl⟩⟩
            obtain ⟨c2, fc2, ex2, rfl, n4, eA4, hL2, sb2⟩ := walkL_ok at0.wd at0.bl n3 (Rp.app fc1 _ _ _ r2) fr3 (items := w2.1) (w := w2.2) (A2 := A4) eq2
            have hL1' : LSt T ((ι2 ++ fc1) ++ fc2) A4 H2 fp c1 w1.1 w1.2 := by
              rw [eA4]
              exact hL1.more fun x hx z => hnd.2.2 x hx x (sb2.mem z) rfl
            obtain ⟨sn1, vs1, s1, _⟩ := hL1'.now n4.wd
            obtain ⟨sn2, vs2, s2, _⟩ := hL2.now n4.wd
            refine ⟨c1, c2, vs1, vs2, rfl, by rw [← hK]; exact s1, by rw [← hK]; exact s2, ?_⟩
            have := p _ H2 (Itz T.K c1 c2) n4 (jok_zip hL1'.later hL2.later) (by unfold seen at sn1 sn2 ⊢; rw [List.all_append, sn1, sn2]; rfl)
            rw [hK] at this
            exact this
end
end Ab

set_option Elab.async false
set_option linter.all false
set_option maxRecDepth 100000
set_option maxHeartbeats 1000000
set_option autoImplicit false
/-! Ab8: comprehensions, statements, loops. -/
namespace Ab
open PySem PySem.Spec PyProof.Rows L2

/-! ### a list that grows outside the places -/
section
variable {T : Tb} {ι ι0 : List Addr} {H H0 : Hp} {A A0 : AH} {b : Nat}
theorem sqT_off {D a : Addr} {xs : List V} {o' : HO} {vs : List V} (h : H D = some (.lst xs)) (r : SqT T.K H a vs) : SqT T.K (L2.upd H D o') a vs := by
  rcases r with (r | ⟨o, r⟩) | r
  · exact .inl (.inl (by rw [upd_ne (ne_of r h (by intro z; cases z))]; exact r))
  · exact .inl (.inr ⟨o, by rw [upd_ne (ne_of r h (by intro z; cases z))]; exact r⟩)
  · exact .inr r
theorem rok_off {D a : Addr} {xs : List V} {o' : HO} {vs : List V} (h : H D = some (.lst xs)) (r : ROk T H a vs) : ROk T (L2.upd H D o') a vs := by
  rcases r with ⟨o, r⟩ | r
  · exact .inl ⟨o, by rw [upd_ne (ne_of r h (by intro z; cases z))]; exact r⟩
  · exact .inr r
mutual
theorem Rp.off {D : Addr} {ys : List V} {o' : HO} (h : H D = some (.lst ys)) : ∀ (d : Vl) (v : V) (fp : List Addr), Rp T ι H v d fp → D ∉ fp → Rp T ι (L2.upd H D o') v d fp
  | .non, _, _, r, _ => by cases r; exact .non
  | .bl b, _, _, r, _ => by cases r; exact .bl b
  | .int b, _, _, r, _ => by cases r; exact .int b
  | .str b, _, _, r, _ => by cases r; exact .str b
  | .fn b, _, _, r, _ => by
    cases r with
    | fn r => exact .fn (r.keep fun a o z1 z2 _ => by rw [upd_ne (ne_of z1 h (by intro z; rw [z] at z2; cases z2))]; exact z1)
  | .loc n, _, _, r, _ => by
    cases r with
    | loc r => exact .loc r
  | .tup xs, _, _, r, hf => by
    cases r with
    | tup h1 h2 => exact .tup (sqT_off h h1) (Rps.off h xs _ _ h2 hf)
  | .rol xs, _, _, r, hf => by
    cases r with
    | rol h1 h2 => exact .rol (rok_off h h1) (Rps.off h xs _ _ h2 hf)
  | .new k xs, _, _, r, hf => by
    cases r with
    | @new a _ o vs _ fc h1 h2 h3 =>
      have hne : a ≠ D := fun z => hf (by simp [z])
      exact .new (by rw [upd_ne hne]; exact h1) h2 (Rps.off h xs _ _ h3 fun z => hf (by simp [z]))
theorem Rps.off {D : Addr} {ys : List V} {o' : HO} (h : H D = some (.lst ys)) : ∀ (ds : List Vl) (vs : List V) (fp : List Addr), Rps T ι H vs ds fp → D ∉ fp → Rps T ι (L2.upd H D o') vs ds fp
  | [], _, _, r, _ => by cases r; exact .nil
  | d :: ds, _, _, r, hf => by
    cases r with
    | cons h1 h2 => exact .cons (Rp.off h d _ _ h1 fun z => hf (by simp [z])) (Rps.off h ds _ _ h2 fun z => hf (by simp [z]))
end
theorem Nx.off {D : Addr} {ys : List V} {o' : HO} (n : Nx T b ι0 A0 H0 ι A H) (h : H D = some (.lst ys)) (h0 : H0 D = none) (hD : D ∉ ι) : Nx T b ι0 A0 H0 ι A (L2.upd H D o') := by
  have tk : LamX.Tabs T.tabs (L2.upd H D o') := tab_keeps (fun a o z1 z2 => by
    rw [upd_ne (ne_of z1 h (by intro z; rw [z] at z2; rcases z2 with z2 | z2 <;> cases z2))]; exact z1) n.wd.x.tab
  refine ⟨⟨n.wd.len, n.wd.nd, fun j k xs a e1 e2 => ?_, ⟨fun p hp => Rp.off h _ _ _ (n.wd.x.fix p hp) (by simp), tk⟩⟩, ⟨n.ext.pre, fun a o q t k => ?_, fun a o q => ?_⟩, n.cl⟩
  · obtain ⟨o, vs, q1, q2, q3⟩ := n.wd.cel j k xs a e1 e2
    have hne : a ≠ D := fun z => hD (z ▸ List.mem_of_getElem? e2)
    exact ⟨o, vs, by rw [upd_ne hne]; exact q1, q2, Rps.off h _ _ _ q3 (by simp)⟩
  · rw [upd_ne (ne_of_none q h0)]
    exact n.ext.keep a o q t k
  · rw [upd_ne (ne_of_none q h0)]
    exact n.ext.dom a o q
end

/-! ### comprehensions -/
def wipeS (s : List (Option Vl)) : List Nat → List (Option Vl)
  | [] => s
  | v :: vs => (wipeS s vs).set v none
theorem Er.none {T : Tb} {ι : List Addr} {H : Hp} {σ : L2.St} {s : List (Option Vl)} {i : Nat} (e : Er T ι H σ s) : Er T ι H (σ.set i none) (s.set i none) := by
  refine ⟨by rw [List.length_set, List.length_set]; exact e.1, fun j d' h => ?_⟩
  by_cases hj : i = j
  · subst hj
    by_cases hl : i < s.length
    · rw [List.getElem?_set_self hl] at h; cases h
    · rw [List.getElem?_eq_none (by simpa using hl)] at h; cases h
  · rw [List.getElem?_set_ne hj] at h
    obtain ⟨v', h1, h2⟩ := e.2 j d' h
    exact ⟨v', by rw [List.getElem?_set_ne hj]; exact h1, h2⟩
theorem Er.wipe {T : Tb} {ι : List Addr} {H : Hp} {σ : L2.St} {s : List (Option Vl)} (e : Er T ι H σ s) : ∀ vs : List Nat, Er T ι H (L2.wipe σ vs) (wipeS s vs)
  | [] => e
  | v :: vs => (Er.wipe e vs).none
def cYes : CT := fun _ A => .ok true A
def compL (t : Tgt) (test : CT) (elt : CE) (w : Wch) (b : Nat) (s : List (Option Vl)) : List Vl → AH → List Vl → Res (List Vl)
  | [], A, acc => .ok acc A
  | d :: r, A, acc => match put t d s with
    | none => .bad
    | some s1 => match test ⟨b, s1⟩ A with
      | .ok true A1 => (match elt ⟨b, s1⟩ A1 with
        | .ok y A2 => if seen w A2 = true then compL t test elt w b s r A2 (acc ++ [y]) else .bad
        | _ => .bad)
      | .ok false A1 => if seen w A1 = true then compL t test elt w b s r A1 acc else .bad
      | _ => .bad
def cLc (ci : CI) (t : Tgt) (test : CT) (elt : CE) (vs : List Nat) : CE := fun ρ A => (ci ρ A).bind fun p A1 => if p.1.length ≤ 100000 then (compL t test elt p.2 ρ.b (wipeS ρ.s vs) p.1 A1 []).bind fun acc A2 => .ok (.new .lst acc) A2 else .bad
abbrev EF : XE := fun _ _ => False
theorem lc_ok {T : Tb} {E : XE} {ci : CI} {t : Tgt} {test : CT} {elt : CE} {vs : List Nat} {σ : L2.St} {H : Hp} {Q : VK} (hsl : ∀ i ∈ slots t, i ∈ vs) (h : tE T E (cLc ci t test elt vs) σ H Q) : tLc (tI T E ci) (den T.K t) (tT T EF test) (tE T EF elt) vs σ H Q := by
  obtain ⟨ι, A, ρ, at0, p⟩ := h
  refine ⟨ι, A, ρ, at0, ?_⟩
  unfold cLc at p
  cases e : ci ρ A with
  | bad => rw [e] at p; exact p
  | exc k A' => rw [e] at p; exact p
  | ok pw A1 =>
    rw [e] at p
    simp only [Res.bind] at p
    split at p
    · rename_i hlen
      have hb1 : ∀ {ι1 H1}, Nx T ρ.b ι A H ι1 A1 H1 → ρ.b ≤ A1.length := fun n => Nat.le_trans at0.bl (n.le at0.wd)
      refine fun ι1 H1 J n hJ hseen D hD => ?_
      have hb := hb1 n
      refine ⟨fun i m H2 => m = pw.1.length - i ∧ i ≤ pw.1.length ∧ ∃ ι2 A2 accV acc fp, Nx T ρ.b ι1 A1 H1 ι2 A2 H2 ∧ H2 D = some (.lst accV) ∧ D ∉ ι2 ∧ Rps T ι2 H2 accV acc fp ∧ Fr H1 ι2 (fp ++ [D]) ∧ seen pw.2 A2 = true ∧ acc.length ≤ i ∧
        Po T ρ.b ι A H ((compL t test elt pw.2 ρ.b (wipeS ρ.s vs) (pw.1.drop i) A2 acc).bind fun acc A2 => .ok (.new .lst acc) A2) Q E, ⟨pw.1.length, by simp, Nat.zero_le _, ι1, A1, [], [], [], (Nx.refl n.wd).upd hD, upd_same, n.wd.fresh hD, .nil, ⟨by simp, fun a ha => ?_⟩, hseen, Nat.le_refl _, p⟩, ?_⟩
      · simp at ha
        subst ha
        exact ⟨hD, n.wd.fresh hD⟩
      · rintro i m H2 ⟨rfl, hi, ι2, A2, accV, acc, fp, n2, hD2, hDι, racc, facc, hs2, hacc, po⟩
        have hJ2 := hJ ι2 A2 H2 n2 hs2
        by_cases hlt : i < pw.1.length
        · obtain ⟨hgo, hy⟩ := hJ2.1 i pw.1[i] (List.getElem?_eq_getElem hlt)
          refine .inr ⟨hgo, fun H3 => i + 1 ≤ pw.1.length ∧ ∃ ι2 A2 accV acc fp, Nx T ρ.b ι1 A1 H1 ι2 A2 H3 ∧ H3 D = some (.lst accV) ∧ D ∉ ι2 ∧ Rps T ι2 H3 accV acc fp ∧ Fr H1 ι2 (fp ++ [D]) ∧ seen pw.2 A2 = true ∧ acc.length ≤ i + 1 ∧
            Po T ρ.b ι A H ((compL t test elt pw.2 ρ.b (wipeS ρ.s vs) (pw.1.drop (i + 1)) A2 acc).bind fun acc A2 => .ok (.new .lst acc) A2) Q E, fun H3 h3 => ⟨pw.1.length - (i + 1), by omega, rfl, h3.1, h3.2⟩, fun x H3 hx => ?_⟩
          obtain ⟨rx, nx⟩ := hy x H3 hx
          have n3 := n2.trans nx
          have hdrop : pw.1.drop i = pw.1[i] :: pw.1.drop (i + 1) := List.drop_eq_getElem_cons hlt
          rw [hdrop, compL] at po
          -- the target
          cases hp : put t pw.1[i] (wipeS ρ.s vs) with
          | none => rw [hp] at po; exact False.elim po
          | some s1 =>
            rw [hp] at po
            have er3 : Er T ι2 H3 σ ρ.s := (at0.er.mono (n.trans n3).ext)
            have hD3 : H3 D = some (.lst accV) := nx.ext.keep D _ hD2 rfl (.inl hDι)
            have hdomacc : ∀ a ∈ fp, ∃ o, H2 a = some o := Rps.dom _ _ _ racc
            have racc3 : Rps T ι2 H3 accV acc fp := Rps.mono nx.ext _ _ _ racc fun a ha => (facc.2 a (by simp [ha])).2
            refine den_ok t pw.1[i] x (wipeS ρ.s vs) s1 (L2.wipe σ vs) _ (er3.wipe vs) rx hp fun σ1 er1 hw1 => ⟨?_, ?_⟩
            · rw [hw1 vs hsl]
              exact wipe_wipe vs
            · have at3 : At T σ1 H3 ι2 A2 ⟨ρ.b, s1⟩ := ⟨n3.wd, er1, Nat.le_trans hb (n3.le n.wd)⟩
              refine ⟨ι2, A2, ⟨ρ.b, s1⟩, at3, ?_⟩
              dsimp only at po ⊢
              cases et : test ⟨ρ.b, s1⟩ A2 with
              | bad => rw [et] at po; exact False.elim po
              | exc k A3 => rw [et] at po; exact False.elim po
              | ok kk A3 =>
                rw [et] at po
                intro ι4 H4 n4
                have n04 := n3.trans n4
                have hD4 : H4 D = some (.lst accV) := n4.ext.keep D _ hD3 rfl (.inl hDι)
                have hdom3 : ∀ a ∈ fp ++ [D], ∃ o, H3 a = some o := fun a ha => by
                  rcases List.mem_append.mp ha with z | z
                  · exact Rps.dom _ _ _ racc3 a z
                  · simp at z; subst z; exact ⟨_, hD3⟩
                have off4 : ∀ a ∈ fp ++ [D], a ∉ ι4 := fun a ha z => by
                  obtain ⟨nw, en, hn⟩ := n4.ext.pre
                  rw [en] at z
                  rcases List.mem_append.mp z with z | z
                  · exact (facc.2 a ha).2 z
                  · obtain ⟨o, ho⟩ := hdom3 a ha
                    rw [hn a z] at ho; cases ho
                have racc4 : Rps T ι4 H4 accV acc fp := Rps.mono n4.ext _ _ _ racc3 fun a ha => (facc.2 a (by simp [ha])).2
                have facc4 : Fr H1 ι4 (fp ++ [D]) := ⟨facc.1, fun a ha => ⟨(facc.2 a ha).1, off4 a ha⟩⟩
                cases kk with
                | false =>
                  rw [if_neg Bool.false_ne_true]
                  simp only at po
                  split at po
                  · rename_i hs3
                    exact ⟨hlt, ι4, A3, accV, acc, fp, n04, hD4, off4 D (by simp), racc4, facc4, hs3, by omega, po⟩
                  · exact False.elim po
                | true =>
                  rw [if_pos rfl]
                  refine ⟨ι4, A3, ⟨ρ.b, s1⟩, at3.next n4, ?_⟩
                  dsimp only at po ⊢
                  cases ee : elt ⟨ρ.b, s1⟩ A3 with
                  | bad => rw [ee] at po; exact False.elim po
                  | exc k A4 => rw [ee] at po; exact False.elim po
                  | ok y A4 =>
                    rw [ee] at po
                    intro ι5 H5 yv fy n5 ry fry
                    simp only at po
                    split at po
                    · rename_i hs4
                      have n05 := n04.trans n5
                      have hDι4 := off4 D (by simp)
                      have hD5 : H5 D = some (.lst accV) := n5.ext.keep D _ hD4 rfl (.inl hDι4)
                      have hdom4 : ∀ a ∈ fp ++ [D], ∃ o, H4 a = some o := fun a ha => by
                        rcases List.mem_append.mp ha with z | z
                        · exact Rps.dom _ _ _ racc4 a z
                        · simp at z; subst z; exact ⟨_, hD4⟩
                      have off5 : ∀ a ∈ fp ++ [D], a ∉ ι5 := fun a ha z => by
                        obtain ⟨nw, en, hn⟩ := n5.ext.pre
                        rw [en] at z
                        rcases List.mem_append.mp z with z | z
                        · exact off4 a ha z
                        · obtain ⟨o, ho⟩ := hdom4 a ha
                          rw [hn a z] at ho; cases ho
                      have racc5 : Rps T ι5 H5 accV acc fp := Rps.mono n5.ext _ _ _ racc4 fun a ha => off4 a (by simp [ha])
                      have hDfy : D ∉ fy := fun z => by
                        rw [(fry.2 D z).1] at hD4; cases hD4
                      have hDfp : D ∉ fp := fun z => by
                        have := facc.1
                        rw [List.nodup_append] at this
                        exact this.2.2 D z D (by simp) rfl
                      have hdisj : ∀ a ∈ fp, a ∉ fy := fun a ha z => by
                        obtain ⟨o, ho⟩ := hdom4 a (by simp [ha])
                        rw [(fry.2 a z).1] at ho; cases ho
                      refine ⟨accV, hD5, by rw [racc5.len]; exact size_lt (by omega), hlt, ι5, A4, accV ++ [yv], acc ++ [y], fp ++ fy, n05.off hD5 hD (off5 D (by simp)), upd_same, off5 D (by simp), ?_, ⟨?_, fun a ha => ?_⟩, hs4, by simp; omega, po⟩
                      · have := (racc5.append (Rps.one ry))
                        exact Rps.off hD5 _ _ _ this (by simp [hDfp, hDfy])
                      · rw [List.nodup_append, List.nodup_append]
                        refine ⟨⟨?_, fry.1, fun x hx z hz q => hdisj x hx (q ▸ hz)⟩, by simp, fun x hx z hz q => ?_⟩
                        · have := facc.1
                          rw [List.nodup_append] at this
                          exact this.1
                        · simp at hz
                          subst hz; subst q
                          rcases List.mem_append.mp hx with q | q
                          · exact hDfp q
                          · exact hDfy q
                      · rcases List.mem_append.mp ha with z | z
                        · rcases List.mem_append.mp z with z | z
                          · exact ⟨(facc.2 a (by simp [z])).1, off5 a (by simp [z])⟩
                          · exact ⟨n04.ext.back (fry.2 a z).1, (fry.2 a z).2⟩
                        · simp at z
                          subst z
                          exact ⟨hD, off5 a (by simp)⟩
                    · exact False.elim po
        · have hi2 : i = pw.1.length := by omega
          subst hi2
          refine .inl ⟨hJ2.2 _ (Nat.le_refl _), ?_⟩
          rw [List.drop_length, compL] at po
          exact po ι2 H2 _ (fp ++ [D]) (n.trans n2) (.new hD2 rfl racc) (facc.back n.ext)
    · exact p.elim
where
  wipe_wipe {σ : L2.St} : ∀ vs : List Nat, L2.wipe (L2.wipe σ vs) vs = L2.wipe σ vs := fun vs => by
    have key : ∀ (us : List Nat), (∀ u ∈ us, u ∈ vs) → L2.wipe (L2.wipe σ us) vs = L2.wipe σ vs := by
      intro us
      induction us with
      | nil => intro _; rfl
      | cons u us ih =>
        intro h
        rw [show L2.wipe σ (u :: us) = (L2.wipe σ us).set u none from rfl, wipe_set (h u (by simp))]
        exact ih fun x hx => h x (by simp [hx])
    exact key vs fun _ h => h
end Ab

set_option Elab.async false
set_option linter.all false
set_option maxRecDepth 100000
set_option maxHeartbeats 1000000
set_option autoImplicit false
/-! Ab9: comprehensions as terms, statements, loops. -/
namespace Ab
open PySem PySem.Spec PyProof.Rows L2

theorem gts_nil {X : Cx} {T : Tb} {E : XE} : PTs X [] (tT T E cYes) := ⟨fun pins s σ H Q I h => pts_nil.run pins s σ H Q I (by
  obtain ⟨ι, A, ρ, a, p⟩ := h
  exact p ι H (.refl a.wd))⟩
theorem gts_one {X : Cx} {T : Tb} {E : XE} {c : Expr} {t : CT} (h : PT X c (tT T E t)) : PTs X [c] (tT T E t) := pts_one h
section
variable {X : Cx} {T : Tb} {E : XE}
theorem ge_lc {elt tg iter : Expr} {ifs : List Expr} {scope : Scope} {own : List (Str × Nat)} {pos : Pos} {ci : CI} {t : Tgt} {test : CT} {ce : CE} (hsl : ∀ i ∈ slots t, i ∈ own.map (·.2)) (hc : X.calm = true) (hN : X.N.Nodup) (hi : PI X tg iter (tI T E ci)) (ok : BlkOk X.N X.env.scope scope own)
    (hg : ∀ (s : Shared) (H : Hp) (C : Addr) (cl : List (Str × Addr)) (fp : List Addr), PG (X.blk s H scope (compEnvC scope cl C X.env) fp) tg (den T.K t)) (ht : ∀ (s : Shared) (H : Hp) (C : Addr) (cl : List (Str × Addr)) (fp : List Addr), PTs (X.blk s H scope (compEnvC scope cl C X.env) fp) ifs (tT T EF test))
    (he : ∀ (s : Shared) (H : Hp) (C : Addr) (cl : List (Str × Addr)) (fp : List Addr), PE (X.blk s H scope (compEnvC scope cl C X.env) fp) elt (tE T EF ce)) (hs : ∀ x, foldedSetIterable iter X.env x = pure x := by intro _; rfl) :
    PE X (.ListComp elt [⟨tg, iter, ifs, 0⟩] scope pos) (tE T E (cLc ci t test ce (own.map (·.2)))) :=
  PE.imp (pe_lc hc hN hi ok hg ht he hs) fun σ H Q q => lc_ok hsl q
end

/-! ### statements -/
def cDrop (c : CE) : CS := fun ρ A => match c ρ A with
  | .ok _ A1 => .nx ρ.s A1
  | .exc k A1 => .exc k A1
  | .bad => .bad
def cPut (t : Tgt) (c : CE) : CS := fun ρ A => match c ρ A with
  | .ok d A1 => (match put t (box d A1).1 ρ.s with
    | some s => .nx s (box d A1).2
    | none => .bad)
  | .exc k A1 => .exc k A1
  | .bad => .bad
def cPar (i j : Nat) (cs : CA) : CS := fun ρ A => match cs ρ A with
  | .ok ds A1 => (match (boxs ds A1).1 with
    | [x, y] => .nx ((ρ.s.set i (some x)).set j (some y)) (boxs ds A1).2
    | _ => .bad)
  | .exc k A1 => .exc k A1
  | .bad => .bad
def cAug (i : Nat) (g : Int → Int → Int) (c : CE) : CS := fun ρ A => match ρ.s[i]? with
  | some (some (.int x)) => (match c ρ A with
    | .ok (.int y) A1 => .nx (ρ.s.set i (some (.int (g x y)))) A1
    | .exc k A1 => .exc k A1
    | _ => .bad)
  | _ => .bad
def cRet (c : CE) : CS := fun ρ A => match c ρ A with
  | .ok d A1 => .rt d A1
  | .exc k A1 => .exc k A1
  | .bad => .bad
def cRetN : CS := fun ρ A => .rt .non A
def cNx : CS := fun ρ A => .nx ρ.s A
def cBad : CS := fun _ _ => .bad
def cSeq (c d : CS) : CS := fun ρ A => match c ρ A with
  | .nx s A1 => d ⟨ρ.b, s⟩ A1
  | r => r
def cIf (t : CT) (c d : CS) : CS := fun ρ A => match t ρ A with
  | .ok true A1 => c ρ A1
  | .ok false A1 => d ρ A1
  | .exc k A1 => .exc k A1
  | .bad => .bad
def forL (t : Tgt) (body : CS) (w : Wch) (b : Nat) : List Vl → List (Option Vl) → AH → SR
  | [], s, A => .nx s A
  | d :: r, s, A => match put t d s with
    | none => .bad
    | some s1 => match body ⟨b, s1⟩ A with
      | .nx s2 A2 => if seen w A2 = true then forL t body w b r s2 A2 else .bad
      | q => q
def cFor (ci : CI) (t : Tgt) (body : CS) : CS := fun ρ A => match ci ρ A with
  | .ok p A1 => forL t body p.2 ρ.b p.1 ρ.s A1
  | .exc k A1 => .exc k A1
  | .bad => .bad
def whileL (test : CT) (body : CS) (b : Nat) : Nat → List (Option Vl) → AH → SR
  | 0, _, _ => .bad
  | f + 1, s, A => match test ⟨b, s⟩ A with
    | .ok true A1 => (match body ⟨b, s⟩ A1 with
      | .nx s2 A2 => whileL test body b f s2 A2
      | q => q)
    | .ok false A1 => .nx s A1
    | .exc k A1 => .exc k A1
    | .bad => .bad
def cWhile (fuel : Nat) (test : CT) (body : CS) : CS := fun ρ A => whileL test body ρ.b fuel ρ.s A
section
variable {X : Cx} {T : Tb} {E : XE} {st : Stmt} {rest : List Stmt} {e : Expr} {c : CE} {pos : Pos} {cs : CA}
theorem gs_drop (he : PE X e (tE T E c)) (hs : swapsWith e none pos.line X.env = pure false := by rfl) : PS X (.Expr e pos) (tS T E (cDrop c)) :=
  PS.imp (ps_expr he hs) fun D σ H q => by
    obtain ⟨ι, A, ρ, a, p⟩ := q
    refine ⟨ι, A, ρ, a, ?_⟩
    unfold cDrop at p
    cases e1 : c ρ A with
    | bad => rw [e1] at p; exact p
    | exc k A' => rw [e1] at p; exact p
    | ok d A' =>
      rw [e1] at p
      exact fun ι1 H1 v fp n r f => p ι1 H1 σ n (a.er.mono n.ext)
theorem put_ok {t : Tgt} {c : CE} {D : Ends} {σ : L2.St} {H : Hp} (h : tS T E (cPut t c) D σ H) : tE T E c σ H fun x H1 => den T.K t x σ H1 D.nx := by
  obtain ⟨ι, A, ρ, a, p⟩ := h
  refine ⟨ι, A, ρ, a, ?_⟩
  unfold cPut at p
  cases e1 : c ρ A with
  | bad => rw [e1] at p; exact p
  | exc k A' => rw [e1] at p; exact p
  | ok d A' =>
    rw [e1] at p
    intro ι1 H1 v fp n r f
    simp only at p
    split at p
    · rename_i s es
      obtain ⟨n2, r2, ex, e2⟩ := n.boxed1 (Nat.le_trans a.bl (n.le a.wd)) r f
      exact den_ok t _ v ρ.s s σ D.nx (a.er.mono n2.ext) r2 es fun σ' er _ => p _ H1 σ' n2 er
    · exact p.elim
theorem gs_set {i : Nat} {x : Str} {pos' : Pos} (hN : X.N.Nodup) (hi : X.N[i]? = some x) (hx : Loc X.env.scope x) (he : PE X e (tE T E c)) (hs : swapsWith e (some (.Name x pos')) pos.line X.env = pure false := by rfl) (hf : X.fn x = true ∨ X.env.scope.names.lookup x = some .local := by first | exact .inl rfl | exact .inr rfl | assumption) :
    PS X (.Assign [.Name x pos'] e pos) (tS T E (cPut (.nm i) c)) :=
  PS.imp (ps_set hN hi hx he hs hf) fun D σ H q => put_ok q
theorem gs_setLc {i : Nat} {y : Str} {py : Pos} {elt tg iter : Expr} {ifs : List Expr} {scope : Scope} {own : List (Str × Nat)} {spos : Pos} {ci : CI} {t : Tgt} {test : CT} {ce : CE} (hsl : ∀ i ∈ slots t, i ∈ own.map (·.2)) (hc : X.calm = true) (hN : X.N.Nodup) (hy : X.N[i]? = some y) (hyl : X.env.scope.names.lookup y = some .local)
    (hsw : swapsWith (.ListComp elt [⟨tg, iter, ifs, 0⟩] scope pos) (some (.Name y py)) spos.line X.env = pure true) (hi : PI X tg iter (tI T E ci)) (ok : BlkOk X.N X.env.scope scope own)
    (hg : ∀ (s : Shared) (H : Hp) (C : Addr) (cl : List (Str × Addr)) (fp : List Addr), PG (X.blk s H scope (compEnvC scope cl C X.env) fp) tg (den T.K t)) (ht : ∀ (s : Shared) (H : Hp) (C : Addr) (cl : List (Str × Addr)) (fp : List Addr), PTs (X.blk s H scope (compEnvC scope cl C X.env) fp) ifs (tT T EF test))
    (he : ∀ (s : Shared) (H : Hp) (C : Addr) (cl : List (Str × Addr)) (fp : List Addr), PE (X.blk s H scope (compEnvC scope cl C X.env) fp) elt (tE T EF ce)) (hs : ∀ x, foldedSetIterable iter X.env x = pure x := by intro _; rfl) :
    PS X (.Assign [.Name y py] (.ListComp elt [⟨tg, iter, ifs, 0⟩] scope pos) spos) (tS T E (cPut (.nm i) (cLc ci t test ce (own.map (·.2))))) :=
  PS.imp (ps_setLc hc hN hy hyl hsw hi ok hg ht he hs) fun D σ H q => lc_ok hsl (put_ok (t := .nm i) q)
theorem gs_asg {tg : Expr} {t : Tgt} (he : PE X e (tE T E c)) (hg : PG X tg (den T.K t)) (hs : swapsWithSole [tg] e pos.line X.env = pure false := by rfl) (hw : swappedStores [tg] e X.env = pure none := by rfl)
    (h1 : (assignEach [tg] X.env).map (·.2) = [assign tg X.env] := by rfl) : PS X (.Assign [tg] e pos) (tS T E (cPut t c)) :=
  PS.imp (ps_asg he hg hs hw h1) fun D σ H q => put_ok q
theorem gs_par {i j : Nat} {x y : Str} {a b : Expr} {px py pt : Pos} {kt k2 pt2} (hc : X.calm = true) (hN : X.N.Nodup) (hi : X.N[i]? = some x) (hj : X.N[j]? = some y) (hij : i ≠ j)
    (hx : X.env.scope.names.lookup x = some .local) (hy : X.env.scope.names.lookup y = some .local) (ha : PA X [a, b] (tA T E cs))
    (hw : swappedStores [.Tuple [.Name x px, .Name y py] kt pt] (.Tuple [a, b] k2 pt2) X.env = pure (some [x, y]))
    (hs : swapsWithSole [.Tuple [.Name x px, .Name y py] kt pt] (.Tuple [a, b] k2 pt2) pos.line X.env = pure false := by rfl) :
    PS X (.Assign [.Tuple [.Name x px, .Name y py] kt pt] (.Tuple [a, b] k2 pt2) pos) (tS T E (cPar i j cs)) :=
  PS.imp (ps_par hc hN hi hj hij hx hy ha hw hs) fun D σ H q => by
    obtain ⟨ι, A, ρ, at0, p⟩ := q
    refine ⟨ι, A, ρ, at0, ?_⟩
    unfold cPar at p
    cases e1 : cs ρ A with
    | bad => rw [e1] at p; exact p
    | exc k A' => rw [e1] at p; exact p
    | ok ds A' =>
      rw [e1] at p
      intro ι1 H1 vs fp n r f
      simp only at p
      obtain ⟨n2, r2, ex, e2⟩ := n.boxed (Nat.le_trans at0.bl (n.le at0.wd)) r f
      split at p
      · rename_i u v eb
        rw [eb] at r2
        obtain ⟨v1, w1, f1, f2, e3, e4, q1, q2⟩ := r2.two_inv
        obtain ⟨rfl, rfl⟩ := List.append_eq_nil_iff.mp e4.symm
        subst e3
        exact ⟨v1, w1, rfl, p _ H1 _ n2 (((at0.er.mono n2.ext).set q1).set q2)⟩
      · exact p.elim
theorem gs_aug {i : Nat} {x : Str} {op : Operator} {g : Int → Int → Int} {pos' : Pos} (hN : X.N.Nodup) (hi : X.N[i]? = some x) (hx : Loc X.env.scope x) (he : PE X e (tE T E c)) (ho : PIp X op (ipI g)) (hf : X.fn x = true ∨ X.env.scope.names.lookup x = some .local := by first | exact .inl rfl | exact .inr rfl | assumption) :
    PS X (.AugAssign (.Name x pos') op e pos) (tS T E (cAug i g c)) :=
  PS.imp (ps_aug hN hi hx he ho hf) fun D σ H q => by
    obtain ⟨ι, A, ρ, a, p⟩ := q
    unfold cAug at p
    split at p
    · rename_i x0 ex
      obtain ⟨v, h1, h2⟩ := a.er.2 i _ ex
      cases h2
      refine ⟨_, h1, ι, A, ρ, a, ?_⟩
      cases e1 : c ρ A with
      | bad => rw [e1] at p; exact p.elim
      | exc k A' => rw [e1] at p; exact p
      | ok d A' =>
        rw [e1] at p
        cases d with
        | int y =>
          intro ι1 H1 v fp n r f
          cases r
          exact ⟨x0, y, rfl, rfl, p ι1 H1 _ n ((a.er.mono n.ext).set (.int _))⟩
        | _ => exact False.elim p
    · exact p.elim
theorem gs_ret (he : PE X e (tE T E c)) : PS X (.Return (some e) pos) (tS T E (cRet c)) :=
  PS.imp (ps_ret he) fun D σ H q => by
    obtain ⟨ι, A, ρ, a, p⟩ := q
    refine ⟨ι, A, ρ, a, ?_⟩
    unfold cRet at p
    cases e1 : c ρ A with
    | bad => rw [e1] at p; exact p
    | exc k A' => rw [e1] at p; exact p
    | ok d A' => rw [e1] at p; exact p
theorem gs_retN : PS X (.Return none pos) (tS T E cRetN) :=
  PS.imp ps_retN fun D σ H q => by
    obtain ⟨ι, A, ρ, a, p⟩ := q
    exact p ι H .non [] (.refl a.wd) .non .nil
theorem gs_pass : PS X (.Pass pos) (tS T E cNx) :=
  PS.imp ps_pass fun D σ H q => by
    obtain ⟨ι, A, ρ, a, p⟩ := q
    exact p ι H σ (.refl a.wd) a.er
theorem gs_never : PS X st (tS T E cBad) :=
  PS.imp ps_never fun D σ H q => by
    obtain ⟨ι, A, ρ, a, p⟩ := q
    exact p
theorem gss_nil : PSs X [] (tS T E cNx) :=
  PSs.imp pss_nil fun D σ H q => by
    obtain ⟨ι, A, ρ, a, p⟩ := q
    exact p ι H σ (.refl a.wd) a.er
theorem gss_one {cd : CS} (h : PS X st (tS T E cd)) : PSs X [st] (tS T E cd) := pss_one h
theorem gss_cons {c1 c2 : CS} (h1 : PS X st (tS T E c1)) (h2 : PSs X rest (tS T E c2)) : PSs X (st :: rest) (tS T E (cSeq c1 c2)) :=
  PSs.imp (pss_cons h1 h2) fun D σ H q => by
    obtain ⟨ι, A, ρ, a, p⟩ := q
    refine ⟨ι, A, ρ, a, ?_⟩
    unfold cSeq at p
    cases e1 : c1 ρ A with
    | bad => rw [e1] at p; exact p
    | exc k A' => rw [e1] at p; exact p
    | rt d A' => rw [e1] at p; exact p
    | nx s A' =>
      rw [e1] at p
      exact fun ι1 H1 σ' n er => ⟨ι1, A', ⟨ρ.b, s⟩, ⟨n.wd, er, Nat.le_trans a.bl (n.le a.wd)⟩, PoS.re n p⟩
theorem gs_if {t : CT} {a b : List Stmt} {c1 c2 : CS} (hc : PT X e (tT T E t)) (ha : PSs X a (tS T E c1)) (hb : PSs X b (tS T E c2)) : PS X (.If e a b pos) (tS T E (cIf t c1 c2)) :=
  PS.imp (ps_if hc ha hb) fun D σ H q => by
    obtain ⟨ι, A, ρ, a, p⟩ := q
    refine ⟨ι, A, ρ, a, ?_⟩
    unfold cIf at p
    cases e1 : t ρ A with
    | bad => rw [e1] at p; exact p
    | exc k A' => rw [e1] at p; exact p
    | ok k A' =>
      rw [e1] at p
      intro ι1 H1 n
      cases k with
      | true =>
        rw [if_pos rfl]
        exact ⟨ι1, A', ρ, a.next n, PoS.re n p⟩
      | false =>
        rw [if_neg Bool.false_ne_true]
        exact ⟨ι1, A', ρ, a.next n, PoS.re n p⟩
theorem gs_for {tg iter : Expr} {body : List Stmt} {ci : CI} {t : Tgt} {cb : CS} (hp : PassesOwn (model X.prog X.w) X.A X.env X.xe) (hc : X.calm = true) (hi : PI X tg iter (tI T E ci)) (hg : PG X tg (den T.K t)) (hb : PSs X body (tS T E cb))
    (hs : ∀ x, foldedSetIterable iter X.env x = pure x := by intro _; rfl) : PS X (.For tg iter body [] pos) (tS T E (cFor ci t cb)) :=
  PS.imp (ps_for hp hc hi hg hb hs) fun D σ H q => by
    obtain ⟨ι, A, ρ, at0, p⟩ := q
    refine ⟨ι, A, ρ, at0, ?_⟩
    unfold cFor at p
    cases e1 : ci ρ A with
    | bad => rw [e1] at p; exact p
    | exc k A' => rw [e1] at p; exact p
    | ok pw A1 =>
      rw [e1] at p
      intro ι1 H1 J n hJ hseen
      simp only at p
      have hb1 := Nat.le_trans at0.bl (n.le at0.wd)
      refine ⟨fun i m σ2 H2 => m = pw.1.length - i ∧ i ≤ pw.1.length ∧ ∃ ι2 A2 s2, Nx T ρ.b ι1 A1 H1 ι2 A2 H2 ∧ Er T ι2 H2 σ2 s2 ∧ seen pw.2 A2 = true ∧ PoS T ρ.b ι A H (forL t cb pw.2 ρ.b (pw.1.drop i) s2 A2) D E,
        ⟨pw.1.length, by simp, Nat.zero_le _, ι1, A1, ρ.s, .refl n.wd, at0.er.mono n.ext, hseen, p⟩, ?_⟩
      rintro i m σ2 H2 ⟨rfl, hi, ι2, A2, s2, n2, er2, hs2, po⟩
      have hJ2 := hJ ι2 A2 H2 n2 hs2
      by_cases hlt : i < pw.1.length
      · obtain ⟨hgo, hy⟩ := hJ2.1 i pw.1[i] (List.getElem?_eq_getElem hlt)
        refine .inr ⟨hgo, fun σ3 H3 => i + 1 ≤ pw.1.length ∧ ∃ ι2 A2 s2, Nx T ρ.b ι1 A1 H1 ι2 A2 H3 ∧ Er T ι2 H3 σ3 s2 ∧ seen pw.2 A2 = true ∧ PoS T ρ.b ι A H (forL t cb pw.2 ρ.b (pw.1.drop (i + 1)) s2 A2) D E, fun σ3 H3 h3 => ⟨pw.1.length - (i + 1), by omega, rfl, h3.1, h3.2⟩, fun x H3 hx => ?_⟩
        obtain ⟨rx, nx⟩ := hy x H3 hx
        have n3 := n2.trans nx
        rw [List.drop_eq_getElem_cons hlt, forL] at po
        cases hpt : put t pw.1[i] s2 with
        | none => rw [hpt] at po; exact False.elim po
        | some s3 =>
          rw [hpt] at po
          refine den_ok t pw.1[i] x s2 s3 σ2 _ (er2.mono nx.ext) rx hpt fun σ3 er3 _ => ?_
          refine ⟨ι2, A2, ⟨ρ.b, s3⟩, ⟨n3.wd, er3, Nat.le_trans hb1 (n3.le n.wd)⟩, ?_⟩
          dsimp only at po ⊢
          have n03 := n.trans n3
          cases eb : cb ⟨ρ.b, s3⟩ A2 with
          | bad => rw [eb] at po; exact False.elim po
          | exc k A' => rw [eb] at po; exact fun ι' H' m => po ι' H' (n03.trans m)
          | rt d A' => rw [eb] at po; exact fun ι' H' v fp m r f => po ι' H' v fp (n03.trans m) r (f.back n03.ext)
          | nx s4 A4 =>
            rw [eb] at po
            intro ι4 H4 σ4 n4 er4
            simp only at po
            split at po
            · rename_i hs4
              exact ⟨hlt, ι4, A4, s4, n3.trans n4, er4, hs4, po⟩
            · exact False.elim po
      · have hi2 : i = pw.1.length := by omega
        subst hi2
        refine .inl ⟨hJ2.2 _ (Nat.le_refl _), ?_⟩
        rw [List.drop_length, forL] at po
        exact po ι2 H2 σ2 (n.trans n2) er2
theorem gs_while {fuel : Nat} {t : CT} {body : List Stmt} {cb : CS} (hp : PassesOwn (model X.prog X.w) X.A X.env X.xe) (hc : PT X e (tT T E t)) (hb : PSs X body (tS T E cb)) : PS X (.While e body [] pos) (tS T E (cWhile fuel t cb)) :=
  PS.imp (ps_while hp hc hb) fun D σ H q => by
    obtain ⟨ι, A, ρ, at0, p⟩ := q
    refine ⟨fun m σ2 H2 => ∃ ι2 A2 s2, Nx T ρ.b ι A H ι2 A2 H2 ∧ Er T ι2 H2 σ2 s2 ∧ PoS T ρ.b ι A H (whileL t cb ρ.b m s2 A2) D E, ⟨fuel, ι, A, ρ.s, .refl at0.wd, at0.er, p⟩, ?_⟩
    rintro m σ2 H2 ⟨ι2, A2, s2, n2, er2, po⟩
    have at2 : At T σ2 H2 ι2 A2 ⟨ρ.b, s2⟩ := ⟨n2.wd, er2, Nat.le_trans at0.bl (n2.le at0.wd)⟩
    refine ⟨ι2, A2, ⟨ρ.b, s2⟩, at2, ?_⟩
    cases m with
    | zero => exact False.elim po
    | succ m =>
      rw [whileL] at po
      dsimp only
      cases et : t ⟨ρ.b, s2⟩ A2 with
      | bad => rw [et] at po; exact po
      | exc k A' => rw [et] at po; exact fun ι' H' m => po ι' H' (n2.trans m)
      | ok kk A3 =>
        rw [et] at po
        intro ι3 H3 n3
        cases kk with
        | false =>
          rw [if_neg Bool.false_ne_true]
          exact po ι3 H3 σ2 (n2.trans n3) (er2.mono n3.ext)
        | true =>
          rw [if_pos rfl]
          refine ⟨fun σ4 H4 => ∃ ι2 A2 s2, Nx T ρ.b ι A H ι2 A2 H4 ∧ Er T ι2 H4 σ4 s2 ∧ PoS T ρ.b ι A H (whileL t cb ρ.b m s2 A2) D E, fun σ4 H4 h4 => ⟨m, Nat.lt_succ_self _, h4⟩, ι3, A3, ⟨ρ.b, s2⟩, at2.next n3, ?_⟩
          simp only at po
          have n03 := n2.trans n3
          dsimp only
          cases eb : cb ⟨ρ.b, s2⟩ A3 with
          | bad => rw [eb] at po; exact False.elim po
          | exc k A' => rw [eb] at po; exact fun ι' H' m => po ι' H' (n03.trans m)
          | rt d A' => rw [eb] at po; exact fun ι' H' v fp m r f => po ι' H' v fp (n03.trans m) r (f.back n03.ext)
          | nx s4 A4 =>
            rw [eb] at po
            exact fun ι4 H4 σ4 n4 er4 => ⟨ι4, A4, s4, n03.trans n4, er4, po⟩
end
end Ab

set_option Elab.async false
set_option linter.all false
set_option maxRecDepth 100000
set_option maxHeartbeats 1000000
set_option autoImplicit false
/-! Ab10: chains, module constants, the end of a def. -/
namespace Ab
open PySem PySem.Spec PyProof.Rows L2

def cCh (g g' : Int → Int → Bool) (ca cb cc : CE) : CE := fun ρ A => (ca ρ A).bind fun x A1 => (cb ρ A1).bind fun y A2 => match x, y with
  | .int i, .int j => if g i j = true then (cc ρ A2).bind fun z A3 => (match z with
      | .int k => .ok (.bl (g' j k)) A3
      | _ => .bad) else .ok (.bl false) A2
  | _, _ => .bad
section
variable {X : Cx} {T : Tb} {E : XE} {a b c : Expr} {pos : Pos} {ca cb cc : CE} {op op' : CmpOp} {g g' : Int → Int → Bool}
theorem ch_ok {σ : L2.St} {H : Hp} {Q : VK} (h : tE T E (cCh g g' ca cb cc) σ H Q) : tChain (rI0 fun i j => .bl (g i j)) (rI0 fun i j => .bl (g' i j)) (tE T E ca) (tE T E cb) (tE T E cc) σ H Q := by
  obtain ⟨ι, A, ρ, at0, p⟩ := h
  refine ⟨ι, A, ρ, at0, ?_⟩
  unfold cCh at p
  cases e : ca ρ A with
  | bad => rw [e] at p; exact p
  | exc k A' => rw [e] at p; exact p
  | ok x A1 =>
    rw [e] at p
    intro ι1 H1 v fp n r f
    refine ⟨ι1, A1, ρ, at0.next n, ?_⟩
    simp only [Res.bind] at p
    cases e2 : cb ρ A1 with
    | bad => rw [e2] at p; exact p
    | exc k A' => rw [e2] at p; exact fun ι' H' m => p ι' H' (n.trans m)
    | ok y A2 =>
      rw [e2] at p
      intro ι2 H2 w fq n2 r2 f2
      simp only at p
      split at p
      · rename_i i j
        cases r; cases r2
        refine ⟨i, j, rfl, rfl, g i j, rfl, ?_⟩
        split at p
        · rename_i hg
          rw [hg, if_pos rfl]
          refine ⟨ι2, A2, ρ, (at0.next n).next n2, ?_⟩
          cases e3 : cc ρ A2 with
          | bad => rw [e3] at p; exact p
          | exc k A' => rw [e3] at p; exact fun ι' H' m => p ι' H' ((n.trans n2).trans m)
          | ok z A3 =>
            rw [e3] at p
            intro ι3 H3 u fz n3 r3 f3
            simp only at p
            split at p
            · rename_i k
              cases r3
              exact ⟨j, k, rfl, rfl, p ι3 H3 _ [] ((n.trans n2).trans n3) (.bl _) .nil⟩
            · exact p.elim
        · rename_i hg
          rw [if_neg hg]
          exact p ι2 H2 _ [] (n.trans n2) (.bl _) .nil
      · exact p.elim
theorem ge_ch (ho : OpR X (compareOp op) (rI0 fun i j => .bl (g i j))) (ho' : OpR X (compareOp op') (rI0 fun i j => .bl (g' i j))) (ha : PE X a (tE T E ca)) (hb : PE X b (tE T E cb)) (hc : PE X c (tE T E cc))
    (hm : lastMarks [op, op'] [b, c] = false := by with_unfolding_all rfl) : PE X (.Compare a [op, op'] [b, c] pos) (tE T E (cCh g g' ca cb cc)) :=
  PE.imp (pe_chain ho ho' ha hb hc hm) fun σ H Q q => ch_ok q
theorem gt_ch (ho : OpR X (compareOp op) (rI0 fun i j => .bl (g i j))) (ho' : OpR X (compareOp op') (rI0 fun i j => .bl (g' i j))) (ha : PE X a (tE T E ca)) (hb : PE X b (tE T E cb)) (hc : PE X c (tE T E cc))
    (hm : lastMarks [op, op'] [b, c] = false := by with_unfolding_all rfl) : PT X (.Compare a [op, op'] [b, c] pos) (tT T E (cTst (cCh g g' ca cb cc))) :=
  PT.imp (pt_chain ho ho' ha hb hc hm) fun σ H Q q => ch_ok (tE_test q)
end
/-- a def without callees' exceptions, at every level -/
theorem fn_zero {P : Program} {w : World} {K : PySem.W.Frag} {mg : Str → Option Value} {base : Heap} {CX : CXT} {f : Addr} {fd : FuncData} {ps : List Str} {T : Tb} {fn : Fn} (h : ∀ ds A, fn ds A = .bad) : FnOk P w K mg base CX 0 f fd ps (spF T fn ps.length) :=
  ⟨fun _ _ _ _ h => h.1, fun A outer s H args us vs Q E hr e0 hb r q => by
    obtain ⟨_, ι, A, ds, _, _, p⟩ := q
    rw [h] at p
    exact False.elim p⟩
theorem fn_zero0 {P : Program} {w : World} {K : PySem.W.Frag} {mg : Str → Option Value} {base : Heap} {CX : CXT} {f : Addr} {fd : FuncData} {ps : List Str} {T : Tb} {fn : Fn} (h : ∀ ds A, fn ds A = .bad) : FnOk P w K mg base CX 0 f fd ps (spF0 T fn ps.length) :=
  FnOk.imp (sp := spF T fn ps.length) (fn_zero h) fun vs H Q E q => by
    obtain ⟨h1, ι, A, ds, h2, h3, p⟩ := q
    rw [h] at p
    exact False.elim p
/-- where a def stands -/
structure Dn (K : PySem.W.Frag) (mg : Str → Option Value) (x : Str) (st : Stmt) (ps : List Str) (f : Addr) (fd : FuncData) : Prop where
  F : Fun K x x st f fd
  b : Binds K fd ps []
  g : mg x = some (.ref f)
/-- the law's own promise -/
theorem law_end {T : Tb} {f : Fn} {a : Addr} {ns : List Int} {H : Hp} (wx : Wx T [] H) (hR : ROk T H a (ns.map V.int)) (h : ∃ A, f [.rol (ns.map Vl.int)] [] = .ok (.bl true) A) : spF0 T f 1 [.ref a] H (fun v _ => v = .bl true) fun _ _ _ => False := by
  refine ⟨rfl, [], [], [.rol (ns.map Vl.int)], ⟨rfl, List.nodup_nil, fun n k xs a h => by simp at h, wx⟩, Rps.one (.rol (vs := ns.map V.int) hR (rps_ints ns)), ?_⟩
  obtain ⟨A, e⟩ := h
  rw [e]
  intro ι' H' v fp n r f
  cases r
  rfl
end Ab

set_option Elab.async false
set_option linter.all false
set_option maxRecDepth 100000
set_option maxHeartbeats 1000000
set_option autoImplicit false
/-! Ab11: module constants, lists repeated. -/
namespace Ab
open PySem PySem.Spec PyProof.Rows L2
theorem in_room {k : Nat} {A : Around} (r : Room k A) : A.units + 65 < cLine := by have := r.un; omega
theorem ge_gi {X : Cx} {T : Tb} {E : XE} {x : Str} {i : Int} {pos : Pos} (hg : Gl X x) (hm : ∃ t, X.mg x = some (.int i t)) (hd : (x == ("__debug__" : Str)) = false := by decide) : PE X (.Name x pos) (tE T E (cC (.int i))) := by
  obtain ⟨t, h⟩ := hm
  exact ge_c (v := .int i) (pe_glob hg h (show RelV (.int i) (.int i t) from ⟨t, rfl⟩) hd) fun _ _ => .int i
theorem rps_plain_nil {T : Tb} {ι : List Addr} {H : Hp} {xs : List Vl} {vs : List V} {fp : List Addr} (h : Rps T ι H vs xs fp) (p : plains xs = true) : Rps T ι H vs xs [] := by
  have := Rps.fp_plain xs vs fp h p
  subst this
  exact h
theorem rps_rep {T : Tb} {ι : List Addr} {H : Hp} {xs : List Vl} {vs : List V} (h : Rps T ι H vs xs []) : ∀ n : Nat, Rps T ι H (List.replicate n vs).flatten (List.replicate n xs).flatten []
  | 0 => .nil
  | n + 1 => by
    rw [List.replicate_succ, List.replicate_succ, List.flatten_cons, List.flatten_cons]
    exact Rps.append (fp := []) (fq := []) h (rps_rep h n)
theorem sf_mul {T : Tb} : SF T (r2 fun x y H Q => rI CMulB (fun i j => .int (i * j)) x y H Q ∨ rRep x y H Q) fMul := by
  intro b ι A H ι1 A1 H1 vs ds fp Q E w hb n r f p
  unfold fMul at p
  split at p
  · rename_i i j
    obtain ⟨v, w, f1, f2, rfl, rfl, q1, q2⟩ := r.two_inv
    cases q1; cases q2
    split at p
    · rename_i hc
      exact ⟨_, _, rfl, .inl ⟨i, j, rfl, rfl, hc, p ι1 H1 _ [] n (.int _) .nil⟩⟩
    · exact p.elim
  · rename_i x j _
    obtain ⟨v, u, f1, f2, rfl, rfl, q1, q2⟩ := r.two_inv
    cases q2
    split at p
    · exact p.elim
    · rename_i xs ex
      split at p
      · rename_i hc
        obtain ⟨a, as, g1, rfl, h1, h2, h3⟩ := mutL_ok n.wd q1 ex
        have h4 := rps_plain_nil h2 hc.1
        exact ⟨_, _, rfl, .inr ⟨a, j, as, rfl, rfl, h1, by omega, by omega, by rw [h2.len]; exact size_ok hc.2.2.2, fun q hq => new_ok n (rps_rep h4 j.toNat) .nil hq p⟩⟩
      · exact p.elim
  · exact p.elim
end Ab

set_option Elab.async false
set_option linter.all false
set_option maxRecDepth 100000
set_option maxHeartbeats 1000000
set_option autoImplicit false
/-! Ab12: raise. -/
namespace Ab
open PySem PySem.Spec PyProof.Rows L2
def cRaise (c : Nat) : CS := fun _ A => .exc c A
theorem gs_raise0 {X : Cx} {T : Tb} {st : Stmt} {c : Nat} : PS X st (tS T EF (cRaise c)) :=
  PS.imp ps_never fun D σ H q => by
    obtain ⟨ι, A, ρ, a, p⟩ := q
    exact p ι H (.refl a.wd)
end Ab

set_option Elab.async false
set_option linter.all false
set_option maxRecDepth 100000
set_option maxHeartbeats 1000000
set_option autoImplicit false
/-! Ab13: is, sets counted, more of lists, dicts. -/
namespace Ab
open PySem PySem.Spec PyProof.Rows L2
/-! ### is -/
def fIs (neg : Bool) : FB := fun _ ds A => match ds with
  | [.bl i, .bl j] => .ok (.bl (if neg = true then !decide (i = j) else decide (i = j))) A
  | _ => .bad
theorem sf_is {T : Tb} : SF T (r2 fun x y H Q => ∃ a b, x = .bl a ∧ y = .bl b ∧ Q (.bl (decide (a = b))) H) (fIs false) := by
  intro b ι A H ι1 A1 H1 vs ds fp Q E w hb n r f p
  unfold fIs at p
  split at p
  · rename_i i j
    obtain ⟨v, u, f1, f2, rfl, rfl, q1, q2⟩ := r.two_inv
    cases q1; cases q2
    exact ⟨_, _, rfl, i, j, rfl, rfl, p ι1 H1 _ [] n (.bl _) .nil⟩
  · exact p.elim
theorem sf_isnot {T : Tb} : SF T (r2 fun x y H Q => ∃ a b, x = .bl a ∧ y = .bl b ∧ Q (.bl (!decide (a = b))) H) (fIs true) := by
  intro b ι A H ι1 A1 H1 vs ds fp Q E w hb n r f p
  unfold fIs at p
  split at p
  · rename_i i j
    obtain ⟨v, u, f1, f2, rfl, rfl, q1, q2⟩ := r.two_inv
    cases q1; cases q2
    exact ⟨_, _, rfl, i, j, rfl, rfl, p ι1 H1 _ [] n (.bl _) .nil⟩
  · exact p.elim
def isNon : Vl → Bool
  | .non => true
  | _ => false
def fIsN (neg : Bool) : FB := fun _ ds A => match ds with
  | [d, .non] => .ok (.bl (if neg = true then !isNon d else isNon d)) A
  | _ => .bad
theorem isNon_ok {T : Tb} {ι : List Addr} {H : Hp} {v : V} {d : Vl} {fp : List Addr} (r : Rp T ι H v d fp) : decide (v = V.non) = isNon d := by
  cases r with
  | fn h => obtain ⟨a, rfl⟩ := h.ref; simp [isNon]
  | _ => simp [isNon]
theorem sf_isN {T : Tb} : SF T (r2 fun x y H Q => y = .non ∧ Q (.bl (decide (x = .non))) H) (fIsN false) := by
  intro b ι A H ι1 A1 H1 vs ds fp Q E w hb n r f p
  unfold fIsN at p
  split at p
  · obtain ⟨v, u, f1, f2, rfl, rfl, q1, q2⟩ := r.two_inv
    cases q2
    refine ⟨_, _, rfl, rfl, ?_⟩
    rw [isNon_ok q1]
    exact p ι1 H1 _ [] n (.bl _) .nil
  · exact p.elim
theorem sf_isnotN {T : Tb} : SF T (r2 fun x y H Q => y = .non ∧ Q (.bl (!decide (x = .non))) H) (fIsN true) := by
  intro b ι A H ι1 A1 H1 vs ds fp Q E w hb n r f p
  unfold fIsN at p
  split at p
  · obtain ⟨v, u, f1, f2, rfl, rfl, q1, q2⟩ := r.two_inv
    cases q2
    refine ⟨_, _, rfl, rfl, ?_⟩
    rw [isNon_ok q1]
    exact p ι1 H1 _ [] n (.bl _) .nil
  · exact p.elim
/-! ### len(set(..)) of whole numbers -/
def dd (ns : List Int) : List Int := ns.foldl step_dedup []
theorem dd_met (ns : List Int) : firstMet (fun i => ns.getD i 0) ns.length = dd ns := by
  unfold firstMet dd
  congr 1
  apply List.ext_getElem
  · simp
  · intro i h1 h2
    simp at h1
    simp [List.getD_eq_getElem?_getD, List.getElem?_eq_getElem h1]
def cLenSet (c : CE) : CE := fun ρ A => (c ρ A).bind fun x A1 => match seqL A1 x with
  | none => .bad
  | some xs => match toInts xs with
    | none => .bad
    | some ns => if ns.length ≤ 4000 then .ok (.int (dd ns).length) A1 else .bad
def tLS (K : PySem.W.Frag) (ta : TE) : TE := fun σ H Q => ta σ H fun x H1 => ∃ l ns, x = .ref l ∧ SqL K H1 l (List.map V.int ns) ∧ ns.length ≤ 4000 ∧ Q (.int (dd ns).length) H1
theorem pe_ls {X : Cx} {a : Expr} {ta : TE} {p p2 q pos : Pos} (hc : X.calm = true) (hg : Gl X "len") (hm : X.mg "len" = none) (hg2 : Gl X "set") (hm2 : X.mg "set" = none) (ha : PE X a ta)
    (na : starEach [a] X.env = [(false, eval a X.env)] := by rfl) : PE X (.Call (.Name "len" p) [.Call (.Name "set" p2) [a] [] q] [] pos) (tLS X.K ta) := by
  constructor
  intro pins s σ H Q I h
  refine Call_ (ld_blt I hg hm PySem.boot_len (callWith_builtin1 (args_cons (Call_ (ld_blt I hg2 hm2 boot_set (callWith_type1 (args_cons (thn (ha.run pins s σ H _ I h) ?_) na) na rfl))) rfl) rfl rfl))
  rintro v s1 ⟨x, H1, I1, r1, l, ns, rfl, hq, hl, q1⟩
  refine args_nil ?_
  cases r1
  obtain ⟨its, r, pl, hz⟩ := I1.list hq
  have hlen : its.toArray.size = ns.length := by
    have := r.length
    simp at this
    simp [this]
  refine call_set_list (I1.ok.hd hc) pl.isList (by simpa using RZ.intsAre_vals r) (by rw [hlen]; unfold scanBound; omega) ?_
  intro h' tk hS hk
  refine args_nil ?_
  rw [hlen, dd_met] at hS
  obtain ⟨o, es, ep, t, ho, hex, hd, _, _, _, hf, hn⟩ := hS
  have I2 : Inv X pins σ H1 { s1 with heap := h', toks := tk } := I1.kept fun b o e => hk b o (Heap.lt_size e) e
  have hle : (dd ns).length ≤ ns.length := by rw [← dd_met]; exact firstMet_length_le _ _
  refine call_len_set ho hex hd hf (by rw [hn]; omega) ⟨.int (dd ns).length, H1, I2.tok _, ⟨_, by rw [hn]⟩, q1⟩
theorem ge_ls {X : Cx} {T : Tb} {E : XE} {a : Expr} {ca : CE} {p p2 q pos : Pos} (hK : T.K = X.K) (hc : X.calm = true) (hg : Gl X "len") (hm : X.mg "len" = none) (hg2 : Gl X "set") (hm2 : X.mg "set" = none) (ha : PE X a (tE T E ca))
    (na : starEach [a] X.env = [(false, eval a X.env)] := by rfl) : PE X (.Call (.Name "len" p) [.Call (.Name "set" p2) [a] [] q] [] pos) (tE T E (cLenSet ca)) :=
  PE.imp (pe_ls hc hg hm hg2 hm2 ha na) fun σ H Q h => by
    obtain ⟨ι, A, ρ, at0, p⟩ := h
    refine ⟨ι, A, ρ, at0, ?_⟩
    unfold cLenSet at p
    cases e : ca ρ A with
    | bad => rw [e] at p; exact p
    | exc k A' => rw [e] at p; exact p
    | ok d A' =>
      rw [e] at p
      intro ι1 H1 v fp n rp f
      simp only [Res.bind] at p
      split at p
      · exact p.elim
      · rename_i xs ex
        split at p
        · exact p.elim
        · rename_i ns en
          split at p
          · rename_i hl
            obtain ⟨a, as, g1, rfl, h1, h2, h3⟩ := seqL_ok n.wd rp ex
            rw [toInts_ok h2 en, hK] at h1
            exact ⟨a, ns, rfl, h1, hl, p ι1 H1 _ [] n (.int _) .nil⟩
          · exact p.elim
/-! ### lists: pop, insert, reverse, extend, count, index -/
def setL (b l : Nat) (A : AH) (xs : List Vl) (r : Vl) : Res Vl := .ok r (A.set l (.lst, xs))
def fPop : FB := fun b ds A => match ds with
  | [.loc l] => match A[l]? with
    | some (.lst, xs) => match xs[xs.length - 1]? with
      | some y => .ok y (A.set l (.lst, xs.dropLast))
      | none => .bad
    | _ => .bad
  | _ => .bad
theorem lts_sub {m : Nat} : ∀ {xs ys : List Vl}, (∀ y ∈ ys, y ∈ xs) → lts m xs = true → lts m ys = true
  | xs, [], _, _ => rfl
  | xs, y :: ys, h, hx => by
    have mem : ∀ {zs : List Vl} {z : Vl}, lts m zs = true → z ∈ zs → lt m z = true := by
      intro zs z hz hm
      induction zs with
      | nil => cases hm
      | cons a r ih =>
        rw [lts, Bool.and_eq_true] at hz
        rcases List.mem_cons.mp hm with q | q
        · rw [q]; exact hz.1
        · exact ih hz.2 q
    rw [lts, mem hx (h y (by simp)), lts_sub (fun z hz => h z (by simp [hz])) hx]; rfl
theorem sf_pop {T : Tb} : SF T (rM rPop) fPop := by
  intro b ι A H ι1 A1 H1 vs ds fp Q E w hb n r f p
  unfold fPop at p
  split at p
  · rename_i l
    obtain ⟨v, rfl, q1⟩ := r.one_inv
    cases q1 with
    | @loc _ a hl =>
      split at p
      · rename_i xs ex
        split at p
        · rename_i y ey
          obtain ⟨o, us, z1, z2, z3⟩ := n.wd.cel l _ xs a ex hl
          rw [show o = HO.lst us from z2] at z1
          obtain ⟨u, fq, k1, k2, k3⟩ := z3.get ey
          have : fq = [] := by simpa using k3
          subst this
          refine ⟨_, _, rfl, a, us, u, rfl, rfl, z1, by rw [z3.len]; exact k1, ?_⟩
          have z4 : Rps T ι1 H1 us.dropLast xs.dropLast [] := by
            rw [List.dropLast_eq_take, List.dropLast_eq_take, z3.len]
            obtain ⟨fq, h1, h2⟩ := Rps.takeN (xs.length - 1) z3
            have : fq = [] := by simpa using h2
            subst this
            exact h1
          have n3 := n.store (k' := .lst) (xs' := xs.dropLast) (o' := .lst us.dropLast) (vs' := us.dropLast) ex hl rfl z4 (fun m _ _ hx => lts_sub (fun y hy => by rw [List.dropLast_eq_take] at hy; exact List.mem_of_mem_take hy) hx)
          have e1 : Ext ι1 H1 ι1 (L2.upd H1 a (.lst us.dropLast)) := ⟨⟨[], by simp, by simp⟩, fun c u hc _ hk => by
            have hca : c ≠ a := fun z => by
              subst z
              rcases hk with hk | hk
              · exact hk (List.mem_of_getElem? hl)
              · rw [z1] at hc; cases hc; cases hk
            rw [upd_ne hca]; exact hc, fun c u hc => by
            by_cases hca : c = a
            · subst hca; exact ⟨_, upd_same⟩
            · exact ⟨u, by rw [upd_ne hca]; exact hc⟩⟩
          exact p _ _ _ [] n3 (Rp.mono e1 _ _ _ k2 (by simp)) .nil
        · exact p.elim
      · exact p.elim
  · exact p.elim
def fInsert : FB := fun b ds A => match ds with
  | [.loc l, .int i, y] => match (box y A).2[l]? with
    | some (.lst, xs) => if xs.length < 100000 ∧ 0 ≤ i ∧ i ≤ 100000 ∧ mayPut b l (box y A).1 = true then .ok .non ((box y A).2.set l (.lst, xs.take i.toNat ++ [(box y A).1] ++ xs.drop i.toNat)) else .bad
    | _ => .bad
  | _ => .bad
theorem Rps.three_inv {T : Tb} {ι : List Addr} {H : Hp} {vs : List V} {x y z : Vl} {fp : List Addr} (h : Rps T ι H vs [x, y, z] fp) : ∃ v w u f g k, vs = [v, w, u] ∧ fp = f ++ (g ++ k) ∧ Rp T ι H v x f ∧ Rp T ι H w y g ∧ Rp T ι H u z k := by
  cases h with
  | cons h1 h2 => obtain ⟨w, u, g, k, rfl, rfl, h3, h4⟩ := h2.two_inv; exact ⟨_, _, _, _, _, _, rfl, rfl, h1, h3, h4⟩
abbrev rIns : V → List V → Hp → VK → Prop := fun x vs H Q => ∃ (l : Addr) (xs : List V) (i : Int) (y : V), x = .ref l ∧ vs = [.int i, y] ∧ H l = some (.lst xs) ∧ xs.length < sizeLine ∧ 0 ≤ i ∧ i < 2 ^ 63 ∧ Q .non (upd H l (.lst (xs.take i.toNat ++ [y] ++ xs.drop i.toNat)))
theorem sf_insert {T : Tb} : SF T (rM rIns) fInsert := by
  intro b ι A H ι1 A1 H1 vs ds fp Q E w hb n r f p
  unfold fInsert at p
  split at p
  · rename_i l i y
    obtain ⟨v, u0, u, f1, f0, f2, rfl, rfl, q1, q0, q2⟩ := r.three_inv
    cases q0
    cases q1 with
    | @loc _ a hl =>
      rw [List.nil_append, List.nil_append] at f
      split at p
      · rename_i xs ex
        split at p
        · rename_i hc
          have hb1 : b ≤ A1.length := Nat.le_trans hb (n.le w)
          obtain ⟨n2, rp2, ey, eA⟩ := n.boxed1 hb1 q2 f
          have ha : (ι1 ++ f2)[l]? = some a := by
            rw [List.getElem?_append_left (List.getElem?_eq_some_iff.mp hl).1]; exact hl
          obtain ⟨o, us, z1, z2, z3⟩ := n2.wd.cel l _ xs a ex ha
          rw [show o = HO.lst us from z2] at z1
          refine ⟨_, _, rfl, a, us, i, u, rfl, rfl, z1, by rw [z3.len]; exact size_lt hc.1, hc.2.1, by omega, ?_⟩
          obtain ⟨g1, t1, s1⟩ := Rps.takeN i.toNat z3
          obtain ⟨g2, t2, s2⟩ := Rps.drop i.toNat z3
          have e1 : g1 = [] := by simpa using s1
          have e2 : g2 = [] := by simpa using s2
          subst e1; subst e2
          have n3 := n2.store (k' := .lst) (xs' := xs.take i.toNat ++ [(box y A1).1] ++ xs.drop i.toNat) (o' := .lst (us.take i.toNat ++ [u] ++ us.drop i.toNat)) (vs' := us.take i.toNat ++ [u] ++ us.drop i.toNat) ex ha rfl (Rps.append (fp := []) (fq := []) (Rps.append (fp := []) (fq := []) t1 (Rps.one rp2)) t2) (fun m hm hmb hx => by
            have hmp := hc.2.2.2
            unfold mayPut at hmp
            rw [Bool.or_eq_true] at hmp
            have hy : lt m (box y A1).1 = true := by
              rcases hmp with q | q
              · have := of_decide_eq_true q
                omega
              · exact lt_mono (Nat.le_of_lt hm) _ q
            rw [lts_append, lts_append, lts_sub (fun z hz => List.mem_of_mem_take hz) hx, lts_sub (fun z hz => List.mem_of_mem_drop hz) hx]
            simp [lts, hy])
          exact p _ _ _ [] n3 .non .nil
        · exact p.elim
      · exact p.elim
  · exact p.elim
def fReverse : FB := fun b ds A => match ds with
  | [.loc l] => match A[l]? with
    | some (.lst, xs) => .ok .non (A.set l (.lst, xs.reverse))
    | _ => .bad
  | _ => .bad
theorem Rps.rev {T : Tb} {ι : List Addr} {H : Hp} : ∀ {xs : List Vl} {vs : List V}, Rps T ι H vs xs [] → Rps T ι H vs.reverse xs.reverse []
  | [], _, h => by cases h; exact .nil
  | x :: r, _, h => by
    generalize hz : ([] : List Addr) = fz at h
    cases h with
    | @cons v _ fp vs _ fq h1 h2 =>
      obtain ⟨rfl, rfl⟩ := List.append_eq_nil_iff.mp hz.symm
      rw [List.reverse_cons, List.reverse_cons]
      exact Rps.append (fp := []) (fq := []) (Rps.rev h2) (Rps.one h1)
theorem sf_reverse {T : Tb} : SF T (rM rReverse) fReverse := by
  intro b ι A H ι1 A1 H1 vs ds fp Q E w hb n r f p
  unfold fReverse at p
  split at p
  · rename_i l
    obtain ⟨v, rfl, q1⟩ := r.one_inv
    cases q1 with
    | @loc _ a hl =>
      split at p
      · rename_i xs ex
        obtain ⟨o, us, z1, z2, z3⟩ := n.wd.cel l _ xs a ex hl
        rw [show o = HO.lst us from z2] at z1
        refine ⟨_, _, rfl, a, us, rfl, rfl, z1, ?_⟩
        have n3 := n.store (k' := .lst) (xs' := xs.reverse) (o' := .lst us.reverse) (vs' := us.reverse) ex hl rfl z3.rev (fun m _ _ hx => lts_sub (fun y hy => List.mem_reverse.mp hy) hx)
        exact p _ _ _ [] n3 .non .nil
      · exact p.elim
  · exact p.elim
end Ab

set_option Elab.async false
set_option linter.all false
set_option maxRecDepth 100000
set_option maxHeartbeats 1000000
set_option autoImplicit false
/-! Ab14: items stored, dicts of whole numbers. -/
namespace Ab
open PySem PySem.Spec PyProof.Rows L2
theorem drop_ok {T : Tb} {E : XE} {c : CE} {D : Ends} {σ : L2.St} {H : Hp} (h : tS T E (cDrop c) D σ H) : tE T E c σ H fun _ H1 => D.nx σ H1 := by
  obtain ⟨ι, A, ρ, a, p⟩ := h
  refine ⟨ι, A, ρ, a, ?_⟩
  unfold cDrop at p
  cases e1 : c ρ A with
  | bad => rw [e1] at p; exact p
  | exc k A' => rw [e1] at p; exact p
  | ok d A' =>
    rw [e1] at p
    exact fun ι1 H1 v fp n r f => p ι1 H1 σ n (a.er.mono n.ext)
theorem tA_cons_imp {T : Tb} {E : XE} {c : CE} {cs : CA} {σ : L2.St} {H : Hp} {Q : List V → Hp → Prop} {R : V → Hp → Prop} (h : tA T E (cCons c cs) σ H Q) (k : ∀ v H1, tA T E cs σ H1 (fun vs H2 => Q (v :: vs) H2) → R v H1) : tE T E c σ H R := by
  obtain ⟨ι, A, ρ, a, p⟩ := tA_cons h
  refine ⟨ι, A, ρ, a, ?_⟩
  cases e : c ρ A with
  | bad => rw [e] at p; exact p
  | exc j A' => rw [e] at p; exact p
  | ok d A' =>
    rw [e] at p
    exact fun ι' H' v fp n r f => k v H' (p ι' H' v fp n r f)
theorem tA_nil_imp {T : Tb} {E : XE} {σ : L2.St} {H : Hp} {Q : List V → Hp → Prop} (h : tA T E cNil σ H Q) : Q [] H := by
  obtain ⟨ι, A, ρ, a, p⟩ := h
  exact p ι H [] [] (.refl a.wd) .nil .nil
/-- xs[i] = v: the value first -/
def fPutI : FB := fun b ds A => match ds with
  | [y, .loc l, .int i] => match (box y A).2[l]? with
    | some (.lst, xs) => match ixN xs.length i with
      | some j => if mayPut b l (box y A).1 = true then .ok .non ((box y A).2.set l (.lst, xs.set j (box y A).1)) else .bad
      | none => .bad
    | _ => .bad
  | _ => .bad
theorem Rps.setN {T : Tb} {ι : List Addr} {H : Hp} {v : V} {d : Vl} (r : Rp T ι H v d []) : ∀ {j : Nat} {xs : List Vl} {vs : List V}, Rps T ι H vs xs [] → Rps T ι H (vs.set j v) (xs.set j d) []
  | _, [], _, h => by cases h; exact .nil
  | j, x :: xs, _, h => by
    generalize hz : ([] : List Addr) = fz at h
    cases h with
    | @cons u _ fp us _ fq h1 h2 =>
      obtain ⟨rfl, rfl⟩ := List.append_eq_nil_iff.mp hz.symm
      cases j with
      | zero => exact .cons (fp := []) (fq := []) r h2
      | succ j => exact .cons (fp := []) (fq := []) h1 (Rps.setN r h2)
theorem lts_set {m j : Nat} {xs : List Vl} {d : Vl} (h : lts m xs = true) (hd : lt m d = true) : lts m (xs.set j d) = true := by
  induction xs generalizing j with
  | nil => rfl
  | cons x r ih =>
    rw [lts, Bool.and_eq_true] at h
    cases j with
    | zero => rw [List.set_cons_zero, lts, hd, h.2]; rfl
    | succ j => rw [List.set_cons_succ, lts, h.1, ih h.2]; rfl
theorem mayPut_lt {b l m : Nat} {d : Vl} (h : mayPut b l d = true) (hm : l < m) (hb : m ≤ b) : lt m d = true := by
  unfold mayPut at h
  rw [Bool.or_eq_true] at h
  rcases h with q | q
  · have := of_decide_eq_true q
    omega
  · exact lt_mono (Nat.le_of_lt hm) _ q
theorem sf_putI {T : Tb} : SF T (fun vs H Q => ∃ v o i, vs = [v, o, i] ∧ rSetL o i v H fun H' => Q .non H') fPutI := by
  intro b ι A H ι1 A1 H1 vs ds fp Q E w hb n r f p
  unfold fPutI at p
  split at p
  · rename_i y l i
    obtain ⟨v, u, u0, f1, f2, f0, rfl, rfl, q1, q2, q0⟩ := r.three_inv
    cases q0
    cases q2 with
    | @loc _ a hl =>
      simp only [List.append_nil, List.nil_append] at f
      split at p
      · rename_i xs ex
        split at p
        · rename_i j ej
          split at p
          · rename_i hc
            have hb1 : b ≤ A1.length := Nat.le_trans hb (n.le w)
            obtain ⟨n2, rp2, ey, eA⟩ := n.boxed1 hb1 q1 f
            have ha : (ι1 ++ f1)[l]? = some a := by
              rw [List.getElem?_append_left (List.getElem?_eq_some_iff.mp hl).1]; exact hl
            obtain ⟨o, us, z1, z2, z3⟩ := n2.wd.cel l _ xs a ex ha
            rw [show o = HO.lst us from z2] at z1
            refine ⟨_, _, _, rfl, a, us, i, j, rfl, rfl, z1, by rw [z3.len]; exact ej, ?_⟩
            have n3 := n2.store (k' := .lst) (xs' := xs.set j (box y A1).1) (o' := .lst (us.set j v)) (vs' := us.set j v) ex ha rfl (Rps.setN rp2 z3) (fun m hm hmb hx => lts_set hx (mayPut_lt hc hm hmb))
            exact p _ _ _ [] n3 .non .nil
          · exact p.elim
        · exact p.elim
      · exact p.elim
  · exact p.elim
def cSetI (co ci cv : CE) : CS := cDrop (cF fPutI (cCons cv (cCons co (cCons ci cNil))))
theorem gs_setI {X : Cx} {T : Tb} {E : XE} {o i e : Expr} {co ci cv : CE} {pos pos' : Pos} (he : PE X e (tE T E cv)) (ho : PE X o (tE T E co)) (hi : PE X i (tE T E ci))
    (ha : ∀ v, assign (.Subscript o i pos') X.env v = (do
      let ov ← holding [v] (eval o X.env)
      let iv ← holding [v, ov] (eval i X.env)
      standAt pos'
      holding [v, ov, iv] (setItem ov iv v); release [v, ov, iv] []) := by intro _; rfl)
    (hs : swapsWithSole [.Subscript o i pos'] e pos.line X.env = pure false := by rfl) (hw : swappedStores [.Subscript o i pos'] e X.env = pure none := by rfl)
    (h1 : (assignEach [.Subscript o i pos'] X.env).map (·.2) = [assign (.Subscript o i pos') X.env] := by rfl) : PS X (.Assign [.Subscript o i pos'] e pos) (tS T E (cSetI co ci cv)) :=
  PS.imp (ps_asg he (pg_sub ho hi set_list ha) hs hw h1) fun D σ H q => by
    refine tA_cons_imp (tA_F sf_putI (drop_ok q)) fun v H1 q1 => ?_
    refine tA_cons_imp q1 fun o H2 q2 => ?_
    refine tA_cons_imp q2 fun i H3 q3 => ?_
    obtain ⟨v', o', i', e, z⟩ := tA_nil_imp q3
    cases e
    exact z
/-! ### dicts -/
def hasK (kvs : List (Int × Bool)) (k : Int) : Bool := kvs.any fun p => decide (p.1 = k)
def putKI (kvs : List (Int × Bool)) (k : Int) (v : Bool) : List (Int × Bool) := if hasK kvs k = true then kvs.map (fun p => if p.1 = k then (p.1, v) else p) else kvs ++ [(k, v)]
abbrev dk (p : Int × Bool) : Key × V := (Sum.inl p.1, V.bl p.2)
theorem hasK_val (kvs : List (Int × Bool)) (k : Int) : (valV (kvs.map dk) (Sum.inl k)).isSome = hasK kvs k := by
  rw [← valV_any]
  unfold hasK
  rw [List.any_map]
  congr 1
  funext p
  simp
theorem putK_map (kvs : List (Int × Bool)) (k : Int) (v : Bool) : putK (kvs.map dk) (Sum.inl k) (.bl v) = (putKI kvs k v).map dk := by
  unfold putK putKI
  have e : ((kvs.map dk).any fun kv => decide (kv.1 = Sum.inl k)) = hasK kvs k := by
    unfold hasK
    rw [List.any_map]
    congr 1
    funext p
    simp
  rw [e]
  split
  · rw [List.map_map, List.map_map]
    apply List.map_congr_left
    intro p _
    simp only [Function.comp, dk]
    by_cases h : p.1 = k
    · rw [if_pos (by rw [h]), if_pos h]
    · rw [if_neg (fun z => h (Sum.inl.inj z)), if_neg h]
  · simp
theorem newK_ok {T : Tb} {E : XE} {b : Nat} {ι ι1 : List Addr} {A A1 : AH} {H H1 : Hp} {k : Kd} {p : Addr} {o : HO} {Q : VK} (n : Nx T b ι A H ι1 A1 H1) (ho : KOk T k [] o) (h : H1 p = none) (q : Po T b ι A H (.ok (.new k []) A1) Q E) : Q (.ref p) (upd H1 p o) := by
  refine q ι1 _ _ [p] (n.upd h) (Rp.new (fp := []) upd_same ho .nil) ⟨by simp, fun a ha => ?_⟩
  rw [List.mem_singleton] at ha
  subst ha
  exact ⟨n.ext.back h, n.wd.fresh h⟩
def cDct (kvs : List (Int × Bool)) : CE := fun _ A => .ok (.new (.dct kvs) []) A
theorem ge_dct0 {X : Cx} {T : Tb} {E : XE} {pos : Pos} : PE X (.Dict [] [] pos) (tE T E (cDct [])) := PE.imp pe_dnewK fun σ H Q q => by
  obtain ⟨ι, A, ρ, a, p⟩ := q
  exact fun q hq => newK_ok (k := .dct []) (.refl a.wd) ⟨rfl, rfl⟩ hq p
theorem ge_dct1 {X : Cx} {T : Tb} {E : XE} {k : Int} {v : Bool} {j1 j2} {pos p1 p2 : Pos} : PE X (.Dict [some (.Constant (.int k) j1 p1)] [.Constant (.bool v) j2 p2] pos) (tE T E (cDct [(k, v)])) :=
  PE.imp (pe_disp (pps_cons pe_int pe_bl pps_nil) (by rfl) (by rfl) (fun z => by cases z) (by simp)) fun σ H Q q => by
    obtain ⟨ι, A, ρ, a, p⟩ := q
    intro q hq
    refine ⟨upd_same, [(Sum.inl k, .bl v)], rfl, by simp, ?_⟩
    rw [upd_upd]
    exact newK_ok (k := .dct [(k, v)]) (.refl a.wd) ⟨rfl, rfl⟩ hq p
def dctL (A : AH) : Vl → Option (List (Int × Bool))
  | .loc n => match A[n]? with
    | some (.dct kvs, []) => some kvs
    | _ => none
  | _ => none
theorem dctL_ok {T : Tb} {ι : List Addr} {A : AH} {H : Hp} {v : V} {d : Vl} {fp : List Addr} {kvs : List (Int × Bool)} (w : Wd T ι A H) (r : Rp T ι H v d fp) (e : dctL A d = some kvs) : ∃ a n, v = .ref a ∧ d = .loc n ∧ ι[n]? = some a ∧ A[n]? = some (.dct kvs, []) ∧ H a = some (.dK (kvs.map dk)) := by
  cases d with
  | loc n =>
    cases r with
    | @loc _ a hl =>
      simp only [dctL] at e
      split at e
      · rename_i ks ha
        cases e
        obtain ⟨o, vs, q1, q2, q3⟩ := w.cel _ _ _ _ ha hl
        rw [q2.2] at q1
        exact ⟨a, n, rfl, rfl, hl, ha, q1⟩
      · cases e
  | _ => cases e
def fDIn (neg : Bool) : FB := fun _ ds A => match ds with
  | [.int k, d] => match dctL A d with
    | some kvs => .ok (.bl (if neg = true then !hasK kvs k else hasK kvs k)) A
    | none => .bad
  | _ => .bad
def rDIn (neg : Bool) : R2 := fun y x H Q => ∃ a o, x = .ref a ∧ DGet H a y o ∧ Q (.bl (if neg = true then !o.isSome else o.isSome)) H
theorem sf_dIn {T : Tb} {neg : Bool} : SF T (r2 (rDIn neg)) (fDIn neg) := by
  intro b ι A H ι1 A1 H1 vs ds fp Q E w hb n r f p
  unfold fDIn at p
  split at p
  · rename_i k d
    obtain ⟨v, u, f1, f2, rfl, rfl, q1, q2⟩ := r.two_inv
    cases q1
    split at p
    · rename_i kvs ek
      obtain ⟨a, m, rfl, rfl, h1, h2, h3⟩ := dctL_ok n.wd q2 ek
      refine ⟨_, _, rfl, a, _, rfl, DGet.k (k := Sum.inl k) h3, ?_⟩
      rw [hasK_val]
      exact p ι1 H1 _ [] n (.bl _) .nil
    · exact p.elim
  · exact p.elim
theorem gt_dnotin {X : Cx} {T : Tb} {E : XE} {a b : Expr} {ca cb : CE} {pos : Pos} (hu : X.A.units + 1 < cLine) (ha : PE X a (tE T E ca)) (hb : PE X b (tE T E cb)) (h1 : behindInMarks .NotIn b = false := by rfl) : PT X (.Compare a [.NotIn] [b] pos) (tT T E (cTst (cF2 (fDIn true) ca cb))) :=
  PT.imp (pt_cmp (pc_dnotin hu ha hb) h1) fun σ H Q q => by
    have z := tE_two sf_dIn (tE_test q)
    simp only [r2_iff] at z
    exact z
def fPutD : FB := fun b ds A => match ds with
  | [.bl v, .loc l, .int k] => match dctL A (.loc l) with
    | some kvs => if kvs.length < 100000 then .ok .non (A.set l (.dct (putKI kvs k v), [])) else .bad
    | none => .bad
  | _ => .bad
theorem sf_putD {T : Tb} : SF T (fun vs H Q => ∃ v x y, vs = [v, x, y] ∧ ∃ a H4, x = .ref a ∧ DPut H a y v H4 ∧ Q .non H4) fPutD := by
  intro b ι A H ι1 A1 H1 vs ds fp Q E w hb n r f p
  unfold fPutD at p
  split at p
  · rename_i vv l k
    obtain ⟨v, u, u0, f1, f2, f0, rfl, rfl, q1, q2, q0⟩ := r.three_inv
    cases q0; cases q1
    split at p
    · rename_i kvs ek
      split at p
      · rename_i hc
        obtain ⟨a, m, rfl, e, h1, h2, h3⟩ := dctL_ok n.wd q2 ek
        cases e
        refine ⟨_, _, _, rfl, a, _, rfl, DPut.k (k := Sum.inl k) h3 (by rw [List.length_map]; exact size_lt hc), ?_⟩
        rw [putK_map]
        have n3 := n.store (k' := .dct (putKI kvs k vv)) (xs' := []) (o' := .dK ((putKI kvs k vv).map dk)) (vs' := []) h2 h1 ⟨rfl, rfl⟩ .nil (fun m _ _ _ => rfl)
        exact p _ _ _ [] n3 .non .nil
      · exact p.elim
    · exact p.elim
  · exact p.elim
def cSetD (co ci cv : CE) : CS := cDrop (cF fPutD (cCons cv (cCons co (cCons ci cNil))))
theorem gs_setD {X : Cx} {T : Tb} {E : XE} {o i e : Expr} {co ci cv : CE} {pos pos' : Pos} (hu : X.A.units + 1 < cLine) (he : PE X e (tE T E cv)) (ho : PE X o (tE T E co)) (hi : PE X i (tE T E ci)) (hs : swapsWith e (some (.Subscript o i pos')) pos.line X.env = pure false := by rfl) :
    PS X (.Assign [.Subscript o i pos'] e pos) (tS T E (cSetD co ci cv)) :=
  PS.imp (ps_dput hu ho hi he hs) fun D σ H q => by
    refine tA_cons_imp (tA_F sf_putD (drop_ok q)) fun v H1 q1 => ?_
    refine tA_cons_imp q1 fun o H2 q2 => ?_
    refine tA_cons_imp q2 fun i H3 q3 => ?_
    obtain ⟨v', o', i', e, z⟩ := tA_nil_imp q3
    cases e
    exact z
def fLenD : FB := fun _ ds A => match ds with
  | [d] => match dctL A d with
    | some kvs => .ok (.int kvs.length) A
    | none => .bad
  | _ => .bad
theorem sf_lenD {T : Tb} : SF T (fun xs H Q => ∃ a kvs, xs = [V.ref a] ∧ H a = some (.dK kvs) ∧ Q (.int kvs.length) H) fLenD := by
  intro b ι A H ι1 A1 H1 vs ds fp Q E w hb n r f p
  unfold fLenD at p
  split at p
  · rename_i x
    obtain ⟨v, rfl, q1⟩ := r.one_inv
    split at p
    · rename_i kvs ek
      obtain ⟨a, m, rfl, rfl, h1, h2, h3⟩ := dctL_ok n.wd q1 ek
      refine ⟨a, _, rfl, h3, ?_⟩
      rw [List.length_map]
      exact p ι1 H1 _ [] n (.int _) .nil
    · exact p.elim
  · exact p.elim
end Ab

set_option Elab.async false
set_option linter.all false
set_option maxRecDepth 100000
set_option maxHeartbeats 1000000
set_option autoImplicit false
/-! Ab15: objects: made, fields read and stored, methods, isinstance. -/
namespace Ab
open PySem PySem.Spec PyProof.Rows L2
def objL (A : AH) : Vl → Option (Nat × List Vl)
  | .new (.obj c) xs => some (c, xs)
  | .loc n => match A[n]? with
    | some (.obj c, xs) => some (c, xs)
    | _ => none
  | _ => none
theorem objL_ok {T : Tb} {ι : List Addr} {A : AH} {H : Hp} {v : V} {d : Vl} {fp : List Addr} {c : Nat} {xs : List Vl} (w : Wd T ι A H) (r : Rp T ι H v d fp) (e : objL A d = some (c, xs)) :
    ∃ p dx vs fq, v = .ref p ∧ H p = some (.ins (T.C c) dx ((T.flds c).zip vs)) ∧ vs.length ≤ (T.flds c).length ∧ Rps T ι H vs xs fq ∧ fq.Sublist fp := by
  cases d with
  | new k ys =>
    cases k with
    | obj c' =>
      cases r with
      | new h1 h2 h3 =>
        cases e
        obtain ⟨dx, rfl, hl⟩ := h2
        exact ⟨_, dx, _, _, rfl, h1, hl, h3, List.sublist_append_left _ _⟩
    | _ => cases e
  | loc n =>
    cases r with
    | @loc _ a hl =>
      simp only [objL] at e
      split at e
      · rename_i c' ys ha
        cases e
        obtain ⟨o, vs, q1, q2, q3⟩ := w.cel _ _ _ _ ha hl
        obtain ⟨dx, rfl, hn⟩ := q2
        exact ⟨_, dx, vs, [], rfl, q1, hn, q3, List.nil_sublist _⟩
      · cases e
  | _ => cases e
theorem zip_lookup {f : Str} : ∀ {fs : List Str} {vs : List V} {i : Nat} {v : V}, fs[i]? = some f → (∀ j : Nat, j < i → fs[j]? ≠ some f) → vs[i]? = some v → (fs.zip vs).lookup f = some v
  | [], _, _, _, h, _, _ => by simp at h
  | g :: fs, [], i, v, _, _, h => by simp at h
  | g :: fs, u :: vs, 0, v, h, _, hv => by
    simp at h hv
    subst h; subst hv
    simp
  | g :: fs, u :: vs, i + 1, v, h, hn, hv => by
    have h0 := hn 0 (by omega)
    simp at h0
    have ih := zip_lookup (f := f) (fs := fs) (vs := vs) (i := i) (v := v) (by simpa using h) (fun j hj => by simpa using hn (j + 1) (by omega)) (by simpa using hv)
    rw [List.zip_cons_cons, List.lookup_cons]
    have : (f == g) = false := by
      rw [beq_eq_false_iff_ne]
      exact fun z => h0 z.symm
    rw [this]
    exact ih
theorem zip_none {f : Str} : ∀ {fs : List Str} {vs : List V}, (∀ j : Nat, fs[j]? ≠ some f) → (fs.zip vs).lookup f = none
  | [], _, _ => by simp
  | g :: fs, [], _ => by simp
  | g :: fs, u :: vs, h => by
    have h0 := h 0
    simp at h0
    rw [List.zip_cons_cons, List.lookup_cons]
    have : (f == g) = false := by
      rw [beq_eq_false_iff_ne]
      exact fun z => h0 z.symm
    rw [this]
    exact zip_none fun j => by simpa using h (j + 1)
/-- the place of a field, by the class -/
structure FldOk (T : Tb) (K : PySem.W.Frag) (f : Str) (c i : Nat) : Prop where
  cl : Cls K (T.C c)
  na : NoAttr K (T.C c) f
  at_ : (T.flds c)[i]? = some f
  fst : ∀ j : Nat, j < i → (T.flds c)[j]? ≠ some f
def cFld (ix : Nat → Option Nat) (co : CE) : CE := fun ρ A => (co ρ A).bind fun d A1 => match objL A1 d with
  | none => .bad
  | some (c, xs) => match ix c with
    | none => .bad
    | some i => match xs[i]? with
      | none => .bad
      | some v => .ok v A1
theorem ge_fld {X : Cx} {T : Tb} {E : XE} {e : Expr} {ca : CE} {f : Str} {pos : Pos} {ix : Nat → Option Nat} (hC : ∀ c i, ix c = some i → FldOk T X.K f c i) (he : PE X e (tE T E ca)) (hb : attributeBase e f X.env (eval e X.env) = eval e X.env := by rfl) : PE X (.Attribute e f pos) (tE T E (cFld ix ca)) :=
  PE.imp (pe_fld he hb) fun σ H Q h => by
    obtain ⟨ι, A, ρ, at0, p⟩ := h
    refine ⟨ι, A, ρ, at0, ?_⟩
    unfold cFld at p
    cases e : ca ρ A with
    | bad => rw [e] at p; exact p
    | exc k A' => rw [e] at p; exact p
    | ok d A' =>
      rw [e] at p
      intro ι1 H1 v fp n rp fr
      simp only [Res.bind] at p
      split at p
      · exact p.elim
      · rename_i c xs eo
        split at p
        · exact p.elim
        · rename_i i ei
          split at p
          · exact p.elim
          · rename_i d2 ed
            obtain ⟨a, dx, vs, fq, rfl, h1, h2, h3, h4⟩ := objL_ok n.wd rp eo
            have F := hC c i ei
            obtain ⟨z, g, k1, k2, k3⟩ := h3.get ed
            exact ⟨a, T.C c, dx, _, z, rfl, h1, F.cl, F.na, zip_lookup F.at_ F.fst k1, p ι1 H1 z g n k2 (fr.sub (k3.trans h4))⟩
/-- isinstance with an own class -/
structure TyF (K : PySem.W.Frag) (C : Addr) : Prop where
  cl : Cls K C
  ha : PySem.W.findIn K (.ref C) "__class__" = some (some (.builtin "object.__class__"))
  hn : PySem.W.specialIn K (.builtin "object.__class__") "__get__" = some (some (.builtin "getset_descriptor.__get__"))
  htk : PySem.W.takesIn K (.builtin "object.__class__") = some true
  hm : PySem.W.mroIn K C (.type "object") = some true
def cIsO (sub : Nat → Option Bool) (co : CE) : CE := fun ρ A => (co ρ A).bind fun d A1 => match objL A1 d with
  | none => .bad
  | some (c, _) => match sub c with
    | none => .bad
    | some b => .ok (.bl b) A1
theorem ge_isO {X : Cx} {T : Tb} {E : XE} {a : Expr} {ca : CE} {pos p q : Pos} {x : Str} {D : Addr} {sub : Nat → Option Bool} (hK : T.K = X.K) (hC : ∀ c b, sub c = some b → TyF X.K (T.C c) ∧ PySem.W.kitOne X.K (.ref (T.C c)) (.ref D) = some b) (hg : Gl X "isinstance") (hm : X.mg "isinstance" = none) (hg2 : Gl X x) (hm2 : X.mg x = some (.ref D)) (hx : (x == ("__debug__" : Str)) = false) (ha : PE X a (tE T E ca))
    (hb : bootBuiltins "isinstance" = some (.builtin "isinstance")) (hs : starEach [a, .Name x q] X.env = (false, eval a X.env) :: starEach [.Name x q] X.env := by rfl) : PE X (.Call (.Name "isinstance" p) [a, .Name x q] [] pos) (tE T E (cIsO sub ca)) := by
  refine PE.imp (pe_callB call_isi hg hm hb (pa_cons ha (pa_cons (pe_glob (v := .ref D) hg2 hm2 rfl hx) pa_nil) hs) (by decide) (by decide) hs) fun σ H Q h => ?_
  obtain ⟨ι, A, ρ, at0, p⟩ := h
  refine ⟨ι, A, ρ, at0, ?_⟩
  unfold cIsO at p
  cases e : ca ρ A with
  | bad => rw [e] at p; exact p
  | exc k A' => rw [e] at p; exact p
  | ok d A' =>
    rw [e] at p
    intro ι1 H1 v fp n rp fr
    simp only [Res.bind] at p
    split at p
    · exact p.elim
    · rename_i c xs eo
      split at p
      · exact p.elim
      · rename_i b eb
        obtain ⟨a, dx, vs, fq, rfl, h1, h2, h3, h4⟩ := objL_ok n.wd rp eo
        obtain ⟨t, kit⟩ := hC c b eb
        exact ⟨_, _, _, _, b, rfl, .own D, .base (.ins h1 t.cl t.ha t.hn t.htk t.hm), kit, p ι1 H1 _ [] n (.bl _) .nil⟩
/-! ### methods -/
theorem PE.any {X : Cx} {e : Expr} {α : Type} {P : α → Prop} {t : α → TE} (h : ∀ a, P a → PE X e (t a)) : PE X e (fun σ H Q => ∃ a, P a ∧ t a σ H Q) := ⟨fun pins s σ H Q I ⟨a, pa, q⟩ => (h a pa).run pins s σ H Q I q⟩
def cMth (mt : Nat → Option Fn) (co : CE) (cs : CA) : CE := fun ρ A => (co ρ A).bind fun d A1 => match objL A1 d with
  | none => .bad
  | some (c, _) => match mt c with
    | none => .bad
    | some f => (cs ρ A1).bind fun ds A2 => callF f (d :: ds) A2
theorem ge_mth {X : Cx} {T : Tb} {E : XE} {EX : XK} {o : Expr} {es : List Expr} {co : CE} {cs : CA} {m : Str} {mt : Nat → Option Fn} {np c0 : Nat} {f0 : Fn} {pos apos : Pos} (h0 : mt c0 = some f0)
    (hm : ∀ c f, mt c = some f → (∀ j : Nat, (T.flds c)[j]? ≠ some m) ∧ ∃ sp, (∀ vs H Q, spF T f (np + 1) vs H Q EX → sp vs H Q EX) ∧ PE X (.Call (.Attribute o m apos) es [] pos) (tMeth (T.C c) m sp [] EX (tE T E co) (tA T E cs)))
    (hE : ∀ c H, E c H → EX (.ref (T.C c)) none H) (hn : argN np cs) : PE X (.Call (.Attribute o m apos) es [] pos) (tE T E (cMth mt co cs)) := by
  refine PE.imp (PE.any (P := fun a : Nat × Fn => mt a.1 = some a.2) (t := fun a σ H Q => ∃ sp, (∀ vs H Q, spF T a.2 (np + 1) vs H Q EX → sp vs H Q EX) ∧ PE X (.Call (.Attribute o m apos) es [] pos) (tMeth (T.C a.1) m sp [] EX (tE T E co) (tA T E cs)) ∧ tMeth (T.C a.1) m sp [] EX (tE T E co) (tA T E cs) σ H Q)
    fun a _ => ⟨fun pins s σ H Q I ⟨sp, _, pe, q⟩ => pe.run pins s σ H Q I q⟩) fun σ H Q h => ?_
  obtain ⟨ι, A, ρ, at0, p⟩ := h
  unfold cMth at p
  cases e : co ρ A with
  | bad => rw [e] at p; exact False.elim p
  | exc k A' =>
    rw [e] at p
    obtain ⟨_, sp, h1, h2⟩ := hm c0 f0 h0
    exact ⟨(c0, f0), h0, sp, h1, h2, ι, A, ρ, at0, by rw [e]; exact p⟩
  | ok d A' =>
    rw [e] at p
    simp only [Res.bind] at p
    split at p
    · exact p.elim
    · rename_i c xs eo
      split at p
      · exact p.elim
      · rename_i f ef
        obtain ⟨hl, sp, hsp, pe⟩ := hm c f ef
        refine ⟨(c, f), ef, sp, hsp, pe, ι, A, ρ, at0, ?_⟩
        rw [e]
        intro ι1 H1 v fp n rp fr
        obtain ⟨a, dx, vs, fq, rfl, h1, h2, h3, h4⟩ := objL_ok n.wd rp eo
        refine ⟨a, dx, _, rfl, h1, zip_none hl, ι1, A', ρ, at0.next n, ?_⟩
        cases e3 : cs ρ A' with
        | bad => rw [e3] at p; exact p
        | exc k A2 => rw [e3] at p; exact fun ι' H' m => p ι' H' (n.trans m)
        | ok ds A2 =>
          rw [e3] at p
          intro ι2 H2 ws fq m rq g
          have hd := Rp.dom d _ fp rp
          obtain ⟨rp2, f2⟩ := Rps.next (H := H) n.wd m (Rps.one rp) fr hd
          obtain ⟨v', ev, rp2⟩ := rp2.one_inv
          cases ev
          rw [List.append_nil]
          exact hsp _ _ _ (callF_ok (np := np + 1) at0.wd at0.bl (n.trans m) (Rps.cons rp2 rq) (f2.app g n.ext hd) hE (by simp [rq.len, hn ρ A' ds A2 e3]) p)
end Ab

set_option Elab.async false
set_option linter.all false
set_option maxRecDepth 100000
set_option maxHeartbeats 1000000
set_option autoImplicit false
/-! Ab16: objects made, fields stored. -/
namespace Ab
open PySem PySem.Spec PyProof.Rows L2
def fin0 : SR → Res Vl
  | .nx _ A => .ok .non A
  | .rt d A => .ok d A
  | .exc c A => .exc c A
  | .bad => .bad
/-- a def whose stores may reach places above b: no cut at its end -/
def mkIn (k : Nat) (body : CS) : Fn := fun ds A => match ds with
  | .int b :: ds => fin0 (body ⟨b.toNat, ds.map some ++ List.replicate (k - ds.length) none⟩ A)
  | _ => .bad
def spI (T : Tb) (f : Fn) (np : Nat) : Sp := fun vs H Q E => vs.length = np ∧ ∃ (b : Nat) (ι : List Addr) (A : AH) (ds : List Vl), Wd T ι A H ∧ Rps T ι H vs ds [] ∧ b ≤ A.length ∧ Po T b ι A H (f (.int (b : Int) :: ds) A) Q fun c H' => E (.ref (T.C c)) none H'
def spI0 (T : Tb) (f : Fn) (np : Nat) : Sp := fun vs H Q _ => spI T f np vs H Q fun _ _ _ => False
theorem fn_startI {T : Tb} {E : XE} {EX : XK} {N : List Str} {np : Nat} {code : CS} {vs : List V} {H : Hp} {Q : VK} (h : spI T (mkIn N.length code) np vs H Q EX) (hE : ∀ c H, EX (.ref (T.C c)) none H → E c H) :
    tS T E code { nx := fun _ H' => Q .non H', rt := Q } (L2.start N vs) H := by
  obtain ⟨hl, b, ι, A, ds, w, r, hb, p⟩ := h
  have hlen := r.len
  refine ⟨ι, A, ⟨b, ds.map some ++ List.replicate (N.length - ds.length) none⟩, ⟨w, ⟨?_, fun i d hd => ?_⟩, hb⟩, ?_⟩
  · unfold L2.start
    simp [hlen]
  · have hi : i < ds.length := by
      apply Classical.byContradiction
      intro hi
      rw [List.getElem?_append_right (by simpa using hi), List.getElem?_replicate] at hd
      split at hd <;> cases hd
    rw [List.getElem?_append_left (by simpa using hi), List.getElem?_map] at hd
    cases hq : ds[i]? with
    | none => rw [hq] at hd; cases hd
    | some d' =>
      rw [hq] at hd
      cases hd
      obtain ⟨v, fq, q1, q2, q3⟩ := r.get hq
      have : fq = [] := by simpa using q3
      subst this
      refine ⟨v, ?_, q2⟩
      unfold L2.start
      rw [List.getElem?_append_left (by simp [hlen, hi]), List.getElem?_map, q1]; rfl
  · unfold mkIn at p
    simp only [Int.toNat_natCast] at p
    cases e : code ⟨b, ds.map some ++ List.replicate (N.length - ds.length) none⟩ A with
    | bad => rw [e] at p; exact p
    | exc c A' =>
      rw [e] at p
      exact fun ι' H' n => hE c H' (p _ _ n)
    | rt d A' => rw [e] at p; exact p
    | nx s A' =>
      rw [e] at p
      exact fun ι' H' σ' n _ => p ι' H' .non [] n .non .nil
theorem fn_zeroI {P : Program} {w : World} {K : PySem.W.Frag} {mg : Str → Option Value} {base : Heap} {CX : CXT} {f : Addr} {fd : FuncData} {ps : List Str} {T : Tb} {fn : Fn} (h : ∀ ds A, fn ds A = .bad) : FnOk P w K mg base CX 0 f fd ps (spI0 T fn ps.length) :=
  ⟨fun _ _ _ _ h => h.1, fun A outer s H args us vs Q E hr e0 hb r q => by
    obtain ⟨_, b, ι, A, ds, _, _, _, p⟩ := q
    rw [h] at p
    exact False.elim p⟩
theorem Nx.push {T : Tb} {b : Nat} {ι0 ι : List Addr} {A0 A : AH} {H0 H : Hp} {a : Addr} {o : HO} {k : Kd} {vs : List V} {xs : List Vl} (n : Nx T b ι0 A0 H0 ι A H) (hb : b ≤ A.length) (ha : a ∉ ι) (h0 : H0 a = none) (h1 : H a = some o) (h2 : KOk T k vs o) (h3 : Rps T ι H vs xs []) : Nx T b ι0 A0 H0 (ι ++ [a]) (A ++ [(k, xs)]) H := by
  refine ⟨n.wd.push ha h1 h2 h3, ?_, fun m hm z => (n.cl m hm z).pre fun j hj => ?_⟩
  · obtain ⟨nw, e, hn⟩ := n.ext.pre
    refine ⟨⟨nw ++ [a], by rw [e, List.append_assoc], fun c hc => ?_⟩, n.ext.keep, n.ext.dom⟩
    rcases List.mem_append.mp hc with z | z
    · exact hn c z
    · rw [List.mem_singleton] at z; subst z; exact h0
  · rw [List.getElem?_append_left (by omega)]
/-- an instance and its dict, new -/
theorem Nx.ins {T : Tb} {b c : Nat} {ι0 ι : List Addr} {A0 A : AH} {H0 H : Hp} {x dx : Addr} (w0 : Wd T ι0 A0 H0) (n : Nx T b ι0 A0 H0 ι A H) (hb : b ≤ A.length) (hx : H x = none) (hdx : H dx = none) (hne : dx ≠ x) : Nx T b ι0 A0 H0 (ι ++ [x]) (A ++ [(.obj c, [])]) (L2.upd (L2.upd H dx (.own x)) x (.ins (T.C c) dx [])) := by
  have hx2 : L2.upd H dx (HO.own x) x = none := by rw [upd_ne (Ne.symm hne)]; exact hx
  have n2 := (n.upd (o := .own x) hdx).upd (o := .ins (T.C c) dx []) hx2
  exact n2.push hb (n.wd.fresh hx) (n.ext.back hx) upd_same ⟨dx, by simp, by simp⟩ .nil
def mkObj (c : Nat) (f : Fn) (ds : List Vl) (A : AH) : Res Vl := match f (.int (A.length : Int) :: .loc (boxs ds A).2.length :: (boxs ds A).1) ((boxs ds A).2 ++ [(.obj c, [])]) with
  | .ok .non A3 => gc A.length (.loc (boxs ds A).2.length) A3
  | _ => .bad
def cMake (c : Nat) (f : Fn) (cs : CA) : CE := fun ρ A => match cs ρ A with
  | .ok ds A1 => mkObj c f ds A1
  | _ => .bad
theorem mkObj_ok {T : Tb} {c b np : Nat} {f : Fn} {ι0 ι1 : List Addr} {A0 A1 : AH} {H0 H1 : Hp} {ds : List Vl} {vs : List V} {fp : List Addr} {Q : VK} {E : XE} {x dx : Addr} (w0 : Wd T ι0 A0 H0) (hb : b ≤ A0.length) (n : Nx T b ι0 A0 H0 ι1 A1 H1) (r : Rps T ι1 H1 vs ds fp) (fr : Fr H0 ι1 fp) (hl : vs.length + 1 = np)
    (hx : H1 x = none) (hdx : H1 dx = none) (hne : dx ≠ x) (p : Po T b ι0 A0 H0 (mkObj c f ds A1) Q E) : spI T f np (.ref x :: vs) (upd (upd H1 dx (.own x)) x (.ins (T.C c) dx [])) (fun v H2 => v = .non ∧ Q (.ref x) H2) fun _ _ _ => False := by
  have hb1 : b ≤ A1.length := Nat.le_trans hb (n.le w0)
  obtain ⟨n2, r2, ex, e2⟩ := n.boxed hb1 r fr
  have hlen : A1.length ≤ (boxs ds A1).2.length := by rw [e2, List.length_append]; omega
  have n3 := Nx.ins (c := c) w0 n2 (Nat.le_trans hb1 hlen) hx hdx hne
  have hx2 : upd H1 dx (HO.own x) x = none := by rw [upd_ne (Ne.symm hne)]; exact hx
  have e1 : Ext (ι1 ++ fp) H1 (ι1 ++ fp) (upd (upd H1 dx (.own x)) x (.ins (T.C c) dx [])) := (Ext.refl.upd hdx).upd hx2
  have r3 : Rps T (ι1 ++ fp ++ [x]) (upd (upd H1 dx (.own x)) x (.ins (T.C c) dx [])) vs (boxs ds A1).1 [] := Rps.app [x] _ _ _ (Rps.mono e1 _ _ _ r2 (by simp))
  have hxat : (ι1 ++ fp ++ [x])[(boxs ds A1).2.length]? = some x := by
    rw [← n2.wd.len]; simp
  refine ⟨by simpa using hl, A1.length, _, _, _, n3.wd, Rps.cons (fp := []) (fq := []) (.loc hxat) r3, by rw [List.length_append]; omega, ?_⟩
  have cl2 : CL A1.length ((boxs ds A1).2 ++ [(.obj c, [])]) := n.wd.cl.pre fun j hj => by rw [e2, List.append_assoc, List.getElem?_append_left hj]
  unfold mkObj at p
  cases e : f (.int (A1.length : Int) :: .loc (boxs ds A1).2.length :: (boxs ds A1).1) ((boxs ds A1).2 ++ [(.obj c, [])]) with
  | bad => rw [e] at p; exact p
  | exc k A3 => rw [e] at p; exact False.elim p
  | ok d A3 =>
    rw [e] at p
    cases d with
    | non =>
      intro ι3 H3 v fq m rv g
      cases rv
      refine ⟨rfl, ?_⟩
      have n4 : Nx T b ι0 A0 H0 ι3 A3 H3 := ⟨m.wd, n3.ext.trans m.ext, fun k hk z => m.cl k (by omega) (n3.cl k hk z)⟩
      obtain ⟨d2, A4, ι4, fz, eg, n5, r4, f4⟩ := gc_ok w0 n4 hb1 (n.le w0) (m.cl _ (Nat.le_refl _) cl2) (.loc (m.ext.at hxat)) .nil
      have p : Po T b ι0 A0 H0 (gc A1.length (.loc (boxs ds A1).2.length) A3) Q E := p
      rw [eg] at p
      exact p ι4 H3 _ fz n5 r4 f4
    | _ => exact False.elim p
section
variable {X : Cx} {T : Tb} {E : XE} {k c : Nat} {fa : Addr} {fd : FuncData} {ps : List Str} {fn : Fn} {x : Str} {e : Expr} {es : List Expr} {cs : CA} {p pos : Pos}
theorem ge_make (M : Mk X.K (T.C c) fa) (F : FnOk X.prog X.w X.K X.mg X.base CX0 k fa fd ps (spI0 T fn ps.length)) (hn : ∃ n, ps.length = n + 1 ∧ argN n cs) (hr : Room (k + 1) X.A) (hg : Gl X x) (hm : X.mg x = some (.ref (T.C c))) (hb : Binds X.K fd ps [])
    (ha : PA X (e :: es) (tA T E cs)) (hdb : (x == ("__debug__" : Str)) = false := by decide) (he : starEach (e :: es) X.env = (false, eval e X.env) :: starEach es X.env := by rfl) (hpl : (backTo pos (starEach es X.env)).any (·.1) = false := by rfl) :
    PE X (.Call (.Name x p) (e :: es) [] pos) (tE T E (cMake c fn cs)) :=
  PE.imp (pe_make M F hr hg hm hb .nil (E := fun _ _ _ => False) pass0 ha hdb he hpl) fun σ H Q q => by
    obtain ⟨ι, A, ρ, at0, p⟩ := q
    refine ⟨ι, A, ρ, at0, ?_⟩
    unfold cMake at p
    cases e1 : cs ρ A with
    | bad => rw [e1] at p; exact p
    | exc k A' => rw [e1] at p; exact False.elim p
    | ok ds A' =>
      rw [e1] at p
      intro ι1 H1 vs fp n rp f x dx hx hdx hne
      rw [List.append_nil]
      obtain ⟨m, e2, hm⟩ := hn
      exact mkObj_ok at0.wd at0.bl n rp f (by rw [rp.len, hm ρ A ds A' e1, e2]) hx hdx hne p
/-! a class without an __init__ of its own -/
def cNew (c : Nat) : CE := fun _ A => .ok (.new (.obj c) []) A
theorem pe_new {C : Addr} (mk : PySem.W.makesIn X.K C = true) (hi : PySem.W.findIn X.K (.ref C) "__init__" = some (some (.builtin "object.__init__"))) (kp : PySem.W.keepIn X.K (.ref C) = true) (hg : Gl X x) (hm : X.mg x = some (.ref C)) (hdb : (x == ("__debug__" : Str)) = false := by decide) :
    PE X (.Call (.Name x p) [] [] pos) (fun _ H Q => ∀ y dx, H y = none → H dx = none → dx ≠ y → Q (.ref y) (upd (upd H dx (.own y)) y (.ins C dx []))) := by
  constructor
  intro pins s σ H Q I h
  have hq := h (s.heap.objs.size + 1) s.heap.objs.size (I.hok.fresh (Nat.le_succ _)) (I.hok.fresh (Nat.le_refl _)) (Nat.ne_of_lt (Nat.lt_succ_self _))
  have I2 := Inv.made (C := C) I
  have Y := PySem.W.makes_of (M := model X.prog X.w) I.kIn mk
  have hat : ((s.heap.push PySem.W.emptyDict).push (PySem.W.instObj C s.heap.objs.size)).get? (s.heap.objs.size + 1) = some (PySem.W.instObj C s.heap.objs.size) := by
    have := Heap.get?_push_size (s.heap.push PySem.W.emptyDict) (o := PySem.W.instObj C s.heap.objs.size) rfl
    rwa [Heap.size_push] at this
  have t1 : PySem.W.Looks (model X.prog X.w) ((s.heap.push PySem.W.emptyDict).push (PySem.W.instObj C s.heap.objs.size)) (typeOf (.ref (s.heap.objs.size + 1))) (.ref C) := (PySem.W.Looks.ld hat).andThen .now
  have t2 : PySem.W.Looks (model X.prog X.w) ((s.heap.push PySem.W.emptyDict).push (PySem.W.instObj C s.heap.objs.size)) (isInstance (.ref (s.heap.objs.size + 1)) (.type "object")) true := t1.andThen (Y.top.keeps fun b o e => Heap.get?_push_of_some (PySem.W.instObj C s.heap.objs.size) (Heap.get?_push_of_some PySem.W.emptyDict e))
  refine wpAny_Call_Name_kw (ld_glob I hg hm (PySem.W.callWith_K0 I.kIn kp (wpAny_call (make_map0 I.kIn mk hi (fun self => PySem.W.Looks.of_pure (PySem.W.oi_bind self)) ?_))) hdb)
  refine codeAny_call_builtin PySem.W.oi_plain PySem.W.entry_oi (@PySem.W.check_slot (model X.prog X.w) _ _ _ "object.__init__" "object" "__init__" _ [] [] _ PySem.W.oi_kind PySem.W.oi_split t2 (PySem.W.oi_args _) ?_)
  rw [PySem.W.oi_run]
  exact wpAny_pure ⟨rfl, V.ref (s.heap.objs.size + 1), _, I2, rfl, hq⟩
theorem ge_new (mk : PySem.W.makesIn X.K (T.C c) = true) (hi : PySem.W.findIn X.K (.ref (T.C c)) "__init__" = some (some (.builtin "object.__init__"))) (kp : PySem.W.keepIn X.K (.ref (T.C c)) = true) (hg : Gl X x) (hm : X.mg x = some (.ref (T.C c))) (hdb : (x == ("__debug__" : Str)) = false := by decide) :
    PE X (.Call (.Name x p) [] [] pos) (tE T E (cNew c)) :=
  PE.imp (pe_new mk hi kp hg hm hdb) fun σ H Q q => by
    obtain ⟨ι, A, ρ, at0, p⟩ := q
    intro y dx hy hdx hne
    have hy2 : upd H dx (HO.own y) y = none := by rw [upd_ne (Ne.symm hne)]; exact hy
    exact newK_ok (k := .obj c) ((Nx.refl at0.wd).upd hdx) ⟨dx, by simp, by simp⟩ hy2 p
/-! a field stored -/
def fPutF (ix : Nat → Option Nat) : FB := fun b ds A => match ds with
  | [y, .loc l] => match (box y A).2[l]? with
    | some (.obj c, xs) => match ix c with
      | some i => if mayPut b l (box y A).1 = true then (if i < xs.length then .ok .non ((box y A).2.set l (.obj c, xs.set i (box y A).1)) else if i = xs.length then .ok .non ((box y A).2.set l (.obj c, xs ++ [(box y A).1])) else .bad) else .bad
      | none => .bad
    | _ => .bad
  | _ => .bad
theorem putF_zip_set {f : Str} {y : V} : ∀ {fs : List Str} {vs : List V} {i : Nat}, fs[i]? = some f → (∀ j : Nat, j < i → fs[j]? ≠ some f) → i < vs.length → putF f y (fs.zip vs) = fs.zip (vs.set i y)
  | [], _, _, h, _, _ => by simp at h
  | g :: fs, [], i, _, _, h => by simp at h
  | g :: fs, u :: vs, 0, h, _, _ => by
    simp at h
    subst h
    simp [putF]
  | g :: fs, u :: vs, i + 1, h, hn, hl => by
    have h0 := hn 0 (by omega)
    simp at h0
    have ih := putF_zip_set (f := f) (y := y) (fs := fs) (vs := vs) (i := i) (by simpa using h) (fun j hj => by simpa using hn (j + 1) (by omega)) (by simpa using hl)
    simp [putF, h0, ih]
theorem putF_zip_app {f : Str} {y : V} : ∀ {fs : List Str} {vs : List V}, fs[vs.length]? = some f → (∀ j : Nat, j < vs.length → fs[j]? ≠ some f) → putF f y (fs.zip vs) = fs.zip (vs ++ [y])
  | [], _, h, _ => by simp at h
  | g :: fs, [], h, _ => by
    simp at h
    subst h
    simp [putF]
  | g :: fs, u :: vs, h, hn => by
    have h0 := hn 0 (by simp)
    simp at h0
    have ih := putF_zip_app (f := f) (y := y) (fs := fs) (vs := vs) (by simpa using h) (fun j hj => by simpa using hn (j + 1) (by simpa using hj))
    simp [putF, h0, ih]
theorem sf_putF {T : Tb} {K : PySem.W.Frag} {f : Str} {ix : Nat → Option Nat} (hC : ∀ c i, ix c = some i → FldOk T K f c i ∧ (T.flds c).length < 1000) : SF T (fun vs H Q => ∃ v x, vs = [v, x] ∧ ∃ a C dx fs, x = .ref a ∧ H a = some (.ins C dx fs) ∧ Cls K C ∧ NoAttr K C f ∧ fs.length < 1000 ∧ Q .non (upd H a (.ins C dx (putF f v fs)))) (fPutF ix) := by
  intro b ι A H ι1 A1 H1 vs ds fp Q E w hb n r fr p
  unfold fPutF at p
  split at p
  · rename_i y l
    obtain ⟨v, u, f1, f2, rfl, rfl, q1, q2⟩ := r.two_inv
    cases q2 with
    | @loc _ a hl =>
      rw [List.append_nil] at fr
      split at p
      · rename_i c xs ex
        split at p
        · rename_i i ei
          obtain ⟨F, hlt⟩ := hC c i ei
          split at p
          · rename_i hc
            have hb1 : b ≤ A1.length := Nat.le_trans hb (n.le w)
            obtain ⟨n2, rp2, ey, eA⟩ := n.boxed1 hb1 q1 fr
            have ha : (ι1 ++ f1)[l]? = some a := by
              rw [List.getElem?_append_left (List.getElem?_eq_some_iff.mp hl).1]; exact hl
            obtain ⟨o, us, z1, z2, z3⟩ := n2.wd.cel l _ xs a ex ha
            obtain ⟨dx, rfl, hn⟩ := z2
            refine ⟨_, _, rfl, a, _, dx, _, rfl, z1, F.cl, F.na, ?_, ?_⟩
            · have : ((T.flds c).zip us).length ≤ (T.flds c).length := by rw [List.length_zip]; exact Nat.min_le_left _ _
              omega
            · split at p
              · rename_i hi
                rw [putF_zip_set F.at_ F.fst (by rw [z3.len]; exact hi)]
                have n3 := n2.store (k' := .obj c) (xs' := xs.set i (box y A1).1) (o' := .ins (T.C c) dx ((T.flds c).zip (us.set i v))) (vs' := us.set i v) ex ha ⟨dx, rfl, by simpa using hn⟩ (Rps.setN rp2 z3) (fun m hm hmb hx => lts_set hx (mayPut_lt hc hm hmb))
                exact p _ _ _ [] n3 .non .nil
              · split at p
                · rename_i hi
                  have e1 : us.length = i := by rw [z3.len, hi]
                  rw [putF_zip_app (by rw [e1]; exact F.at_) (by rw [e1]; exact F.fst)]
                  have hlt2 := (List.getElem?_eq_some_iff.mp F.at_).1
                  have n3 := n2.store (k' := .obj c) (xs' := xs ++ [(box y A1).1]) (o' := .ins (T.C c) dx ((T.flds c).zip (us ++ [v]))) (vs' := us ++ [v]) ex ha ⟨dx, rfl, by simp; omega⟩ (Rps.append (fp := []) (fq := []) z3 (Rps.one rp2)) (fun m hm hmb hx => by
                    rw [lts_append, hx]
                    simp [lts, mayPut_lt hc hm hmb])
                  exact p _ _ _ [] n3 .non .nil
                · exact p.elim
          · exact p.elim
        · exact p.elim
      · exact p.elim
  · exact p.elim
def cSetF (ix : Nat → Option Nat) (co cv : CE) : CS := cDrop (cF (fPutF ix) (cCons cv (cCons co cNil)))
theorem gs_setF {o v : Expr} {co cv : CE} {f : Str} {pos' : Pos} {ix : Nat → Option Nat} (hC : ∀ c i, ix c = some i → FldOk T X.K f c i ∧ (T.flds c).length < 1000) (ho : PE X o (tE T E co)) (hv : PE X v (tE T E cv)) (hs : swapsWith v (some (.Attribute o f pos')) pos.line X.env = pure false := by rfl) :
    PS X (.Assign [.Attribute o f pos'] v pos) (tS T E (cSetF ix co cv)) :=
  PS.imp (ps_fld ho hv hs) fun D σ H q => by
    refine tA_cons_imp (tA_F (sf_putF hC) (drop_ok q)) fun v H1 q1 => ?_
    refine tA_cons_imp q1 fun o H2 q2 => ?_
    obtain ⟨v', o', e, z⟩ := tA_nil_imp q2
    cases e
    exact z
end
end Ab

set_option Elab.async false
set_option linter.all false
set_option maxRecDepth 100000
set_option maxHeartbeats 1000000
set_option autoImplicit false
/-! Ab17: what is known of classes; makers at a level. -/
namespace Ab
open PySem PySem.Spec PyProof.Rows L2
structure Kf (K : PySem.W.Frag) (mg : Str → Option Value) (name : Str) (C : Addr) : Prop where
  cl : Cls K C
  ty : TyF K C
  mks : PySem.W.makesIn K C = true
  kp : PySem.W.keepIn K (.ref C) = true
  g : mg name = some (.ref C)
structure Dm (K : PySem.W.Frag) (C : Addr) (m qual : Str) (st : Stmt) (ps : List Str) (f : Addr) (fd : FuncData) : Prop where
  F : Fun K m qual st f fd
  b : Binds K fd ps []
  m : Meth K C m f
theorem kit_own {K : PySem.W.Frag} {C D : Addr} {b : Bool} (hc : PySem.W.isClsIn K D = true) (ht : PySem.W.typeIn K (.ref D) = some (.type "type")) (hs : PySem.W.subIn K (.ref C) (.ref D) = some b) (hne : b = false → C ≠ D) : PySem.W.kitOne K (.ref C) (.ref D) = some b := by
  unfold PySem.W.kitOne
  split
  · rename_i h
    cases b with
    | true => rfl
    | false => exact absurd (Value.ref.inj (beq_iff_eq.mp h)) (hne rfl)
  · show (if ((PySem.W.clsIn K D).isSome && PySem.W.typeIn K (.ref D) == some (.type "type")) = true then PySem.W.subIn K (.ref C) (.ref D) else none) = some b
    rw [if_pos]
    · exact hs
    · rw [Bool.and_eq_true]
      exact ⟨hc, by rw [ht]; exact beq_self_eq_true _⟩
def InitOk (P : Program) (w : World) (K : PySem.W.Frag) (mg : Str → Option Value) (base : Heap) (k : Nat) (f : Addr) (fd : FuncData) (ps : List Str) (T : Tb) (fn : Fn) : Prop :=
  (∀ ds A, fn ds A = .bad) ∨ ∃ j, j + 1 ≤ k ∧ FnOk P w K mg base CX0 j f fd ps (spI0 T fn ps.length)
theorem ge_makeL {X : Cx} {T : Tb} {E : XE} {k c : Nat} {fa : Addr} {fd : FuncData} {ps : List Str} {fn : Fn} {x : Str} {e : Expr} {es : List Expr} {cs : CA} {p pos : Pos} (M : Mk X.K (T.C c) fa) (hI : InitOk X.prog X.w X.K X.mg X.base k fa fd ps T fn) (hn : ∃ n, ps.length = n + 1 ∧ argN n cs) (hr : Room k X.A) (hg : Gl X x) (hm : X.mg x = some (.ref (T.C c))) (hb : Binds X.K fd ps [])
    (ha : PA X (e :: es) (tA T E cs)) (hdb : (x == ("__debug__" : Str)) = false := by decide) (he : starEach (e :: es) X.env = (false, eval e X.env) :: starEach es X.env := by rfl) (hpl : (backTo pos (starEach es X.env)).any (·.1) = false := by rfl) :
    PE X (.Call (.Name x p) (e :: es) [] pos) (tE T E (cMake c fn cs)) := by
  rcases hI with hI | ⟨j, hj, F⟩
  · refine ⟨fun pins s σ H Q I h => ?_⟩
    obtain ⟨ι, A, ρ, at0, q⟩ := h
    have : cMake c fn cs ρ A = .bad := by
      unfold cMake
      split
      · unfold mkObj; rw [hI]
      · rfl
    rw [this] at q
    exact False.elim q
  · exact ge_make M F hn (hr.mono hj) hg hm hb ha hdb he hpl
end Ab

set_option Elab.async false
set_option linter.all false
set_option maxRecDepth 100000
set_option maxHeartbeats 1000000
set_option autoImplicit false
/-! Ab18: index, extend, two items exchanged. -/
namespace Ab
open PySem PySem.Spec PyProof.Rows L2
def fIndex : FB := fun _ ds A => match ds with
  | [x, .int k] => match seqL A x with
    | none => .bad
    | some xs => match toInts xs with
      | none => .bad
      | some ns => if k ∈ ns then .ok (.int (ns.idxOf k : Nat)) A else .bad
  | _ => .bad
theorem eqV_ints {x k : Int} : eqV (V.int x) (V.int k) = decide (x = k) := by
  unfold eqV
  by_cases h : x = k
  · subst h; simp
  · simp [h]
theorem sf_index {T : Tb} : SF T (rM (rIndex T.K)) fIndex := by
  intro b ι A H ι1 A1 H1 vs ds fp Q E w hb n r f p
  unfold fIndex at p
  split at p
  · rename_i x k
    obtain ⟨v, u, f1, f2, rfl, rfl, q1, q2⟩ := r.two_inv
    cases q2
    split at p
    · exact p.elim
    · rename_i xs ex
      obtain ⟨a, as, g1, rfl, h1, h2, h3⟩ := seqL_ok n.wd q1 ex
      split at p
      · exact p.elim
      · rename_i ns en
        rw [toInts_ok h2 en] at h1
        split at p
        · rename_i hk
          have hj : ns.idxOf k < ns.length := List.idxOf_lt_length_iff.mpr hk
          refine ⟨_, _, rfl, a, ns.map V.int, V.int k, ns.idxOf k, V.int k, rfl, rfl, h1, rfl, List.all_eq_true.mpr fun z hz => ?_, ?_, ?_, fun m z' hm hz => ?_, p ι1 H1 _ [] n (.int _) .nil⟩
          · obtain ⟨i, _, rfl⟩ := List.mem_map.mp hz
            rfl
          · rw [List.getElem?_map, List.getElem?_eq_getElem hj, List.getElem_idxOf]
            rfl
          · rw [eqV_ints]
            exact decide_eq_true rfl
          · rw [List.getElem?_map] at hz
            cases hq : ns[m]? with
            | none => rw [hq] at hz; cases hz
            | some i =>
              rw [hq] at hz
              cases hz
              rw [eqV_ints]
              refine decide_eq_false fun z => ?_
              subst z
              have := List.not_of_lt_findIdx (p := (· == i)) (xs := ns) (i := m) hm
              rw [List.getElem?_eq_getElem (by omega)] at hq
              have he := Option.some.inj hq
              simp [he] at this
        · exact p.elim
  · exact p.elim
/-- all of a list behind another -/
def fExtend : FB := fun b ds A => match ds with
  | [.loc l, y] => match (box y A).1 with
    | .loc m => match (box y A).2[l]?, (box y A).2[m]? with
      | some (.lst, xs), some (.lst, ys) => if xs.length + ys.length ≤ 100000 ∧ b ≤ l then .ok .non ((box y A).2.set l (.lst, xs ++ ys)) else .bad
      | _, _ => .bad
    | _ => .bad
  | _ => .bad
theorem sf_extend {T : Tb} : SF T (rM rExtend) fExtend := by
  intro b ι A H ι1 A1 H1 vs ds fp Q E w hb n r f p
  unfold fExtend at p
  split at p
  · rename_i l y
    obtain ⟨v, u, f1, f2, rfl, rfl, q1, q2⟩ := r.two_inv
    cases q1 with
    | @loc _ a hl =>
      rw [List.nil_append] at f
      split at p
      · rename_i m em
        split at p
        · rename_i xs ys ex ey
          split at p
          · rename_i hc
            have hb1 : b ≤ A1.length := Nat.le_trans hb (n.le w)
            obtain ⟨n2, rp2, _, eA⟩ := n.boxed1 hb1 q2 f
            have ha : (ι1 ++ f2)[l]? = some a := by
              rw [List.getElem?_append_left (List.getElem?_eq_some_iff.mp hl).1]; exact hl
            rw [em] at rp2
            cases rp2 with
            | @loc _ a2 hl2 =>
              obtain ⟨o, us, z1, z2, z3⟩ := n2.wd.cel l _ xs a ex ha
              rw [show o = HO.lst us from z2] at z1
              obtain ⟨o', us', z1', z2', z3'⟩ := n2.wd.cel m _ ys a2 ey hl2
              rw [show o' = HO.lst us' from z2'] at z1'
              refine ⟨_, _, rfl, a, a2, us, us', rfl, rfl, z1, z1', by rw [z3.len, z3'.len]; exact Nat.le_trans hc.1 (by decide), ?_⟩
              have n3 := n2.store (k' := .lst) (xs' := xs ++ ys) (o' := .lst (us ++ us')) (vs' := us ++ us') ex ha rfl (by
                have := z3.append z3'
                exact this) (fun m hm hmb hx => by
                have := hc.2
                omega)
              exact p _ _ _ [] n3 .non .nil
          · exact p.elim
        · exact p.elim
      · exact p.elim
  · exact p.elim
/-! two items exchanged -/
theorem tA_int {T : Tb} {E : XE} {i : Int} {cs : CA} {σ : L2.St} {H : Hp} {Q : List V → Hp → Prop} (h : tA T E (cCons (cC (.int i)) cs) σ H Q) : tA T E cs σ H (fun vs H2 => Q (V.int i :: vs) H2) := by
  obtain ⟨ι, A, ρ, a, p⟩ := tA_cons h
  exact p ι H (V.int i) [] (.refl a.wd) (.int i) .nil
theorem setI_int {X : Cx} {T : Tb} {E : XE} {co ci : CE} {i : Int} {D : Ends} {σ : L2.St} {H : Hp} (h : tS T E (cSetI co ci (cC (.int i))) D σ H) : tE T E co σ H fun o H1 => tE T E ci σ H1 fun j H2 => rSetL o j (V.int i) H2 fun H3 => D.nx σ H3 := by
  refine tA_cons_imp (tA_int (tA_F sf_putI (drop_ok h))) fun o H2 q2 => ?_
  refine tA_cons_imp q2 fun i H3 q3 => ?_
  obtain ⟨v', o', i', e, z⟩ := tA_nil_imp q3
  cases e
  exact z
theorem seq_split {T : Tb} {E : XE} {c1 c2 : CS} {D : Ends} {σ : L2.St} {H : Hp} (h : tS T E (cSeq c1 c2) D σ H) : tS T E c1 { D with nx := fun σ' H' => tS T E c2 D σ' H' } σ H := by
  obtain ⟨ι, A, ρ, a, p⟩ := h
  refine ⟨ι, A, ρ, a, ?_⟩
  unfold cSeq at p
  cases e1 : c1 ρ A with
  | bad => rw [e1] at p; exact p
  | exc k A' => rw [e1] at p; exact p
  | rt d A' => rw [e1] at p; exact p
  | nx s A' =>
    rw [e1] at p
    exact fun ι1 H1 σ' n er => ⟨ι1, A', ⟨ρ.b, s⟩, ⟨n.wd, er, Nat.le_trans a.bl (n.le a.wd)⟩, PoS.re n p⟩
theorem tup2_inv {T : Tb} {ι : List Addr} {H : Hp} {v : V} {i j : Int} {fp : List Addr} (h : Rp T ι H v (.tup [.int i, .int j]) fp) : ∃ a, v = .ref a ∧ SqT T.K H a [.int i, .int j] := by
  cases h with
  | @tup a vs _ _ h1 h2 =>
    cases h2 with
    | cons k1 k2 =>
      cases k2 with
      | cons k3 k4 =>
        cases k4
        cases k1
        cases k3
        exact ⟨a, rfl, h1⟩
theorem tE_imp {T : Tb} {E : XE} {c : CE} {σ : L2.St} {H : Hp} {Q R : VK} (h : tE T E c σ H Q) (k : ∀ v H1, Q v H1 → R v H1) : tE T E c σ H R := by
  obtain ⟨ι, A, ρ, a, p⟩ := h
  refine ⟨ι, A, ρ, a, ?_⟩
  cases e : c ρ A with
  | bad => rw [e] at p; exact p
  | exc j A' => rw [e] at p; exact p
  | ok d A' =>
    rw [e] at p
    exact fun ι' H' v fp n r f => k v H' (p ι' H' v fp n r f)
theorem rSetL_imp {o i v : V} {H : Hp} {Q R : Hp → Prop} (h : rSetL o i v H Q) (k : ∀ H1, Q H1 → R H1) : rSetL o i v H R := by
  obtain ⟨p, xs, a, j, h1, h2, h3, h4, q⟩ := h
  exact ⟨p, xs, a, j, h1, h2, h3, h4, k _ q⟩
/-- two items at once: both values first, whole numbers -/
def cSw (ct co1 ci1 co2 ci2 : CE) : CS := fun ρ A => match ct ρ A with
  | .ok d A1 => (match d with
    | .tup [.int i, .int j] => cSeq (cSetI co1 ci1 (cC (.int i))) (cSetI co2 ci2 (cC (.int j))) ρ A1
    | _ => .bad)
  | .exc k A1 => .exc k A1
  | .bad => .bad
theorem gs_sw {X : Cx} {T : Tb} {E : XE} {e o1 i1 o2 i2 : Expr} {ct co1 ci1 co2 ci2 : CE} {pos p1 p2 pt : Pos} {kt : Nat} (hK : T.K = X.K) (hc : X.calm = true) (he : PE X e (tE T E ct)) (ho1 : PE X o1 (tE T E co1)) (hi1 : PE X i1 (tE T E ci1)) (ho2 : PE X o2 (tE T E co2)) (hi2 : PE X i2 (tE T E ci2))
    (ha1 : ∀ v, assign (.Subscript o1 i1 p1) X.env v = (do
      let ov ← holding [v] (eval o1 X.env)
      let iv ← holding [v, ov] (eval i1 X.env)
      standAt p1
      holding [v, ov, iv] (setItem ov iv v); release [v, ov, iv] []) := by intro _; rfl)
    (ha2 : ∀ v, assign (.Subscript o2 i2 p2) X.env v = (do
      let ov ← holding [v] (eval o2 X.env)
      let iv ← holding [v, ov] (eval i2 X.env)
      standAt p2
      holding [v, ov, iv] (setItem ov iv v); release [v, ov, iv] []) := by intro _; rfl)
    (hn1 : (assignEach [.Subscript o1 i1 p1, .Subscript o2 i2 p2] X.env).map (·.2) = assign (.Subscript o1 i1 p1) X.env :: (assignEach [.Subscript o2 i2 p2] X.env).map (·.2) := by rfl)
    (hn2 : (assignEach [.Subscript o2 i2 p2] X.env).map (·.2) = assign (.Subscript o2 i2 p2) X.env :: (assignEach [] X.env).map (·.2) := by rfl)
    (hn : (assignEach [.Subscript o1 i1 p1, .Subscript o2 i2 p2] X.env).length = 2 := by rfl) (hst : (assignEach [.Subscript o1 i1 p1, .Subscript o2 i2 p2] X.env).findIdx? (·.1) = none := by rfl)
    (hs : swapsWithSole [.Tuple [.Subscript o1 i1 p1, .Subscript o2 i2 p2] kt pt] e pos.line X.env = pure false := by rfl) (hw : swappedStores [.Tuple [.Subscript o1 i1 p1, .Subscript o2 i2 p2] kt pt] e X.env = pure none := by rfl)
    (h1 : (assignEach [.Tuple [.Subscript o1 i1 p1, .Subscript o2 i2 p2] kt pt] X.env).map (·.2) = [assign (.Tuple [.Subscript o1 i1 p1, .Subscript o2 i2 p2] kt pt) X.env] := by rfl) :
    PS X (.Assign [.Tuple [.Subscript o1 i1 p1, .Subscript o2 i2 p2] kt pt] e pos) (tS T E (cSw ct co1 ci1 co2 ci2)) :=
  PS.imp (ps_asg he (pg_tup hc (pgs_cons (pg_sub ho1 hi1 set_list ha1) (pgs_cons (pg_sub ho2 hi2 set_list ha2) pgs_nil hn2) hn1) hn hst) hs hw h1) fun D σ H q => by
    obtain ⟨ι, A, ρ, at0, p⟩ := q
    refine ⟨ι, A, ρ, at0, ?_⟩
    unfold cSw at p
    cases e1 : ct ρ A with
    | bad => rw [e1] at p; exact p
    | exc k A' => rw [e1] at p; exact p
    | ok d A' =>
      rw [e1] at p
      simp only at p
      split at p
      · rename_i i j
        intro ι1 H1 v fp n r f
        have q : tS T E (cSeq (cSetI co1 ci1 (cC (.int i))) (cSetI co2 ci2 (cC (.int j)))) D σ H1 := ⟨ι1, A', ρ, at0.next n, PoS.re n p⟩
        obtain ⟨a, rfl, hq⟩ := tup2_inv r
        rw [hK] at hq
        refine ⟨a, _, rfl, hq, rfl, _, _, rfl, ?_⟩
        have s1 := setI_int (X := X) (seq_split q)
        refine tE_imp s1 fun o H2 s2 => tE_imp s2 fun i' H3 s3 => rSetL_imp s3 fun H4 s4 => ?_
        refine ⟨_, _, rfl, ?_⟩
        exact tE_imp (setI_int (X := X) s4) fun o H5 s5 => tE_imp s5 fun i' H6 s6 => rSetL_imp s6 fun H7 s7 => ⟨rfl, s7⟩
      · exact p.elim
end Ab

set_option Elab.async false
set_option linter.all false
set_option maxRecDepth 100000
set_option maxHeartbeats 1000000
set_option autoImplicit false
/-! Ab19: lists turned, chains of three, truths counted. -/
namespace Ab
open PySem PySem.Spec PyProof.Rows L2
def fRev : FB := fun _ ds A => match ds with
  | [x] => match seqL A x with
    | none => .bad
    | some xs => if plains xs = true then .ok (.new .lst xs.reverse) A else .bad
  | _ => .bad
theorem ge_rev {X : Cx} {T : Tb} {E : XE} {e : Expr} {c : CE} {k : Nat} {p1 p2 p3 pos : Pos} (hK : T.K = X.K) (he : PE X e (tE T E c)) : PE X (.Subscript e (.Slice none none (some (.UnaryOp .USub (.Constant (.int 1) k p1) p2)) p3) pos) (tE T E (cF1 fRev c)) :=
  PE.imp (pe_revL he) fun σ H Q q => by
    obtain ⟨ι, A, ρ, at0, p⟩ := q
    refine ⟨ι, A, ρ, at0, ?_⟩
    unfold cF1 at p
    cases e1 : c ρ A with
    | bad => rw [e1] at p; exact p
    | exc k A' => rw [e1] at p; exact p
    | ok d A' =>
      rw [e1] at p
      intro ι1 H1 v fp n rp f
      have p : Po T ρ.b ι A H (fRev ρ.b [d] A') Q E := p
      unfold fRev at p
      simp only at p
      split at p
      · exact p.elim
      · rename_i xs ex
        split at p
        · rename_i hp
          obtain ⟨a, as, g1, rfl, h1, h2, h3⟩ := seqL_ok n.wd rp ex
          rw [hK] at h1
          have h4 := rps_plain_nil h2 hp
          exact ⟨a, as, rfl, h1, fun q hq => new_ok n h4.rev .nil hq p⟩
        · exact p.elim
/-! chains of three -/
def tChain3 (r r' r'' : R2) (ta tb tc td : TE) : TE := fun σ H Q => ta σ H fun x H1 => tb σ H1 fun y H2 => r x y H2 fun z H3 => ∃ k, z = .bl k ∧
  (if k = true then tc σ H3 fun w H4 => r' y w H4 fun z' H5 => ∃ k', z' = .bl k' ∧ (if k' = true then td σ H5 fun u H6 => r'' w u H6 Q else Q (.bl false) H5) else Q (.bl false) H3)
theorem pe_chain3 {X : Cx} {a b c d : Expr} {ta tb tc td : TE} {pos : Pos} {op op' op'' : CmpOp} {r r' r'' : R2} (ho : OpR X (compareOp op) r) (ho' : OpR X (compareOp op') r') (ho'' : OpR X (compareOp op'') r'') (ha : PE X a ta) (hb : PE X b tb) (hc : PE X c tc) (hd : PE X d td)
    (hm : lastMarks [op, op', op''] [b, c, d] = false := by with_unfolding_all rfl) : PE X (.Compare a [op, op', op''] [b, c, d] pos) (tChain3 r r' r'' ta tb tc td) := by
  refine ⟨fun pins s σ H Q I h => ?_⟩
  refine Compare_chain (thn (ha.run pins s σ H _ I h) fun v s1 ⟨x, H1, I1, r1, q1⟩ => chain_link (thn (hb.run pins s1 σ H1 _ I1 q1) fun u s2 ⟨y, H2, I2, r2, q2⟩ =>
    thn (ho pins s2 σ H2 x y v u _ I2 r1 r2 q2) fun d s3 ⟨z, H3, I3, r3, k, e, q3⟩ => ?_)) hm
  subst e
  cases r3
  refine wpAny_truthy_bool ?_
  cases k with
  | false => exact ite_ff ⟨.bl false, H3, I3, rfl, q3⟩
  | true =>
    refine ite_tt (chain_link (thn (hc.run pins s3 σ H3 _ I3 q3) fun w' s4 ⟨z', H4, I4, r4, q4⟩ => thn (ho' pins s4 σ H4 y z' u w' _ I4 r2 r4 q4) fun d' s5 ⟨z2, H5, I5, r5, k', e', q5⟩ => ?_))
    subst e'
    cases r5
    refine wpAny_truthy_bool ?_
    cases k' with
    | false => exact ite_ff ⟨.bl false, H5, I5, rfl, q5⟩
    | true => exact ite_tt (chain_last (thn (hd.run pins s5 σ H5 _ I5 q5) fun w2 s6 ⟨z3, H6, I6, r6, q6⟩ => ho'' pins s6 σ H6 z' z3 w' w2 Q I6 r4 r6 q6))
def cCh3 (g g' g'' : Int → Int → Bool) (ca cb cc cd : CE) : CE := fun ρ A => (ca ρ A).bind fun x A1 => (cb ρ A1).bind fun y A2 => match x, y with
  | .int i, .int j => if g i j = true then (cc ρ A2).bind fun z A3 => (match z with
      | .int k => if g' j k = true then (cd ρ A3).bind fun u A4 => (match u with
          | .int l => .ok (.bl (g'' k l)) A4
          | _ => .bad) else .ok (.bl false) A3
      | _ => .bad) else .ok (.bl false) A2
  | _, _ => .bad
section
variable {X : Cx} {T : Tb} {E : XE} {a b c d : Expr} {pos : Pos} {ca cb cc cd : CE} {op op' op'' : CmpOp} {g g' g'' : Int → Int → Bool}
theorem ch3_ok {σ : L2.St} {H : Hp} {Q : VK} (h : tE T E (cCh3 g g' g'' ca cb cc cd) σ H Q) : tChain3 (rI0 fun i j => .bl (g i j)) (rI0 fun i j => .bl (g' i j)) (rI0 fun i j => .bl (g'' i j)) (tE T E ca) (tE T E cb) (tE T E cc) (tE T E cd) σ H Q := by
  obtain ⟨ι, A, ρ, at0, p⟩ := h
  refine ⟨ι, A, ρ, at0, ?_⟩
  unfold cCh3 at p
  cases e : ca ρ A with
  | bad => rw [e] at p; exact p
  | exc k A' => rw [e] at p; exact p
  | ok x A1 =>
    rw [e] at p
    intro ι1 H1 v fp n r f
    refine ⟨ι1, A1, ρ, at0.next n, ?_⟩
    simp only [Res.bind] at p
    cases e2 : cb ρ A1 with
    | bad => rw [e2] at p; exact p
    | exc k A' => rw [e2] at p; exact fun ι' H' m => p ι' H' (n.trans m)
    | ok y A2 =>
      rw [e2] at p
      intro ι2 H2 w fq n2 r2 f2
      simp only at p
      split at p
      · rename_i i j
        cases r; cases r2
        refine ⟨i, j, rfl, rfl, g i j, rfl, ?_⟩
        split at p
        · rename_i hg
          rw [hg, if_pos rfl]
          refine ⟨ι2, A2, ρ, (at0.next n).next n2, ?_⟩
          cases e3 : cc ρ A2 with
          | bad => rw [e3] at p; exact p
          | exc k A' => rw [e3] at p; exact fun ι' H' m => p ι' H' ((n.trans n2).trans m)
          | ok z A3 =>
            rw [e3] at p
            intro ι3 H3 u fz n3 r3 f3
            simp only at p
            split at p
            · rename_i k
              cases r3
              refine ⟨j, k, rfl, rfl, g' j k, rfl, ?_⟩
              split at p
              · rename_i hg'
                rw [hg', if_pos rfl]
                refine ⟨ι3, A3, ρ, ((at0.next n).next n2).next n3, ?_⟩
                cases e4 : cd ρ A3 with
                | bad => rw [e4] at p; exact p
                | exc k A' => rw [e4] at p; exact fun ι' H' m => p ι' H' (((n.trans n2).trans n3).trans m)
                | ok u2 A4 =>
                  rw [e4] at p
                  intro ι4 H4 u3 fy n4 r4 f4
                  simp only at p
                  split at p
                  · rename_i l
                    cases r4
                    exact ⟨k, l, rfl, rfl, p ι4 H4 _ [] (((n.trans n2).trans n3).trans n4) (.bl _) .nil⟩
                  · exact p.elim
              · rename_i hg'
                rw [if_neg hg']
                exact p ι3 H3 _ [] ((n.trans n2).trans n3) (.bl _) .nil
            · exact p.elim
        · rename_i hg
          rw [if_neg hg]
          exact p ι2 H2 _ [] (n.trans n2) (.bl _) .nil
      · exact p.elim
theorem ge_ch3 (ho : OpR X (compareOp op) (rI0 fun i j => .bl (g i j))) (ho' : OpR X (compareOp op') (rI0 fun i j => .bl (g' i j))) (ho'' : OpR X (compareOp op'') (rI0 fun i j => .bl (g'' i j))) (ha : PE X a (tE T E ca)) (hb : PE X b (tE T E cb)) (hc : PE X c (tE T E cc)) (hd : PE X d (tE T E cd))
    (hm : lastMarks [op, op', op''] [b, c, d] = false := by with_unfolding_all rfl) : PE X (.Compare a [op, op', op''] [b, c, d] pos) (tE T E (cCh3 g g' g'' ca cb cc cd)) :=
  PE.imp (pe_chain3 ho ho' ho'' ha hb hc hd hm) fun σ H Q q => ch3_ok q
end
/-! truths counted -/
def eqT (v : Value) : Bool := match v with
  | .bool b => b
  | _ => false
theorem eqT_at {A : Around} {s : Shared} : ∀ {us : List Value} {bs : List Bool}, Vals (bs.map V.bl) us → ∀ y ∈ us, SeqAt.EqAt A s y (.bool true) (eqT y)
  | _, [], h => fun y hy => by cases h; cases hy
  | _, b :: bs, h => fun y hy => by
    cases h with
    | cons h1 h2 =>
      rcases List.mem_cons.mp hy with e | e
      · rw [e]
        cases h1
        have := SeqAt.EqAt.bool_bool (A := A) (s := s) b true
        cases b <;> exact this
      · exact eqT_at h2 y e
theorem eqT_count : ∀ {us : List Value} {bs : List Bool}, Vals (bs.map V.bl) us → us.countP eqT = bs.count true
  | _, [], h => by cases h; rfl
  | _, b :: bs, h => by
    cases h with
    | cons h1 h2 =>
      cases h1
      rw [List.countP_cons, List.count_cons, eqT_count h2]
      cases b <;> rfl
def rCntT (K : PySem.W.Frag) : V → List V → Hp → VK → Prop := fun x xs H Q => ∃ (p : Addr) (bs : List Bool), x = .ref p ∧ xs = [.bl true] ∧ SqL K H p (bs.map V.bl) ∧ Q (.int (bs.count true : Nat)) H
theorem mt_cntT {X : Cx} : MtR X "list.count" (rCntT X.K) := by
  intro pins s σ H x xs v us Q I rx rxs h
  obtain ⟨p, bs, rfl, rfl, hs, q⟩ := h
  cases rx
  obtain ⟨u, rfl, ru⟩ := rxs.one
  cases ru
  obtain ⟨its, rv, ⟨⟨cls, dd, data, sl⟩, n, ho, hc, hdn, hd⟩, hlen⟩ := I.list hs
  simp only at hc hd
  subst hc hd
  refine call_meets PySem.F.slot_list_count ⟨_, ho, rfl⟩ PySem.F.entry_list_count (PySem.F.args_list_count_2 _ _)
    (SeqAt.list_countAt p its.toArray n dd sl (.bool true) eqT) ⟨ho, fun y hy => eqT_at rv y (by simpa using hy), ?_⟩
  have ec : its.toArray.toList.countP eqT = bs.count true := eqT_count rv
  refine ⟨.int (bs.count true : Nat), H, I.tok _, ⟨s.toks, ?_⟩, q⟩
  show Value.int ((its.toArray.toList.countP eqT : Nat) : Int) s.toks = Value.int ((bs.count true : Nat) : Int) s.toks
  rw [ec]
def fCntT : FB := fun _ ds A => match ds with
  | [x, .bl true] => match seqL A x with
    | none => .bad
    | some xs => match toBls xs with
      | none => .bad
      | some bs => .ok (.int (bs.count true : Nat)) A
  | _ => .bad
theorem sf_cntT {T : Tb} : SF T (rM (rCntT T.K)) fCntT := by
  intro b ι A H ι1 A1 H1 vs ds fp Q E w hb n r f p
  unfold fCntT at p
  split at p
  · rename_i x
    obtain ⟨v, u, f1, f2, rfl, rfl, q1, q2⟩ := r.two_inv
    cases q2
    split at p
    · exact p.elim
    · rename_i xs ex
      obtain ⟨a, as, g1, rfl, h1, h2, h3⟩ := seqL_ok n.wd q1 ex
      split at p
      · exact p.elim
      · rename_i bs eb
        rw [toBls_ok h2 eb] at h1
        exact ⟨_, _, rfl, a, bs, rfl, rfl, h1, p ι1 H1 _ [] n (.int _) .nil⟩
  · exact p.elim
end Ab

set_option Elab.async false
set_option linter.all false
set_option maxRecDepth 100000
set_option maxHeartbeats 4000000
namespace G
open PySem PySem.Spec PyProof.Rows L2 Ab
def fldsOf : Nat → List Str
  | 2 => ["house"]
  | 3 => ["one", "other"]
  | 4 => ["one", "other"]
  | 5 => ["way"]
  | 6 => ["house", "first", "second", "third"]
  | _ => []
def ix_first : Nat → Option Nat
  | 6 => some 1
  | _ => none
theorem ixc_first {c i : Nat} {P : Nat → Nat → Prop} (h : ix_first c = some i) (h6 : P 6 1) : P c i := by
  unfold ix_first at h
  split at h
  · cases h; exact h6
  · cases h
theorem flt_first (c i : Nat) (h : ix_first c = some i) : (fldsOf c).length < 1000 := ixc_first (P := fun c _ => (fldsOf c).length < 1000) h (by decide)
theorem fst6_first : ∀ j : Nat, j < 1 → (fldsOf 6)[j]? ≠ some ("first" : Str) := by decide +kernel
def ix_house : Nat → Option Nat
  | 2 => some 0
  | 6 => some 0
  | _ => none
theorem ixc_house {c i : Nat} {P : Nat → Nat → Prop} (h : ix_house c = some i) (h2 : P 2 0) (h6 : P 6 0) : P c i := by
  unfold ix_house at h
  split at h
  · cases h; exact h2
  · cases h; exact h6
  · cases h
theorem flt_house (c i : Nat) (h : ix_house c = some i) : (fldsOf c).length < 1000 := ixc_house (P := fun c _ => (fldsOf c).length < 1000) h (by decide) (by decide)
theorem fst2_house : ∀ j : Nat, j < 0 → (fldsOf 2)[j]? ≠ some ("house" : Str) := by decide +kernel
theorem fst6_house : ∀ j : Nat, j < 0 → (fldsOf 6)[j]? ≠ some ("house" : Str) := by decide +kernel
def ix_one : Nat → Option Nat
  | 3 => some 0
  | 4 => some 0
  | _ => none
theorem ixc_one {c i : Nat} {P : Nat → Nat → Prop} (h : ix_one c = some i) (h3 : P 3 0) (h4 : P 4 0) : P c i := by
  unfold ix_one at h
  split at h
  · cases h; exact h3
  · cases h; exact h4
  · cases h
theorem flt_one (c i : Nat) (h : ix_one c = some i) : (fldsOf c).length < 1000 := ixc_one (P := fun c _ => (fldsOf c).length < 1000) h (by decide) (by decide)
theorem fst3_one : ∀ j : Nat, j < 0 → (fldsOf 3)[j]? ≠ some ("one" : Str) := by decide +kernel
theorem fst4_one : ∀ j : Nat, j < 0 → (fldsOf 4)[j]? ≠ some ("one" : Str) := by decide +kernel
def ix_other : Nat → Option Nat
  | 3 => some 1
  | 4 => some 1
  | _ => none
theorem ixc_other {c i : Nat} {P : Nat → Nat → Prop} (h : ix_other c = some i) (h3 : P 3 1) (h4 : P 4 1) : P c i := by
  unfold ix_other at h
  split at h
  · cases h; exact h3
  · cases h; exact h4
  · cases h
theorem flt_other (c i : Nat) (h : ix_other c = some i) : (fldsOf c).length < 1000 := ixc_other (P := fun c _ => (fldsOf c).length < 1000) h (by decide) (by decide)
theorem fst3_other : ∀ j : Nat, j < 1 → (fldsOf 3)[j]? ≠ some ("other" : Str) := by decide +kernel
theorem fst4_other : ∀ j : Nat, j < 1 → (fldsOf 4)[j]? ≠ some ("other" : Str) := by decide +kernel
def ix_second : Nat → Option Nat
  | 6 => some 2
  | _ => none
theorem ixc_second {c i : Nat} {P : Nat → Nat → Prop} (h : ix_second c = some i) (h6 : P 6 2) : P c i := by
  unfold ix_second at h
  split at h
  · cases h; exact h6
  · cases h
theorem flt_second (c i : Nat) (h : ix_second c = some i) : (fldsOf c).length < 1000 := ixc_second (P := fun c _ => (fldsOf c).length < 1000) h (by decide)
theorem fst6_second : ∀ j : Nat, j < 2 → (fldsOf 6)[j]? ≠ some ("second" : Str) := by decide +kernel
def ix_third : Nat → Option Nat
  | 6 => some 3
  | _ => none
theorem ixc_third {c i : Nat} {P : Nat → Nat → Prop} (h : ix_third c = some i) (h6 : P 6 3) : P c i := by
  unfold ix_third at h
  split at h
  · cases h; exact h6
  · cases h
theorem flt_third (c i : Nat) (h : ix_third c = some i) : (fldsOf c).length < 1000 := ixc_third (P := fun c _ => (fldsOf c).length < 1000) h (by decide)
theorem fst6_third : ∀ j : Nat, j < 3 → (fldsOf 6)[j]? ≠ some ("third" : Str) := by decide +kernel
def ix_way : Nat → Option Nat
  | 5 => some 0
  | _ => none
theorem ixc_way {c i : Nat} {P : Nat → Nat → Prop} (h : ix_way c = some i) (h5 : P 5 0) : P c i := by
  unfold ix_way at h
  split at h
  · cases h; exact h5
  · cases h
theorem flt_way (c i : Nat) (h : ix_way c = some i) : (fldsOf c).length < 1000 := ixc_way (P := fun c _ => (fldsOf c).length < 1000) h (by decide)
theorem fst5_way : ∀ j : Nat, j < 0 → (fldsOf 5)[j]? ≠ some ("way" : Str) := by decide +kernel
def is_Answer : Nat → Option Bool
  | 1 => some true
  | 2 => some true
  | 3 => some true
  | 4 => some true
  | 5 => some true
  | 6 => some true
  | _ => none
def is_Good : Nat → Option Bool
  | 1 => some true
  | 2 => some false
  | 3 => some false
  | 4 => some false
  | 5 => some false
  | 6 => some false
  | _ => none
def is_Beyond : Nat → Option Bool
  | 1 => some false
  | 2 => some true
  | 3 => some false
  | 4 => some false
  | 5 => some false
  | 6 => some false
  | _ => none
def is_Alike : Nat → Option Bool
  | 1 => some false
  | 2 => some false
  | 3 => some true
  | 4 => some false
  | 5 => some false
  | 6 => some false
  | _ => none
def is_Same : Nat → Option Bool
  | 1 => some false
  | 2 => some false
  | 3 => some false
  | 4 => some true
  | 5 => some false
  | 6 => some false
  | _ => none
def is_Street : Nat → Option Bool
  | 1 => some false
  | 2 => some false
  | 3 => some false
  | 4 => some false
  | 5 => some true
  | 6 => some false
  | _ => none
def is_Spread : Nat → Option Bool
  | 1 => some false
  | 2 => some false
  | 3 => some false
  | 4 => some false
  | 5 => some false
  | 6 => some true
  | _ => none
def mt_shows2 (R : Nat → Fn) : Nat → Option Fn
  | 5 => some (R 20)
  | 6 => some (R 22)
  | _ => none
theorem mtc_shows2 {R : Nat → Fn} {c : Nat} {f : Fn} {P : Nat → Fn → Prop} (h : mt_shows2 R c = some f) (h5 : P 5 (R 20)) (h6 : P 6 (R 22)) : P c f := by
  unfold mt_shows2 at h
  split at h
  · cases h; exact h5
  · cases h; exact h6
  · cases h
def mt_shows3 (R : Nat → Fn) : Nat → Option Fn
  | 1 => some (R 12)
  | 2 => some (R 14)
  | 3 => some (R 16)
  | 4 => some (R 18)
  | _ => none
theorem mtc_shows3 {R : Nat → Fn} {c : Nat} {f : Fn} {P : Nat → Fn → Prop} (h : mt_shows3 R c = some f) (h1 : P 1 (R 12)) (h2 : P 2 (R 14)) (h3 : P 3 (R 16)) (h4 : P 4 (R 18)) : P c f := by
  unfold mt_shows3 at h
  split at h
  · cases h; exact h1
  · cases h; exact h2
  · cases h; exact h3
  · cases h; exact h4
  · cases h
theorem nf1_shows : ∀ j : Nat, (fldsOf 1)[j]? ≠ some ("shows" : Str) := fun j h => absurd (List.mem_of_getElem? h) (by decide +kernel)
theorem nf2_shows : ∀ j : Nat, (fldsOf 2)[j]? ≠ some ("shows" : Str) := fun j h => absurd (List.mem_of_getElem? h) (by decide +kernel)
theorem nf3_shows : ∀ j : Nat, (fldsOf 3)[j]? ≠ some ("shows" : Str) := fun j h => absurd (List.mem_of_getElem? h) (by decide +kernel)
theorem nf4_shows : ∀ j : Nat, (fldsOf 4)[j]? ≠ some ("shows" : Str) := fun j h => absurd (List.mem_of_getElem? h) (by decide +kernel)
theorem nf5_shows : ∀ j : Nat, (fldsOf 5)[j]? ≠ some ("shows" : Str) := fun j h => absurd (List.mem_of_getElem? h) (by decide +kernel)
theorem nf6_shows : ∀ j : Nat, (fldsOf 6)[j]? ≠ some ("shows" : Str) := fun j h => absurd (List.mem_of_getElem? h) (by decide +kernel)
def c_is_whole (R : Nat → Fn) : CS :=
  (cRet (cAndV (cF1 (fIsi .int) (cVar 0)) (cAndV (cNotV (cF1 (fIsi .bl) (cVar 0))) (cF2 fGe (cVar 0) (cVar 1)))))
def c_check_street_e0 (R : Nat → Fn) : CE :=
  (cCall (R 0) (cCons (cVar 1) (cCons (cC (.int 0)) cNil)))
def c_check_street (R : Nat → Fn) : CS :=
  (cIf (cOr (cNot (cTst (cF1 (fIsi .lst) (cVar 0)))) (cOr (cNot (cTst (cCh (fun i j => decide (i ≤ j)) (fun i j => decide (i ≤ j)) (cC (.int 1)) (cF fLen (cCons (cVar 0) cNil)) (cC (.int 60))))) (cNot (cTst (cF fAll (cCons (cLc (cIt (cVar 0)) (.nm 1) cYes (c_check_street_e0 R) [1]) cNil))))))
  (cRaise 1)
  cNx)
def c_many_of (R : Nat → Fn) : CS :=
  (cRet (cF2 fAdd (cF fLen (cCons (cVar 0) cNil)) (cF fSum (cCons (cVar 0) cNil))))
def c_ahead_of_b0 (R : Nat → Fn) : CS :=
  (cSeq (cAug 2 (fun i j => i + j) (cIfE (cTst (cF2 (fEqD false) (cF2 fMod (cVar 4) (cC (.int 2))) (cC (.int 0)))) (cC (.int 1)) (cVar 5)))
  (cAug 3 (fun i j => i + j) (cIfE (cTst (cF2 (fEqD false) (cF2 fMod (cVar 4) (cC (.int 2))) (cC (.int 0)))) (cVar 5) (cC (.int 1)))))
def c_ahead_of (R : Nat → Fn) : CS :=
  (cSeq (cPut (.tp [(.nm 2), (.nm 3)]) (cTup (cCons (cC (.int 0)) (cCons (cC (.int 0)) cNil))))
  (cSeq (cFor (cEn (cSl (cVar 0) none (some (cVar 1)))) (.tp [(.nm 4), (.nm 5)]) (c_ahead_of_b0 R))
  (cRet (cTup (cCons (cVar 2) (cCons (cVar 3) cNil))))))
def c_number_at (R : Nat → Fn) : CS :=
  (cSeq (cPut (.tp [(.nm 3), (.nm 4)]) (cCall (R 3) (cCons (cVar 0) (cCons (cVar 1) cNil))))
  (cSeq (cIf (cTst (cF2 (fEqD false) (cF2 (fEqD false) (cF2 fMod (cVar 1) (cC (.int 2))) (cC (.int 0))) (cF2 (fEqD false) (cVar 2) (cC (.int 0)))))
  (cRet (cF2 fAdd (cVar 3) (cF fMax (cCons (cC (.int 0)) (cCons (cF2 fSub (cVar 2) (cC (.int 1))) cNil)))))
  cNx)
  (cRet (cF2 fSub (cF2 fSub (cF2 fSub (cCall (R 2) (cCons (cVar 0) cNil)) (cC (.int 1))) (cVar 4)) (cF fMax (cCons (cC (.int 0)) (cCons (cF2 fSub (cVar 2) (cC (.int 1))) cNil)))))))
def c_houses_of (R : Nat → Fn) : CS :=
  (cSeq (cDrop (cCall (R 1) (cCons (cVar 0) cNil)))
  (cRet (cCall (R 2) (cCons (cVar 0) cNil))))
def c_number_of_e0 (R : Nat → Fn) : CE :=
  (cCall (R 0) (cCons (cVar 2) (cCons (cC (.int 0)) cNil)))
def c_number_of (R : Nat → Fn) : CS :=
  (cSeq (cDrop (cCall (R 1) (cCons (cVar 0) cNil)))
  (cSeq (cIf (cOr (cNot (cTst (cF1 (fIsi .tup) (cVar 1)))) (cOr (cTst (cF2 (fEqD true) (cF fLen (cCons (cVar 1) cNil)) (cC (.int 2)))) (cNot (cTst (cF fAll (cCons (cLc (cIt (cVar 1)) (.nm 2) cYes (c_number_of_e0 R) [2]) cNil))))))
  (cRaise 2)
  cNx)
  (cSeq (cIf (cOr (cTst (cF2 fGe (cF2 fIx (cVar 1) (cC (.int 0))) (cF fLen (cCons (cVar 0) cNil)))) (cTst (cF2 fGt (cF2 fIx (cVar 1) (cC (.int 1))) (cF2 fIx (cVar 0) (cF2 fIx (cVar 1) (cC (.int 0)))))))
  (cRaise 2)
  cNx)
  (cRet (cCall (R 4) (cCons (cVar 0) (cCons (cF2 fIx (cVar 1) (cC (.int 0))) (cCons (cF2 fIx (cVar 1) (cC (.int 1))) cNil))))))))
def c_house_of_b0 (R : Nat → Fn) : CS :=
  (cSeq (cPut (.nm 8) (cIfE (cTst (cF2 (fEqD false) (cF2 fMod (cVar 6) (cC (.int 2))) (cVar 4))) (cC (.int 1)) (cVar 7)))
  (cSeq (cIf (cTst (cF2 fLt (cVar 5) (cVar 8)))
  (cRet (cTup (cCons (cVar 6) (cCons (cIfE (cTst (cF2 (fEqD false) (cF2 fMod (cVar 6) (cC (.int 2))) (cVar 4))) (cC (.int 0)) (cF2 fAdd (cVar 5) (cC (.int 1)))) cNil))))
  cNx)
  (cAug 5 (fun i j => i - j) (cVar 8))))
def c_house_of (R : Nat → Fn) : CS :=
  (cSeq (cDrop (cCall (R 1) (cCons (cVar 0) cNil)))
  (cSeq (cPut (.nm 2) (cCall (R 2) (cCons (cVar 0) cNil)))
  (cSeq (cIf (cOr (cNot (cTst (cCall (R 0) (cCons (cVar 1) (cCons (cC (.int 0)) cNil))))) (cTst (cF2 fGe (cVar 1) (cVar 2))))
  (cRaise 3)
  cNx)
  (cSeq (cPut (.nm 3) (cF2 fIx (cCall (R 3) (cCons (cVar 0) (cCons (cF fLen (cCons (cVar 0) cNil)) cNil))) (cC (.int 0))))
  (cSeq (cPut (.nm 4) (cIfE (cTst (cF2 fLt (cVar 1) (cVar 3))) (cC (.int 0)) (cC (.int 1))))
  (cSeq (cPut (.nm 5) (cIfE (cTst (cF2 (fEqD false) (cVar 4) (cC (.int 0)))) (cVar 1) (cF2 fSub (cF2 fSub (cVar 2) (cC (.int 1))) (cVar 1))))
  (cSeq (cFor (cEn (cVar 0)) (.tp [(.nm 6), (.nm 7)]) (c_house_of_b0 R))
  (cRet (cC .non)))))))))
def c_road_of_b0 (R : Nat → Fn) : CS :=
  (cSeq (cIf (cTst (cF2 fLt (cVar 3) (cVar 5)))
  (cRet (cTup (cCons (cTup (cCons (cVar 4) (cCons (cC (.int 0)) cNil))) (cCons (cTup (cCons (cVar 4) (cCons (cF2 fAdd (cVar 3) (cC (.int 1))) cNil))) cNil))))
  cNx)
  (cSeq (cIf (cTst (cF2 (fEqD false) (cVar 3) (cVar 5)))
  (cRet (cTup (cCons (cTup (cCons (cVar 4) (cCons (cC (.int 0)) cNil))) (cCons (cTup (cCons (cF2 fAdd (cVar 4) (cC (.int 1))) (cCons (cC (.int 0)) cNil))) cNil))))
  cNx)
  (cAug 3 (fun i j => i - j) (cF2 fAdd (cVar 5) (cC (.int 1))))))
def c_road_of (R : Nat → Fn) : CS :=
  (cSeq (cDrop (cCall (R 1) (cCons (cVar 0) cNil)))
  (cSeq (cPut (.nm 2) (cCall (R 2) (cCons (cVar 0) cNil)))
  (cSeq (cIf (cOr (cNot (cTst (cCall (R 0) (cCons (cVar 1) (cCons (cC (.int 1)) cNil))))) (cTst (cF2 fGe (cVar 1) (cVar 2))))
  (cRaise 3)
  cNx)
  (cSeq (cPut (.nm 3) (cF2 fSub (cF2 fSub (cVar 2) (cC (.int 1))) (cVar 1)))
  (cSeq (cFor (cEn (cVar 0)) (.tp [(.nm 4), (.nm 5)]) (c_road_of_b0 R))
  (cRet (cC .non)))))))
def c_gap_of (R : Nat → Fn) : CS :=
  (cRet (cF fAbs (cCons (cF2 fSub (cF2 fIx (cVar 0) (cF2 fIx (cVar 1) (cC (.int 0)))) (cF2 fIx (cVar 0) (cF2 fIx (cVar 1) (cC (.int 1))))) cNil)))
def c_is_below (R : Nat → Fn) : CS :=
  (cRet (cAndV (cCall (R 0) (cCons (cVar 0) (cCons (cC (.int 0)) cNil))) (cF2 fLt (cVar 0) (cVar 1))))
def c_are_joined (R : Nat → Fn) : CS :=
  (cRet (cOrV (cF2 (fIn false) (cTup (cCons (cVar 1) (cCons (cVar 2) cNil))) (cVar 0)) (cF2 (fIn false) (cTup (cCons (cVar 2) (cCons (cVar 1) cNil))) (cVar 0))))
def c_Good_shows_e0 (R : Nat → Fn) : CE :=
  (cCall (R 9) (cCons (cVar 3) (cCons (cVar 4) cNil)))
def c_Good_shows (R : Nat → Fn) : CS :=
  (cSeq (cIf (cTst (cF2 (fEqD true) (cF fSorted (cCons (cVar 3) cNil)) (cRgL1 (cVar 1))))
  (cRet (cC (.bl false)))
  cNx)
  (cRet (cF2 (fEqD false) (cF fSorted (cCons (cLc (cIt (cVar 2)) (.nm 4) cYes (c_Good_shows_e0 R) [4]) cNil)) (cF2 fRgL (cC (.int 1)) (cVar 1)))))
def c_Beyond___init__ (R : Nat → Fn) : CS :=
  (cSetF ix_house (cVar 0) (cVar 1))
def c_Beyond_shows (R : Nat → Fn) : CS :=
  (cRet (cAndV (cCall (R 10) (cCons (cFld ix_house (cVar 0)) (cCons (cVar 1) cNil))) (cNotV (cCh (fun i j => decide (i ≤ j)) (fun i j => decide (i < j)) (cC (.int 0)) (cF2 fIx (cVar 3) (cFld ix_house (cVar 0))) (cVar 1)))))
def c_Alike___init__ (R : Nat → Fn) : CS :=
  (cSeq (cSetF ix_one (cVar 0) (cVar 1))
  (cSetF ix_other (cVar 0) (cVar 2)))
def c_Alike_shows (R : Nat → Fn) : CS :=
  (cSeq (cIf (cOr (cNot (cTst (cCall (R 10) (cCons (cFld ix_one (cVar 0)) (cCons (cVar 1) cNil))))) (cOr (cNot (cTst (cCall (R 10) (cCons (cFld ix_other (cVar 0)) (cCons (cVar 1) cNil))))) (cTst (cF2 fGe (cFld ix_one (cVar 0)) (cFld ix_other (cVar 0))))))
  (cRet (cC (.bl false)))
  cNx)
  (cRet (cF2 (fEqD false) (cF2 fIx (cVar 3) (cFld ix_one (cVar 0))) (cF2 fIx (cVar 3) (cFld ix_other (cVar 0))))))
def c_Same___init__ (R : Nat → Fn) : CS :=
  (cSeq (cSetF ix_one (cVar 0) (cVar 1))
  (cSetF ix_other (cVar 0) (cVar 2)))
def c_Same_shows (R : Nat → Fn) : CS :=
  (cSeq (cIf (cOr (cNot (cTst (cCall (R 10) (cCons (cFld ix_one (cVar 0)) (cCons (cF fLen (cCons (cVar 2) cNil)) cNil))))) (cOr (cNot (cTst (cCall (R 10) (cCons (cFld ix_other (cVar 0)) (cCons (cF fLen (cCons (cVar 2) cNil)) cNil))))) (cTst (cF2 fGe (cFld ix_one (cVar 0)) (cFld ix_other (cVar 0))))))
  (cRet (cC (.bl false)))
  cNx)
  (cRet (cF2 (fEqD false) (cCall (R 9) (cCons (cVar 3) (cCons (cF2 fIx (cVar 2) (cFld ix_one (cVar 0))) cNil))) (cCall (R 9) (cCons (cVar 3) (cCons (cF2 fIx (cVar 2) (cFld ix_other (cVar 0))) cNil))))))
def c_Street___init__ (R : Nat → Fn) : CS :=
  (cSetF ix_way (cVar 0) (cF fList (cCons (cVar 1) cNil)))
def c_Street_shows_e0 (R : Nat → Fn) : CE :=
  (cCall (R 10) (cCons (cVar 4) (cCons (cVar 1) cNil)))
def c_Street_shows_e1 (R : Nat → Fn) : CE :=
  (cCall (R 11) (cCons (cVar 2) (cCons (cVar 5) (cCons (cVar 6) cNil))))
def c_Street_shows_e2 (R : Nat → Fn) : CE :=
  (cCall (R 11) (cCons (cVar 2) (cCons (cVar 4) (cCons (cVar 6) cNil))))
def c_Street_shows_b3 (R : Nat → Fn) : CS :=
  (cIf (cAnd (cTst (cF2 (fIn true) (cVar 4) (cVar 3))) (cNot (cTst (cF fAny (cCons (cLc (cIt (cVar 3)) (.nm 6) cYes (c_Street_shows_e2 R) [6]) cNil)))))
  (cRet (cC (.bl false)))
  cNx)
def c_Street_shows (R : Nat → Fn) : CS :=
  (cSeq (cPut (.nm 3) (cFld ix_way (cVar 0)))
  (cSeq (cIf (cOr (cTst (cF2 (fEqD false) (cVar 3) (cLst cNil))) (cOr (cNot (cTst (cF fAll (cCons (cLc (cIt (cVar 3)) (.nm 4) cYes (c_Street_shows_e0 R) [4]) cNil)))) (cTst (cF2 fLt (cLenSet (cVar 3)) (cF fLen (cCons (cVar 3) cNil))))))
  (cRet (cC (.bl false)))
  cNx)
  (cSeq (cIf (cNot (cTst (cF fAll (cCons (cLc (cZip (cVar 3) (cSl (cVar 3) (some (cC (.int 1))) none)) (.tp [(.nm 5), (.nm 6)]) cYes (c_Street_shows_e1 R) [5, 6]) cNil))))
  (cRet (cC (.bl false)))
  cNx)
  (cSeq (cFor (cRg1 (cVar 1)) (.nm 4) (c_Street_shows_b3 R))
  (cRet (cC (.bl true)))))))
def c_Spread___init__ (R : Nat → Fn) : CS :=
  (cSeq (cSetF ix_house (cVar 0) (cVar 1))
  (cSeq (cSetF ix_first (cVar 0) (cVar 2))
  (cSeq (cSetF ix_second (cVar 0) (cVar 3))
  (cSetF ix_third (cVar 0) (cVar 4)))))
def c_Spread_shows_e0 (R : Nat → Fn) : CE :=
  (cCall (R 10) (cCons (cVar 4) (cCons (cVar 1) cNil)))
def c_Spread_shows_e1 (R : Nat → Fn) : CE :=
  (cCall (R 11) (cCons (cVar 2) (cCons (cFld ix_house (cVar 0)) (cCons (cVar 4) cNil))))
def c_Spread_shows_e2 (R : Nat → Fn) : CE :=
  (cVar 5)
def c_Spread_shows_t3 (R : Nat → Fn) : CT :=
  (cTst (cF2 (fIn false) (cVar 4) (cVar 5)))
def c_Spread_shows_e4 (R : Nat → Fn) : CE :=
  (cF2 fGt (cF fLen (cCons (cLc (cIt (cVar 2)) (.nm 5) (c_Spread_shows_t3 R) (c_Spread_shows_e2 R) [5]) cNil)) (cC (.int 1)))
def c_Spread_shows (R : Nat → Fn) : CS :=
  (cSeq (cPut (.nm 3) (cLst (cCons (cFld ix_first (cVar 0)) (cCons (cFld ix_second (cVar 0)) (cCons (cFld ix_third (cVar 0)) cNil)))))
  (cSeq (cIf (cOr (cNot (cTst (cF fAll (cCons (cLc (cIt (cF2 fAdd (cVar 3) (cLst (cCons (cFld ix_house (cVar 0)) cNil)))) (.nm 4) cYes (c_Spread_shows_e0 R) [4]) cNil)))) (cTst (cF2 fLt (cLenSet (cVar 3)) (cC (.int 3)))))
  (cRet (cC (.bl false)))
  cNx)
  (cSeq (cIf (cNot (cTst (cF fAll (cCons (cLc (cIt (cVar 3)) (.nm 4) cYes (c_Spread_shows_e1 R) [4]) cNil))))
  (cRet (cC (.bl false)))
  cNx)
  (cRet (cF fAll (cCons (cLc (cIt (cVar 3)) (.nm 4) cYes (c_Spread_shows_e4 R) [4]) cNil))))))
def c_near_of_e0 (R : Nat → Fn) : CE :=
  (cLst cNil)
def c_near_of_b1 (R : Nat → Fn) : CS :=
  (cSeq (cDrop (cM fAppend (cF2 fIx (cVar 2) (cVar 3)) (cCons (cVar 4) cNil)))
  (cDrop (cM fAppend (cF2 fIx (cVar 2) (cVar 4)) (cCons (cVar 3) cNil))))
def c_near_of_e2 (R : Nat → Fn) : CE :=
  (cF fSorted (cCons (cVar 6) cNil))
def c_near_of (R : Nat → Fn) : CS :=
  (cSeq (cPut (.nm 2) (cLc (cRg1 (cVar 0)) (.nm 5) cYes (c_near_of_e0 R) [5]))
  (cSeq (cFor (cIt (cVar 1)) (.tp [(.nm 3), (.nm 4)]) (c_near_of_b1 R))
  (cRet (cLc (cIt (cVar 2)) (.nm 6) cYes (c_near_of_e2 R) [6]))))
def c_is_road (R : Nat → Fn) : CS :=
  (cSeq (cIf (cOr (cNot (cTst (cF1 (fIsi .tup) (cVar 1)))) (cOr (cTst (cF2 (fEqD true) (cF fLen (cCons (cVar 1) cNil)) (cC (.int 2)))) (cOr (cNot (cTst (cCall (R 0) (cCons (cF2 fIx (cVar 1) (cC (.int 0))) (cCons (cC (.int 0)) cNil))))) (cNot (cTst (cCall (R 0) (cCons (cF2 fIx (cVar 1) (cC (.int 1))) (cCons (cC (.int 0)) cNil))))))))
  (cRet (cC (.bl false)))
  cNx)
  (cRet (cCh (fun i j => decide (i < j)) (fun i j => decide (i < j)) (cF2 fIx (cVar 1) (cC (.int 0))) (cF2 fIx (cVar 1) (cC (.int 1))) (cVar 0))))
def c_check_tree_e0 (R : Nat → Fn) : CE :=
  (cCall (R 24) (cCons (cVar 0) (cCons (cVar 6) cNil)))
def c_check_tree_b1 (R : Nat → Fn) : CS :=
  (cIf (cTst (cF2 (fDIn true) (cVar 5) (cVar 3)))
  (cSeq (cSetD (cVar 3) (cVar 5) (cC (.bl true)))
  (cDrop (cM fAppend (cVar 4) (cCons (cVar 5) cNil))))
  cNx)
def c_check_tree_b2 (R : Nat → Fn) : CS :=
  (cFor (cIt (cF2 fIx (cVar 2) (cM0 fPop (cVar 4)))) (.nm 5) (c_check_tree_b1 R))
def c_check_tree (R : Nat → Fn) : CS :=
  (cSeq (cIf (cOr (cNot (cTst (cCall (R 0) (cCons (cVar 0) (cCons (cC (.int 1)) cNil))))) (cTst (cF2 fGt (cVar 0) (cC (.int 20)))))
  (cRaise 4)
  cNx)
  (cSeq (cIf (cOr (cNot (cTst (cF1 (fIsi .lst) (cVar 1)))) (cOr (cTst (cF2 (fEqD true) (cF fLen (cCons (cVar 1) cNil)) (cF2 fSub (cVar 0) (cC (.int 1))))) (cNot (cTst (cF fAll (cCons (cLc (cIt (cVar 1)) (.nm 6) cYes (c_check_tree_e0 R) [6]) cNil))))))
  (cRaise 5)
  cNx)
  (cSeq (cPut (.nm 2) (cCall (R 23) (cCons (cVar 0) (cCons (cVar 1) cNil))))
  (cSeq (cPut (.nm 3) (cDct [(0, true)]))
  (cSeq (cPut (.nm 4) (cLst (cCons (cC (.int 0)) cNil)))
  (cSeq (cWhile 100 (cTst (cF2 (fEqD true) (cVar 4) (cLst cNil))) (c_check_tree_b2 R))
  (cIf (cTst (cF2 fLt (cF fLenD (cCons (cVar 3) cNil)) (cVar 0)))
  (cRaise 5)
  cNx)))))))
def c_way_through_e0 (R : Nat → Fn) : CE :=
  (cVar 5)
def c_way_through_t1 (R : Nat → Fn) : CT :=
  (cTst (cF2 fGt (cF fLen (cCons (cVar 6) cNil)) (cC (.int 1))))
def c_way_through_e2 (R : Nat → Fn) : CE :=
  (cVar 7)
def c_way_through_t3 (R : Nat → Fn) : CT :=
  (cTst (cF2 (fIn false) (cVar 7) (cVar 1)))
def c_way_through_e4 (R : Nat → Fn) : CE :=
  (cVar 5)
def c_way_through_t5 (R : Nat → Fn) : CT :=
  (cTst (cF2 fLt (cF fLen (cCons (cLc (cIt (cF2 fIx (cVar 0) (cVar 5))) (.nm 7) (c_way_through_t3 R) (c_way_through_e2 R) [7]) cNil)) (cC (.int 2))))
def c_way_through_e6 (R : Nat → Fn) : CE :=
  (cVar 7)
def c_way_through_t7 (R : Nat → Fn) : CT :=
  (cTst (cF2 (fIn false) (cVar 7) (cVar 1)))
def c_way_through_e8 (R : Nat → Fn) : CE :=
  (cVar 7)
def c_way_through_t9 (R : Nat → Fn) : CT :=
  (cAnd (cTst (cF2 (fIn false) (cVar 7) (cVar 1))) (cTst (cF2 (fIn true) (cVar 7) (cVar 3))))
def c_way_through_b10 (R : Nat → Fn) : CS :=
  (cSeq (cDrop (cM fAppend (cVar 3) (cCons (cF2 fIx (cVar 4) (cC (.int 0))) cNil)))
  (cPut (.nm 4) (cLc (cIt (cF2 fIx (cVar 0) (cF2 fIx (cVar 3) (cF1 fNeg (cC (.int 1)))))) (.nm 7) (c_way_through_t9 R) (c_way_through_e8 R) [7])))
def c_way_through (R : Nat → Fn) : CS :=
  (cSeq (cPut (.nm 1) (cLc (cEn (cVar 0)) (.tp [(.nm 5), (.nm 6)]) (c_way_through_t1 R) (c_way_through_e0 R) [5, 6]))
  (cSeq (cIf (cTst (cF2 (fEqD false) (cVar 1) (cLst cNil)))
  (cRet (cLst (cCons (cC (.int 0)) cNil)))
  cNx)
  (cSeq (cPut (.nm 2) (cLc (cIt (cVar 1)) (.nm 5) (c_way_through_t5 R) (c_way_through_e4 R) [5]))
  (cSeq (cPut (.nm 3) (cLst (cCons (cF2 fIx (cVar 2) (cC (.int 0))) cNil)))
  (cSeq (cPut (.nm 4) (cLc (cIt (cF2 fIx (cVar 0) (cF2 fIx (cVar 2) (cC (.int 0))))) (.nm 7) (c_way_through_t7 R) (c_way_through_e6 R) [7]))
  (cSeq (cWhile 100 (cTst (cF2 (fEqD true) (cVar 4) (cLst cNil))) (c_way_through_b10 R))
  (cRet (cVar 3))))))))
def c_spread_in_e0 (R : Nat → Fn) : CE :=
  (cVar 4)
def c_spread_in_t1 (R : Nat → Fn) : CT :=
  (cTst (cF2 fGt (cF fLen (cCons (cF2 fIx (cVar 0) (cVar 4)) cNil)) (cC (.int 1))))
def c_spread_in_b2 (R : Nat → Fn) : CS :=
  (cSeq (cPut (.nm 3) (cLc (cIt (cVar 2)) (.nm 4) (c_spread_in_t1 R) (c_spread_in_e0 R) [4]))
  (cIf (cTst (cF2 fGt (cF fLen (cCons (cVar 3) cNil)) (cC (.int 2))))
  (cRet (cTup (cCons (cVar 1) (cCons (cF2 fIx (cVar 3) (cC (.int 0))) (cCons (cF2 fIx (cVar 3) (cC (.int 1))) (cCons (cF2 fIx (cVar 3) (cC (.int 2))) cNil))))))
  cNx))
def c_spread_in (R : Nat → Fn) : CS :=
  (cSeq (cFor (cEn (cVar 0)) (.tp [(.nm 1), (.nm 2)]) (c_spread_in_b2 R))
  (cRet (cTup cNil)))
def c_street_in (R : Nat → Fn) : CS :=
  (cSeq (cDrop (cCall (R 25) (cCons (cVar 0) (cCons (cVar 1) cNil))))
  (cSeq (cPut (.nm 2) (cCall (R 23) (cCons (cVar 0) (cCons (cVar 1) cNil))))
  (cSeq (cPut (.nm 3) (cCall (R 27) (cCons (cVar 2) cNil)))
  (cSeq (cIf (cTst (cF2 (fEqD true) (cVar 3) (cTup cNil)))
  (cRet (cMake 6 (R 21) (cCons (cF2 fIx (cVar 3) (cC (.int 0))) (cCons (cF2 fIx (cVar 3) (cC (.int 1))) (cCons (cF2 fIx (cVar 3) (cC (.int 2))) (cCons (cF2 fIx (cVar 3) (cC (.int 3))) cNil))))))
  cNx)
  (cRet (cMake 5 (R 19) (cCons (cCall (R 26) (cCons (cVar 2) cNil)) cNil)))))))
def c_numbered_e0 (R : Nat → Fn) : CE :=
  (cVar 10)
def c_numbered_t1 (R : Nat → Fn) : CT :=
  (cTst (cF2 (fIn true) (cVar 10) (cVar 3)))
def c_numbered_e2 (R : Nat → Fn) : CE :=
  (cLc (cIt (cF2 fIx (cVar 2) (cVar 8))) (.nm 10) (c_numbered_t1 R) (c_numbered_e0 R) [10])
def c_numbered_e3 (R : Nat → Fn) : CE :=
  (cF fLen (cCons (cVar 11) cNil))
def c_numbered_b4 (R : Nat → Fn) : CS :=
  (cSetI (cVar 6) (cVar 10) (cCall (R 4) (cCons (cVar 5) (cCons (cVar 7) (cCons (cF2 fAdd (cVar 9) (cC (.int 1))) cNil)))))
def c_numbered_b5 (R : Nat → Fn) : CS :=
  (cSeq (cSetI (cVar 6) (cVar 8) (cCall (R 4) (cCons (cVar 5) (cCons (cVar 7) (cCons (cC (.int 0)) cNil)))))
  (cFor (cEn (cF2 fIx (cVar 4) (cVar 7))) (.tp [(.nm 9), (.nm 10)]) (c_numbered_b4 R)))
def c_numbered (R : Nat → Fn) : CS :=
  (cSeq (cDrop (cCall (R 25) (cCons (cVar 0) (cCons (cVar 1) cNil))))
  (cSeq (cPut (.nm 2) (cCall (R 23) (cCons (cVar 0) (cCons (cVar 1) cNil))))
  (cSeq (cIf (cTst (cF2 (fEqD true) (cCall (R 27) (cCons (cVar 2) cNil)) (cTup cNil)))
  (cRaise 7)
  cNx)
  (cSeq (cPut (.nm 3) (cCall (R 26) (cCons (cVar 2) cNil)))
  (cSeq (cPut (.nm 4) (cLc (cIt (cVar 3)) (.nm 8) cYes (c_numbered_e2 R) [8]))
  (cSeq (cPut (.nm 5) (cLc (cIt (cVar 4)) (.nm 11) cYes (c_numbered_e3 R) [11]))
  (cSeq (cPut (.nm 6) (cF2 fMul (cLst (cCons (cC (.int 0)) cNil)) (cVar 0)))
  (cSeq (cFor (cEn (cVar 3)) (.tp [(.nm 7), (.nm 8)]) (c_numbered_b5 R))
  (cRet (cVar 6))))))))))
def c_is_number (R : Nat → Fn) : CS :=
  (cRet (cAndV (cF1 (fIsi .int) (cVar 0)) (cNotV (cF1 (fIsi .bl) (cVar 0)))))
def c_first_twice_b0 (R : Nat → Fn) : CS :=
  (cIf (cTst (cF2 (fIn false) (cVar 2) (cSl (cVar 0) none (some (cVar 1)))))
  (cRet (cTup (cCons (cM fIndex (cVar 0) (cCons (cVar 2) cNil)) (cCons (cVar 1) cNil))))
  cNx)
def c_first_twice (R : Nat → Fn) : CS :=
  (cSeq (cFor (cEn (cVar 0)) (.tp [(.nm 1), (.nm 2)]) (c_first_twice_b0 R))
  (cRet (cTup cNil)))
def c_judged_e0 (R : Nat → Fn) : CE :=
  (cCall (R 30) (cCons (cVar 6) cNil))
def c_judged_b1 (R : Nat → Fn) : CS :=
  (cIf (cNot (cTst (cCh (fun i j => decide (i ≤ j)) (fun i j => decide (i < j)) (cC (.int 0)) (cVar 4) (cVar 0))))
  (cRet (cMake 2 (R 13) (cCons (cVar 3) cNil)))
  cNx)
def c_judged_e2 (R : Nat → Fn) : CE :=
  (cCall (R 9) (cCons (cVar 2) (cCons (cVar 7) cNil)))
def c_judged (R : Nat → Fn) : CS :=
  (cSeq (cDrop (cCall (R 25) (cCons (cVar 0) (cCons (cVar 1) cNil))))
  (cSeq (cIf (cOr (cNot (cTst (cF1 (fIsi .lst) (cVar 2)))) (cOr (cTst (cF2 (fEqD true) (cF fLen (cCons (cVar 2) cNil)) (cVar 0))) (cNot (cTst (cF fAll (cCons (cLc (cIt (cVar 2)) (.nm 6) cYes (c_judged_e0 R) [6]) cNil))))))
  (cRaise 6)
  cNx)
  (cSeq (cFor (cEn (cVar 2)) (.tp [(.nm 3), (.nm 4)]) (c_judged_b1 R))
  (cSeq (cPut (.nm 5) (cCall (R 31) (cCons (cVar 2) cNil)))
  (cSeq (cIf (cTst (cF2 (fEqD true) (cVar 5) (cTup cNil)))
  (cRet (cMake 3 (R 15) (cCons (cF2 fIx (cVar 5) (cC (.int 0))) (cCons (cF2 fIx (cVar 5) (cC (.int 1))) cNil))))
  cNx)
  (cSeq (cPut (.nm 5) (cCall (R 31) (cCons (cLc (cIt (cVar 1)) (.nm 7) cYes (c_judged_e2 R) [7]) cNil)))
  (cRet (cIfE (cTst (cF2 (fEqD false) (cVar 5) (cTup cNil))) (cNew 1) (cMake 4 (R 17) (cCons (cF2 fIx (cVar 5) (cC (.int 0))) (cCons (cF2 fIx (cVar 5) (cC (.int 1))) cNil)))))))))))
def c_upended_e0 (R : Nat → Fn) : CE :=
  (cCall (R 0) (cCons (cVar 1) (cCons (cC (.int 0)) cNil)))
def c_upended_e1 (R : Nat → Fn) : CE :=
  (cF2 fSub (cF2 fSub (cF fLen (cCons (cVar 0) cNil)) (cC (.int 1))) (cVar 1))
def c_upended (R : Nat → Fn) : CS :=
  (cSeq (cIf (cOr (cNot (cTst (cF1 (fIsi .lst) (cVar 0)))) (cNot (cTst (cF fAll (cCons (cLc (cIt (cVar 0)) (.nm 1) cYes (c_upended_e0 R) [1]) cNil)))))
  (cRaise 6)
  cNx)
  (cSeq (cIf (cOr (cTst (cF2 (fEqD false) (cVar 0) (cLst cNil))) (cTst (cF2 (fEqD true) (cF fSorted (cCons (cVar 0) cNil)) (cRgL1 (cF fLen (cCons (cVar 0) cNil))))))
  (cRaise 6)
  cNx)
  (cRet (cLc (cIt (cVar 0)) (.nm 1) cYes (c_upended_e1 R) [1]))))
def c__law_number (R : Nat → Fn) : CS :=
  (cSeq (cIf (cTst (cF2 fGe (cVar 0) (cF2 fPow (cC (.int 10)) (cC (.int 18)))))
  (cRet (cVar 0))
  cNx)
  (cSeq (cPut (.nm 3) (cF2 fMod (cF2 fAdd (cF2 fMul (cF2 fAdd (cVar 0) (cF2 fMul (cC (.int 977)) (cVar 1))) (cC (.int 48271))) (cVar 2)) (cC (.int 2147483647))))
  (cSeq (cPut (.nm 4) (cF2 fMul (cF2 fMul (cVar 3) (cF2 fAdd (cF2 fAdd (cVar 3) (cF2 fMul (cC (.int 31)) (cVar 1))) (cC (.int 7)))) (cF2 fAdd (cF2 fAdd (cVar 3) (cVar 0)) (cC (.int 5)))))
  (cRet (cF2 fDiv (cF2 fMul (cVar 4) (cF2 fAdd (cVar 4) (cC (.int 48271)))) (cC (.int 1009)))))))
def c__law_whole (R : Nat → Fn) : CS :=
  (cRet (cAndV (cF1 (fIsi .int) (cVar 0)) (cNotV (cF1 (fIsi .bl) (cVar 0)))))
def c__law_street_e0 (R : Nat → Fn) : CE :=
  (cF2 fMod (cF2 fDiv (cCall (R 34) (cCons (cF2 fIx (cVar 2) (cF2 fMod (cF2 fAdd (cVar 6) (cVar 1)) (cF fLen (cCons (cVar 2) cNil)))) (cCons (cF2 fAdd (cVar 6) (cVar 1)) (cCons (cVar 3) cNil)))) (cC (.int 3))) (cVar 5))
def c__law_street (R : Nat → Fn) : CS :=
  (cSeq (cPut (.nm 2) (cIfE (cTst (cF2 (fEqD true) (cVar 0) (cLst cNil))) (cSl (cVar 0) none (some (cC (.int 63)))) (cLst (cCons (cC (.int 3)) cNil))))
  (cSeq (cPut (.nm 3) (cF2 fAdd (cF fSum (cCons (cVar 2) cNil)) (cVar 1)))
  (cSeq (cPut (.nm 4) (cF2 fIx (cTup (cCons (cF2 fAdd (cC (.int 1)) (cF2 fMod (cVar 3) (cC (.int 6)))) (cCons (cF2 fAdd (cC (.int 1)) (cF2 fMod (cF2 fDiv (cVar 3) (cC (.int 12))) (cC (.int 60)))) cNil))) (cF2 fMod (cF2 fDiv (cVar 3) (cC (.int 6))) (cC (.int 2)))))
  (cSeq (cPut (.nm 5) (cF2 fIx (cTup (cCons (cC (.int 3)) (cCons (cC (.int 6)) (cCons (cF2 fPow (cC (.int 10)) (cC (.int 6))) (cCons (cF2 fPow (cC (.int 10)) (cC (.int 40))) cNil))))) (cF2 fMod (cF2 fDiv (cVar 3) (cC (.int 720))) (cC (.int 4)))))
  (cRet (cLc (cRg1 (cVar 4)) (.nm 6) cYes (c__law_street_e0 R) [6]))))))
def c__law_some_house (R : Nat → Fn) : CS :=
  (cSeq (cPut (.nm 2) (cF2 fMod (cVar 1) (cF fLen (cCons (cVar 0) cNil))))
  (cRet (cTup (cCons (cVar 2) (cCons (cF2 fMod (cF2 fDiv (cVar 1) (cC (.int 61))) (cF2 fAdd (cF2 fIx (cVar 0) (cVar 2)) (cC (.int 1)))) cNil)))))
def c__law_is_house (R : Nat → Fn) : CS :=
  (cSeq (cIf (cOr (cNot (cTst (cF1 (fIsi .tup) (cVar 1)))) (cOr (cTst (cF2 (fEqD true) (cF fLen (cCons (cVar 1) cNil)) (cC (.int 2)))) (cOr (cNot (cTst (cCall (R 35) (cCons (cF2 fIx (cVar 1) (cC (.int 0))) cNil)))) (cNot (cTst (cCall (R 35) (cCons (cF2 fIx (cVar 1) (cC (.int 1))) cNil)))))))
  (cRet (cC (.bl false)))
  cNx)
  (cRet (cAndV (cCh (fun i j => decide (i ≤ j)) (fun i j => decide (i < j)) (cC (.int 0)) (cF2 fIx (cVar 1) (cC (.int 0))) (cF fLen (cCons (cVar 0) cNil))) (cCh (fun i j => decide (i ≤ j)) (fun i j => decide (i ≤ j)) (cC (.int 0)) (cF2 fIx (cVar 1) (cC (.int 1))) (cF2 fIx (cVar 0) (cF2 fIx (cVar 1) (cC (.int 0))))))))
def c__law_every_e0 (R : Nat → Fn) : CE :=
  (cTup (cCons (cVar 2) (cCons (cVar 4) cNil)))
def c__law_every_b1 (R : Nat → Fn) : CS :=
  (cPut (.nm 1) (cF2 fAdd (cVar 1) (cLc (cRg1 (cF2 fAdd (cVar 3) (cC (.int 1)))) (.nm 4) cYes (c__law_every_e0 R) [4])))
def c__law_every (R : Nat → Fn) : CS :=
  (cSeq (cPut (.nm 1) (cLst cNil))
  (cSeq (cFor (cEn (cVar 0)) (.tp [(.nm 2), (.nm 3)]) (c__law_every_b1 R))
  (cRet (cVar 1))))
def c__law_tree_b0 (R : Nat → Fn) : CS :=
  (cSeq (cPut (.nm 9) (cF2 fDiv (cCall (R 34) (cCons (cF2 fIx (cVar 2) (cF2 fMod (cF2 fAdd (cVar 8) (cVar 1)) (cF fLen (cCons (cVar 2) cNil)))) (cCons (cF2 fAdd (cVar 8) (cVar 1)) (cCons (cVar 3) cNil)))) (cC (.int 3))))
  (cSeq (cDrop (cM fInsert (cVar 6) (cCons (cF2 fMod (cVar 9) (cF2 fAdd (cVar 8) (cC (.int 1)))) (cCons (cVar 8) cNil))))
  (cIf (cTst (cF2 fGt (cVar 8) (cC (.int 0))))
  (cSeq (cPut (.nm 10) (cF2 fIx (cTup (cCons (cF2 fSub (cVar 8) (cC (.int 1))) (cCons (cC (.int 0)) (cCons (cF2 fSub (cVar 8) (cF2 fMod (cVar 8) (cC (.int 3)))) (cCons (cF fMax (cCons (cC (.int 0)) (cCons (cF2 fSub (cVar 8) (cC (.int 3))) cNil))) (cCons (cF2 fMod (cF2 fDiv (cVar 9) (cC (.int 21))) (cVar 8)) cNil)))))) (cVar 5)))
  (cSeq (cIf (cTst (cF2 (fEqD false) (cVar 5) (cC (.int 2))))
  (cPut (.nm 10) (cIfE (cTst (cF2 (fEqD false) (cF2 fMod (cVar 8) (cC (.int 3))) (cC (.int 0)))) (cF2 fSub (cVar 8) (cC (.int 3))) (cF2 fSub (cVar 8) (cF2 fMod (cVar 8) (cC (.int 3))))))
  cNx)
  (cDrop (cM fAppend (cVar 7) (cCons (cTup (cCons (cVar 10) (cCons (cVar 8) cNil))) cNil)))))
  cNx)))
def c__law_tree_e1 (R : Nat → Fn) : CE :=
  (cTup (cCons (cF fMin (cCons (cF2 fIx (cVar 6) (cVar 12)) (cCons (cF2 fIx (cVar 6) (cVar 13)) cNil))) (cCons (cF fMax (cCons (cF2 fIx (cVar 6) (cVar 12)) (cCons (cF2 fIx (cVar 6) (cVar 13)) cNil))) cNil)))
def c__law_tree (R : Nat → Fn) : CS :=
  (cSeq (cPut (.nm 2) (cIfE (cTst (cF2 (fEqD true) (cVar 0) (cLst cNil))) (cSl (cVar 0) none (some (cC (.int 63)))) (cLst (cCons (cC (.int 5)) cNil))))
  (cSeq (cPut (.nm 3) (cF2 fAdd (cF fSum (cCons (cVar 2) cNil)) (cVar 1)))
  (cSeq (cPut (.nm 4) (cF2 fIx (cTup (cCons (cF2 fAdd (cC (.int 1)) (cF2 fMod (cVar 3) (cC (.int 7)))) (cCons (cF2 fAdd (cC (.int 1)) (cF2 fMod (cVar 3) (cC (.int 13)))) (cCons (cC (.int 20)) cNil)))) (cF2 fMod (cF2 fDiv (cVar 3) (cC (.int 5))) (cC (.int 3)))))
  (cSeq (cPut (.nm 5) (cF2 fMod (cF2 fDiv (cVar 3) (cC (.int 15))) (cC (.int 5))))
  (cSeq (cPut (.tp [(.nm 6), (.nm 7)]) (cTup (cCons (cLst cNil) (cCons (cLst cNil) cNil))))
  (cSeq (cFor (cRg1 (cVar 4)) (.nm 8) (c__law_tree_b0 R))
  (cSeq (cPut (.nm 11) (cLc (cIt (cVar 7)) (.tp [(.nm 12), (.nm 13)]) cYes (c__law_tree_e1 R) [12, 13]))
  (cRet (cTup (cCons (cVar 4) (cCons (cF2 fAdd (cSl (cVar 11) (some (cF2 fMod (cVar 3) (cVar 4))) none) (cSl (cVar 11) none (some (cF2 fMod (cVar 3) (cVar 4))))) cNil)))))))))))
def c__law_near_e0 (R : Nat → Fn) : CE :=
  (cLst cNil)
def c__law_near_b1 (R : Nat → Fn) : CS :=
  (cSeq (cDrop (cM fAppend (cF2 fIx (cVar 2) (cVar 3)) (cCons (cVar 4) cNil)))
  (cDrop (cM fAppend (cF2 fIx (cVar 2) (cVar 4)) (cCons (cVar 3) cNil))))
def c__law_near (R : Nat → Fn) : CS :=
  (cSeq (cPut (.nm 2) (cLc (cRg1 (cVar 0)) (.nm 5) cYes (c__law_near_e0 R) [5]))
  (cSeq (cFor (cIt (cVar 1)) (.tp [(.nm 3), (.nm 4)]) (c__law_near_b1 R))
  (cRet (cVar 2))))
def c__law_spreads_e0 (R : Nat → Fn) : CE :=
  (cVar 4)
def c__law_spreads_t1 (R : Nat → Fn) : CT :=
  (cTst (cF2 fGt (cF fLen (cCons (cF2 fIx (cVar 2) (cVar 4)) cNil)) (cC (.int 1))))
def c__law_spreads_e2 (R : Nat → Fn) : CE :=
  (cF2 fGt (cF fLen (cCons (cLc (cIt (cVar 3)) (.nm 4) (c__law_spreads_t1 R) (c__law_spreads_e0 R) [4]) cNil)) (cC (.int 2)))
def c__law_spreads (R : Nat → Fn) : CS :=
  (cSeq (cPut (.nm 2) (cCall (R 41) (cCons (cVar 0) (cCons (cVar 1) cNil))))
  (cRet (cF fAny (cCons (cLc (cIt (cVar 2)) (.nm 3) cYes (c__law_spreads_e2 R) [3]) cNil))))
def c__law_gaps_e0 (R : Nat → Fn) : CE :=
  (cF fAbs (cCons (cF2 fSub (cF2 fIx (cVar 1) (cVar 2)) (cF2 fIx (cVar 1) (cVar 3))) cNil))
def c__law_gaps (R : Nat → Fn) : CS :=
  (cRet (cLc (cIt (cVar 0)) (.tp [(.nm 2), (.nm 3)]) cYes (c__law_gaps_e0 R) [2, 3]))
def c__law_good (R : Nat → Fn) : CS :=
  (cSeq (cIf (cTst (cF2 (fEqD true) (cF fSorted (cCons (cVar 2) cNil)) (cRgL1 (cVar 0))))
  (cRet (cC (.bl false)))
  cNx)
  (cRet (cF2 (fEqD false) (cF fSorted (cCons (cCall (R 43) (cCons (cVar 1) (cCons (cVar 2) cNil))) cNil)) (cF2 fRgL (cC (.int 1)) (cVar 0)))))
def c__law_says (R : Nat → Fn) : CS :=
  (cRet (cAndV (cF1 (fIsi .bl) (cVar 0)) (cF2 (fEqD false) (cVar 0) (cVar 1))))
def c__law_due (R : Nat → Fn) : CS :=
  (cSeq (cIf (cTst (cIsO is_Good (cVar 3)))
  (cRet (cCall (R 44) (cCons (cVar 0) (cCons (cVar 1) (cCons (cVar 2) cNil)))))
  cNx)
  (cSeq (cIf (cTst (cIsO is_Beyond (cVar 3)))
  (cRet (cAndV (cCh (fun i j => decide (i ≤ j)) (fun i j => decide (i < j)) (cC (.int 0)) (cFld ix_house (cVar 3)) (cVar 0)) (cNotV (cCh (fun i j => decide (i ≤ j)) (fun i j => decide (i < j)) (cC (.int 0)) (cF2 fIx (cVar 2) (cFld ix_house (cVar 3))) (cVar 0)))))
  cNx)
  (cSeq (cPut (.nm 4) (cIfE (cTst (cIsO is_Alike (cVar 3))) (cVar 2) (cCall (R 43) (cCons (cVar 1) (cCons (cVar 2) cNil)))))
  (cRet (cAndV (cCh3 (fun i j => decide (i ≤ j)) (fun i j => decide (i < j)) (fun i j => decide (i < j)) (cC (.int 0)) (cFld ix_one (cVar 3)) (cFld ix_other (cVar 3)) (cF fLen (cCons (cVar 4) cNil))) (cF2 (fEqD false) (cF2 fIx (cVar 4) (cFld ix_one (cVar 3))) (cF2 fIx (cVar 4) (cFld ix_other (cVar 3)))))))))
def c__law_shown_e0 (R : Nat → Fn) : CE :=
  (cCh (fun i j => decide (i ≤ j)) (fun i j => decide (i < j)) (cC (.int 0)) (cVar 6) (cVar 0))
def c__law_shown_e1 (R : Nat → Fn) : CE :=
  (cF2 (fIn false) (cVar 8) (cF2 fIx (cVar 3) (cVar 7)))
def c__law_shown_e2 (R : Nat → Fn) : CE :=
  (cF2 (fIn false) (cVar 8) (cVar 4))
def c__law_shown_e3 (R : Nat → Fn) : CE :=
  (cOrV (cF2 (fIn false) (cVar 6) (cVar 4)) (cF fAny (cCons (cLc (cIt (cF2 fIx (cVar 3) (cVar 6))) (.nm 8) cYes (c__law_shown_e2 R) [8]) cNil)))
def c__law_shown_e4 (R : Nat → Fn) : CE :=
  (cCh (fun i j => decide (i ≤ j)) (fun i j => decide (i < j)) (cC (.int 0)) (cVar 7) (cVar 0))
def c__law_shown_e5 (R : Nat → Fn) : CE :=
  (cAndV (cF2 (fIn false) (cVar 7) (cF2 fIx (cVar 3) (cFld ix_house (cVar 2)))) (cF2 fGt (cF fLen (cCons (cF2 fIx (cVar 3) (cVar 7)) cNil)) (cC (.int 1))))
def c__law_shown (R : Nat → Fn) : CS :=
  (cSeq (cPut (.nm 3) (cCall (R 41) (cCons (cVar 0) (cCons (cVar 1) cNil))))
  (cSeq (cIf (cTst (cIsO is_Street (cVar 2)))
  (cSeq (cPut (.nm 4) (cFld ix_way (cVar 2)))
  (cSeq (cIf (cOr (cTst (cF2 (fEqD false) (cVar 4) (cLst cNil))) (cOr (cNot (cTst (cF fAll (cCons (cLc (cIt (cVar 4)) (.nm 6) cYes (c__law_shown_e0 R) [6]) cNil)))) (cTst (cF2 fLt (cLenSet (cVar 4)) (cF fLen (cCons (cVar 4) cNil))))))
  (cRet (cC (.bl false)))
  cNx)
  (cSeq (cIf (cNot (cTst (cF fAll (cCons (cLc (cZip (cVar 4) (cSl (cVar 4) (some (cC (.int 1))) none)) (.tp [(.nm 7), (.nm 8)]) cYes (c__law_shown_e1 R) [7, 8]) cNil))))
  (cRet (cC (.bl false)))
  cNx)
  (cRet (cF fAll (cCons (cLc (cRg1 (cVar 0)) (.nm 6) cYes (c__law_shown_e3 R) [6]) cNil))))))
  cNx)
  (cSeq (cPut (.nm 5) (cLst (cCons (cFld ix_first (cVar 2)) (cCons (cFld ix_second (cVar 2)) (cCons (cFld ix_third (cVar 2)) cNil)))))
  (cSeq (cIf (cOr (cNot (cTst (cF fAll (cCons (cLc (cIt (cF2 fAdd (cVar 5) (cLst (cCons (cFld ix_house (cVar 2)) cNil)))) (.nm 7) cYes (c__law_shown_e4 R) [7]) cNil)))) (cTst (cF2 fLt (cLenSet (cVar 5)) (cC (.int 3)))))
  (cRet (cC (.bl false)))
  cNx)
  (cRet (cF fAll (cCons (cLc (cIt (cVar 5)) (.nm 7) cYes (c__law_shown_e5 R) [7]) cNil)))))))
def c__law_sound_b0 (R : Nat → Fn) : CS :=
  (cSeq (cPut (.nm 2) (cM0 fPop (cVar 1)))
  (cIf (cOr (cTst (cF1 (fIsi .lst) (cVar 2))) (cTst (cF1 (fIsi .tup) (cVar 2))))
  (cDrop (cM fExtend (cVar 1) (cCons (cF fList (cCons (cVar 2) cNil)) cNil)))
  (cIf (cOr (cTst (cF1 (fIsi .bl) (cVar 2))) (cAnd (cTst (cF2 (fIsN true) (cVar 2) (cC .non))) (cAnd (cNot (cTst (cF1 (fIsi .int) (cVar 2)))) (cNot (cTst (cF1 (fIsi .str) (cVar 2)))))))
  (cRet (cC (.bl false)))
  cNx)))
def c__law_sound (R : Nat → Fn) : CS :=
  (cSeq (cPut (.nm 1) (cLst (cCons (cVar 0) cNil)))
  (cSeq (cWhile 100 (cTst (cF2 (fEqD true) (cVar 1) (cLst cNil))) (c__law_sound_b0 R))
  (cRet (cC (.bl true)))))
end G

set_option Elab.async false
set_option linter.all false
set_option maxRecDepth 100000
set_option maxHeartbeats 1000000
set_option autoImplicit false
/-! Ab20: a list taken apart. -/
namespace Ab
open PySem PySem.Spec PyProof.Rows L2
def cUnL (ts : List Tgt) (c : CE) : CS := fun ρ A => match c ρ A with
  | .ok (.loc l) A1 => (match A1[l]? with
    | some (.lst, xs) => (match puts ts xs ρ.s with
      | some s => .nx s A1
      | none => .bad)
    | _ => .bad)
  | .exc k A1 => .exc k A1
  | _ => .bad
theorem gs_unL {X : Cx} {T : Tb} {E : XE} {e tg : Expr} {c : CE} {pos : Pos} {ts : List Tgt} (he : PE X e (tE T E c)) (hg : PG X tg (gLst T.K ts.length (dens T.K ts))) (hs : swapsWithSole [tg] e pos.line X.env = pure false := by rfl) (hw : swappedStores [tg] e X.env = pure none := by rfl)
    (h1 : (assignEach [tg] X.env).map (·.2) = [assign tg X.env] := by rfl) : PS X (.Assign [tg] e pos) (tS T E (cUnL ts c)) :=
  PS.imp (ps_asg he hg hs hw h1) fun D σ H q => by
    obtain ⟨ι, A, ρ, at0, p⟩ := q
    refine ⟨ι, A, ρ, at0, ?_⟩
    unfold cUnL at p
    split at p
    · rename_i l A1 e1
      rw [e1]
      intro ι1 H1 v fp n r f
      cases r with
      | @loc _ a hl =>
        split at p
        · rename_i xs ex
          split at p
          · rename_i s es
            obtain ⟨o, us, z1, z2, z3⟩ := n.wd.cel l _ xs a ex hl
            rw [show o = HO.lst us from z2] at z1
            obtain ⟨h1, h2⟩ := dens_ok ts xs us ρ.s s σ D.nx (at0.er.mono n.ext) z3 es fun σ' er _ => p _ H1 σ' n er
            exact ⟨a, us, rfl, .inl (.inl z1), by rw [z3.len, h1], h2⟩
          · exact p.elim
        · exact p.elim
    · rename_i k A1 e1
      rw [e1]
      exact p
    · exact p.elim
end Ab

set_option Elab.async false
set_option linter.all false
set_option maxRecDepth 100000
set_option maxHeartbeats 1000000
set_option autoImplicit false
/-! Ab21: defs that raise, and the catch. -/
namespace Ab
open PySem PySem.Spec PyProof.Rows L2
/-- exceptions' classes stand behind the others -/
abbrev xeOf (T : Tb) (E : XK) : XE := fun c H => E (.ref (T.C (c + 10))) none H
def spX (T : Tb) (f : Fn) (np : Nat) : Sp := fun vs H Q E => vs.length = np ∧ ∃ ι A ds, Wd T ι A H ∧ Rps T ι H vs ds [] ∧ Po T A.length ι A H (f ds A) Q (xeOf T E)
theorem callF_okX {T : Tb} {f : Fn} {np b : Nat} {ι0 ι1 : List Addr} {A0 A1 : AH} {H0 H1 : Hp} {ds : List Vl} {vs : List V} {fp : List Addr} {Q : VK} {EX : XK} (w0 : Wd T ι0 A0 H0) (hb : b ≤ A0.length) (n : Nx T b ι0 A0 H0 ι1 A1 H1) (r : Rps T ι1 H1 vs ds fp) (fr : Fr H0 ι1 fp)
    (hl : vs.length = np) (p : Po T b ι0 A0 H0 (callF f ds A1) Q (xeOf T EX)) : spX T f np vs H1 Q EX := by
  have hb1 : b ≤ A1.length := Nat.le_trans hb (n.le w0)
  obtain ⟨n2, r2, ex, e2⟩ := n.boxed hb1 r fr
  refine ⟨hl, ι1 ++ fp, (boxs ds A1).2, (boxs ds A1).1, n2.wd, r2, ?_⟩
  unfold callF at p
  have hlen : A1.length ≤ (boxs ds A1).2.length := by rw [e2, List.length_append]; omega
  have cl2 : CL A1.length (boxs ds A1).2 := n.wd.cl.pre fun j hj => by rw [e2, List.getElem?_append_left hj]
  cases e : f (boxs ds A1).1 (boxs ds A1).2 with
  | bad => rw [e] at p; exact p
  | exc c A3 =>
    rw [e] at p
    intro ι3 H3 m
    have n3 : Nx T b ι0 A0 H0 ι3 A3 H3 := ⟨m.wd, n2.ext.trans m.ext, fun k hk z => m.cl k (by omega) (n2.cl k hk z)⟩
    exact p _ _ (n3.cut w0 hb1 (n.le w0) (m.cl _ hlen cl2))
  | ok d A3 =>
    rw [e] at p
    intro ι3 H3 v fq m rv g
    have n3 : Nx T b ι0 A0 H0 ι3 A3 H3 := ⟨m.wd, n2.ext.trans m.ext, fun k hk z => m.cl k (by omega) (n2.cl k hk z)⟩
    obtain ⟨d2, A4, ι4, fz, eg, n4, r4, f4⟩ := gc_ok w0 n3 hb1 (n.le w0) (m.cl _ hlen cl2) rv (g.back n2.ext)
    have p : Po T b ι0 A0 H0 (gc A1.length d A3) Q (xeOf T EX) := p
    rw [eg] at p
    exact p ι4 H3 v fz n4 r4 f4
section
variable {X : Cx} {T : Tb} {EX : XK} {k : Nat} {fa : Addr} {fd : FuncData} {ps : List Str} {fn : Fn} {x : Str} {e : Expr} {es : List Expr} {cs : CA} {p pos : Pos}
/-- a call that may raise, in a def that may -/
theorem ge_callX (F : FnOk X.prog X.w X.K X.mg X.base (L2N.CX X.prog X.w) k fa fd ps (spX T fn ps.length)) (hn : argN ps.length cs) (hr : Room k X.A) (hg : Gl X x) (hm : X.mg x = some (.ref fa)) (hk : PySem.W.keepIn X.K (.ref fa) = true) (hb : Binds X.K fd ps []) (hx : Passes (L2N.CX X.prog X.w) X EX)
    (ha : PA X (e :: es) (tA T (xeOf T EX) cs)) (hdb : (x == ("__debug__" : Str)) = false := by decide) (he : starEach (e :: es) X.env = (false, eval e X.env) :: starEach es X.env := by rfl) (hpl : (backTo pos (starEach es X.env)).any (·.1) = false := by rfl) :
    PE X (.Call (.Name x p) (e :: es) [] pos) (tE T (xeOf T EX) (cCall fn cs)) :=
  PE.imp (pe_call F hr hg hm hk hb .nil hx ha hdb he hpl) fun σ H Q q => by
    obtain ⟨ι, A, ρ, at0, p⟩ := q
    refine ⟨ι, A, ρ, at0, ?_⟩
    unfold cCall at p
    cases e1 : cs ρ A with
    | bad => rw [e1] at p; exact p
    | exc k A' => rw [e1] at p; exact p
    | ok ds A' =>
      rw [e1] at p
      intro ι1 H1 vs fp n rp f
      rw [List.append_nil]
      exact callF_okX at0.wd at0.bl n rp f (by rw [rp.len]; exact hn ρ A ds A' e1) p
end
theorem passLN {X : Cx} : Passes (L2N.CX X.prog X.w) X (fun _ _ _ => False) := fun _ _ _ _ _ _ _ h => by
  obtain ⟨_, _, _, _, _, _, _, _, _, _, _, _, z⟩ := h
  exact z.elim
theorem takes0N {X : Cx} : L2N.Takes X (fun _ _ _ _ => False) := fun _ _ x => by
  obtain ⟨_, _, _, _, _, _, _, _, _, _, _, _, _, _, _, _, z⟩ := x
  exact z.elim
theorem okN {P : Program} {w : World} {K : PySem.W.Frag} {mg : Str → Option Value} {base : Heap} {x qual : Str} {st : Stmt} {f : Addr} {fd : FuncData} {N ps : List Str} {k : Nat} {sp : Sp} (F : Fun K x qual st f fd) (S : FnScope N ps (defScope st)) (len : ∀ vs H Q E, sp vs H Q E → vs.length = ps.length)
    (hbody : ∀ (cdv : Value) (A : Around) (outer : List Env) (s : Shared) (H : Hp) (vs : List V) (Q : VK) (E : XK), Room k (A.deeper (envOfC qual (defScope st) s.heap.objs.size f cdv)) → sp vs H Q E →
      ∃ t, PSs (cxOf (L2N.CX P w) P w K mg base N qual (defScope st) f cdv A outer s H E) (defBody st) t ∧ t { nx := fun _ H' => Q .non H', rt := Q } (start N vs) H) : FnOk P w K mg base (L2N.CX P w) (k + 1) f fd ps sp := by
  obtain ⟨oc, od, kV, doc, pm, an, cdv, ct, osl, rfl, lk, hcd⟩ := F.ex
  exact fn_of lk hcd S len fun A outer s H vs Q E hr hsp => hbody cdv A outer s H vs Q E hr hsp
theorem fn_zeroX {P : Program} {w : World} {K : PySem.W.Frag} {mg : Str → Option Value} {base : Heap} {CX : CXT} {f : Addr} {fd : FuncData} {ps : List Str} {T : Tb} {fn : Fn} (h : ∀ ds A, fn ds A = .bad) : FnOk P w K mg base CX 0 f fd ps (spX T fn ps.length) :=
  ⟨fun _ _ _ _ h => h.1, fun A outer s H args us vs Q E hr e0 hb r q => by
    obtain ⟨_, ι, A, ds, _, _, p⟩ := q
    rw [h] at p
    exact False.elim p⟩
/-- a def's body read at its start -/
theorem fn_startX {T : Tb} {EX : XK} {N : List Str} {np : Nat} {code : CS} {vs : List V} {H : Hp} {Q : VK} (h : spX T (mkFn N.length code) np vs H Q EX) :
    tS T (xeOf T EX) code { nx := fun _ H' => Q .non H', rt := Q } (L2.start N vs) H := by
  obtain ⟨hl, ι, A, ds, w, r, p⟩ := h
  have hlen := r.len
  refine ⟨ι, A, ⟨A.length, ds.map some ++ List.replicate (N.length - ds.length) none⟩, ⟨w, ⟨?_, fun i d hd => ?_⟩, Nat.le_refl _⟩, ?_⟩
  · unfold L2.start
    simp [hlen]
  · have hi : i < ds.length := by
      apply Classical.byContradiction
      intro hi
      rw [List.getElem?_append_right (by simpa using hi), List.getElem?_replicate] at hd
      split at hd <;> cases hd
    rw [List.getElem?_append_left (by simpa using hi), List.getElem?_map] at hd
    cases hq : ds[i]? with
    | none => rw [hq] at hd; cases hd
    | some d' =>
      rw [hq] at hd
      cases hd
      obtain ⟨v, fq, q1, q2, q3⟩ := r.get hq
      have : fq = [] := by simpa using q3
      subst this
      refine ⟨v, ?_, q2⟩
      unfold L2.start
      rw [List.getElem?_append_left (by simp [hlen, hi]), List.getElem?_map, q1]; rfl
  · unfold mkFn at p
    cases e : code ⟨A.length, ds.map some ++ List.replicate (N.length - ds.length) none⟩ A with
    | bad => rw [e] at p; exact p
    | exc c A' =>
      rw [e] at p
      exact fun ι' H' n => p _ _ (n.cut w (Nat.le_refl _) (Nat.le_refl _) (n.cl _ (Nat.le_refl _) w.cl))
    | rt d A' =>
      rw [e] at p
      intro ι' H' v fp n rv f
      obtain ⟨d2, A4, ι4, fz, eg, n4, r4, f4⟩ := gc_ok w n (Nat.le_refl _) (Nat.le_refl _) (n.cl _ (Nat.le_refl _) w.cl) rv f
      have p : Po T A.length ι A H (gc A.length d A') Q _ := p
      rw [eg] at p
      exact p ι4 H' v fz n4 r4 f4
    | nx s A' =>
      rw [e] at p
      intro ι' H' σ' n _
      obtain ⟨d2, A4, ι4, fz, eg, n4, r4, f4⟩ := gc_ok w n (Nat.le_refl _) (Nat.le_refl _) (n.cl _ (Nat.le_refl _) w.cl) .non .nil
      have p : Po T A.length ι A H (gc A.length .non A') Q _ := p
      rw [eg] at p
      exact p ι4 H' .non fz n4 r4 f4
/-- what is known of an exception's class -/
structure Xf (K : PySem.W.Frag) (mg : Str → Option Value) (name : Str) (C : Addr) : Prop where
  q : PySem.W.excIn K C [.type "ValueError", .type "Exception", .type "BaseException", .type "object"] "ValueError.__new__" = true
  g : mg name = some (.ref C)
  kp : PySem.W.keepIn K (.ref C) = true
  b : PySem.W.subIn K (.ref C) (.type "BaseException") = some true
  t : PySem.W.typeIn K (.ref C) = some (.type "type")
  e : ExcC K C
/-- raise X('..') -/
theorem gs_raiseX {X : Cx} {T : Tb} {EX : XK} {c j : Nat} {x m : Str} {p p2 pos pos' : Pos} (hX : Xf X.K X.mg x (T.C (c + 10))) (hc : X.calm = true) (tk : L2N.Takes X (fun cls d _ H => EX cls d H)) (hg : Gl X x) (hdb : (x == ("__debug__" : Str)) = false := by decide) :
    PS X (.Raise (some (.Call (.Name x p) [.Constant (.str m) j p2] [] pos')) none pos) (tS T (xeOf T EX) (cRaise c)) :=
  PS.imp (L2N.ps_raise hc tk (L2N.pmk_own PySem.F.excBase_ValueError hX.q hX.g hX.kp (raises_own hX.b hX.t) hg hdb)) fun D σ H q => by
    obtain ⟨ι, A, ρ, a, p⟩ := q
    exact p ι H (.refl a.wd)
/-! ### the catch -/
def Grow (H H' : Hp) : Prop := ∀ b o, H b = some o → H' b = some o
theorem Grow.refl (H : Hp) : Grow H H := fun _ _ h => h
theorem Grow.upd {H H' : Hp} {p : Addr} {o : HO} (g : Grow H H') (h : H' p = none) : Grow H (upd H' p o) := fun b u e => by
  have z := g b u e
  rw [upd_ne (ne_of_none z h)]
  exact z
theorem Nx.grow {T : Tb} {b : Nat} {ι : List Addr} {A : AH} {H H' : Hp} (w : Wd T ι A H) (g : Grow H H') : Nx T b ι A H ι A H' := by
  have e : Ext ι H ι H' := ⟨⟨[], by simp, by simp⟩, fun a o h _ _ => g a o h, fun a o h => ⟨o, g a o h⟩⟩
  refine ⟨⟨w.len, w.nd, fun n k xs a h1 h2 => ?_, w.x.ext e (tab_keeps (fun a o h _ => g a o h) w.x.tab)⟩, e, fun _ _ h => h⟩
  obtain ⟨o, vs, q1, q2, q3⟩ := w.cel n k xs a h1 h2
  exact ⟨o, vs, g a o q1, q2, Rps.mono e xs vs [] q3 (by simp)⟩
/-- try: f(..), except X as n: .. a truth or a text is returned -/
def cTryR (i m : Nat) (res : Nat → Option Vl) (f : Fn) (cs : CA) : CS := fun ρ A => match cs ρ A with
  | .ok ds A1 => (match callF f ds A1 with
    | .ok _ A2 => .nx ρ.s A2
    | .exc k A2 => (match res k with
      | some d => if i < m ∧ ρ.s.length = m then .rt d A2 else .bad
      | none => .bad)
    | .bad => .bad)
  | _ => .bad
/-- what the suite is asked -/
def tsR (T : Tb) (i m : Nat) (res : Nat → Option Vl) (a : Addr) (cls : Value) (d : Option Addr) : TS := fun D σ H => ∃ (k : Nat) (dv : Vl) (v : V), cls = .ref (T.C (k + 10)) ∧ d = none ∧ σ.length = m ∧ σ[i]? = some (some (.ref a)) ∧ res k = some dv ∧ sc dv = some v ∧ ∀ H', Grow H H' → D.rt v H'
theorem rp_sc {T : Tb} {ι : List Addr} {H : Hp} {d : Vl} {v : V} (h : sc d = some v) : Rp T ι H v d [] := by
  unfold sc at h
  split at h <;> first | (cases h; constructor) | cases h
section
variable {X : Cx} {T : Tb} {E : XE} {k i m : Nat} {fa cR : Addr} {fd : FuncData} {ps : List Str} {fn : Fn} {fx x n : Str} {e : Expr} {es : List Expr} {cs : CA} {p np pos pos' cpos epos : Pos} {b₀ : Stmt} {suite : List Stmt} {res : Nat → Option Vl}
theorem gs_tryR (hs : X.stack = X.env :: X.outer) (hf : X.env.frame = some X.env.locals) (hN : X.N.Nodup) (hi : X.N[i]? = some n) (hln : X.env.kindOf n = some .local) (hc : Names X x (.ref cR))
    (F : FnOk X.prog X.w X.K X.mg X.base (L2N.CX X.prog X.w) k fa fd ps (spX T fn ps.length)) (hn : argN ps.length cs) (hr : Room k X.A) (hg : Gl X fx) (hm : X.mg fx = some (.ref fa)) (hk : PySem.W.keepIn X.K (.ref fa) = true) (hb : Binds X.K fd ps [])
    (ha : ∀ (pn : List (Addr × Obj)) (xe : Value → Shared → Prop), PA (X.tr pn xe) (e :: es) (tA T EF cs))
    (hex : ∀ k d, res k = some d → PySem.W.exmOne X.K (.ref (T.C (k + 10))) (.ref cR) = some true) (hsc : ∀ k d, res k = some d → ∃ v, sc d = some v)
    (hsu : ∀ (a : Addr) (oe : Obj) (cls : Value) (d : Option Addr) (pn : List (Addr × Obj)), L2N.Zn cls d oe → (∃ vs, oe.data = .fields vs) → PSs (X.suite a ((a, oe) :: pn)) (b₀ :: suite) (tsR T i m res a cls d))
    (hdb : (fx == ("__debug__" : Str)) = false := by decide) (he : starEach (e :: es) X.env = (false, eval e X.env) :: starEach es X.env := by rfl) (hpl : (backTo cpos (starEach es X.env)).any (·.1) = false := by rfl)
    (hsw : swapsWith (.Call (.Name fx p) (e :: es) [] cpos) none epos.line X.env = pure false := by rfl) :
    PS X (.Try [.Expr (.Call (.Name fx p) (e :: es) [] cpos) epos] [.ExceptHandler (some (.Name x np)) (some n) (b₀ :: suite) pos'] [] [] pos) (tS T E (cTryR i m res fn cs)) :=
  PS.imp (L2N.ps_try_as hs hf hN hi hln hc takes0N (tb := fun W => tDrop (tCallS (spX T fn ps.length) (WE W) (tA T EF cs))) (fun W pn xe tk _ => pss_one (ps_expr (pe_callS (X := X.tr pn xe) (CX := L2N.CX X.prog X.w) F hr hg hm hk hb (fun σ => L2N.passAt tk σ) (ha pn xe) hdb he hpl) hsw)) hsu) fun D σ H q => by
    obtain ⟨ι, A, ρ, at0, p⟩ := q
    refine ⟨ι, A, ρ, at0, ?_⟩
    unfold cTryR at p
    cases e1 : cs ρ A with
    | bad => rw [e1] at p; exact p
    | exc k A' => rw [e1] at p; exact False.elim p
    | ok ds A' =>
      rw [e1] at p
      intro ι1 H1 vs fp n rp fr
      refine callF_okX at0.wd at0.bl n rp fr (by rw [rp.len]; exact hn ρ A ds A' e1) ?_
      simp only at p
      cases e2 : callF fn ds A' with
      | bad => rw [e2] at p; exact p
      | ok d A2 =>
        rw [e2] at p
        exact fun ι' H' v fq n' r f => p ι' H' σ n' (at0.er.mono n'.ext)
      | exc c A2 =>
        rw [e2] at p
        simp only at p
        intro ι' H' n'
        cases er : res c with
        | none => rw [er] at p; exact False.elim p
        | some d =>
          rw [er] at p
          simp only at p
          split at p
          · rename_i hlt
            obtain ⟨v, hv⟩ := hsc c d er
            refine ⟨true, hex c d er, fun _ a ha => ?_, fun z => nomatch z⟩
            refine ⟨c, d, v, rfl, rfl, by rw [List.length_set, at0.er.1]; exact hlt.2, ?_, er, hv, fun H2 g => ?_⟩
            · rw [List.getElem?_set_self (by rw [at0.er.1, hlt.2]; exact hlt.1)]
            · exact p ι' H2 v [] (n'.trans (Nx.grow n'.wd g)) (rp_sc hv) .nil
          · exact False.elim p
end
/-! ### in the suite -/
def tK (i : Nat) (a : Addr) (b : Bool) : TE := fun σ H Q => σ[i]? = some (some (.ref a)) ∧ Q (.bl b) H
theorem pe_err {X : Cx} {a D C : Addr} {oe : Obj} {pn : List (Addr × Obj)} {i : Nat} {n x : Str} {b : Bool} {p q q2 pos : Pos} (hE : ExcC X.K D) (hz : Zc (.ref D) none oe) (hf : ∃ vs, oe.data = .fields vs) (hv : PE (X.suite a ((a, oe) :: pn)) (.Name n q) (tVar i)) (hgI : Gl X "isinstance") (hmI : X.mg "isinstance" = none) (hgx : Gl X x) (hmx : X.mg x = some (.ref C)) (hdb : (x == ("__debug__" : Str)) = false)
    (hk : PySem.W.kitOne X.K (.ref D) (.ref C) = some b) (hbt : bootBuiltins "isinstance" = some (.builtin "isinstance")) (hs : starEach [.Name n q, .Name x q2] X.env = (false, eval (.Name n q) X.env) :: starEach [.Name x q2] X.env := by rfl) : PE (X.suite a ((a, oe) :: pn)) (.Call (.Name "isinstance" p) [.Name n q, .Name x q2] [] pos) (tK i a b) := by
  refine PE.imp (pe_callB (call_isE hE hz hf) hgI hmI hbt (pa_cons hv (pa_cons (pe_glob (v := .ref C) hgx hmx rfl hdb) pa_nil) hs) (by decide) (by decide) hs) fun σ H Q h => ?_
  obtain ⟨h1, h2⟩ := h
  refine ⟨.ref a, h1, ?_⟩
  exact ⟨.ref C, .ref C, b, rfl, fun u r => by cases r; rfl, hk, h2⟩
end Ab
namespace Ab
open PySem PySem.Spec PyProof.Rows L2
theorem PSs.by {X : Cx} {ss : List Stmt} {t : TS} (h : ∀ D σ H, t D σ H → ∃ t', PSs X ss t' ∧ t' D σ H) : PSs X ss t := ⟨fun pins s σ H D I q => by
  obtain ⟨t', p, z⟩ := h D σ H q
  exact p.run pins s σ H D I z⟩
end Ab

set_option Elab.async false
set_option linter.all false
set_option maxRecDepth 100000
set_option maxHeartbeats 2000000
set_option autoImplicit false
/-! Ab22: a list comprehension while an exception is handled. -/
namespace Ab
open PySem PySem.Spec PyProof.Rows L2 L2H
/-- the block's context, which bears the handled exception too -/
abbrev bkH (X : Cx) (p : Addr × Obj) (s : Shared) (H : Hp) (scope : Scope) (ce : Env) (fp : List Addr) : Cx := { X.blk s H scope ce fp with pn := [p] }
section
variable {X : Cx} {p : Addr × Obj} {pins : List (Addr × Obj)} {σ : L2.St} {H H' : Hp} {s s' : Shared} {scope : Scope} {ce : Env} {fp : List Addr}
theorem to_bkH (J : Inv (X.blk s H scope ce fp) pins σ H' s') (h : s'.heap.get? p.1 = some p.2 ∧ H' p.1 = none ∧ p.1 ≠ ce.locals ∧ p.1 ∉ frs X.stack ∧ ∀ v, p.2.data ≠ .cell v) : Inv (bkH X p s H scope ce fp) pins σ H' s' :=
  ⟨⟨J.ok.mod, J.ok.kind, J.ok.glob, J.ok.blt, J.ok.above, J.ok.inj, J.ok.has, J.ok.cab, J.ok.hd, J.ok.frames, J.ok.stk, J.ok.exf, J.ok.bs, J.ok.bsz, J.ok.noex, J.ok.exfs, J.ok.funs, J.ok.frf⟩, J.os, J.bare, J.base, J.loc, J.cell, J.free, J.freeC,
    fun q hq => (List.mem_cons.mp hq).elim (fun z => by subst z; exact h) fun z => J.pin q z, J.hok, J.len⟩
end
section
variable {X : Cx} {p : Addr × Obj}
theorem pe_lcH {elt tg iter : Expr} {ifs : List Expr} {scope : Scope} {own : List (Str × Nat)} {pos : Pos} {wi : TI} {g : TG} {tt : TT} {te : TE} (hot : Hot1 X.A p) (hp : p ∈ X.pn) (hN : X.N.Nodup) (hi : PIH X tg iter wi) (ok : BlkOk X.N X.env.scope scope own)
    (hg : ∀ (s : Shared) (H : Hp) (C : Addr) (cl : List (Str × Addr)) (fp : List Addr), PG (bkH X p s H scope (compEnvC scope cl C X.env) fp) tg g) (ht : ∀ (s : Shared) (H : Hp) (C : Addr) (cl : List (Str × Addr)) (fp : List Addr), PTs (bkH X p s H scope (compEnvC scope cl C X.env) fp) ifs tt)
    (he : ∀ (s : Shared) (H : Hp) (C : Addr) (cl : List (Str × Addr)) (fp : List Addr), PE (bkH X p s H scope (compEnvC scope cl C X.env) fp) elt te) (hs : ∀ x, foldedSetIterable iter X.env x = pure x := by intro _; rfl) :
    PE X (.ListComp elt [⟨tg, iter, ifs, 0⟩] scope pos) (tLc wi g tt te (own.map (·.2))) := by
  refine ⟨fun pins s σ H Q I0 wish => ?_⟩
  rw [eval_ListComp]
  have capt : ∀ y ∈ scope.names, y.2 = .free → ∃ c, X.env.cells.lookup y.1 = some c := fun y hy e => (ok.free y hy e).elim (fun k => I0.ok.has _ (.inl k)) fun k => I0.ok.has _ (.inr k)
  refine wpAny_comprehension_free (use := none) rfl hs (closure_ok capt) ok.kind (fun y hy e => by rw [ok.uniq y hy, e])
    (thn (hi.run pins s σ H _ I0 wish) fun xv sa hx => thn hx fun itv sb hb => ?_)
  obtain ⟨it, fp, tn, J, Hb, rfl, Ib, T, at0, fpb, plan⟩ := hb
  refine wpAny_newObj_type (newEnv_comp ?_) (by show 0 ≤ sizeLine; decide)
  -- the list to come stands at L
  generalize eL : sb.heap.objs.size = L
  have freeL : Hb L = none := Ib.hok.fresh (Nat.le_of_eq eL)
  obtain ⟨W, ⟨k0, first⟩, turn⟩ := plan L freeL
  generalize ec : ({ sb with heap := sb.heap.push { cls := .type "list", data := .seq ([] : List Value).toArray } } : Shared) = sc
  have hpc : sc.heap = sb.heap.push { cls := .type "list", data := .seq ([] : List Value).toArray } := by rw [← ec]
  have Ic : Inv X pins σ (upd Hb L (.lst [])) sc := by
    subst ec
    exact Ib.laid (t' := sb.toks) (fun b o e => Heap.get?_push_of_some _ e) (Nat.le_of_eq eL) ⟨Nat.zero_le _, [], 0, .nil, by rw [← eL]; exact Heap.get?_push_size _ rfl⟩
  have small : ∀ b ∈ fp, b < sb.heap.objs.size := fun b hb => by
    obtain ⟨o, e, _⟩ := T.obj _ _ at0 b hb
    exact Heap.lt_size e
  have fpc : ∀ b ∈ fp, FpOk X pins (upd Hb L (.lst [])) b ∧ b < sc.heap.objs.size := fun b hb => by
    have lt := small b hb
    exact ⟨⟨by rw [upd_ne (by rw [← eL]; exact Nat.ne_of_lt lt)]; exact (fpb b hb).1, (fpb b hb).2⟩, by rw [hpc, Heap.size_push]; exact Nat.lt_succ_of_lt lt⟩
  have atc : tn 0 sc.heap := T.keep _ _ _ at0 fun b _ o e => by rw [hpc]; exact Heap.get?_push_of_some _ e
  have Id := block_start Ic ok hN fpc
  have pgB := hg sc (upd Hb L (.lst [])) sc.heap.objs.size (cellsFrom (sc.heap.objs.size + 1) scope.names (cloFrom X.env.cells scope.names [])) fp
  have ptB := ht sc (upd Hb L (.lst [])) sc.heap.objs.size (cellsFrom (sc.heap.objs.size + 1) scope.names (cloFrom X.env.cells scope.names [])) fp
  have peB := he sc (upd Hb L (.lst [])) sc.heap.objs.size (cellsFrom (sc.heap.objs.size + 1) scope.names (cloFrom X.env.cells scope.names [])) fp
  show codeAny _ _ (.compStart (.ListComp elt [⟨tg, iter, ifs, 0⟩] scope pos) 0 (.ref it) (.ref L) (compEnvC scope (cellsFrom (sc.heap.objs.size + 1) scope.names (cloFrom X.env.cells scope.names [])) sc.heap.objs.size X.env)) (compPost (model X.prog X.w) X.A X.xe none (EP X pins σ Q) (.ref L) sc.heap.objs.size) { sc with heap := pushCells (sc.heap.push { cls := .type "dict", data := .dict #[] }) scope.names }
  generalize eE : compEnvC scope (cellsFrom (sc.heap.objs.size + 1) scope.names (cloFrom X.env.cells scope.names [])) sc.heap.objs.size X.env = ce at Id pgB ptB peB ⊢
  have eC : ce.locals = sc.heap.objs.size := by subst eE; rfl
  generalize eH : upd Hb L (.lst []) = Hc at Ic Id pgB ptB peB first fpc
  generalize eD : ({ sc with heap := pushCells (sc.heap.push { cls := .type "dict", data := .dict #[] }) scope.names } : Shared) = sd at Id ⊢
  have grows : ∀ b o, sc.heap.get? b = some o → sd.heap.get? b = some o := fun b o e => by rw [← eD]; exact pushCells_keeps _ _ _ _ (Heap.get?_push_of_some _ e)
  have pinc := Ic.pin p (List.mem_append_left _ hp)
  have offL : p.1 ≠ ce.locals := by rw [eC]; exact Nat.ne_of_lt (Heap.lt_size pinc.1)
  have offS : p.1 ∉ frs X.stack := fun z => (List.mem_cons.mp (Ic.stkSub p.1 z)).elim pinc.2.2.1 pinc.2.2.2.1
  have Ih : Inv (bkH X p sc Hc scope ce fp) [] (wipe σ (own.map (·.2))) Hc sd := to_bkH Id ⟨grows _ _ pinc.1, pinc.2.1, offL, offS, pinc.2.2.2.2⟩
  have hotB : HotC (bkH X p sc Hc scope ce fp) := ⟨p, hot, List.mem_cons_self⟩
  have offF : ∀ b ∈ fp, p.1 ≠ b := fun b hb z => (fpc b hb).1.2.2.2.2.2 p (List.mem_append_left _ hp) z
  have atd : tn 0 sd.heap := T.keep _ _ _ atc fun b _ o e => grows b o e
  have stands : ∀ {τ : L2.St} {Hn : Hp} {sn : Shared}, Inv (bkH X p sc Hc scope ce fp) [] τ Hn sn → (∀ b ∈ fp, Hn b = none) → ∀ b ∈ fp, FpOk (bkH X p sc Hc scope ce fp) [] Hn b := fun {τ Hn sn} Jn hn b hb =>
    ⟨hn b hb, (Jn.ok.exf b hb).1, Jn.ok.exfs b hb, .inl hb, fun x c e => (Jn.ok.exf b hb).2 x c e, fun q hq => by
      have hq : q ∈ [p] ++ [] := hq
      rw [List.append_nil, List.mem_singleton] at hq
      subst hq
      exact offF b hb⟩
  have loop : codeAny (model X.prog X.w) X.A (.compLoop (.ListComp elt [⟨tg, iter, ifs, 0⟩] scope pos) 0 (.ref it) (.ref L) ce) (compPost (model X.prog X.w) X.A X.xe none (EP X pins σ Q) (.ref L) sc.heap.objs.size) sd := by
    refine compLoop_any (fun n sn => ∃ i Hn, Inv (bkH X p sc Hc scope ce fp) [] (wipe σ (own.map (·.2))) Hn sn ∧ tn i sn.heap ∧ (∀ b ∈ fp, Hn b = none) ∧ W i n Hn) ?_ k0 ⟨0, Hc, Ih, atd, fun b hb => (fpc b hb).1.1, first⟩
    rintro n sn ⟨i, Hn, Jn, tni, frn, wn⟩
    rcases turn i n Hn wn with ⟨stop, won⟩ | ⟨go, Nx, less, step⟩
    · have td := T.done (bkH X p sc Hc scope ce fp) rfl rfl rfl hotB i [] sn _ Hn (fun _ _ => False) Jn (stands Jn frn) tni stop
      refine thnF td fun r so ⟨hr, Jo⟩ => ?_
      subst hr
      have Io : Inv X pins σ Hn so := Ic.call' (ch := fp) Jo.os Jo.base Jo.hok Jo.bare fun b hb => ⟨(fpc b hb).1.2.2.2.1, (fpc b hb).1.2.1, (fpc b hb).1.2.2.2.2.1, (fpc b hb).1.2.2.2.2.2⟩
      have noC : Hn sc.heap.objs.size = none := by
        have z : Hn ce.locals = none := Jo.free
        rwa [eC] at z
      obtain ⟨m, hm, _⟩ := Jo.loc
      have hm : so.heap.Ns ce.locals m := hm
      rw [eC] at hm
      obtain ⟨f0, f1, f2, f3, f4, f5⟩ := Ic.fpOk (H' := Hn) (Nat.le_refl sc.heap.objs.size) noC
      exact ⟨m, hm, fun h2 same => ⟨.ref L, Hn, Io.turned (t' := so.toks) (fun b o hb e => (same.2 b hb).trans e) f0 f1 f3 f4 f5, rfl, won⟩⟩
    · have ti := T.item (bkH X p sc Hc scope ce fp) rfl rfl rfl hotB i [] sn _ Hn (fun _ _ => False) Jn (stands Jn frn) tni go
      refine thnF ti fun r so ⟨u, hr, h6⟩ => ?_
      subst hr
      refine thnF h6 fun _ sp ⟨x, Hv, Jp, rp, yp, tnp, frp⟩ => ?_
      have Jp' := Jp.pinned (stands Jp frp) (T.obj _ _ tnp)
      refine thnF (pgB.run _ sp _ Hv x u _ Jp' rp (step x Hv yp)) fun _ sq ⟨σq, Hq, Jq, wq, qq⟩ => ?_
      refine thnF (ptB.run _ sq σq Hq _ Jq qq) fun b sr ⟨Hr, Jr, qr⟩ => ?_
      have next : ∀ {sz : Shared} {Hz : Hp}, Inv (bkH X p sc Hc scope ce fp) ([] ++ pinsAt fp sp.heap) σq Hz sz → Nx Hz → ∃ m, m < n ∧ ∃ i Hn, Inv (bkH X p sc Hc scope ce fp) [] (wipe σ (own.map (·.2))) Hn sz ∧ tn i sz.heap ∧ (∀ b ∈ fp, Hn b = none) ∧ W i m Hn := fun {sz Hz} Jz nz => by
        obtain ⟨m, hm, wm⟩ := less Hz nz
        have held : ∀ b ∈ fp, ∀ o, sp.heap.get? b = some o → sz.heap.get? b = some o ∧ Hz b = none := fun b hb o e =>
          have z := Jz.pin (b, o) (List.mem_append_right _ (List.mem_append_right _ (mem_pinsAt hb e)))
          ⟨z.1, z.2.1⟩
        refine ⟨m, hm, i + 1, Hz, (Jz.unpinned (pins := [])).weak (by rw [← wq, wipe_length]) (fun j v e => by rw [← wq] at e; exact (wipe_some e).1), T.keep _ _ _ tnp fun b hb o e => (held b hb o e).1, fun b hb => ?_, wm⟩
        obtain ⟨o, e, _⟩ := T.obj _ _ tnp b hb
        exact (held b hb o e).2
      cases b with
      | false =>
        rw [if_neg Bool.false_ne_true] at qr ⊢
        exact next Jr qr
      | true =>
        rw [if_pos rfl] at qr ⊢
        refine thnF (peB.run _ sr σq Hr _ Jr qr) fun z st ⟨yv, Ht, Jt, rt, acc, hacc, hlen, nz⟩ => ?_
        exact app_ok (X := bkH X p sc Hc scope ce fp) Jt hacc hlen rt fun su Ju => next Ju nz
  exact codeAny_compStart_list loop (T.self X.A 0 _ _ _ atd loop)
end
end Ab

set_option Elab.async false
set_option linter.all false
set_option maxRecDepth 100000
set_option maxHeartbeats 2000000
set_option autoImplicit false
/-! Ab24: other tables: the cells of lambdas, fixed values. -/
namespace Ab
open PySem PySem.Spec PyProof.Rows L2
mutual
def fnOk (p : Nat → Bool) : Vl → Bool
  | .fn n => p n
  | .tup xs => fnOks p xs
  | .rol xs => fnOks p xs
  | .new _ xs => fnOks p xs
  | _ => true
def fnOks (p : Nat → Bool) : List Vl → Bool
  | [] => true
  | x :: r => fnOk p x && fnOks p r
end
mutual
theorem fnOk_all (p : Nat → Bool) (h : ∀ n, p n = true) : ∀ d, fnOk p d = true
  | .non => rfl
  | .bl _ => rfl
  | .int _ => rfl
  | .str _ => rfl
  | .loc _ => rfl
  | .fn n => by rw [fnOk]; exact h n
  | .tup xs => by rw [fnOk]; exact fnOks_all p h xs
  | .rol xs => by rw [fnOk]; exact fnOks_all p h xs
  | .new _ xs => by rw [fnOk]; exact fnOks_all p h xs
theorem fnOks_all (p : Nat → Bool) (h : ∀ n, p n = true) : ∀ ds, fnOks p ds = true
  | [] => rfl
  | d :: r => by rw [fnOks, fnOk_all p h d, fnOks_all p h r]; rfl
end
def fnOkA (p : Nat → Bool) (A : AH) : Bool := A.all fun c => fnOks p c.2
theorem fnOkA_all (p : Nat → Bool) (h : ∀ n, p n = true) (A : AH) : fnOkA p A = true := List.all_eq_true.mpr fun c _ => fnOks_all p h c.2
/-- no lambda -/
def noL : Nat → Bool := fun n => Nat.blt n 1000
def Tb.to (T : Tb) (c : Nat → Option (List (Str × Addr))) (f : List (V × Vl)) : Tb := { T with cl := c, fix := f }
section
variable {T : Tb} {c : Nat → Option (List (Str × Addr))} {f : List (V × Vl)} {p : Nat → Bool} {ι ι' : List Addr} {H H' : Hp} {A A' : AH} {b : Nat}
theorem FnV.to {n : Nat} {v : V} (hc : ∀ n x, p n = true → 1000 ≤ n → T.cl n = some x → c n = some x) (hp : p n = true) (h : FnV T H n v) : FnV (T.to c f) H n v := by
  rcases h with h | ⟨h, g, c', q, ps, body, sc, pos, cells, cl, pm, ct, h1, h2, h3⟩
  · exact .inl h
  · exact .inr ⟨h, g, c', q, ps, body, sc, pos, cells, cl, pm, ct, h1, hc n cl hp h h2, h3⟩
theorem KOk.to {k : Kd} {vs : List V} {o : HO} (h : KOk T k vs o) : KOk (T.to c f) k vs o := by
  cases k <;> exact h
mutual
theorem Rp.to (hc : ∀ n x, p n = true → 1000 ≤ n → T.cl n = some x → c n = some x) : ∀ (d : Vl) (v : V) (fp : List Addr), fnOk p d = true → Rp T ι H v d fp → Rp (T.to c f) ι H v d fp
  | .non, _, _, _, h => by cases h; exact .non
  | .bl b, _, _, _, h => by cases h; exact .bl b
  | .int b, _, _, _, h => by cases h; exact .int b
  | .str b, _, _, _, h => by cases h; exact .str b
  | .fn b, _, _, hp, h => by
    cases h with
    | fn h => exact .fn (h.to hc (by rw [fnOk] at hp; exact hp))
  | .loc n, _, _, _, h => by
    cases h with
    | loc h => exact .loc h
  | .tup xs, _, _, hp, h => by
    rw [fnOk] at hp
    cases h with
    | tup h1 h2 => exact .tup h1 (Rps.to hc xs _ _ hp h2)
  | .rol xs, _, _, hp, h => by
    rw [fnOk] at hp
    cases h with
    | rol h1 h2 => exact .rol h1 (Rps.to hc xs _ _ hp h2)
  | .new k xs, _, _, hp, h => by
    rw [fnOk] at hp
    cases h with
    | new h1 h2 h3 => exact .new h1 h2.to (Rps.to hc xs _ _ hp h3)
theorem Rps.to (hc : ∀ n x, p n = true → 1000 ≤ n → T.cl n = some x → c n = some x) : ∀ (ds : List Vl) (vs : List V) (fp : List Addr), fnOks p ds = true → Rps T ι H vs ds fp → Rps (T.to c f) ι H vs ds fp
  | [], _, _, _, h => by cases h; exact .nil
  | d :: ds, _, _, hp, h => by
    rw [fnOks, Bool.and_eq_true] at hp
    cases h with
    | cons h1 h2 => exact .cons (Rp.to hc d _ _ hp.1 h1) (Rps.to hc ds _ _ hp.2 h2)
end
theorem Wd.to (hc : ∀ n x, p n = true → 1000 ≤ n → T.cl n = some x → c n = some x) (w : Wd T ι A H) (hA : fnOkA p A = true) (hf : ∀ q ∈ f, Rp (T.to c f) ι H q.1 q.2 []) : Wd (T.to c f) ι A H := by
  refine ⟨w.len, w.nd, fun n k xs a e1 e2 => ?_, ⟨hf, w.x.tab⟩⟩
  obtain ⟨o, vs, q1, q2, q3⟩ := w.cel n k xs a e1 e2
  exact ⟨o, vs, q1, q2.to, Rps.to hc xs vs [] (List.all_eq_true.mp hA (k, xs) (List.mem_of_getElem? e1)) q3⟩
theorem Nx.to (hc : ∀ n x, p n = true → 1000 ≤ n → T.cl n = some x → c n = some x) (x : Nx T b ι A H ι' A' H') (hA : fnOkA p A' = true) (hf : ∀ q ∈ f, Rp (T.to c f) ι H q.1 q.2 []) : Nx (T.to c f) b ι A H ι' A' H' :=
  ⟨x.wd.to hc hA fun q hq => Rp.mono x.ext _ _ _ (hf q hq) (by simp), x.ext, x.cl⟩
/-! only the fixed values change -/
theorem Tb.to_to (T : Tb) (c c' : Nat → Option (List (Str × Addr))) (f f' : List (V × Vl)) : (T.to c f).to c' f' = T.to c' f' := rfl
theorem Tb.to_self (T : Tb) : T.to T.cl T.fix = T := rfl
def Tb.wf (T : Tb) (F : List (V × Vl)) : Tb := T.to T.cl (F ++ T.fix)
variable {F : List (V × Vl)}
theorem Rp.wf {v : V} {d : Vl} {fp : List Addr} (h : Rp T ι H v d fp) : Rp (T.wf F) ι H v d fp := Rp.to (p := fun _ => true) (fun _ _ _ _ h => h) d v fp (fnOk_all _ (fun _ => rfl) d) h
theorem Rps.wf {v : List V} {d : List Vl} {fp : List Addr} (h : Rps T ι H v d fp) : Rps (T.wf F) ι H v d fp := Rps.to (p := fun _ => true) (fun _ _ _ _ h => h) d v fp (fnOks_all _ (fun _ => rfl) d) h
theorem Rp.uf {v : V} {d : Vl} {fp : List Addr} (h : Rp (T.wf F) ι H v d fp) : Rp T ι H v d fp := Rp.to (T := T.wf F) (c := T.cl) (f := T.fix) (p := fun _ => true) (fun _ _ _ _ h => h) d v fp (fnOk_all _ (fun _ => rfl) d) h
theorem Rps.uf {v : List V} {d : List Vl} {fp : List Addr} (h : Rps (T.wf F) ι H v d fp) : Rps T ι H v d fp := Rps.to (T := T.wf F) (c := T.cl) (f := T.fix) (p := fun _ => true) (fun _ _ _ _ h => h) d v fp (fnOks_all _ (fun _ => rfl) d) h
theorem Wd.wf (w : Wd T ι A H) (hf : ∀ q ∈ F, Rp T ι H q.1 q.2 []) : Wd (T.wf F) ι A H := Wd.to (p := fun _ => true) (fun _ _ _ _ h => h) w (fnOkA_all _ (fun _ => rfl) A) fun q hq => by
  rcases List.mem_append.mp hq with z | z
  · exact Rp.wf (hf q z)
  · exact Rp.wf (w.x.fix q z)
theorem Wd.uf (w : Wd (T.wf F) ι A H) : Wd T ι A H := Wd.to (T := T.wf F) (c := T.cl) (f := T.fix) (p := fun _ => true) (fun _ _ _ _ h => h) w (fnOkA_all _ (fun _ => rfl) A) fun q hq => Rp.uf (w.x.fix q (List.mem_append_right _ hq))
theorem Nx.uf (x : Nx (T.wf F) b ι A H ι' A' H') : Nx T b ι A H ι' A' H' := ⟨x.wd.uf, x.ext, x.cl⟩
theorem Nx.wf (x : Nx T b ι A H ι' A' H') (hf : ∀ q ∈ F, Rp T ι H q.1 q.2 []) : Nx (T.wf F) b ι A H ι' A' H' := ⟨x.wd.wf fun q hq => Rp.mono x.ext _ _ _ (hf q hq) (by simp), x.ext, x.cl⟩
theorem Er.wf {σ : L2.St} {s : List (Option Vl)} (e : Er T ι H σ s) : Er (T.wf F) ι H σ s := ⟨e.1, fun i d h => by
  obtain ⟨v, h1, h2⟩ := e.2 i d h
  exact ⟨v, h1, h2.wf⟩⟩
theorem At.wf {σ : L2.St} {ρ : Ev} (a : At T σ H ι A ρ) (hf : ∀ q ∈ F, Rp T ι H q.1 q.2 []) : At (T.wf F) σ H ι A ρ := ⟨a.wd.wf hf, a.er.wf, a.bl⟩
theorem Po.wf {r : Res Vl} {Q : VK} {E : XE} (h : Po T b ι A H r Q E) : Po (T.wf F) b ι A H r Q E := by
  cases r with
  | bad => exact h
  | exc k A' => exact fun ι' H' n => h ι' H' n.uf
  | ok d A' => exact fun ι' H' v fp n r f => h ι' H' v fp n.uf r.uf f
end
end Ab

set_option Elab.async false
set_option linter.all false
set_option maxRecDepth 100000
set_option maxHeartbeats 2000000
set_option autoImplicit false
/-! Ab25: a lambda's making. -/
namespace Ab
open PySem PySem.Spec PyProof.Rows L2
section
variable {X : Cx} {pins : List (Addr × Obj)} {σ : L2.St} {H : Hp} {s : Shared}
/-- a closure just laid is tracked -/
theorem clo_laid {g : Heap} {tk : Nat} {o : Obj} {H1 : Hp} (I : Inv X pins σ H1 { s with heap := g, toks := tk }) (ho : o.isFreed = false := by rfl) : Inv X pins σ (upd H1 g.objs.size (.frz o (.own 0))) { s with heap := g.push o, toks := tk } :=
  I.laid (s := { s with heap := g, toks := tk }) (t' := tk) (h' := g.push o) (a := g.objs.size) (fun _ _ e => Heap.get?_push_of_some _ e) (Nat.le_refl _) ⟨Heap.get?_push_size _ ho, _, Heap.get?_push_size _ ho⟩
theorem lam_made {L : List (Addr × Str)} {c P : Addr} {pa : Arguments} {body : Expr} {sc : Scope} {pos : Pos} {E : Value → Shared → Prop} {Q : Value → Shared → Prop} (I : Inv X pins σ H s) (TB : LamX.TabB X.base X.mg c P) (hcode : X.env.code = .ref c)
    (hm : (P, X.env.qual ++ "<lambda>") ∈ L) (hu : ∀ p ∈ L, p.1 = P → p.2 = X.env.qual ++ "<lambda>") (hT : LamX.Tabs L H) (hdef : defaultsOf pa X.env = ([], [])) (hfree : ∀ y ∈ sc.names, y.2 = .free → ∃ c, X.env.cells.lookup y.1 = some c)
    (h : ∀ (f c' : Addr) (pm ct : Value) (H2 : Hp) (s' : Shared), Inv X pins σ H2 s' → (∀ a o, H a = some o → isT o = false → H2 a = some o) → (∀ a o, H a = some o → ∃ o', H2 a = some o') → LamX.Tabs L H2 →
      H2 f = some (.frz (PySem.W.kla_obj "<lambda>" (X.env.qual ++ "<lambda>") pa body sc (cloFrom X.env.cells sc.names []) pm c' ct) (.own 0)) → H2 c' = some (LamX.CodeO c' (X.env.qual ++ "<lambda>")) → Q (.ref f) s') :
    wpAny (model X.prog X.w) X.A (eval (.Lambda pa body sc pos) X.env) Q E s := by
  obtain ⟨ps, tP, tri, known⟩ := hT _ hm
  have atP : s.heap.get? P = some { cls := .none, data := .fields ps } := I.hok P _ tP
  have blt : s.heap.BuiltinsAt X.mg P := TB.bm.keeps I.bk
  have gl : s.heap.Ns mainGlobals X.mg := I.mod.glob.keeps I.bk
  have cd := TB.code.keeps I.bk
  refine PySem.W.kla_eval hdef ?_
  rcases hq : codeAmong pos ps.toList with _ | cv
  · refine PySem.W.kla_makeFunction (mg := X.mg) (c := c) (P := P) (ps := ps) (closure_ok hfree) I.ok.glob gl hcode cd atP tri hq TB.gP blt fun c' ct g tk but ge lt rec' tb => ?_
    obtain ⟨_, oc, vs, t, e0, e1, e2, e3⟩ := rec'
    cases e0
    have nc : H c' = none := I.hok.fresh ge
    have big : s.heap.objs.size ≤ g.objs.size := Nat.le_trans ge (Nat.le_of_lt lt)
    have nf : H g.objs.size = none := I.hok.fresh big
    have I1 := LamX.inv_table (t' := tk) (q := X.env.qual ++ "<lambda>") (more := #[rawInt pos.line, rawInt pos.col, .ref c']) (h' := g) I tP (fun b o hb e => but b o hb e) tb ge ⟨oc, vs, t, e1, e2, e3⟩
    have fP : g.objs.size ≠ P := Nat.ne_of_gt (Nat.lt_of_lt_of_le (Heap.lt_size atP) big)
    have fc : g.objs.size ≠ c' := Nat.ne_of_gt lt
    have I2 := clo_laid (o := PySem.W.kla_obj "<lambda>" (X.env.qual ++ "<lambda>") pa body sc (cloFrom X.env.cells sc.names []) ((X.mg "__name__").getD .none) c' ct) I1
    have cP : c' ≠ P := fun z => by rw [z, tP] at nc; cases nc
    have stay : ∀ a o, H a = some o → a ≠ P → upd (upd (upd H P (.tbl (ps ++ #[rawInt pos.line, rawInt pos.col, .ref c']))) c' (LamX.CodeO c' (X.env.qual ++ "<lambda>"))) g.objs.size (.frz (PySem.W.kla_obj "<lambda>" (X.env.qual ++ "<lambda>") pa body sc (cloFrom X.env.cells sc.names []) ((X.mg "__name__").getD .none) c' ct) (.own 0)) a = some o := fun a o e hP => by
      rw [upd_ne (ne_of_none e nf), upd_ne (ne_of_none e nc), upd_ne hP]; exact e
    have eL : (ps ++ #[rawInt pos.line, rawInt pos.col, .ref c']).toList = ps.toList ++ [rawInt pos.line, rawInt pos.col, .ref c'] := by simp
    refine h g.objs.size c' _ ct _ _ I2 (fun a o e ht => stay a o e fun z => ?_) (fun a o e => ?_) (fun p hp => ?_) upd_same ((upd_ne (Ne.symm fc)).trans upd_same)
    · rw [z, tP] at e; cases e; cases ht
    · by_cases z : a = P
      · rw [z]; exact ⟨_, by rw [upd_ne (Ne.symm fP), upd_ne (Ne.symm cP), upd_same]⟩
      · exact ⟨o, stay a o e z⟩
    · by_cases hp1 : p.1 = P
      · rw [hu p hp hp1, hp1]
        refine ⟨_, by rw [upd_ne (Ne.symm fP), upd_ne (Ne.symm cP), upd_same], by rw [eL]; exact PySem.TriplesOk_snoc _ _ _ _ tri, fun p' w hw => ?_⟩
        rw [eL] at hw
        rcases LamX.among_app _ tri hw with z | z
        · obtain ⟨c0, z1, z2⟩ := known p' w z
          exact ⟨c0, z1, stay _ _ z2 fun y => by rw [y, tP] at z2; exact absurd (Option.some.inj z2).symm (LamX.codeO_ne _)⟩
        · exact ⟨c', z, (upd_ne (Ne.symm fc)).trans upd_same⟩
      · obtain ⟨ps', a1, a2, a3⟩ := hT p hp
        refine ⟨ps', stay _ _ a1 hp1, a2, fun p' w hw => ?_⟩
        obtain ⟨c0, z1, z2⟩ := a3 p' w hw
        exact ⟨c0, z1, stay _ _ z2 fun y => by rw [y, tP] at z2; exact absurd (Option.some.inj z2).symm (LamX.codeO_ne _)⟩
  · obtain ⟨c', rfl, hco⟩ := known pos cv hq
    refine PySem.W.kla_makeFunctionHit (mg := X.mg) (c := c) (P := P) (ps := ps) (closure_ok hfree) I.ok.glob gl hcode cd atP tri hq blt fun ct g tk all big => ?_
    have nf : H g.objs.size = none := I.hok.fresh big
    have I1 : Inv X pins σ H { s with heap := g, toks := tk } := I.kept all
    have I2 := clo_laid (o := PySem.W.kla_obj "<lambda>" (X.env.qual ++ "<lambda>") pa body sc (cloFrom X.env.cells sc.names []) ((X.mg "__name__").getD .none) c' ct) I1
    have stay : ∀ a o, H a = some o → upd H g.objs.size (.frz (PySem.W.kla_obj "<lambda>" (X.env.qual ++ "<lambda>") pa body sc (cloFrom X.env.cells sc.names []) ((X.mg "__name__").getD .none) c' ct) (.own 0)) a = some o := fun a o e => by rw [upd_ne (ne_of_none e nf)]; exact e
    exact h g.objs.size c' _ ct _ _ I2 (fun a o e _ => stay a o e) (fun a o e => ⟨o, stay a o e⟩) (hT.ext stay) upd_same (stay _ _ hco)
end
/-- the frame whose cells T.cl n tells, or a block in it -/
structure MkOk (X : Cx) (T : Tb) (n : Nat) (c P : Addr) (cl : List (Str × Addr)) (pa : Arguments) (body : Expr) (sc : Scope) (pos : Pos) : Prop where
  tb : LamX.TabB X.base X.mg c P
  code : X.env.code = .ref c
  mem : (P, X.env.qual ++ "<lambda>") ∈ T.tabs
  uni : ∀ p ∈ T.tabs, p.1 = P → p.2 = X.env.qual ++ "<lambda>"
  big : 1000 ≤ n
  lam : T.lam n = .Lambda pa body sc pos
  hcl : T.cl n = some cl
  free : ∀ y ∈ sc.names, y.2 = .free → ∃ c, X.env.cells.lookup y.1 = some c ∧ cl.lookup y.1 = some c
theorem ge_lam {X : Cx} {T : Tb} {E : XE} {n : Nat} {c P : Addr} {cl : List (Str × Addr)} {pa : Arguments} {body : Expr} {sc : Scope} {pos : Pos} (M : MkOk X T n c P cl pa body sc pos) (hdef : defaultsOf pa X.env = ([], [])) : PE X (.Lambda pa body sc pos) (tE T E (cC (.fn n))) := by
  refine ⟨fun pins s σ H Q I h => ?_⟩
  obtain ⟨ι, A, ρ, at0, q⟩ := h
  refine lam_made (L := T.tabs) I M.tb M.code M.mem M.uni at0.wd.x.tab hdef (fun y hy e => ?_) fun f c' pm ct H2 s' I2 keep dom tabs hf hc => ?_
  · obtain ⟨c, h1, _⟩ := M.free y hy e
    exact ⟨c, h1⟩
  · have ex : Ext ι H ι H2 := ⟨⟨[], by simp, by simp⟩, fun a o e t _ => keep a o e t, dom⟩
    have w2 : Wd T ι A H2 := by
      refine ⟨at0.wd.len, at0.wd.nd, fun j k xs a e1 e2 => ?_, at0.wd.x.ext ex tabs⟩
      obtain ⟨o, vs, z1, z2, z3⟩ := at0.wd.cel j k xs a e1 e2
      exact ⟨o, vs, keep a o z1 z2.nt, z2, Rps.mono ex _ _ _ z3 (by simp)⟩
    exact ⟨.ref f, H2, I2, rfl, q ι H2 (.ref f) [] ⟨w2, ex, fun _ _ z => z⟩ (.fn (.inr ⟨M.big, f, c', _, pa, body, sc, pos, X.env.cells, cl, pm, ct, rfl, M.hcl, M.lam, M.free, hf, hc⟩)) .nil⟩
end Ab

set_option Elab.async false
set_option linter.all false
set_option maxRecDepth 100000
set_option maxHeartbeats 2000000
set_option autoImplicit false
/-! Ab26: a closure is called. -/
namespace Ab
open PySem PySem.Spec PyProof.Rows L2
/-- captured names, their values, what their cells hold -/
inductive Caps (T : Tb) (cl : List (Str × Addr)) (s : Shared) (H : Hp) : List Str → List Vl → List V → Prop
  | nil : Caps T cl s H [] [] []
  | cons {y : Str} {c : Addr} {u : Value} {v : V} {d : Vl} {nm : List Str} {ds : List Vl} {cs : List V} : cl.lookup y = some c → s.heap.IsCell c (some u) → RelV v u → H c = none → (v, d) ∈ T.fix → Caps T cl s H nm ds cs → Caps T cl s H (y :: nm) (d :: ds) (v :: cs)
section
variable {T : Tb} {cl : List (Str × Addr)} {s s' : Shared} {H H' : Hp} {nm : List Str} {ds : List Vl} {cs : List V}
theorem Caps.len (h : Caps T cl s H nm ds cs) : cs.length = nm.length ∧ ds.length = nm.length := by
  induction h with
  | nil => exact ⟨rfl, rfl⟩
  | cons _ _ _ _ _ _ ih => simp [ih.1, ih.2]
theorem Caps.rps {ι : List Addr} {A : AH} (w : Wd T ι A H) (h : Caps T cl s H' nm ds cs) : Rps T ι H cs ds [] := by
  induction h with
  | nil => exact .nil
  | cons _ _ _ _ hf _ ih => exact .cons (fp := []) (fq := []) (w.x.fix _ hf) ih
theorem Caps.get (h : Caps T cl s H nm ds cs) : ∀ (j : Nat) (y : Str), nm[j]? = some y → ∃ c u v, cs[j]? = some v ∧ cl.lookup y = some c ∧ s.heap.IsCell c (some u) ∧ RelV v u ∧ H c = none := by
  induction h with
  | nil => intro j y e; simp at e
  | @cons y0 c u v d nm ds cs h1 h2 h3 h4 h5 h6 ih =>
    intro j y e
    cases j with
    | zero => simp at e; subst e; exact ⟨c, u, v, rfl, h1, h2, h3, h4⟩
    | succ j => exact ih j y (by simpa using e)
theorem Caps.next {fs : List Addr} (h : Caps T cl s H nm ds cs) (un : Un fs [] H H' s.heap s'.heap) : Caps T cl s' H' nm ds cs := by
  induction h with
  | nil => exact .nil
  | cons h1 h2 h3 h4 h5 h6 ih =>
    obtain ⟨o, ho, hd⟩ := h2
    obtain ⟨sl, e⟩ := un.any ho h4 (by simp)
    exact .cons h1 ⟨_, e, hd⟩ h3 (un.free _ o ho h4 (by simp)) h5 ih
end
/-- a lambda's names -/
structure LamSc (N ps nm : List Str) (sc : Scope) : Prop where
  kind : sc.kind = .function
  co : sc.isCoroutine = false
  gen : sc.isGenerator = false
  eq : N = ps ++ nm
  nd : N.Nodup
  par : ∀ x ∈ ps, sc.names.lookup x = some .local
  cap : ∀ x ∈ nm, sc.names.lookup x = some .free
  own : ∀ y ∈ sc.names, y.2 ≠ .cell
  fre : ∀ y ∈ sc.names, y.2 = .free → y.1 ∈ nm
def lamX (CX : CXT) (P : Program) (w : World) (K : PySem.W.Frag) (mg : Str → Option Value) (base : Heap) (N : List Str) (q : Str) (sc : Scope) (f c' : Addr) (cl : List (Str × Addr)) (A : Around) (outer : List Env) (s : Shared) (H : Hp) (E : XK) : Cx :=
  let env := PySem.W.envX q sc s.heap.objs.size f (.ref c') cl
  { prog := P, w := w, K := K, mg := mg, base := base, A := A.deeper env, N := N, s_0 := s, H_0 := H, env := env, outer := outer, stack := env :: outer, ex := [], fn := fun _ => false, calm := true, pn := [],
    xe := fun e s' => wpAny (model P w) (A.deeper env) (leaving env e) (fun _ s'' => CX outer H s E e s'') (fun e' s'' => CX outer H s E e' s'') s' }
theorem rev_lookup {α : Type} {x : Str} {a : α} : ∀ {l : List (Str × α)}, (l.map (·.1)).Nodup → (x, a) ∈ l → l.reverse.lookup x = some a := fun {l} nd h => by
  have nd2 : (l.reverse.map (·.1)).Nodup := by rw [List.map_reverse]; exact (List.reverse_perm _).symm.nodup nd
  have h2 : (x, a) ∈ l.reverse := List.mem_reverse.mpr h
  generalize l.reverse = r at nd2 h2
  induction r with
  | nil => cases h2
  | cons p r ih =>
    obtain ⟨y, b⟩ := p
    rw [List.map_cons, List.nodup_cons] at nd2
    rw [List.lookup_cons]
    rcases List.mem_cons.mp h2 with e | e
    · cases e; simp
    · have hne : (x == y) = false := by
        rw [beq_eq_false_iff_ne]
        intro z
        subst z
        exact nd2.1 (List.mem_map.mpr ⟨_, e, rfl⟩)
      rw [hne]
      exact ih nd2.2 e
section
variable {CX : CXT} {P : Program} {w : World} {K : PySem.W.Frag} {mg : Str → Option Value} {base : Heap} {N ps nm : List Str} {sc : Scope} {A : Around} {outer : List Env} {s : Shared} {H : Hp} {E : XK} {T : Tb} {cl : List (Str × Addr)} {ds : List Vl} {cs vs : List V} {us : List Value} {g : Addr}
theorem inv_lam {q : Str} {c' : Addr} {cells : List (Str × Addr)} {h₁ : Heap} {tk : Nat} (S : LamSc N ps nm sc) (hd : A.handled = none) (e0 : Env0 P w K mg base A outer s H) (hfr : ∀ y ∈ sc.names, y.2 = .free → ∃ c, cells.lookup y.1 = some c ∧ cl.lookup y.1 = some c) (hinj : ∀ x y c, cl.lookup x = some c → cl.lookup y = some c → x = y)
    (hcap : Caps T cl s H nm ds cs) (r : Vals vs us) (hl : vs.length = ps.length) (hns : h₁.Ns s.heap.objs.size fun y => (ps.zip us).reverse.lookup y) (kp : ∀ b o, s.heap.get? b = some o → h₁.get? b = some o) :
    Inv (lamX CX P w K mg base N q sc g c' (cloFrom cells sc.names []) A outer s H E) [] (start N (vs ++ cs)) H { s with heap := h₁, toks := tk } := by
  have cm : ∀ {y c}, (cloFrom cells sc.names []).lookup y = some c → cl.lookup y = some c ∧ y ∈ nm := fun {y c} e => by
    rcases cloFrom_mem (PySem.mem_of_lookup e) with z | ⟨h1, h2⟩
    · cases z
    · obtain ⟨c1, z1, z2⟩ := hfr _ h1 rfl
      rw [show cells.lookup y = some c1 from z1] at h2
      cases h2
      exact ⟨z2, S.fre _ h1 rfl⟩
  have look : ∀ {y}, sc.names.lookup y = some .free → ∃ c, (cloFrom cells sc.names []).lookup y = some c := fun {y} e => mem_lookup (cloFrom_has (cells := cells) (acc := []) (PySem.mem_of_lookup e))
  have cellAt : ∀ {y c}, (cloFrom cells sc.names []).lookup y = some c → ∃ j u v, nm[j]? = some y ∧ cs[j]? = some v ∧ s.heap.IsCell c (some u) ∧ RelV v u ∧ H c = none := fun {y c} e => by
    obtain ⟨z1, z2⟩ := cm e
    obtain ⟨j, hj⟩ := List.mem_iff_getElem?.mp z2
    obtain ⟨c2, u, v, k1, k2, k3, k4, k5⟩ := hcap.get j y hj
    rw [z1] at k2
    cases k2
    exact ⟨j, u, v, hj, k1, k3, k4, k5⟩
  have up : ∀ {c : Addr} {u : Option Value}, s.heap.IsCell c u → h₁.IsCell c u := fun {c u} ⟨o, ho, hdt⟩ => ⟨o, kp _ _ ho, hdt⟩
  have noA : ∀ b : Addr, b ∉ (lamX CX P w K mg base N q sc g c' (cloFrom cells sc.names []) A outer s H E).ex := fun b z => absurd (show b ∈ ([] : List Addr) from z) (by simp)
  have hlN : N.length = vs.length + cs.length := by rw [S.eq, List.length_append, hl, hcap.len.1]
  refine ⟨⟨e0.mod, S.kind, rfl, rfl, Nat.le_refl _, fun y z c e1 e2 => hinj y z c (cm e1).1 (cm e2).1, fun y hy => ?_, fun y c z _ => ?_, fun _ => hd, Around.frames_deeper e0.frames, .inr ⟨rfl, rfl⟩, fun b z => absurd z (noA b), e0.bs, e0.bsz, fun b _ _ => noA b, fun b z => absurd z (noA b), e0.funs, e0.frf⟩,
    rfl, e0.bare, Un.kept kp, ⟨_, hns, fun i y v e1 e2 e3 => ?_⟩, fun y c e => ?_, e0.hok.fresh (Nat.le_refl _), fun y c e => ?_, fun p hp => absurd (show p ∈ ([] : List (Addr × Obj)) from hp) (by simp), e0.hok.kept kp, ?_⟩
  · have hy : sc.names.lookup y = some .cell ∨ sc.names.lookup y = some .free := hy
    rcases hy with hy | hy
    · exact absurd rfl (S.own _ (PySem.mem_of_lookup hy))
    · exact look hy
  · have z : false = true := z
    cases z
  · have e1 : N[i]? = some y := e1
    have e3 : Vis sc y := e3
    have e2 : (vs ++ cs)[i]? = some v := by
      unfold L2.start at e2
      by_cases hi : i < (vs ++ cs).length
      · rw [List.getElem?_append_left (by simpa using hi), List.getElem?_map] at e2
        cases hq : (vs ++ cs)[i]? with
        | none => rw [hq] at e2; cases e2
        | some x => rw [hq] at e2; cases e2; rfl
      · rw [List.getElem?_append_right (by simpa using hi), List.getElem?_replicate] at e2
        split at e2 <;> cases e2
    by_cases hi : i < vs.length
    · rw [List.getElem?_append_left hi] at e2
      have e1 : ps[i]? = some y := by
        rw [S.eq, List.getElem?_append_left (by omega)] at e1; exact e1
      obtain ⟨u, hu, rv⟩ := r.get e2
      refine ⟨u, rv, .inl ⟨S.par y (List.mem_of_getElem? e1), ?_⟩⟩
      have ndp : ps.Nodup := by have := S.nd; rw [S.eq, List.nodup_append] at this; exact this.1
      have hlu : us.length = ps.length := by rw [← r.length]; exact hl
      refine rev_lookup (by rw [List.map_fst_zip (by omega)]; exact ndp) ?_
      rw [List.mem_iff_getElem?]
      exact ⟨i, by rw [List.getElem?_zip_eq_some]; exact ⟨e1, hu⟩⟩
    · rw [List.getElem?_append_right (by omega)] at e2
      have e1 : nm[i - vs.length]? = some y := by
        rw [S.eq, List.getElem?_append_right (by omega), ← hl] at e1; exact e1
      have hf := S.cap y (List.mem_of_getElem? e1)
      obtain ⟨c2, hc2⟩ := look hf
      obtain ⟨c3, u, v2, k1, k2, k3, k4, k5⟩ := hcap.get _ y e1
      rw [e2] at k1
      cases k1
      have := (cm hc2).1
      rw [k2] at this
      cases this
      exact ⟨u, k4, .inr ⟨.inr hf, _, hc2, up k3⟩⟩
  · obtain ⟨j, u, v, _, _, z, _⟩ := cellAt e
    exact ⟨_, up z⟩
  · obtain ⟨j, u, v, _, _, _, _, z⟩ := cellAt e
    exact z
  · unfold L2.start
    show _ = N.length
    rw [List.length_append, List.length_map, List.length_replicate, List.length_append]
    omega
theorem lam_run {n k : Nat} {pa : Arguments} {body : Expr} {pos : Pos} {Q : VK} (hr : Room (k + 1) A) (e0 : Env0 P w K mg base A outer s H) (hv : LamV T H n (.ref g)) (hlam : T.lam n = .Lambda pa body sc pos) (hcl : T.cl n = some cl) (hinj : ∀ x y c, cl.lookup x = some c → cl.lookup y = some c → x = y) (hcap : Caps T cl s H nm ds cs) (r : Vals vs us) (hl : vs.length = ps.length) (S : LamSc N ps nm sc)
    (hbind : ∀ (q : Str) (cl : List (Str × Addr)) (pm cv ct : Value) (us : List Value), us.length = ps.length → bindArgs (PySem.W.kla_fn "<lambda>" q pa body sc cl pm cv ct) ⟨us, []⟩ = pure (ps.zip us))
    (hbody : ∀ (q : Str) (c' : Addr) (cl' : List (Str × Addr)), Room k (A.deeper (PySem.W.envX q sc s.heap.objs.size g (.ref c') cl')) → ∃ t, PE (lamX CX P w K mg base N q sc g c' cl' A outer s H E) body t ∧ t (start N (vs ++ cs)) H Q) :
    codeAny (model P w) A (.call (.ref g) ⟨us, []⟩) (CR CX outer P w H s Q E) s := by
  obtain ⟨f, c', q, pa', body', sc', pos', cells, cl2, pm, ct, ef, z2, z3, hfr, hf, hc⟩ := hv
  cases ef
  rw [hlam] at z3
  cases z3
  rw [hcl] at z2
  cases z2
  have og := (e0.hok _ _ hf).1
  obtain ⟨⟨oc, fs, t, hoc, hdc, hvc⟩, _, _⟩ := e0.hok c' _ hc
  have lim : s.heap.NoLimit := e0.mod.nolimit.keeps fun b o e => (e0.bs b o e).1
  have hlu : us.length = ps.length := by rw [← r.length]; exact hl
  refine PySem.W.kla_callFunE hr.depth og rfl S.co S.gen rfl ⟨c', oc, fs, t, rfl, hoc, hdc, hvc⟩ ?_
  rw [hbind _ _ _ _ _ us hlu]
  refine wpAny_pure (wpAny_newFunctionEnv S.own (fun y hy => S.par y.1 (List.of_mem_zip hy).1) (fun h₁ hns hsb => ⟨lim.fresh _ hsb, ?_⟩) S.kind)
  show codeAny _ _ (.expr body (PySem.W.envX q sc s.heap.objs.size g (.ref c') (cloFrom cells sc.names []))) _ _
  have kp : ∀ b o, s.heap.get? b = some o → h₁.get? b = some o := fun b o e => hsb.extBut b o (Nat.ne_of_lt (Heap.lt_size e)) (Heap.get?_push_of_some _ e)
  obtain ⟨t, ht, hq⟩ := hbody q c' (cloFrom cells sc.names []) (hr.deeper _)
  have J : Inv (lamX CX P w K mg base N q sc g c' (cloFrom cells sc.names []) A outer s H E) [] (start N (vs ++ cs)) H { s with heap := h₁, toks := s.toks + (ps.zip us).length } := inv_lam S hr.hd e0 hfr hinj hcap r hl hns kp
  refine PySem.W.kla_codeExpr (wpAny_mono (ht.run [] _ _ H Q J hq) (fun v s' hz => ?_) fun e s' hz => hz)
  obtain ⟨w', H', J', rv, z⟩ := hz
  exact ⟨w', H', J'.os, J'.bare, J'.base, J'.hok, rv, z⟩
end
end Ab

set_option Elab.async false
set_option linter.all false
set_option maxRecDepth 100000
set_option maxHeartbeats 2000000
set_option autoImplicit false
/-! Ab23: defs as values; a handled exception handed to a def. -/
namespace Ab
open PySem PySem.Spec PyProof.Rows L2 L2H
/-! ### defs as values -/
theorem ge_fn {X : Cx} {T : Tb} {E : XE} {x : Str} {n : Nat} {pos : Pos} (hn : n < 1000) (hg : Gl X x) (hm : X.mg x = some (.ref (T.fa n))) (hd : (x == ("__debug__" : Str)) = false := by decide) : PE X (.Name x pos) (tE T E (cC (.fn n))) :=
  ge_c (v := .ref (T.fa n)) (pe_glob hg hm rfl hd) fun _ _ => .fn (.inl ⟨hn, rfl⟩)
theorem PE.by {X : Cx} {e : Expr} {t : TE} (h : ∀ σ H Q, t σ H Q → ∃ t', PE X e t' ∧ t' σ H Q) : PE X e t := ⟨fun pins s σ H Q I q => by
  obtain ⟨t', p, z⟩ := h σ H Q q
  exact p.run pins s σ H Q I z⟩
theorem PS.by {X : Cx} {st : Stmt} {t : TS} (h : ∀ D σ H, t D σ H → ∃ t', PS X st t' ∧ t' D σ H) : PS X st t := ⟨fun pins s σ H D I q => by
  obtain ⟨t', p, z⟩ := h D σ H q
  exact p.run pins s σ H D I z⟩
/-- a def that a local holds is called -/
def cCallV (v : Nat) (ok : Nat → Bool) (R : Nat → Fn) (cs : CA) : CE := fun ρ A => match ρ.s[v]? with
  | some (some (.fn n)) => if ok n = true then (cs ρ A).bind fun ds A1 => callF (R n) ds A1 else .bad
  | _ => .bad
/-! ### try: v(..), except X as n: a truth is returned -/
def cTryV (i m v : Nat) (ok : Nat → Bool) (res : Nat → List (Option Vl) → Option Vl) (R : Nat → Fn) (cs : CA) : CS := fun ρ A => match ρ.s[v]? with
  | some (some (.fn n)) => if ok n = true then (match cs ρ A with
    | .ok ds A1 => (match callF (R n) ds A1 with
      | .ok _ A2 => .nx ρ.s A2
      | .exc k A2 => (match res k ρ.s with
        | some d => if i < m ∧ ρ.s.length = m then .rt d A2 else .bad
        | none => .bad)
      | .bad => .bad)
    | _ => .bad) else .bad
  | _ => .bad
def tsV (T : Tb) (i m : Nat) (res : Nat → List (Option Vl) → Option Vl) (a : Addr) (cls : Value) (d : Option Addr) : TS := fun D σ H => ∃ (k : Nat) (dv : Vl) (u : V) (s : List (Option Vl)), cls = .ref (T.C (k + 10)) ∧ d = none ∧ σ.length = m ∧ σ[i]? = some (some (.ref a)) ∧ res k s = some dv ∧ sc dv = some u ∧
  (∀ j dj uj, j ≠ i → s[j]? = some (some dj) → sc dj = some uj → σ[j]? = some (some uj)) ∧ ∀ H', Grow H H' → D.rt u H'
/-! ### the handled exception handed to a def -/
section
variable {X : Cx} {pe : Addr × Obj} {x : Str} {st : Stmt} {f : Addr} {fd : FuncData} {N ps : List Str} {k : Nat} {sp : List V → Hp → VK → Prop} {e : Expr} {es : List Expr} {ta : TA} {q pos : Pos}
theorem pe_callHS (hot : Hot1 X.A pe) (hp : pe ∈ X.pn) (F : Fun X.K x x st f fd) (S : FnScope N ps (defScope st)) (len : ∀ vs H Q, sp vs H Q → vs.length = ps.length) (hb : Binds X.K fd ps []) (hr : RoomH (k + 1) X.A) (hg : Gl X x) (hm : X.mg x = some (.ref f))
    (hbody : ∀ (cdv : Value) (A : Around) (outer : List Env) (s : Shared) (H : Hp) (vs : List V) (Q : VK), Hot1 A pe → RoomH k (A.deeper (envOfC x (defScope st) s.heap.objs.size f cdv)) → sp vs H Q → ∃ t, PSs (cxH CX0 X.prog X.w X.K X.mg X.base N x (defScope st) f cdv A outer s H (fun _ _ _ => False) pe) (defBody st) t ∧ t { nx := fun _ H' => Q .non H', rt := Q } (start N vs) H)
    (ha : PA X (e :: es) ta) (hdb : (x == ("__debug__" : Str)) = false := by decide) (he : starEach (e :: es) X.env = (false, eval e X.env) :: starEach es X.env := by rfl) (hpl : (backTo pos (starEach es X.env)).any (·.1) = false := by rfl) :
    PE X (.Call (.Name x q) (e :: es) [] pos) (fun σ H Q => ta σ H fun vs H1 => sp vs H1 Q) := by
  obtain ⟨oc, od, kV, doc, pm, an, cdv, ct, osl, rfl, lk, hcd⟩ := F.ex
  have G : ∀ (s0 : Shared) (H0 : Hp) (pins0 : List (Addr × Obj)) (σ0 : L2.St) (us : List Value) (vs : List V) (Q : VK), Inv X pins0 σ0 H0 s0 → Vals vs us → sp vs H0 Q → wpAny (model X.prog X.w) X.A (call (.ref f) us) (EP X pins0 σ0 Q) X.xe s0 := by
    intro s0 H0 pins0 σ0 us vs Q I0 rv hsp
    have hl := len _ _ _ hsp
    have lu : us.length = ps.length := by rw [← rv.length]; exact hl
    have bt := hb s0 us I0.kIn (by rw [List.append_nil]; exact lu)
    rw [List.append_nil] at bt
    have P1 := I0.pin pe (List.mem_append_left _ hp)
    have pin0 : PinOk X.stack H0 s0 pe := ⟨P1.1, P1.2.1, fun hm => (List.mem_cons.mp (I0.stkSub pe.1 hm)).elim P1.2.2.1 P1.2.2.2.1, P1.2.2.2.2⟩
    have one : FnH X.prog X.w X.K X.mg X.base CX0 (k + 1) f (PySem.W.fnOf x x (defArgs st) (defBody st) (defScope st) .none kV doc pm an cdv ct) ps (fun vs H Q _ => False) := fn_ofH lk hcd S (fun _ _ _ _ z => z.elim) fun _ _ _ _ _ _ _ _ _ _ z => z.elim
    have kinds : ∀ y ∈ ps.zip us, (defScope st).names.lookup y.1 = some .local ∨ ((defScope st).names.lookup y.1 = some .cell ∧ ((cellsFrom (s0.heap.objs.size + 1) (defScope st).names []).lookup y.1).isSome = true) := fun y hy =>
      (S.par y.1 (List.of_mem_zip hy).1).imp id fun z => ⟨z, PySem.W.cellsFrom_some _ _ _ (.inl z)⟩
    refine wpAny_call (codeAny_call_function hr.depth (I0.kIn _ _ lk) rfl S.co S.gen rfl (PySem.W.codeRec_of I0.kIn hcd) (bt _ _ _ _ (wpAny_newFunctionEnv_cells S.kind kinds fun env he1 s1 x1 => ?_)))
    subst he1
    refine ⟨I0.nolimit.keeps x1.toInCall.keep, codeAny_func ?_⟩
    obtain ⟨t, ht, hq⟩ := hbody cdv X.A X.stack s0 H0 vs Q hot (hr.deeper _) hsp
    have J1 : Inv (cxH CX0 X.prog X.w X.K X.mg X.base N x (defScope st) f cdv X.A X.stack s0 H0 (fun _ _ _ => False) pe) [] (start N vs) H0 s1 := inv_startH S pin0 I0.env0 hl rv x1
    refine wpAny_mono (ht.run [] s1 (start N vs) H0 _ J1 hq) (fun fl s2 done => ?_) fun ex s2 bad => ?_
    · cases fl with
      | ret u =>
        obtain ⟨y, σ2, H2, J2, r2, q2⟩ := done
        exact I0.after ⟨y, H2, J2.os, J2.bare, J2.base, J2.hok, r2, q2⟩
      | next =>
        obtain ⟨σ2, H2, J2, q2⟩ := done
        exact I0.after (u := .none) ⟨.non, H2, J2.os, J2.bare, J2.base, J2.hok, rfl, q2⟩
      | brk =>
        obtain ⟨_, _, _, z⟩ := done
        exact z.elim
      | cont =>
        obtain ⟨_, _, _, z⟩ := done
        exact z.elim
    · exact wpAny_mono (show wpAny _ _ _ _ _ _ from bad) (fun _ _ z => False.elim z) fun _ _ z => False.elim z
  refine ⟨fun pins s σ H Q I wish => ?_⟩
  refine wpAny_Call_Name_kw (ld_glob I hg hm ?_ hdb)
  exact PySem.W.callWith_K (h₀ := X.base) I.ok.mod.kin F.kp (thn (ha.run pos pins s σ H _ I wish) fun us s1 ⟨vs, H1, I1, r, q⟩ => ⟨I1.kIn, G s1 H1 pins σ us vs Q I1 r q⟩) he hpl
end
end Ab
namespace Ab
open PySem PySem.Spec PyProof.Rows L2 L2H
/-- isinstance of a pinned exception -/
theorem call_isP {X : Cx} {a D : Addr} {oe : Obj} (C : ExcC X.K D) (hp : (a, oe) ∈ X.pn) (hz : Zc (.ref D) none oe) (hf : ∃ vs, oe.data = .fields vs) : CallR X (.builtin "isinstance") (rIsE X.K D a) := by
  rintro pins s σ H xs us Q I r ⟨c, cv, b, rfl, only, kit, q⟩
  obtain ⟨vs, hv⟩ := hf
  have there := (I.pin (a, oe) (List.mem_append_left _ hp)).1
  have inst : PySem.W.InstAt s.heap a oe D none := by
    rcases oe with ⟨o1, o2, o3, o4⟩
    rcases hz with ⟨z1, z2⟩
    dsimp only at z1 z2 hv
    subst z1 z2 hv
    exact ⟨there, rfl, rfl, trivial⟩
  rcases r with _ | ⟨r1, _ | ⟨r2, _ | _⟩⟩
  cases r1
  obtain rfl := only _ r2
  exact PySem.W.kia_one (PySem.W.handS_kitx_exc C.hg C.hk C.hs C.hd C.ha C.hn C.ht C.hm) I.kIn inst kit (fun z => nomatch z) fun tk => ⟨.bl b, H, I.kept (t' := tk) fun _ _ z => z, rfl, q⟩
theorem pe_errP {X : Cx} {a D C : Addr} {oe : Obj} {i : Nat} {n x : Str} {b : Bool} {p q q2 pos : Pos} (hE : ExcC X.K D) (hp : (a, oe) ∈ X.pn) (hz : Zc (.ref D) none oe) (hf : ∃ vs, oe.data = .fields vs) (hv : PE X (.Name n q) (tVar i)) (hgI : Gl X "isinstance") (hmI : X.mg "isinstance" = none) (hgx : Gl X x) (hmx : X.mg x = some (.ref C)) (hdb : (x == ("__debug__" : Str)) = false)
    (hk : PySem.W.kitOne X.K (.ref D) (.ref C) = some b) (hbt : bootBuiltins "isinstance" = some (.builtin "isinstance")) (hs : starEach [.Name n q, .Name x q2] X.env = (false, eval (.Name n q) X.env) :: starEach [.Name x q2] X.env := by rfl) : PE X (.Call (.Name "isinstance" p) [.Name n q, .Name x q2] [] pos) (tK i a b) := by
  refine PE.imp (pe_callB (call_isP hE hp hz hf) hgI hmI hbt (pa_cons hv (pa_cons (pe_glob (v := .ref C) hgx hmx rfl hdb) pa_nil) hs) (by decide) (by decide) hs) fun σ H Q h => ?_
  obtain ⟨h1, h2⟩ := h
  exact ⟨.ref a, h1, .ref C, .ref C, b, rfl, fun u r => by cases r; rfl, hk, h2⟩
end Ab
namespace Ab
open PySem PySem.Spec PyProof.Rows L2 L2H
theorem pe_errT {X : Cx} {a D : Addr} {oe : Obj} {i : Nat} {n x : Str} {ty : String} {b : Bool} {p q q2 pos : Pos} (hE : ExcC X.K D) (hp : (a, oe) ∈ X.pn) (hz : Zc (.ref D) none oe) (hf : ∃ vs, oe.data = .fields vs) (hv : PE X (.Name n q) (tVar i)) (hgI : Gl X "isinstance") (hmI : X.mg "isinstance" = none) (hgx : Gl X x) (hmx : X.mg x = none) (hbx : bootBuiltins x = some (.type ty)) (hn : x ≠ "__name__") (hdb : (x == ("__debug__" : Str)) = false)
    (hk : PySem.W.kitOne X.K (.ref D) (.type ty) = some b) (hbt : bootBuiltins "isinstance" = some (.builtin "isinstance")) (hs : starEach [.Name n q, .Name x q2] X.env = (false, eval (.Name n q) X.env) :: starEach [.Name x q2] X.env := by rfl) : PE X (.Call (.Name "isinstance" p) [.Name n q, .Name x q2] [] pos) (tK i a b) := by
  refine PE.imp (pe_callB (call_isP hE hp hz hf) hgI hmI hbt (pa_cons hv (pa_cons (pe_bltn (v := .ty ty) hgx hmx hbx rfl hn hdb) pa_nil) hs) (by decide) (by decide) hs) fun σ H Q h => ?_
  obtain ⟨h1, h2⟩ := h
  exact ⟨.ref a, h1, .ty ty, .type ty, b, rfl, fun u r => by cases r; rfl, hk, h2⟩
/-- [k == due for k in range(7)] : what comes -/
def isAt (due : Int) (n : Nat) : List V := (List.range n).map fun i : Nat => V.bl (decide ((i : Int) = due))
theorem isAt_succ (due : Int) (n : Nat) : isAt due (n + 1) = isAt due n ++ [V.bl (decide ((n : Int) = due))] := by
  unfold isAt
  rw [List.range_succ, List.map_append]
  rfl
/-- the reading of such a comprehension: slot j goes over the numbers, slot d holds due -/
theorem isAt_ok {σ : L2.St} {H : Hp} {Q : VK} {j d : Nat} {due : Int} {n : Nat} (hj : j < σ.length) (hjd : j ≠ d) (hd : σ[d]? = some (some (.int due))) (hn : n ≤ 1000) (h : ∀ D, H D = none → Q (.ref D) (upd H D (.lst (isAt due n)))) :
    tLc (iRng1 (tCons (tC (.int (n : Int))) tNil)) (gName j) tYes (tOp rEq (tVar j) (tVar d)) [j] σ H Q := by
  refine ⟨(n : Int), rfl, by omega, by omega, fun D hD => ⟨fun i m H' => i ≤ n ∧ m = n - i ∧ H' = upd H D (.lst (isAt due i)), ⟨n, Nat.zero_le _, rfl, rfl⟩, ?_⟩⟩
  rintro i m H' ⟨hi, rfl, rfl⟩
  by_cases he : i = n
  · subst he
    exact .inl ⟨by show (i : Int).toNat ≤ i; omega, h D hD⟩
  · refine .inr ⟨by show i < ((n : Int)).toNat; omega, fun H2 => H2 = upd H D (.lst (isAt due (i + 1))), fun H2 e => ⟨n - (i + 1), by omega, by omega, rfl, e⟩, ?_⟩
    rintro x H2 ⟨rfl, rfl⟩
    have len : (wipe σ [j]).length = σ.length := wipe_length σ [j]
    have w1 : wipe σ [j] = σ.set j none := rfl
    refine ⟨by rw [w1]; show ((σ.set j none).set j _).set j none = _; rw [List.set_set, List.set_set], ?_⟩
    unfold tYes
    simp only [if_true]
    refine ⟨.int (0 + (i : Int)), by rw [w1, List.set_set, List.getElem?_set_self hj], .int due, by rw [w1, List.set_set, List.getElem?_set_ne hjd]; exact hd, rfl, ?_⟩
    have hz : (isAt due i).length < sizeLine := by
      have h1 : 1000 < sizeLine := by decide +kernel
      have h2 : (isAt due i).length = i := by simp only [isAt, List.length_map, List.length_range]
      omega
    refine ⟨isAt due i, upd_same, hz, ?_⟩
    rw [isAt_succ]
    have e1 : decide (V.int (0 + (i : Int)) = V.int due) = decide ((i : Int) = due) := by
      rw [decide_eq_decide]
      constructor
      · intro z; have := V.int.inj z; omega
      · intro z; rw [Int.zero_add, z]
    rw [e1]
    funext b
    unfold upd
    split <;> rfl
end Ab
namespace Ab
open PySem PySem.Spec PyProof.Rows L2 L2H
theorem roomH_le {k j : Nat} {A : Around} (h : RoomH k A) (hj : j ≤ k) : RoomH j A := ⟨by have := h.dp; omega, by have := h.un; omega⟩
theorem live_pos {f : Nat → Nat → Fn} {k : Nat} (h0 : f 0 = fun _ _ _ => .bad) (h : ∃ n ds A, callF (f k n) ds A ≠ .bad) : 1 ≤ k := by
  cases k with
  | succ k => omega
  | zero =>
    obtain ⟨n, ds, A, h⟩ := h
    exact absurd (by unfold callF; rw [h0]; rfl) h
/-- the truths that are found, beside those that are due -/
theorem seven_eqv (e : Nat) (h1 : 1 ≤ e) (h7 : e ≤ 7) (due : Int) : (PyData.list ([1, 2, 3, 4, 5, 6, 7].map fun f => PyData.bool (decide (e = f)))).eqv (.list ((List.range 7).map fun i : Nat => PyData.bool (decide ((i : Int) = due)))) = decide (due = (e : Int) - 1) := by
  have key : ∀ c0 c1 c2 c3 c4 c5 c6 : Bool, (PyData.list ([1, 2, 3, 4, 5, 6, 7].map fun f => PyData.bool (decide (e = f)))).eqv (.list [.bool c0, .bool c1, .bool c2, .bool c3, .bool c4, .bool c5, .bool c6]) = decide ((([1, 2, 3, 4, 5, 6, 7].map fun f => decide (e = f)) : List Bool) = [c0, c1, c2, c3, c4, c5, c6]) := by
    obtain h | h | h | h | h | h | h : e = 1 ∨ e = 2 ∨ e = 3 ∨ e = 4 ∨ e = 5 ∨ e = 6 ∨ e = 7 := by omega
    all_goals subst h; decide +kernel
  have := key (decide ((0 : Int) = due)) (decide ((1 : Int) = due)) (decide ((2 : Int) = due)) (decide ((3 : Int) = due)) (decide ((4 : Int) = due)) (decide ((5 : Int) = due)) (decide ((6 : Int) = due))
  refine Eq.trans this ?_
  rw [decide_eq_decide]
  simp only [List.map_cons, List.map_nil, List.cons.injEq, decide_eq_decide, and_true]
  omega
end Ab
namespace Ab
open PySem PySem.Spec PyProof.Rows L2 L2H
/-- what is never asked -/
def cBadS : CS := fun _ _ => .bad
theorem bad_ok {X : Cx} {T : Tb} {E : XE} {b : List Stmt} : PSs X b (tS T E cBadS) := PSs.by fun D σ H q => by
  obtain ⟨ι, A, ρ, at0, z⟩ := q
  exact False.elim z
end Ab
namespace Ab
open PySem
theorem kit_val {K : PySem.W.Frag} {C : Addr} (hs : PySem.W.subIn K (.ref C) (.type "ValueError") = some true) : PySem.W.kitOne K (.ref C) (.type "ValueError") = some true := by
  have hm : PySem.W.kitMeta "ValueError" = true := by decide +kernel
  unfold PySem.W.kitOne
  split
  · rfl
  · show (if PySem.W.kitMeta "ValueError" = true then _ else none) = some true
    rw [if_pos hm]
    exact hs
end Ab
namespace Ab
open PySem PySem.Spec PyProof.Rows L2 L2H
theorem seven_sh : ∀ c0 c1 c2 c3 c4 c5 c6 : Bool, SeqAt.shaped (.list [.bool c0, .bool c1, .bool c2, .bool c3, .bool c4, .bool c5, .bool c6]) = true := by decide +kernel
theorem grow_set {H H' : Hp} {p : Addr} {o : HO} (g : Grow H H') (h : H p = none) : Grow H (upd H' p o) := fun b x hb => by
  rw [upd_ne (fun e => by subst e; rw [h] at hb; cases hb)]
  exact g b x hb
theorem grow_none {H H' : Hp} {p : Addr} (g : Grow H H') (h : H' p = none) : H p = none := by
  cases e : H p with
  | none => rfl
  | some o => rw [g p o e] at h; cases h
theorem dp_bools {K : PySem.W.Frag} {H : Hp} : ∀ bs : List Bool, DpAll K H (bs.map V.bl) (bs.map PyData.bool)
  | [] => .nil
  | b :: r => .cons (.bl b) (dp_bools r)
end Ab

set_option Elab.async false
set_option linter.all false
set_option maxRecDepth 100000
set_option maxHeartbeats 2000000
set_option autoImplicit false
/-! Ab27: what may be called: defs and closures that a local holds. -/
namespace Ab
open PySem PySem.Spec PyProof.Rows L2
abbrev SPK := Tb → Fn → Nat → Sp
/-- the promise of lambda n, called while its cells hold what ds tells -/
structure LOk (P : Program) (w : World) (K : PySem.W.Frag) (mg : Str → Option Value) (base : Heap) (CX : CXT) (sp : SPK) (k n : Nat) (T : Tb) (nm : List Str) (np : Nat) (f : Fn) : Prop where
  run : ∀ (A : Around) (outer : List Env) (s : Shared) (H : Hp) (us : List Value) (vs : List V) (Q : VK) (E : XK) (g : Addr) (cl : List (Str × Addr)) (ds : List Vl) (cs : List V), Room k A → Env0 P w K mg base A outer s H → LamV T H n (.ref g) → T.cl n = some cl → (∀ x y c, cl.lookup x = some c → cl.lookup y = some c → x = y) → Caps T cl s H nm ds cs → Vals vs us →
    sp T (fun as A => f (as ++ ds) A) np vs H Q E → codeAny (model P w) A (.call (.ref g) ⟨us, []⟩) (CR CX outer P w H s Q E) s
theorem tS_ret {T : Tb} {E : XE} {c : CE} {D : Ends} {σ : L2.St} {H : Hp} (h : tS T E (cRet c) D σ H) : tE T E c σ H D.rt := by
  obtain ⟨ι, A, ρ, a, p⟩ := h
  refine ⟨ι, A, ρ, a, ?_⟩
  unfold cRet at p
  cases e : c ρ A with
  | bad => rw [e] at p; exact p
  | exc k A' => rw [e] at p; exact p
  | ok d A' => rw [e] at p; exact p
section
variable {P : Program} {w : World} {K : PySem.W.Frag} {mg : Str → Option Value} {base : Heap} {N ps nm : List Str} {T : Tb} {n k : Nat} {pa : Arguments} {body : Expr} {scp : Scope} {pos : Pos} {c : CE}
theorem lok_X (hlam : T.lam n = .Lambda pa body scp pos) (S : LamSc N ps nm scp)
    (hbind : ∀ (q : Str) (cl : List (Str × Addr)) (pm cv ct : Value) (us : List Value), us.length = ps.length → bindArgs (PySem.W.kla_fn "<lambda>" q pa body scp cl pm cv ct) ⟨us, []⟩ = pure (ps.zip us))
    (hbody : ∀ (A : Around) (outer : List Env) (s : Shared) (H : Hp) (E : XK) (q : Str) (g c' : Addr) (cl' : List (Str × Addr)), Room k (A.deeper (PySem.W.envX q scp s.heap.objs.size g (.ref c') cl')) → PE (lamX (L2N.CX P w) P w K mg base N q scp g c' cl' A outer s H E) body (tE T (xeOf T E) c)) :
    LOk P w K mg base (L2N.CX P w) spX (k + 1) n T nm ps.length (mkFn N.length (cRet c)) :=
  ⟨fun A outer s H us vs Q E g cl ds cs hr e0 hv hcl hinj hcap r h => lam_run hr e0 hv hlam hcl hinj hcap r h.1 S hbind fun q c' cl' hr' => by
    refine ⟨_, hbody A outer s H E q g c' cl' hr', ?_⟩
    obtain ⟨hl, ι, A1, as, wd, ra, p⟩ := h
    have h2 : spX T (mkFn N.length (cRet c)) (ps.length + nm.length) (vs ++ cs) H Q E := ⟨by rw [List.length_append, hl, hcap.len.1], ι, A1, as ++ ds, wd, Rps.append (fp := []) (fq := []) ra (hcap.rps wd), p⟩
    exact tS_ret (fn_startX (N := N) h2)⟩
theorem lok_0 (hlam : T.lam n = .Lambda pa body scp pos) (S : LamSc N ps nm scp)
    (hbind : ∀ (q : Str) (cl : List (Str × Addr)) (pm cv ct : Value) (us : List Value), us.length = ps.length → bindArgs (PySem.W.kla_fn "<lambda>" q pa body scp cl pm cv ct) ⟨us, []⟩ = pure (ps.zip us))
    (hbody : ∀ (A : Around) (outer : List Env) (s : Shared) (H : Hp) (E : XK) (q : Str) (g c' : Addr) (cl' : List (Str × Addr)), Room k (A.deeper (PySem.W.envX q scp s.heap.objs.size g (.ref c') cl')) → PE (lamX CX0 P w K mg base N q scp g c' cl' A outer s H E).nox body (tE T EF c)) :
    LOk P w K mg base CX0 spF0 (k + 1) n T nm ps.length (mkFn N.length (cRet c)) :=
  ⟨fun A outer s H us vs Q E g cl ds cs hr e0 hv hcl hinj hcap r h => lam_run hr e0 hv hlam hcl hinj hcap r h.1 S hbind fun q c' cl' hr' => by
    refine ⟨_, (hbody A outer s H E q g c' cl' hr').nox, ?_⟩
    obtain ⟨hl, ι, A1, as, wd, ra, p⟩ := h
    have h2 : spF T (mkFn N.length (cRet c)) (ps.length + nm.length) (vs ++ cs) H Q (fun _ _ _ => False) := ⟨by rw [List.length_append, hl, hcap.len.1], ι, A1, as ++ ds, wd, Rps.append (fp := []) (fq := []) ra (hcap.rps wd), p⟩
    exact tS_ret (fn_start (N := N) (EX := fun _ _ _ => False) h2 fun _ _ z => z)⟩
theorem lok_zeroX {np : Nat} {CX : CXT} {f : Fn} (hf : ∀ ds A, f ds A = .bad) : LOk P w K mg base CX spX 0 n T nm np f :=
  ⟨fun A outer s H us vs Q E g cl ds cs hr e0 hv hcl hinj hcap r h => by
    obtain ⟨_, ι, A, ds, _, _, p⟩ := h
    dsimp only at p
    rw [hf] at p
    exact False.elim p⟩
theorem lok_zero0 {np : Nat} {CX : CXT} {f : Fn} (hf : ∀ ds A, f ds A = .bad) : LOk P w K mg base CX spF0 0 n T nm np f :=
  ⟨fun A outer s H us vs Q E g cl ds cs hr e0 hv hcl hinj hcap r h => by
    obtain ⟨_, ι, A, ds, _, _, p⟩ := h
    dsimp only at p
    rw [hf] at p
    exact False.elim p⟩
end
/-- a value .fn n may be called in X, f is what it does -/
def CbOk (X : Cx) (CX : CXT) (T : Tb) (n np : Nat) (f : Fn) (sp : SPK) : Prop := ∀ (pins : List (Addr × Obj)) (σ : L2.St) (H : Hp) (s : Shared) (u : V), Inv X pins σ H s → FnV T H n u → ∃ g, u = .ref g ∧ PySem.W.FnAt g s.heap ∧
  ∀ (us : List Value) (vs : List V) (Q : VK) (E : XK), Vals vs us → sp T f np vs H Q E → codeAny (model X.prog X.w) X.A (.call (.ref g) ⟨us, []⟩) (CR CX X.stack X.prog X.w H s Q E) s
/-- the captured values of lambdas, told by their numbers -/
def capAtL : List Vl → Nat → Option (List Vl)
  | .tup (.int i :: ds) :: r, n => if i = (n : Int) then some ds else capAtL r n
  | _, _ => none
def capAt : Vl → Nat → Option (List Vl)
  | .tup r, n => capAtL r n
  | _, _ => none
theorem capAt_cons {i : Int} {ds r : List Vl} {n : Nat} : capAt (.tup (.tup (.int i :: ds) :: r)) n = if i = (n : Int) then some ds else capAt (.tup r) n := by
  simp only [capAt]
  rw [capAtL]
def clF (caps : Nat → Option (List Vl)) (R : Nat → Fn) (n : Nat) : Fn := if Nat.blt n 1000 = true then R n else match caps n with
  | some ds => fun as A => R n (as ++ ds) A
  | none => fun _ _ => .bad
/-- what the cells hold at s -/
def CapOk (nm : Nat → List Str) (caps : Nat → Option (List Vl)) (T : Tb) (ex : List Addr) (s : Shared) (H : Hp) : Prop := ∀ n ds cl, caps n = some ds → T.cl n = some cl → (∀ x y c, cl.lookup x = some c → cl.lookup y = some c → x = y) ∧ (∀ y c, cl.lookup y = some c → c ∉ ex) ∧ ∃ cs, Caps T cl s H (nm n) ds cs
theorem Caps.nextE {T : Tb} {cl : List (Str × Addr)} {s s' : Shared} {H H' : Hp} {nm : List Str} {ds : List Vl} {cs : List V} {fs ex : List Addr} (h : Caps T cl s H nm ds cs) (hx : ∀ y c, cl.lookup y = some c → c ∉ ex) (un : Un fs ex H H' s.heap s'.heap) : Caps T cl s' H' nm ds cs := by
  induction h with
  | nil => exact .nil
  | cons h1 h2 h3 h4 h5 h6 ih =>
    obtain ⟨o, ho, hd⟩ := h2
    obtain ⟨sl, e⟩ := un.any ho h4 (hx _ _ h1)
    exact .cons h1 ⟨_, e, hd⟩ h3 (un.free _ o ho h4 (hx _ _ h1)) h5 ih
theorem CapOk.next {nm : Nat → List Str} {caps : Nat → Option (List Vl)} {T : Tb} {fs ex : List Addr} {s s' : Shared} {H H' : Hp} (h : CapOk nm caps T ex s H) (un : Un fs ex H H' s.heap s'.heap) : CapOk nm caps T ex s' H' := fun n ds cl h1 h2 => by
  obtain ⟨z1, z2, cs, z3⟩ := h n ds cl h1 h2
  exact ⟨z1, z2, cs, z3.nextE z2 un⟩
section
variable {X : Cx} {T : Tb} {CX : CXT} {sp : SPK} {k n np : Nat} {R : Nat → Fn} {caps : Nat → Option (List Vl)} {nm : Nat → List Str}
theorem cb_def {x : Str} {st : Stmt} {fd : FuncData} {ps : List Str} {f : Fn} (hn : n < 1000) (F : FnOk X.prog X.w X.K X.mg X.base CX k (T.fa n) fd ps (sp T f np)) (D : Fun X.K x x st (T.fa n) fd) (hb : Binds X.K fd ps []) (hr : Room k X.A) : CbOk X CX T n np f sp := fun pins σ H s u I h => by
  rcases h with ⟨_, rfl⟩ | ⟨z, _⟩
  · obtain ⟨oc, od, kV, doc, pm, an, cdv, ct, osl, e, lk, hcd⟩ := D.ex
    refine ⟨_, rfl, ⟨_, _, _, _, I.kIn _ _ lk⟩, fun us vs Q E r hs => ?_⟩
    have hl : us.length = ps.length := by rw [← r.length]; exact F.len _ _ _ _ hs
    have b := hb s us I.kIn (by rw [List.append_nil]; exact hl)
    rw [List.append_nil] at b
    exact F.run X.A X.stack s H ⟨us, []⟩ us vs Q E hr I.env0 b r hs
  · omega
theorem cb_clo (hn : 1000 ≤ n) (L : LOk X.prog X.w X.K X.mg X.base CX sp k n T (nm n) np (R n)) (h0 : ∀ vs H Q E, ¬ sp T (fun _ _ => .bad) np vs H Q E) (hcap : CapOk nm caps T X.ex X.s_0 X.H_0) (hr : Room k X.A) : CbOk X CX T n np (clF caps R n) sp := fun pins σ H s u I h => by
  rcases h with ⟨z, _⟩ | ⟨_, hv⟩
  · omega
  · have hv' := hv
    obtain ⟨g, c', q, ps, body, sc, pos, cells, cl, pm, ct, rfl, hcl, z3, z4, hf, z6⟩ := hv'
    refine ⟨g, rfl, ⟨_, _, _, _, (I.hok g _ hf).1⟩, fun us vs Q E r hs => ?_⟩
    have eb : Nat.blt n 1000 = false := by
      cases h : Nat.blt n 1000 with
      | false => rfl
      | true => exact absurd (Nat.le_of_ble_eq_true h) (by omega)
    unfold clF at hs
    rw [eb, if_neg Bool.false_ne_true] at hs
    cases hc : caps n with
    | none => rw [hc] at hs; exact absurd hs (h0 _ _ _ _)
    | some ds =>
      rw [hc] at hs
      obtain ⟨y1, y2, cs, y3⟩ := hcap n ds cl hc hcl
      exact L.run X.A X.stack s H us vs Q E g cl ds cs hr I.env0 hv hcl y1 (y3.nextE y2 I.base) r hs
theorem clF_def (hn : n < 1000) (h : CbOk X CX T n np (R n) sp) : CbOk X CX T n np (clF caps R n) sp := by
  have eb : Nat.blt n 1000 = true := Nat.ble_eq_true_of_le (by omega)
  unfold clF
  rw [eb, if_pos rfl]
  exact h
theorem no_spX {vs : List V} {H : Hp} {Q : VK} {E : XK} : ¬ spX T (fun _ _ => .bad) np vs H Q E := fun h => by
  obtain ⟨_, _, _, _, _, _, p⟩ := h
  exact p
theorem no_spF0 {vs : List V} {H : Hp} {Q : VK} {E : XK} : ¬ spF0 T (fun _ _ => .bad) np vs H Q E := fun h => by
  obtain ⟨_, _, _, _, _, _, p⟩ := h
  exact p
end
/-! ### calls -/
theorem FnV.ext {T : Tb} {ι ι' : List Addr} {H H' : Hp} {n : Nat} {v : V} (h : FnV T H n v) (e : Ext ι H ι' H') : FnV T H' n v := h.keep fun a o z1 z2 z3 => e.keep a o z1 z3 (.inr z2)
section
variable {X : Cx} {T : Tb} {CX : CXT} {sp : SPK} {v n np : Nat} {f : Fn} {x : Str} {e : Expr} {es : List Expr} {p pos : Pos} {t : TA} {E : L2.St → XK}
def tCW (T : Tb) (sp : SPK) (v n np : Nat) (f : Fn) (E : L2.St → XK) (t : TA) : TE := fun σ H Q => ∃ u, σ[v]? = some (some u) ∧ FnV T H n u ∧ t σ H fun vs H1 => FnV T H1 n u ∧ sp T f np vs H1 Q (E σ)
theorem pe_callW (hF : CbOk X CX T n np f sp) (hN : X.N[v]? = some x) (hv : Vis X.env.scope x) (hx : ∀ σ, PassesAt CX X σ (E σ)) (ha : PA X (e :: es) t)
    (hdb : (x == ("__debug__" : Str)) = false := by decide) (hcd : (x == ("__classdict__" : Str)) = false := by decide) (he : starEach (e :: es) X.env = (false, eval e X.env) :: starEach es X.env := by rfl) (hpl : (backTo pos (starEach es X.env)).any (·.1) = false := by rfl) :
    PE X (.Call (.Name x p) (e :: es) [] pos) (tCW T sp v n np f E t) := by
  refine ⟨fun pins s σ H Q I wish => ?_⟩
  obtain ⟨u, held, hu, rest⟩ := wish
  refine wpAny_Call_Name_kw (thn ((pe_var (pos := p) hN hv hdb hcd).run pins s σ H (fun u' Hu => u' = u ∧ Hu = H) I ⟨u, held, rfl, rfl⟩) fun uv sa ⟨w, Ha, Ia, ra, ea, eh⟩ => ?_)
  subst ea eh
  obtain ⟨g, rfl, at1, _⟩ := hF pins σ _ sa w Ia hu
  cases ra
  refine PySem.W.callWith_F at1 (thn (ha.run pos pins sa σ _ _ Ia rest) fun us sb ⟨vs, Hb, Ib, rb, hb, qb⟩ => ?_) he hpl
  obtain ⟨g', eg, at2, run⟩ := hF pins σ _ sb _ Ib hb
  cases eg
  refine ⟨at2, wpAny_call (codeAny_mono (run us vs Q (E σ) rb qb) fun r s' hq => ?_)⟩
  cases r with
  | error e => exact hx σ pins Hb sb e s' Ib hq
  | ok fl =>
    cases fl with
    | ret u => exact Ib.after hq
    | next => exact False.elim hq
    | brk => exact False.elim hq
    | cont => exact False.elim hq
/-- without arguments -/
theorem pe_callW0 (hF : CbOk X CX T n np f sp) (hN : X.N[v]? = some x) (hv : Vis X.env.scope x) (hx : ∀ σ, PassesAt CX X σ (E σ))
    (hdb : (x == ("__debug__" : Str)) = false := by decide) (hcd : (x == ("__classdict__" : Str)) = false := by decide) :
    PE X (.Call (.Name x p) [] [] pos) (tCW T sp v n np f E tNil) := by
  refine ⟨fun pins s σ H Q I wish => ?_⟩
  obtain ⟨u, held, hu, _, rest⟩ := wish
  refine wpAny_Call_Name_kw (thn ((pe_var (pos := p) hN hv hdb hcd).run pins s σ H (fun u' Hu => u' = u ∧ Hu = H) I ⟨u, held, rfl, rfl⟩) fun uv sa ⟨w, Ha, Ia, ra, ea, eh⟩ => ?_)
  subst ea eh
  obtain ⟨g, rfl, at1, run⟩ := hF pins σ _ sa w Ia hu
  cases ra
  refine PySem.W.callWith_F0 at1 (wpAny_call (codeAny_mono (run [] [] Q (E σ) .nil rest) fun r s' hq => ?_))
  cases r with
  | error e => exact hx σ pins _ sa e s' Ia hq
  | ok fl =>
    cases fl with
    | ret u => exact Ia.after hq
    | next => exact False.elim hq
    | brk => exact False.elim hq
    | cont => exact False.elim hq
end
theorem er_fn {T : Tb} {ι : List Addr} {H : Hp} {σ : L2.St} {s : List (Option Vl)} {v n : Nat} (e : Er T ι H σ s) (h : s[v]? = some (some (.fn n))) : ∃ u, σ[v]? = some (some u) ∧ FnV T H n u := by
  obtain ⟨u, h1, h2⟩ := e.2 v _ h
  cases h2 with
  | fn h => exact ⟨u, h1, h⟩
section
variable {X : Cx} {T : Tb} {v np : Nat} {ok : Nat → Bool} {R : Nat → Fn} {x : Str} {e : Expr} {es : List Expr} {cs : CA} {p pos : Pos}
/-- without exceptions -/
theorem ge_callV (hF : ∀ n, ok n = true → CbOk X CX0 T n np (R n) spF0) (hn : argN np cs) (hN : X.N[v]? = some x) (hv : Vis X.env.scope x)
    (ha : PA X (e :: es) (tA T EF cs)) (hdb : (x == ("__debug__" : Str)) = false := by decide) (hcd : (x == ("__classdict__" : Str)) = false := by decide) (he : starEach (e :: es) X.env = (false, eval e X.env) :: starEach es X.env := by rfl) (hpl : (backTo pos (starEach es X.env)).any (·.1) = false := by rfl) :
    PE X (.Call (.Name x p) (e :: es) [] pos) (tE T EF (cCallV v ok R cs)) := by
  refine PE.by fun σ H Q q => ?_
  obtain ⟨ι, A, ρ, at0, z⟩ := q
  unfold cCallV at z
  split at z
  · rename_i n hn1
    split at z
    · rename_i hok
      obtain ⟨u, h1, h2⟩ := er_fn at0.er hn1
      refine ⟨_, pe_callW (E := fun _ _ _ _ => False) (hF n hok) hN hv (fun _ _ _ _ _ _ _ h => h.elim) ha hdb hcd he hpl, u, h1, h2, ι, A, ρ, at0, ?_⟩
      cases e1 : cs ρ A with
      | bad => rw [e1] at z; exact z
      | exc c A' => rw [e1] at z; exact z
      | ok ds A' =>
        rw [e1] at z
        intro ι1 H1 vs fp nx rp fr
        exact ⟨h2.ext nx.ext, callF_ok (T := T) (f := R n) (E := EF) (EX := fun _ _ _ => False) at0.wd at0.bl nx rp fr (fun _ _ h => h) (by rw [rp.len, hn ρ A ds A' e1]) z⟩
    · exact z.elim
  · exact z.elim
end
section
variable {X : Cx} {T : Tb} {E : XE} {i m v np : Nat} {cR : Addr} {ok : Nat → Bool} {R : Nat → Fn} {fx x n : Str} {e : Expr} {es : List Expr} {cs : CA} {p cp pos pos' cpos epos : Pos} {b₀ : Stmt} {suite : List Stmt} {res : Nat → List (Option Vl) → Option Vl}
theorem gs_tryV (hs : X.stack = X.env :: X.outer) (hf : X.env.frame = some X.env.locals) (hN : X.N.Nodup) (hi : X.N[i]? = some n) (hln : X.env.kindOf n = some .local) (hc : Names X x (.ref cR)) (hvN : X.N[v]? = some fx) (hvV : Vis X.env.scope fx)
    (hF : ∀ (pn : List (Addr × Obj)) (xe : Value → Shared → Prop) (n : Nat), ok n = true → CbOk (X.tr pn xe) (L2N.CX X.prog X.w) T n np (R n) spX) (hn : argN np cs)
    (ha : ∀ (pn : List (Addr × Obj)) (xe : Value → Shared → Prop), PA (X.tr pn xe) (e :: es) (tA T EF cs))
    (hex : ∀ k s d, res k s = some d → PySem.W.exmOne X.K (.ref (T.C (k + 10))) (.ref cR) = some true) (hsc : ∀ k s d, res k s = some d → ∃ u, sc d = some u)
    (hsu : ∀ (a : Addr) (oe : Obj) (cls : Value) (d : Option Addr) (pn : List (Addr × Obj)), L2N.Zn cls d oe → (∃ vs, oe.data = .fields vs) → PSs (X.suite a ((a, oe) :: pn)) (b₀ :: suite) (tsV T i m res a cls d))
    (hdb : (fx == ("__debug__" : Str)) = false := by decide) (hcd : (fx == ("__classdict__" : Str)) = false := by decide) (he : starEach (e :: es) X.env = (false, eval e X.env) :: starEach es X.env := by rfl) (hpl : (backTo cpos (starEach es X.env)).any (·.1) = false := by rfl)
    (hsw : swapsWith (.Call (.Name fx p) (e :: es) [] cpos) none epos.line X.env = pure false := by rfl) :
    PS X (.Try [.Expr (.Call (.Name fx p) (e :: es) [] cpos) epos] [.ExceptHandler (some (.Name x cp)) (some n) (b₀ :: suite) pos'] [] [] pos) (tS T E (cTryV i m v ok res R cs)) := by
  refine PS.by fun D σ H q => ?_
  obtain ⟨ι, A, ρ, at0, z⟩ := q
  unfold cTryV at z
  split at z
  · rename_i g hg1
    split at z
    · rename_i hok
      obtain ⟨u, hu1, hu2⟩ := er_fn at0.er hg1
      refine ⟨_, L2N.ps_try_as hs hf hN hi hln hc takes0N (tb := fun W => tDrop (tCW T spX v g np (R g) (WE W) (tA T EF cs))) (fun W pn xe tk _ => pss_one (ps_expr (pe_callW (X := X.tr pn xe) (CX := L2N.CX X.prog X.w) (hF pn xe g hok) hvN hvV (fun σ => L2N.passAt tk σ) (ha pn xe) hdb hcd he hpl) hsw)) hsu, u, hu1, hu2, ι, A, ρ, at0, ?_⟩
      cases e1 : cs ρ A with
      | bad => rw [e1] at z; exact z
      | exc c A' => rw [e1] at z; exact False.elim z
      | ok ds A' =>
        rw [e1] at z
        intro ι1 H1 vs fp nx rp fr
        refine ⟨hu2.ext nx.ext, callF_okX at0.wd at0.bl nx rp fr (by rw [rp.len, hn ρ A ds A' e1]) ?_⟩
        simp only at z
        cases e2 : callF (R g) ds A' with
        | bad => rw [e2] at z; exact z
        | ok d A2 =>
          rw [e2] at z
          exact fun ι' H' u fq n' r f => z ι' H' σ n' (at0.er.mono n'.ext)
        | exc c A2 =>
          rw [e2] at z
          simp only at z
          intro ι' H' n'
          cases er : res c ρ.s with
          | none => rw [er] at z; exact False.elim z
          | some d =>
            rw [er] at z
            simp only at z
            split at z
            · rename_i hlt
              obtain ⟨u, hu⟩ := hsc c ρ.s d er
              refine ⟨true, hex c ρ.s d er, fun _ a ha => ?_, fun y => nomatch y⟩
              refine ⟨c, d, u, ρ.s, rfl, rfl, by rw [List.length_set, at0.er.1]; exact hlt.2, ?_, er, hu, fun j dj uj hji hj hsj => ?_, fun H2 gr => ?_⟩
              · rw [List.getElem?_set_self (by rw [at0.er.1, hlt.2]; exact hlt.1)]
              · rw [List.getElem?_set_ne (Ne.symm hji)]
                obtain ⟨y, h1, h2⟩ := at0.er.2 j dj hj
                rw [h1, (sc_ok h2 hsj).1]
              · exact z ι' H2 u [] (n'.trans (Nx.grow n'.wd gr)) (rp_sc hu) .nil
            · exact False.elim z
    · exact z.elim
  · exact z.elim
end
end Ab

set_option Elab.async false
set_option linter.all false
set_option maxRecDepth 100000
set_option maxHeartbeats 2000000
set_option autoImplicit false
/-! Ab28: a comprehension whose block knows its maker's state (printed by mk28.py of Ab8 and Ab22). -/
namespace Ab
open PySem PySem.Spec PyProof.Rows L2
section
variable {X : Cx}
theorem pe_lcI {σ : L2.St} {elt tg iter : Expr} {ifs : List Expr} {scope : Scope} {own : List (Str × Nat)} {pos : Pos} {wi : TI} {g : TG} {tt : TT} {te : TE} (hc : X.calm = true) (hN : X.N.Nodup) (hi : PI X tg iter wi) (ok : BlkOk X.N X.env.scope scope own)
    (hg : ∀ (s : Shared) (H : Hp) (C : Addr) (cl : List (Str × Addr)) (fp : List Addr), PG (X.blk s H scope (compEnvC scope cl C X.env) fp) tg g) (ht : ∀ (s : Shared) (H : Hp) (C : Addr) (cl : List (Str × Addr)) (fp : List Addr), PTs (X.blk s H scope (compEnvC scope cl C X.env) fp) ifs tt)
    (he : ∀ (pins : List (Addr × Obj)) (s : Shared) (H : Hp) (fp : List Addr), Inv X pins σ H s → (∀ b ∈ fp, ∀ x c, X.env.cells.lookup x = some c → c ≠ b) → PE (X.blk s H scope (compEnvC scope (cellsFrom (s.heap.objs.size + 1) scope.names (cloFrom X.env.cells scope.names [])) s.heap.objs.size X.env) fp) elt te) (hs : ∀ x, foldedSetIterable iter X.env x = pure x := by intro _; rfl) :
    ∀ (pins : List (Addr × Obj)) (s : Shared) (H : Hp) (Q : VK), Inv X pins σ H s → tLc wi g tt te (own.map (·.2)) σ H Q → wpAny (model X.prog X.w) X.A (eval (.ListComp elt [⟨tg, iter, ifs, 0⟩] scope pos) X.env) (EP X pins σ Q) X.xe s := by
  intro pins s H Q I0 wish
  rw [eval_ListComp]
  have capt : ∀ y ∈ scope.names, y.2 = .free → ∃ c, X.env.cells.lookup y.1 = some c := fun y hy e => (ok.free y hy e).elim (fun k => I0.ok.has _ (.inl k)) fun k => I0.ok.has _ (.inr k)
  refine wpAny_comprehension_free (use := none) rfl hs (closure_ok capt) ok.kind (fun y hy e => by rw [ok.uniq y hy, e])
    (thn (hi.run pins s σ H _ I0 wish) fun xv sa hx => thn hx fun itv sb hb => ?_)
  obtain ⟨it, fp, tn, J, Hb, rfl, Ib, T, at0, fpb, plan⟩ := hb
  refine wpAny_newObj_type (newEnv_comp ?_) (by show 0 ≤ sizeLine; decide)
  -- the list to come stands at L
  generalize eL : sb.heap.objs.size = L
  have freeL : Hb L = none := Ib.hok.fresh (Nat.le_of_eq eL)
  obtain ⟨W, ⟨k0, first⟩, turn⟩ := plan L freeL
  generalize ec : ({ sb with heap := sb.heap.push { cls := .type "list", data := .seq ([] : List Value).toArray } } : Shared) = sc
  have hpc : sc.heap = sb.heap.push { cls := .type "list", data := .seq ([] : List Value).toArray } := by rw [← ec]
  have Ic : Inv X pins σ (upd Hb L (.lst [])) sc := by
    subst ec
    exact Ib.laid (t' := sb.toks) (fun b o e => Heap.get?_push_of_some _ e) (Nat.le_of_eq eL) ⟨Nat.zero_le _, [], 0, .nil, by rw [← eL]; exact Heap.get?_push_size _ rfl⟩
  have small : ∀ b ∈ fp, b < sb.heap.objs.size := fun b hb => by
    obtain ⟨o, e, _⟩ := T.obj _ _ at0 b hb
    exact Heap.lt_size e
  have fpc : ∀ b ∈ fp, FpOk X pins (upd Hb L (.lst [])) b ∧ b < sc.heap.objs.size := fun b hb => by
    have lt := small b hb
    exact ⟨⟨by rw [upd_ne (by rw [← eL]; exact Nat.ne_of_lt lt)]; exact (fpb b hb).1, (fpb b hb).2⟩, by rw [hpc, Heap.size_push]; exact Nat.lt_succ_of_lt lt⟩
  have atc : tn 0 sc.heap := T.keep _ _ _ at0 fun b _ o e => by rw [hpc]; exact Heap.get?_push_of_some _ e
  have Id := block_start Ic ok hN fpc
  have pgB := hg sc (upd Hb L (.lst [])) sc.heap.objs.size (cellsFrom (sc.heap.objs.size + 1) scope.names (cloFrom X.env.cells scope.names [])) fp
  have ptB := ht sc (upd Hb L (.lst [])) sc.heap.objs.size (cellsFrom (sc.heap.objs.size + 1) scope.names (cloFrom X.env.cells scope.names [])) fp
  have peB := he pins sc (upd Hb L (.lst [])) fp Ic fun b hb x c e => (fpc b hb).1.2.2.2.2.1 x c e
  show codeAny _ _ (.compStart (.ListComp elt [⟨tg, iter, ifs, 0⟩] scope pos) 0 (.ref it) (.ref L) (compEnvC scope (cellsFrom (sc.heap.objs.size + 1) scope.names (cloFrom X.env.cells scope.names [])) sc.heap.objs.size X.env)) (compPost (model X.prog X.w) X.A X.xe none (EP X pins σ Q) (.ref L) sc.heap.objs.size) { sc with heap := pushCells (sc.heap.push { cls := .type "dict", data := .dict #[] }) scope.names }
  generalize eE : compEnvC scope (cellsFrom (sc.heap.objs.size + 1) scope.names (cloFrom X.env.cells scope.names [])) sc.heap.objs.size X.env = ce at Id pgB ptB peB ⊢
  have eC : ce.locals = sc.heap.objs.size := by subst eE; rfl
  generalize eH : upd Hb L (.lst []) = Hc at Ic Id pgB ptB peB first fpc
  generalize eD : ({ sc with heap := pushCells (sc.heap.push { cls := .type "dict", data := .dict #[] }) scope.names } : Shared) = sd at Id ⊢
  have grows : ∀ b o, sc.heap.get? b = some o → sd.heap.get? b = some o := fun b o e => by rw [← eD]; exact pushCells_keeps _ _ _ _ (Heap.get?_push_of_some _ e)
  have atd : tn 0 sd.heap := T.keep _ _ _ atc fun b _ o e => grows b o e
  have stands : ∀ {τ : L2.St} {Hn : Hp} {sn : Shared}, Inv (X.blk sc Hc scope ce fp) [] τ Hn sn → (∀ b ∈ fp, Hn b = none) → ∀ b ∈ fp, FpOk (X.blk sc Hc scope ce fp) [] Hn b := fun {τ Hn sn} Jn hn b hb =>
    ⟨hn b hb, (Jn.ok.exf b hb).1, Jn.ok.exfs b hb, .inl hb, fun x c e => (Jn.ok.exf b hb).2 x c e, fun q hq => absurd (show q ∈ ([] : List (Addr × Obj)) from hq) (by simp)⟩
  have loop : codeAny (model X.prog X.w) X.A (.compLoop (.ListComp elt [⟨tg, iter, ifs, 0⟩] scope pos) 0 (.ref it) (.ref L) ce) (compPost (model X.prog X.w) X.A X.xe none (EP X pins σ Q) (.ref L) sc.heap.objs.size) sd := by
    refine compLoop_any (fun n sn => ∃ i Hn, Inv (X.blk sc Hc scope ce fp) [] (wipe σ (own.map (·.2))) Hn sn ∧ tn i sn.heap ∧ (∀ b ∈ fp, Hn b = none) ∧ W i n Hn) ?_ k0 ⟨0, Hc, Id, atd, fun b hb => (fpc b hb).1.1, first⟩
    rintro n sn ⟨i, Hn, Jn, tni, frn, wn⟩
    rcases turn i n Hn wn with ⟨stop, won⟩ | ⟨go, Nx, less, step⟩
    · have td := T.done (X.blk sc Hc scope ce fp) rfl rfl rfl hc i [] sn _ Hn (fun _ _ => False) Jn (stands Jn frn) tni stop
      refine thnF td fun r so ⟨hr, Jo⟩ => ?_
      subst hr
      have Io : Inv X pins σ Hn so := Ic.call' (ch := fp) Jo.os Jo.base Jo.hok Jo.bare fun b hb => ⟨(fpc b hb).1.2.2.2.1, (fpc b hb).1.2.1, (fpc b hb).1.2.2.2.2.1, (fpc b hb).1.2.2.2.2.2⟩
      have noC : Hn sc.heap.objs.size = none := by
        have z : Hn ce.locals = none := Jo.free
        rwa [eC] at z
      obtain ⟨m, hm, _⟩ := Jo.loc
      have hm : so.heap.Ns ce.locals m := hm
      rw [eC] at hm
      obtain ⟨f0, f1, f2, f3, f4, f5⟩ := Ic.fpOk (H' := Hn) (Nat.le_refl sc.heap.objs.size) noC
      exact ⟨m, hm, fun h2 same => ⟨.ref L, Hn, Io.turned (t' := so.toks) (fun b o hb e => (same.2 b hb).trans e) f0 f1 f3 f4 f5, rfl, won⟩⟩
    · have ti := T.item (X.blk sc Hc scope ce fp) rfl rfl rfl hc i [] sn _ Hn (fun _ _ => False) Jn (stands Jn frn) tni go
      refine thnF ti fun r so ⟨u, hr, h6⟩ => ?_
      subst hr
      refine thnF h6 fun _ sp ⟨x, Hv, Jp, rp, yp, tnp, frp⟩ => ?_
      have Jp' := Jp.pinned (stands Jp frp) (T.obj _ _ tnp)
      refine thnF (pgB.run _ sp _ Hv x u _ Jp' rp (step x Hv yp)) fun _ sq ⟨σq, Hq, Jq, wq, qq⟩ => ?_
      refine thnF (ptB.run _ sq σq Hq _ Jq qq) fun b sr ⟨Hr, Jr, qr⟩ => ?_
      have next : ∀ {sz : Shared} {Hz : Hp}, Inv (X.blk sc Hc scope ce fp) ([] ++ pinsAt fp sp.heap) σq Hz sz → Nx Hz → ∃ m, m < n ∧ ∃ i Hn, Inv (X.blk sc Hc scope ce fp) [] (wipe σ (own.map (·.2))) Hn sz ∧ tn i sz.heap ∧ (∀ b ∈ fp, Hn b = none) ∧ W i m Hn := fun {sz Hz} Jz nz => by
        obtain ⟨m, hm, wm⟩ := less Hz nz
        have held : ∀ b ∈ fp, ∀ o, sp.heap.get? b = some o → sz.heap.get? b = some o ∧ Hz b = none := fun b hb o e =>
          have z := Jz.pin (b, o) (List.mem_append_right _ (List.mem_append_right _ (mem_pinsAt hb e)))
          ⟨z.1, z.2.1⟩
        refine ⟨m, hm, i + 1, Hz, (Jz.unpinned (pins := [])).weak (by rw [← wq, wipe_length]) (fun j v e => by rw [← wq] at e; exact (wipe_some e).1), T.keep _ _ _ tnp fun b hb o e => (held b hb o e).1, fun b hb => ?_, wm⟩
        obtain ⟨o, e, _⟩ := T.obj _ _ tnp b hb
        exact (held b hb o e).2
      cases b with
      | false =>
        rw [if_neg Bool.false_ne_true] at qr ⊢
        exact next Jr qr
      | true =>
        rw [if_pos rfl] at qr ⊢
        refine thnF (peB.run _ sr σq Hr _ Jr qr) fun z st ⟨yv, Ht, Jt, rt, acc, hacc, hlen, nz⟩ => ?_
        exact app_ok (X := X.blk sc Hc scope ce fp) Jt hacc hlen rt fun su Ju => next Ju nz
  exact codeAny_compStart_list loop (T.self X.A 0 _ _ _ atd loop)
end
theorem lc_okF {T : Tb} {E : XE} {ci : CI} {t : Tgt} {test : CT} {elt : CE} {vs : List Nat} {σ : L2.St} {H : Hp} {Q : VK} {F : List (V × Vl)} {ι : List Addr} {A : AH} {ρ : Ev} (hsl : ∀ i ∈ slots t, i ∈ vs) (at0 : At T σ H ι A ρ) (p : Po T ρ.b ι A H (cLc ci t test elt vs ρ A) Q E) (hF : ∀ q ∈ F, Rp T ι H q.1 q.2 []) : tLc (tI T E ci) (den T.K t) (tT T EF test) (tE (T.wf F) EF elt) vs σ H Q := by
  refine ⟨ι, A, ρ, at0, ?_⟩
  unfold cLc at p
  cases e : ci ρ A with
  | bad => rw [e] at p; exact p
  | exc k A' => rw [e] at p; exact p
  | ok pw A1 =>
    rw [e] at p
    simp only [Res.bind] at p
    split at p
    · rename_i hlen
      have hb1 : ∀ {ι1 H1}, Nx T ρ.b ι A H ι1 A1 H1 → ρ.b ≤ A1.length := fun n => Nat.le_trans at0.bl (n.le at0.wd)
      refine fun ι1 H1 J n hJ hseen D hD => ?_
      have hb := hb1 n
      refine ⟨fun i m H2 => m = pw.1.length - i ∧ i ≤ pw.1.length ∧ ∃ ι2 A2 accV acc fp, Nx T ρ.b ι1 A1 H1 ι2 A2 H2 ∧ H2 D = some (.lst accV) ∧ D ∉ ι2 ∧ Rps T ι2 H2 accV acc fp ∧ Fr H1 ι2 (fp ++ [D]) ∧ seen pw.2 A2 = true ∧ acc.length ≤ i ∧
        Po T ρ.b ι A H ((compL t test elt pw.2 ρ.b (wipeS ρ.s vs) (pw.1.drop i) A2 acc).bind fun acc A2 => .ok (.new .lst acc) A2) Q E, ⟨pw.1.length, by simp, Nat.zero_le _, ι1, A1, [], [], [], (Nx.refl n.wd).upd hD, upd_same, n.wd.fresh hD, .nil, ⟨by simp, fun a ha => ?_⟩, hseen, Nat.le_refl _, p⟩, ?_⟩
      · simp at ha
        subst ha
        exact ⟨hD, n.wd.fresh hD⟩
      · rintro i m H2 ⟨rfl, hi, ι2, A2, accV, acc, fp, n2, hD2, hDι, racc, facc, hs2, hacc, po⟩
        have hJ2 := hJ ι2 A2 H2 n2 hs2
        by_cases hlt : i < pw.1.length
        · obtain ⟨hgo, hy⟩ := hJ2.1 i pw.1[i] (List.getElem?_eq_getElem hlt)
          refine .inr ⟨hgo, fun H3 => i + 1 ≤ pw.1.length ∧ ∃ ι2 A2 accV acc fp, Nx T ρ.b ι1 A1 H1 ι2 A2 H3 ∧ H3 D = some (.lst accV) ∧ D ∉ ι2 ∧ Rps T ι2 H3 accV acc fp ∧ Fr H1 ι2 (fp ++ [D]) ∧ seen pw.2 A2 = true ∧ acc.length ≤ i + 1 ∧
            Po T ρ.b ι A H ((compL t test elt pw.2 ρ.b (wipeS ρ.s vs) (pw.1.drop (i + 1)) A2 acc).bind fun acc A2 => .ok (.new .lst acc) A2) Q E, fun H3 h3 => ⟨pw.1.length - (i + 1), by omega, rfl, h3.1, h3.2⟩, fun x H3 hx => ?_⟩
          obtain ⟨rx, nx⟩ := hy x H3 hx
          have n3 := n2.trans nx
          have hdrop : pw.1.drop i = pw.1[i] :: pw.1.drop (i + 1) := List.drop_eq_getElem_cons hlt
          rw [hdrop, compL] at po
          -- the target
          cases hp : put t pw.1[i] (wipeS ρ.s vs) with
          | none => rw [hp] at po; exact False.elim po
          | some s1 =>
            rw [hp] at po
            have er3 : Er T ι2 H3 σ ρ.s := (at0.er.mono (n.trans n3).ext)
            have hD3 : H3 D = some (.lst accV) := nx.ext.keep D _ hD2 rfl (.inl hDι)
            have hdomacc : ∀ a ∈ fp, ∃ o, H2 a = some o := Rps.dom _ _ _ racc
            have racc3 : Rps T ι2 H3 accV acc fp := Rps.mono nx.ext _ _ _ racc fun a ha => (facc.2 a (by simp [ha])).2
            refine den_ok t pw.1[i] x (wipeS ρ.s vs) s1 (L2.wipe σ vs) _ (er3.wipe vs) rx hp fun σ1 er1 hw1 => ⟨?_, ?_⟩
            · rw [hw1 vs hsl]
              exact wipe_wipe vs
            · have at3 : At T σ1 H3 ι2 A2 ⟨ρ.b, s1⟩ := ⟨n3.wd, er1, Nat.le_trans hb (n3.le n.wd)⟩
              refine ⟨ι2, A2, ⟨ρ.b, s1⟩, at3, ?_⟩
              dsimp only at po ⊢
              cases et : test ⟨ρ.b, s1⟩ A2 with
              | bad => rw [et] at po; exact False.elim po
              | exc k A3 => rw [et] at po; exact False.elim po
              | ok kk A3 =>
                rw [et] at po
                intro ι4 H4 n4
                have n04 := n3.trans n4
                have hD4 : H4 D = some (.lst accV) := n4.ext.keep D _ hD3 rfl (.inl hDι)
                have hdom3 : ∀ a ∈ fp ++ [D], ∃ o, H3 a = some o := fun a ha => by
                  rcases List.mem_append.mp ha with z | z
                  · exact Rps.dom _ _ _ racc3 a z
                  · simp at z; subst z; exact ⟨_, hD3⟩
                have off4 : ∀ a ∈ fp ++ [D], a ∉ ι4 := fun a ha z => by
                  obtain ⟨nw, en, hn⟩ := n4.ext.pre
                  rw [en] at z
                  rcases List.mem_append.mp z with z | z
                  · exact (facc.2 a ha).2 z
                  · obtain ⟨o, ho⟩ := hdom3 a ha
                    rw [hn a z] at ho; cases ho
                have racc4 : Rps T ι4 H4 accV acc fp := Rps.mono n4.ext _ _ _ racc3 fun a ha => (facc.2 a (by simp [ha])).2
                have facc4 : Fr H1 ι4 (fp ++ [D]) := ⟨facc.1, fun a ha => ⟨(facc.2 a ha).1, off4 a ha⟩⟩
                cases kk with
                | false =>
                  rw [if_neg Bool.false_ne_true]
                  simp only at po
                  split at po
                  · rename_i hs3
                    exact ⟨hlt, ι4, A3, accV, acc, fp, n04, hD4, off4 D (by simp), racc4, facc4, hs3, by omega, po⟩
                  · exact False.elim po
                | true =>
                  rw [if_pos rfl]
                  refine ⟨ι4, A3, ⟨ρ.b, s1⟩, (at3.next n4).wf (fun q hq => Rp.mono (n.trans n04).ext _ _ _ (hF q hq) (by simp)), ?_⟩
                  dsimp only at po ⊢
                  cases ee : elt ⟨ρ.b, s1⟩ A3 with
                  | bad => rw [ee] at po; exact False.elim po
                  | exc k A4 => rw [ee] at po; exact False.elim po
                  | ok y A4 =>
                    rw [ee] at po
                    intro ι5 H5 yv fy n5 ry fry
                    replace n5 := n5.uf
                    replace ry := ry.uf
                    simp only at po
                    split at po
                    · rename_i hs4
                      have n05 := n04.trans n5
                      have hDι4 := off4 D (by simp)
                      have hD5 : H5 D = some (.lst accV) := n5.ext.keep D _ hD4 rfl (.inl hDι4)
                      have hdom4 : ∀ a ∈ fp ++ [D], ∃ o, H4 a = some o := fun a ha => by
                        rcases List.mem_append.mp ha with z | z
                        · exact Rps.dom _ _ _ racc4 a z
                        · simp at z; subst z; exact ⟨_, hD4⟩
                      have off5 : ∀ a ∈ fp ++ [D], a ∉ ι5 := fun a ha z => by
                        obtain ⟨nw, en, hn⟩ := n5.ext.pre
                        rw [en] at z
                        rcases List.mem_append.mp z with z | z
                        · exact off4 a ha z
                        · obtain ⟨o, ho⟩ := hdom4 a ha
                          rw [hn a z] at ho; cases ho
                      have racc5 : Rps T ι5 H5 accV acc fp := Rps.mono n5.ext _ _ _ racc4 fun a ha => off4 a (by simp [ha])
                      have hDfy : D ∉ fy := fun z => by
                        rw [(fry.2 D z).1] at hD4; cases hD4
                      have hDfp : D ∉ fp := fun z => by
                        have := facc.1
                        rw [List.nodup_append] at this
                        exact this.2.2 D z D (by simp) rfl
                      have hdisj : ∀ a ∈ fp, a ∉ fy := fun a ha z => by
                        obtain ⟨o, ho⟩ := hdom4 a (by simp [ha])
                        rw [(fry.2 a z).1] at ho; cases ho
                      refine ⟨accV, hD5, by rw [racc5.len]; exact size_lt (by omega), hlt, ι5, A4, accV ++ [yv], acc ++ [y], fp ++ fy, n05.off hD5 hD (off5 D (by simp)), upd_same, off5 D (by simp), ?_, ⟨?_, fun a ha => ?_⟩, hs4, by simp; omega, po⟩
                      · have := (racc5.append (Rps.one ry))
                        exact Rps.off hD5 _ _ _ this (by simp [hDfp, hDfy])
                      · rw [List.nodup_append, List.nodup_append]
                        refine ⟨⟨?_, fry.1, fun x hx z hz q => hdisj x hx (q ▸ hz)⟩, by simp, fun x hx z hz q => ?_⟩
                        · have := facc.1
                          rw [List.nodup_append] at this
                          exact this.1
                        · simp at hz
                          subst hz; subst q
                          rcases List.mem_append.mp hx with q | q
                          · exact hDfp q
                          · exact hDfy q
                      · rcases List.mem_append.mp ha with z | z
                        · rcases List.mem_append.mp z with z | z
                          · exact ⟨(facc.2 a (by simp [z])).1, off5 a (by simp [z])⟩
                          · exact ⟨n04.ext.back (fry.2 a z).1, (fry.2 a z).2⟩
                        · simp at z
                          subst z
                          exact ⟨hD, off5 a (by simp)⟩
                    · exact False.elim po
        · have hi2 : i = pw.1.length := by omega
          subst hi2
          refine .inl ⟨hJ2.2 _ (Nat.le_refl _), ?_⟩
          rw [List.drop_length, compL] at po
          exact po ι2 H2 _ (fp ++ [D]) (n.trans n2) (.new hD2 rfl racc) (facc.back n.ext)
    · exact p.elim
where
  wipe_wipe {σ : L2.St} : ∀ vs : List Nat, L2.wipe (L2.wipe σ vs) vs = L2.wipe σ vs := fun vs => by
    have key : ∀ (us : List Nat), (∀ u ∈ us, u ∈ vs) → L2.wipe (L2.wipe σ us) vs = L2.wipe σ vs := by
      intro us
      induction us with
      | nil => intro _; rfl
      | cons u us ih =>
        intro h
        rw [show L2.wipe σ (u :: us) = (L2.wipe σ us).set u none from rfl, wipe_set (h u (by simp))]
        exact ih fun x hx => h x (by simp [hx])
    exact key vs fun _ h => h
end Ab

set_option Elab.async false
set_option linter.all false
set_option maxRecDepth 100000
set_option maxHeartbeats 2000000
set_option autoImplicit false
/-! Ab29: defs that call what they are handed; makers of closures. -/
namespace Ab
open PySem PySem.Spec PyProof.Rows L2
/-- a def that calls closures: it is told what their cells hold -/
structure CGOk (P : Program) (w : World) (K : PySem.W.Frag) (mg : Str → Option Value) (base : Heap) (CX : CXT) (k : Nat) (g : Addr) (fd : FuncData) (ps : List Str) (nm : Nat → List Str) (e : Vl) (T : Tb) (sp : Sp) : Prop where
  len : ∀ vs H Q E, sp vs H Q E → vs.length = ps.length
  run : ∀ (A : Around) (outer : List Env) (s : Shared) (H : Hp) (args : Args) (us : List Value) (vs : List V) (Q : VK) (E : XK), Room k A → Env0 P w K mg base A outer s H → BindsTo s fd args (ps.zip us) → Vals vs us → CapOk nm (capAt e) T [] s H → sp vs H Q E →
    codeAny (model P w) A (.call (.ref g) args) (CR CX outer P w H s Q E) s
section
variable {P : Program} {w : World} {K : PySem.W.Frag} {mg : Str → Option Value} {base : Heap} {x : Str} {st : Stmt} {g : Addr} {fd : FuncData} {N ps : List Str} {k : Nat} {nm : Nat → List Str} {e : Vl} {T : Tb} {sp : Sp}
theorem cgok_of (F : Fun K x x st g fd) (S : FnScope N ps (defScope st)) (len : ∀ vs H Q E, sp vs H Q E → vs.length = ps.length)
    (hbody : ∀ (cdv : Value) (A : Around) (outer : List Env) (s : Shared) (H : Hp) (vs : List V) (Q : VK) (E : XK), Room k (A.deeper (envOfC x (defScope st) s.heap.objs.size g cdv)) → CapOk nm (capAt e) T [] s H → sp vs H Q E →
      ∃ t, PSs (cxOf CX0 P w K mg base N x (defScope st) g cdv A outer s H E).nox (defBody st) t ∧ t { nx := fun _ H' => Q .non H', rt := Q } (start N vs) H) : CGOk P w K mg base CX0 (k + 1) g fd ps nm e T sp := by
  obtain ⟨oc, od, kV, doc, pm, an, cdv, ct, osl, rfl, lk, hcd⟩ := F.ex
  refine ⟨len, fun A outer s H args us vs Q E hr e0 hb r hc hsp => ?_⟩
  refine LamX.run_ofS lk hcd S hr e0 hb r (len _ _ _ _ hsp) fun hr' => ?_
  obtain ⟨t, h, q⟩ := hbody cdv A outer s H vs Q E hr' hc hsp
  exact ⟨t, h.nox, q⟩
theorem gok_zero {f : Fn} (hf : ∀ ds A, f ds A = .bad) : CGOk P w K mg base CX0 0 g fd ps nm e T (spF0 T (fun as A => f (as ++ [e]) A) ps.length) :=
  ⟨fun _ _ _ _ h => h.1, fun A outer s H args us vs Q E hr e0 hb r hc h => by
    obtain ⟨_, ι, A, ds, _, _, p⟩ := h
    dsimp only at p
    rw [hf] at p
    exact False.elim p⟩
/-- a maker of closures: its code object is known -/
theorem okM {c : Addr} (hc : fd.code = .ref c) (F : Fun K x x st g fd) (S : FnScope N ps (defScope st)) (len : ∀ vs H Q E, sp vs H Q E → vs.length = ps.length)
    (hbody : ∀ (A : Around) (outer : List Env) (s : Shared) (H : Hp) (vs : List V) (Q : VK) (E : XK), Room k (A.deeper (envOfC x (defScope st) s.heap.objs.size g (.ref c))) → sp vs H Q E →
      ∃ t, PSs (cxOf CX0 P w K mg base N x (defScope st) g (.ref c) A outer s H E).nox (defBody st) t ∧ t { nx := fun _ H' => Q .non H', rt := Q } (start N vs) H) : FnOk P w K mg base CX0 (k + 1) g fd ps sp := by
  obtain ⟨oc, od, kV, doc, pm, an, cdv, ct, osl, rfl, lk, hcd⟩ := F.ex
  have e : cdv = .ref c := hc
  subst e
  refine fn_of lk hcd S len fun A outer s H vs Q E hr hsp => ?_
  obtain ⟨t, h, q⟩ := hbody A outer s H vs Q E hr hsp
  exact ⟨t, h.nox, q⟩
end
/-! ### what G's and makers' codes are -/
def mkFnG (k : Nat) (body : (Nat → Option (List Vl)) → CS) : Fn := fun ds A => match ds.reverse with
  | e :: r => mkFn k (body (capAt e)) r.reverse A
  | [] => .bad
theorem mkFnG_app {k : Nat} {body : (Nat → Option (List Vl)) → CS} {as : List Vl} {e : Vl} {A : AH} : mkFnG k body (as ++ [e]) A = mkFn k (body (capAt e)) as A := by
  simp [mkFnG]
def chkL : Res Vl → Res Vl
  | .ok d A => if (fnOk noL d && fnOkA noL A) = true then .ok d A else .bad
  | _ => .bad
def mkMk (k : Nat) (body : CS) : Fn := fun ds A => chkL (mkFn k body ds A)
def clM (ids : Nat → Bool) (cells : List (Str × Addr)) (c : Nat → Option (List (Str × Addr))) : Nat → Option (List (Str × Addr)) := fun n => if ids n = true then some cells else c n
def Tb.mk' (T : Tb) (ids : Nat → Bool) (cells : List (Str × Addr)) : Tb := T.to (clM ids cells T.cl) T.fix
theorem clM_sub {ids : Nat → Bool} {cells : List (Str × Addr)} {T : Tb} (hids : ∀ n, ids n = true → T.cl n = none) : ∀ n x, T.cl n = some x → clM ids cells T.cl n = some x := fun n x h => by
  unfold clM
  split
  · rename_i z
    rw [hids n z] at h; cases h
  · exact h
theorem fn_startM {T : Tb} {ids : Nat → Bool} {cells : List (Str × Addr)} {N : List Str} {np : Nat} {code : CS} {vs : List V} {H : Hp} {Q : VK} {E : XK} (hids : ∀ n, ids n = true → T.cl n = none) (h : spF0 T (mkMk N.length code) np vs H Q E) :
    tS (T.mk' ids cells) EF code { nx := fun _ H' => Q .non H', rt := Q } (L2.start N vs) H := by
  obtain ⟨hl, ι, A, ds, w, r, p⟩ := h
  have sub : ∀ n x, (fun _ : Nat => true) n = true → 1000 ≤ n → T.cl n = some x → clM ids cells T.cl n = some x := fun n x _ _ h => clM_sub hids n x h
  have hfix : ∀ q ∈ T.fix, Rp (T.to (clM ids cells T.cl) T.fix) ι H q.1 q.2 [] := fun q hq => Rp.to sub _ _ _ (fnOk_all _ (fun _ => rfl) _) (w.x.fix q hq)
  have w2 : Wd (T.mk' ids cells) ι A H := w.to sub (fnOkA_all _ (fun _ => rfl) A) hfix
  have r2 : Rps (T.mk' ids cells) ι H vs ds [] := Rps.to sub _ _ _ (fnOks_all _ (fun _ => rfl) _) r
  have back : ∀ n x, noL n = true → 1000 ≤ n → (T.mk' ids cells).cl n = some x → T.cl n = some x := fun n x h1 h2 _ => absurd (Nat.le_of_ble_eq_true h1) (by omega)
  refine fn_start (EX := fun _ _ _ => False) (np := np) ⟨hl, ι, A, ds, w2, r2, ?_⟩ fun _ _ z => z
  unfold mkMk at p
  cases e : mkFn N.length code ds A with
  | bad => rw [e] at p; exact p
  | exc c A' => rw [e] at p; exact False.elim p
  | ok d A' =>
    rw [e] at p
    unfold chkL at p
    dsimp only at p
    split at p
    · rename_i hc
      rw [Bool.and_eq_true] at hc
      intro ι' H' v fp n rv f
      exact p ι' H' v fp (Nx.to (T := T.mk' ids cells) (c := T.cl) (f := T.fix) back n hc.2 w.x.fix) (Rp.to (T := T.mk' ids cells) (c := T.cl) (f := T.fix) back d v fp hc.1 rv) f
    · exact False.elim p
/-! ### a call that hands closures on -/
def cCallG (f : Fn) (en : Ev → Option Vl) (cs : CA) : CE := fun ρ A => match en ρ with
  | some e => (cs ρ A).bind fun ds A1 => callF (fun as A => f (as ++ [e]) A) ds A1
  | none => .bad
/-- en tells what the cells hold -/
def Src (X : Cx) (T : Tb) (nm : Nat → List Str) (en : Ev → Option Vl) : Prop := ∀ (σ : L2.St) (ρ : Ev) (e : Vl) (ι : List Addr) (H : Hp) (A : AH), At T σ H ι A ρ → en ρ = some e → ∃ F : List (V × Vl), (∀ q ∈ F, Rp T ι H q.1 q.2 []) ∧
  ∀ (pins : List (Addr × Obj)) (s : Shared) (H : Hp), Inv X pins σ H s → CapOk nm (capAt e) (T.wf F) [] s H
theorem ge_callG {X : Cx} {T : Tb} {k : Nat} {g : Addr} {fd : FuncData} {ps : List Str} {nm : Nat → List Str} {f : Fn} {en : Ev → Option Vl} {x : Str} {a : Expr} {es : List Expr} {cs : CA} {p pos : Pos} (G : ∀ F e, CGOk X.prog X.w X.K X.mg X.base CX0 k g fd ps nm e (T.wf F) (spF0 (T.wf F) (fun as A => f (as ++ [e]) A) ps.length)) (src : Src X T nm en) (hn : argN ps.length cs) (hr : Room k X.A) (hg : Gl X x) (hm : X.mg x = some (.ref g)) (hk : PySem.W.keepIn X.K (.ref g) = true) (hb : Binds X.K fd ps [])
    (ha : PA X (a :: es) (tA T EF cs)) (hdb : (x == ("__debug__" : Str)) = false := by decide) (he : starEach (a :: es) X.env = (false, eval a X.env) :: starEach es X.env := by rfl) (hpl : (backTo pos (starEach es X.env)).any (·.1) = false := by rfl) :
    PE X (.Call (.Name x p) (a :: es) [] pos) (tE T EF (cCallG f en cs)) := by
  refine ⟨fun pins s σ H Q I h => ?_⟩
  obtain ⟨ι, A, ρ, at0, z⟩ := h
  unfold cCallG at z
  cases e1 : en ρ with
  | none => rw [e1] at z; exact False.elim z
  | some e =>
    rw [e1] at z
    obtain ⟨F, hF, cap⟩ := src σ ρ e ι H A at0 e1
    have wish : tA T EF cs σ H fun vs H1 => spF0 (T.wf F) (fun as A => f (as ++ [e]) A) ps.length vs H1 Q fun _ _ _ => False := by
      refine ⟨ι, A, ρ, at0, ?_⟩
      dsimp only at z
      cases e2 : cs ρ A with
      | bad => rw [e2] at z; exact z
      | exc c A' => rw [e2] at z; exact z
      | ok ds A' =>
        rw [e2] at z
        intro ι1 H1 vs fp n rp fr
        have a2 := at0.wf hF
        exact callF_ok (T := T.wf F) (E := EF) (EX := fun _ _ _ => False) a2.wd a2.bl (n.wf hF) rp.wf fr (fun _ _ h => h) (by rw [rp.len]; exact hn ρ A ds A' e2) z.wf
    refine wpAny_Call_Name_kw (ld_glob I hg hm ?_ hdb)
    refine PySem.W.callWith_K (h₀ := X.base) I.ok.mod.kin hk (thn (ha.run pos pins s σ H _ I wish) fun us s1 ⟨vs, H1, I1, r, q⟩ => ⟨I1.kIn, ?_⟩) he hpl
    have hl : us.length = ps.length := by rw [← r.length]; exact (G F e).len _ _ _ _ q
    have b := hb s1 us I1.kIn (by rw [List.append_nil]; exact hl)
    rw [List.append_nil] at b
    refine wpAny_call (codeAny_mono ((G F e).run X.A X.stack s1 H1 ⟨us, []⟩ us vs Q _ hr I1.env0 b r (cap pins s1 H1 I1) q) fun r s' hq => ?_)
    cases r with
    | error e => exact (show False from hq).elim
    | ok fl =>
      cases fl with
      | ret u => exact I1.after hq
      | next => exact False.elim hq
      | brk => exact False.elim hq
      | cont => exact False.elim hq
/-! ### what the maker's frame tells of its cells -/
def slotsV (s : List (Option Vl)) : List Nat → Option (List Vl)
  | [] => some []
  | i :: r => match s[i]? with
    | some (some d) => (match slotsV s r with
      | some l => some (d :: l)
      | none => none)
    | _ => none
def capL (s : List (Option Vl)) : List (Nat × List Nat) → List Vl
  | [] => []
  | p :: r => match slotsV s p.2 with
    | some ds => .tup (.int (p.1 : Nat) :: ds) :: capL s r
    | none => capL s r
def enL (L : List (Nat × List Nat)) : Ev → Option Vl := fun ρ => some (.tup (capL ρ.s L))
theorem capAt_capL {s : List (Option Vl)} {n : Nat} {ds : List Vl} : ∀ {L : List (Nat × List Nat)}, capAt (.tup (capL s L)) n = some ds → ∃ sl, (n, sl) ∈ L ∧ slotsV s sl = some ds
  | [], h => by simp [capL, capAt, capAtL] at h
  | p :: r, h => by
    unfold capL at h
    split at h
    · rename_i d hd
      rw [capAt_cons] at h
      split at h
      · rename_i hn
        cases h
        have : p.1 = n := by exact_mod_cast hn
        subst this
        exact ⟨p.2, by simp, hd⟩
      · obtain ⟨sl, h1, h2⟩ := capAt_capL h
        exact ⟨sl, by simp [h1], h2⟩
    · obtain ⟨sl, h1, h2⟩ := capAt_capL h
      exact ⟨sl, by simp [h1], h2⟩
/-- the slots of captured names -/
def slotOk (N : List Str) (sc : Scope) : List Nat → List Str → Bool
  | [], [] => true
  | i :: r, y :: nm => decide (N[i]? = some y) && decide (sc.names.lookup y = some .cell) && slotOk N sc r nm
  | _, _ => false
def allF (σ : L2.St) (s : List (Option Vl)) : List (V × Vl) := (List.range s.length).filterMap fun i => match σ[i]?, s[i]? with
  | some (some v), some (some d) => some (v, d)
  | _, _ => none
theorem mem_allF {σ : L2.St} {s : List (Option Vl)} {i : Nat} {v : V} {d : Vl} (h1 : σ[i]? = some (some v)) (h2 : s[i]? = some (some d)) : (v, d) ∈ allF σ s := by
  unfold allF
  rw [List.mem_filterMap]
  exact ⟨i, List.mem_range.mpr (List.getElem?_eq_some_iff.mp h2).1, by rw [h1, h2]⟩
theorem allF_rp {T : Tb} {ι : List Addr} {H : Hp} {σ : L2.St} {s : List (Option Vl)} (e : Er T ι H σ s) : ∀ q ∈ allF σ s, Rp T ι H q.1 q.2 [] := fun q hq => by
  unfold allF at hq
  rw [List.mem_filterMap] at hq
  obtain ⟨i, _, h⟩ := hq
  split at h
  · rename_i v d h1 h2
    cases h
    obtain ⟨v', h3, h4⟩ := e.2 i d h2
    rw [h1] at h3
    cases h3
    exact h4
  · cases h
section
variable {X : Cx} {T : Tb} {nm : Nat → List Str} {L : List (Nat × List Nat)}
theorem caps_frame {pins : List (Addr × Obj)} {σ : L2.St} {H : Hp} {s : Shared} {sl : List (Option Vl)} {T : Tb} (I : Inv X pins σ H s) (hT : ∀ (i : Nat) v d, σ[i]? = some (some v) → sl[i]? = some (some d) → (v, d) ∈ T.fix) (hlen : ∀ (i : Nat) d, sl[i]? = some (some d) → ∃ v, σ[i]? = some (some v)) : ∀ (ix : List Nat) (ys : List Str) (ds : List Vl), slotOk X.N X.env.scope ix ys = true → slotsV sl ix = some ds → ∃ cs, Caps T X.env.cells s H ys ds cs
  | [], [], ds, _, h => by cases h; exact ⟨[], .nil⟩
  | [], _ :: _, _, h, _ => by cases h
  | _ :: _, [], _, h, _ => by cases h
  | i :: ix, y :: ys, ds, h, hs => by
    unfold slotOk at h
    rw [Bool.and_eq_true, Bool.and_eq_true] at h
    obtain ⟨⟨h1, h2⟩, h3⟩ := h
    have h1 : X.N[i]? = some y := of_decide_eq_true h1
    have h2 : X.env.scope.names.lookup y = some .cell := of_decide_eq_true h2
    unfold slotsV at hs
    split at hs
    · rename_i d hd
      split at hs
      · rename_i l hl
        cases hs
        obtain ⟨cs, hc⟩ := caps_frame I hT hlen ix ys l h3 hl
        obtain ⟨v, hv⟩ := hlen i d hd
        obtain ⟨m, hn, hloc⟩ := I.loc
        obtain ⟨u, ru, lk⟩ := hloc i y v h1 hv (.inr (.inl h2))
        rcases lk with ⟨z, _⟩ | ⟨_, c, e, z⟩
        · have z : X.env.scope.names.lookup y = some .local := z
          rw [h2] at z; cases z
        · exact ⟨v :: cs, .cons e z ru (I.freeC y c e) (hT i v d hv hd) hc⟩
      · cases hs
    · cases hs
theorem src_frame (hL : ∀ p ∈ L, T.cl p.1 = some X.env.cells ∧ slotOk X.N X.env.scope p.2 (nm p.1) = true) : Src X T nm (enL L) := fun σ ρ e ι H A at0 he => by
  cases he
  refine ⟨allF σ ρ.s, allF_rp at0.er, fun pins s H I n ds cl h1 h2 => ?_⟩
  obtain ⟨sl, m1, m2⟩ := capAt_capL h1
  obtain ⟨k1, k2⟩ := hL _ m1
  have k1 : T.cl n = some X.env.cells := k1
  have h2 : T.cl n = some cl := h2
  rw [k1] at h2
  cases h2
  refine ⟨I.ok.inj, fun _ _ _ => by simp, ?_⟩
  exact caps_frame (sl := ρ.s) I (fun i v d a b => List.mem_append_left _ (mem_allF a b)) (fun i d a => by
    obtain ⟨v, h, _⟩ := at0.er.2 i d a
    exact ⟨v, h⟩) sl (nm n) ds k2 m2
/-- a block within the frame -/
theorem src_block {e : Vl} (h : CapOk nm (capAt e) T X.ex X.s_0 X.H_0) : Src X T nm (fun _ => some e) := fun σ ρ e' ι H A at0 he => by
  cases he
  refine ⟨[], by simp, fun pins s H I n ds cl h1 h2 => ?_⟩
  obtain ⟨z1, z2, cs, z3⟩ := h n ds cl h1 h2
  exact ⟨z1, fun _ _ _ => by simp, cs, z3.nextE z2 I.base⟩
end
/-! ### comprehensions in a maker -/
def cLcG (en : Ev → Option Vl) (ci : CI) (t : Tgt) (test : CT) (ce : Vl → CE) (vs : List Nat) : CE := fun ρ A => match en ρ with
  | some e => cLc ci t test (ce e) vs ρ A
  | none => .bad
theorem ge_lcG {X : Cx} {T : Tb} {E : XE} {nm : Nat → List Str} {en : Ev → Option Vl} {elt tg iter : Expr} {ifs : List Expr} {scope : Scope} {own : List (Str × Nat)} {pos : Pos} {ci : CI} {t : Tgt} {test : CT} {ce : Vl → CE} (src : Src X T nm en) (hcl : ∀ n cl e, capAt e n ≠ none → (∃ ρ, en ρ = some e) → T.cl n = some cl → cl = X.env.cells)
    (hsl : ∀ i ∈ slots t, i ∈ own.map (·.2)) (hc : X.calm = true) (hN : X.N.Nodup) (hi : PI X tg iter (tI T E ci)) (ok : BlkOk X.N X.env.scope scope own)
    (hg : ∀ (s : Shared) (H : Hp) (C : Addr) (cl : List (Str × Addr)) (fp : List Addr), PG (X.blk s H scope (compEnvC scope cl C X.env) fp) tg (den T.K t)) (ht : ∀ (s : Shared) (H : Hp) (C : Addr) (cl : List (Str × Addr)) (fp : List Addr), PTs (X.blk s H scope (compEnvC scope cl C X.env) fp) ifs (tT T EF test))
    (he : ∀ (F : List (V × Vl)) (e : Vl) (s : Shared) (H : Hp) (fp : List Addr), CapOk nm (capAt e) (T.wf F) fp s H → PE (X.blk s H scope (compEnvC scope (cellsFrom (s.heap.objs.size + 1) scope.names (cloFrom X.env.cells scope.names [])) s.heap.objs.size X.env) fp) elt (tE (T.wf F) EF (ce e))) (hs : ∀ x, foldedSetIterable iter X.env x = pure x := by intro _; rfl) :
    PE X (.ListComp elt [⟨tg, iter, ifs, 0⟩] scope pos) (tE T E (cLcG en ci t test ce (own.map (·.2)))) := by
  refine ⟨fun pins s σ H Q I h => ?_⟩
  obtain ⟨ι, A, ρ, at0, z⟩ := h
  unfold cLcG at z
  cases e1 : en ρ with
  | none => rw [e1] at z; exact False.elim z
  | some e =>
    rw [e1] at z
    obtain ⟨F, hF, cap⟩ := src σ ρ e ι H A at0 e1
    refine pe_lcI hc hN hi ok hg ht (fun pins s H fp I hfp => he F e s H fp fun n ds cl h1 h2 => ?_) hs pins s H Q I (lc_okF hsl at0 z hF)
    obtain ⟨y1, _, y3⟩ := cap pins s H I n ds cl h1 h2
    have h2 : T.cl n = some cl := h2
    have ee := hcl n cl e (by rw [h1]; simp) ⟨ρ, e1⟩ h2
    subst ee
    exact ⟨y1, fun y c hy hb => hfp c hb y c hy rfl, y3⟩
end Ab

set_option Elab.async false
set_option linter.all false
set_option maxRecDepth 100000
set_option maxHeartbeats 2000000
set_option autoImplicit false
/-! Ab30: facts of makers; the law's end. -/
namespace Ab
open PySem PySem.Spec PyProof.Rows L2
inductive CbL (P : Program) (w : World) (K : PySem.W.Frag) (mg : Str → Option Value) (base : Heap) (CX : CXT) (sp : SPK) (k : Nat) (T : Tb) (nm : Nat → List Str) (np : Nat) (R : Nat → Fn) (n : Nat) : Prop
  | lam (h1 : 1000 ≤ n) (h2 : LOk P w K mg base CX sp k n T (nm n) np (R n)) : CbL P w K mg base CX sp k T nm np R n
  | fn {x : Str} {st : Stmt} {fd : FuncData} {ps : List Str} (h1 : n < 1000) (h2 : FnOk P w K mg base CX k (T.fa n) fd ps (sp T (R n) np)) (h3 : Fun K x x st (T.fa n) fd) (h4 : Binds K fd ps []) : CbL P w K mg base CX sp k T nm np R n
theorem CbL.ok {X : Cx} {T : Tb} {CX : CXT} {sp : SPK} {k n np : Nat} {R : Nat → Fn} {caps : Nat → Option (List Vl)} {nm : Nat → List Str} (h : CbL X.prog X.w X.K X.mg X.base CX sp k T nm np R n) (h0 : ∀ vs H Q E, ¬ sp T (fun _ _ => .bad) np vs H Q E) (hcap : CapOk nm caps T X.ex X.s_0 X.H_0) (hr : Room k X.A) : CbOk X CX T n np (clF caps R n) sp := by
  cases h with
  | lam h1 h2 => exact cb_clo h1 h2 h0 hcap hr
  | fn h1 h2 h3 h4 => exact clF_def h1 (cb_def h1 h2 h3 h4 hr)
theorem hcl_enL {X : Cx} {T : Tb} {nm : Nat → List Str} {L : List (Nat × List Nat)} (hL : ∀ p ∈ L, T.cl p.1 = some X.env.cells ∧ slotOk X.N X.env.scope p.2 (nm p.1) = true) : ∀ n cl e, capAt e n ≠ none → (∃ ρ, enL L ρ = some e) → T.cl n = some cl → cl = X.env.cells := fun n cl e h1 h2 h3 => by
  obtain ⟨ρ, h2⟩ := h2
  cases h2
  obtain ⟨ds, hd⟩ := Option.ne_none_iff_exists'.mp h1
  obtain ⟨sl, m1, _⟩ := capAt_capL hd
  have := (hL _ m1).1
  have : T.cl n = some X.env.cells := this
  rw [h3] at this
  exact Option.some.inj this
/-! ### making: in the frame, in a block -/
theorem cells_no {n : Nat} : ∀ {names : List (Str × NameKind)} {acc : List (Str × Addr)}, (∀ y ∈ names, y.2 ≠ .cell) → cellsFrom n names acc = acc
  | [], _, _ => rfl
  | (m, k) :: r, acc, h => by
    unfold cellsFrom
    have hk : ¬ (k == NameKind.cell) = true := fun z => h (m, k) (by simp) (by simpa using z)
    rw [if_neg hk]
    exact cells_no fun y hy => h y (by simp [hy])
theorem clo_look {cells : List (Str × Addr)} {names : List (Str × NameKind)} {y : Str} {c : Addr} (hy : names.lookup y = some .free) (hc : cells.lookup y = some c) : (cloFrom cells names []).lookup y = some c := by
  obtain ⟨c', e⟩ := mem_lookup (cloFrom_has (cells := cells) (acc := []) (PySem.mem_of_lookup hy))
  rcases cloFrom_mem (PySem.mem_of_lookup e) with z | ⟨_, z⟩
  · cases z
  · rw [hc] at z
    rw [e, z]; rfl
/-- the lambda's captured names are cells of the def, and known to the block -/
def freeOk (sc ms : Scope) : Bool := sc.names.all fun y => !decide (y.2 = .free) || decide (ms.names.lookup y.1 = some .cell)
def freeOkB (sc bs ms : Scope) : Bool := (bs.names.all fun y => !decide (y.2 = .cell)) && sc.names.all fun y => !decide (y.2 = .free) || (decide (ms.names.lookup y.1 = some .cell) && decide (bs.names.lookup y.1 = some .free))
theorem free_frame {sc ms : Scope} {n : Nat} (h : freeOk sc ms = true) : ∀ y ∈ sc.names, y.2 = .free → ∃ c, (cellsFrom n ms.names []).lookup y.1 = some c ∧ (cellsFrom n ms.names []).lookup y.1 = some c := fun y hy e => by
  have := List.all_eq_true.mp h y hy
  rw [Bool.or_eq_true, e] at this
  rcases this with z | z
  · simp at z
  · obtain ⟨c, hc⟩ := cell_has (n := n) (of_decide_eq_true z)
    exact ⟨c, hc, hc⟩
theorem free_block {sc bs ms : Scope} {n m : Nat} (h : freeOkB sc bs ms = true) : ∀ y ∈ sc.names, y.2 = .free → ∃ c, (cellsFrom m bs.names (cloFrom (cellsFrom n ms.names []) bs.names [])).lookup y.1 = some c ∧ (cellsFrom n ms.names []).lookup y.1 = some c := fun y hy e => by
  unfold freeOkB at h
  rw [Bool.and_eq_true] at h
  have h2 := List.all_eq_true.mp h.2 y hy
  rw [Bool.or_eq_true, e, Bool.and_eq_true] at h2
  rw [cells_no fun y hy => by simpa using List.all_eq_true.mp h.1 y hy]
  rcases h2 with z | ⟨z1, z2⟩
  · simp at z
  · obtain ⟨c, hc⟩ := cell_has (n := n) (of_decide_eq_true z1)
    exact ⟨c, clo_look (of_decide_eq_true z2) hc, hc⟩
/-! ### the law's end -/
def spLaw (K : PySem.W.Frag) (cs : List (Addr × Addr)) (m : Nat) : Sp := fun vs H Q _ => ∃ (a : Addr) (ns : List Int), vs = [.ref a] ∧ ns.length ≤ m ∧ (∀ z ∈ ns, Builtin.Int.intBits z ≤ 1048576) ∧ (∀ p ∈ cs, H p.2 = some (.tbl #[])) ∧ SqL K H a (ns.map V.int) ∧ ∀ H', Q (.bl true) H'
theorem law_fn {P : Program} {w : World} {K : PySem.W.Frag} {mg : Str → Option Value} {base : Heap} {k m : Nat} {fa : Addr} {fd : FuncData} {x : Str} {T : Tb} {f : Fn} {cs : List (Addr × Addr)} (hK : T.K = K) (hfix : T.fix = []) (htabs : ∀ p ∈ T.tabs, ∃ q ∈ cs, q.2 = p.1) (F : FnOk P w K mg base CX0 k fa fd [x] (spF0 T f 1))
    (htrue : ∀ ns : List Int, ns.length ≤ m → (∀ z ∈ ns, Builtin.Int.intBits z ≤ 1048576) → ∃ A, f [.rol (ns.map Vl.int)] [] = .ok (.bl true) A) : FnOk P w K mg base CX0 k fa fd [x] (spLaw K cs m) := by
  have core : ∀ (H : Hp) (a : Addr) (ns : List Int) (Q : VK) (E : XK), ns.length ≤ m → (∀ z ∈ ns, Builtin.Int.intBits z ≤ 1048576) → (∀ p ∈ cs, H p.2 = some (.tbl #[])) → ROk T H a (ns.map V.int) → (∀ H', Q (.bl true) H') → spF0 T f 1 [.ref a] H Q E := fun H a ns Q E h1 h2 h3 h4 h5 => by
    have wx : Wx T [] H := ⟨by rw [hfix]; simp, fun p hp => by
      obtain ⟨q, hq, e⟩ := htabs p hp
      exact LamX.TabS.nil (by rw [← e]; exact h3 q hq)⟩
    refine ⟨rfl, [], [], [.rol (ns.map Vl.int)], ⟨rfl, List.nodup_nil, fun n k xs a h => by simp at h, wx⟩, Rps.one (.rol (vs := ns.map V.int) h4 (rps_ints ns)), ?_⟩
    obtain ⟨A, e⟩ := htrue ns h1 h2
    rw [e]
    intro ι' H' v fp n r f
    cases r
    exact h5 H'
  refine ⟨fun vs H Q E h => by obtain ⟨a, ns, rfl, _⟩ := h; rfl, fun A outer s H args us vs Q E hr e0 hb r h => ?_⟩
  obtain ⟨a, ns, rfl, h1, h2, h3, h4, h5⟩ := h
  rcases h4 with (h4 | h4) | h4
  · -- the list is tracked as one that may change: known from here on
    have oa := e0.hok a _ h4
    obtain ⟨z, its, n, rv, eo⟩ := oa
    generalize ho : ({ cls := .type "list", data := .seq its.toArray n } : Obj) = o at eo
    have na : ∀ b, H b = none → b ≠ a := fun b hb e => by rw [e, h4] at hb; cases hb
    have hok : HOk P w (upd H a (.frz o (.lst (ns.map V.int)))) s.heap := fun b u e => by
      by_cases hba : b = a
      · subst hba
        rw [upd_same] at e
        cases e
        exact ⟨eo, z, its, n, rv, by rw [ho]; exact eo⟩
      · rw [upd_ne hba] at e
        refine (e0.hok b u e).stay (fun _ _ _ q => q) (fun c q => ?_) fun c xs q => ?_
        · rw [upd_ne (ne_of q h4 (by intro z; cases z))]; exact q
        · rw [upd_ne (ne_of q h4 (by intro z; cases z))]; exact q
    have e1 : Env0 P w K mg base A outer s (upd H a (.frz o (.lst (ns.map V.int)))) := ⟨e0.frames, e0.mod, fun b o e => ⟨(e0.bs b o e).1, by rw [upd_ne (na b (e0.bs b o e).2)]; exact (e0.bs b o e).2⟩, e0.bsz, e0.funs, fun b hb => by rw [upd_ne (na b (e0.frf b hb))]; exact e0.frf b hb, hok, e0.bare⟩
    refine codeAny_mono (F.run A outer s _ args us [.ref a] Q E hr e1 hb r (core _ a ns Q E h1 h2 (fun p hp => by rw [upd_ne (ne_of (h3 p hp) h4 (by intro z; cases z))]; exact h3 p hp) (.inl ⟨o, upd_same⟩) h5)) fun r s' hq => ?_
    cases r with
    | error e => exact (show False from hq).elim
    | ok fl =>
      cases fl with
      | ret u =>
        obtain ⟨v, H', os, bare, un, hok', rr, q⟩ := hq
        exact ⟨v, H', os, bare, ⟨fun b o e n => un.keep b o e (by rw [upd_ne (na b n)]; exact n), fun b o e n => un.slot b o e (by rw [upd_ne (na b n)]; exact n), fun b o e n => un.free b o e (by rw [upd_ne (na b n)]; exact n), un.there,
          fun b xs e => un.tups b xs (by rw [upd_ne (ne_of e h4 (by intro z; cases z))]; exact e), fun b o u e => un.frzs b o u (by rw [upd_ne (ne_of e h4 (by intro z; cases z))]; exact e), fun b ps e => un.tbls b ps (by rw [upd_ne (ne_of e h4 (by intro z; cases z))]; exact e)⟩, hok', rr, q⟩
      | next => exact False.elim hq
      | brk => exact False.elim hq
      | cont => exact False.elim hq
  · exact F.run A outer s H args us [.ref a] Q E hr e0 hb r (core H a ns Q E h1 h2 h3 (.inl h4) h5)
  · exact F.run A outer s H args us [.ref a] Q E hr e0 hb r (core H a ns Q E h1 h2 h3 (.inr (by rw [hK]; exact h4)) h5)
/-- a law's head that knows the tables of its defs -/
theorem walk_T {l : PySem.W.OpenLaw} {n k : Nat} {q : Program} {loose : List Str} {XP : (Str → Option Value) → Heap → Prop} {YP : World → Heap → Prop} {d : DefRec} {K : Params → PySem.W.Frag} {x : Str} (hn : l.most = some n) (hn2 : n ≤ sizeLine) (hdf : d.params.defaults = []) (hr : Room k callerA) (hY : ∀ (w : World) (h : Heap), YP w h → (K w.params).In h)
    (F : ∀ (w : World) (mg : Str → Option Value) (fa : Addr) (h : Heap), (K w.params).In h → h.Ns mainGlobals mg → mg d.name = some (.ref fa) →
      (∀ (y : Str) (c P : Addr) (dr : DefRec), (recsOf q).find? (fun e => e.name == y) = some dr → PySem.W.tabIn (K w.params) y = some (c, P) → PySem.W.CodeHd h c P ∧ h.get? P = some (PySem.W.tabObj #[])) → LamX.LawAtS l w (K w.params) CX0 k n x mg fa h) :
    PySem.W.WalkO q loose XP YP l.row.toRowW d [] (fun f vs => PySem.call f vs) := by
  refine Att.attach_callB hn hdf fun w s₀ s₁ mg mb fa o pm cd doc a vs ns G Y ho hd hcd hmg hobj hints hlen hbits hg => ?_
  have KX := hY w _ Y
  obtain ⟨fd, cs, sp, t1, t2, t3, t4, t5, t6⟩ := F w mg fa _ KX G.T.g hmg fun y c P dr e1 e2 => PySem.W.tab_of G.T KX e1 e2
  exact LamX.law_callTs KX G.T.g G.T.b G.T.builtins G.T.nolimit hg t1 t2 t3 G.T.bmain hobj hints (Nat.le_trans hlen hn2) hr t6 t4 (fun H hH hS => t5 H a ns hlen hbits hH hS) fun _ _ _ z => z
end Ab

set_option Elab.async false
set_option linter.all false
set_option maxRecDepth 100000
set_option maxHeartbeats 2000000
set_option autoImplicit false
/-! Ab31: places in a def's text; small helps for printed texts. -/
namespace Ab
open PySem PySem.Spec PyProof.Rows L2
def noE : Expr := .Constant .none 0 ⟨0, 0, 0, 0⟩
def noS : Stmt := .Pass ⟨0, 0, 0, 0⟩
/-- the i-th statement of a def, of a loop or a branch -/
def dS (s : Stmt) (i : Nat) : Stmt := (defBody s).getD i noS
def sS : Stmt → Nat → Stmt
  | .If _ b _ _, i => b.getD i noS
  | .For _ _ b _ _, i => b.getD i noS
  | .While _ b _ _, i => b.getD i noS
  | _, _ => noS
/-- the expression of a statement; a part of an expression -/
def sE : Stmt → Expr
  | .Return (some e) _ => e
  | .Assign _ e _ => e
  | .Expr e _ => e
  | .If e _ _ _ => e
  | .For _ e _ _ _ => e
  | _ => noE
def eE : Expr → Nat → Expr
  | .BoolOp _ vs _, i => vs.getD i noE
  | .BinOp a _ b _, i => if i = 0 then a else b
  | .UnaryOp _ a _, _ => a
  | .ListComp e _ _ _, _ => e
  | .Compare a _ bs _, i => if i = 0 then a else bs.getD (i - 1) noE
  | .Call _ as _ _, i => as.getD i noE
  | .List es _, i => es.getD i noE
  | .Tuple es _ _, i => es.getD i noE
  | _, _ => noE
def laBody : Expr → Expr
  | .Lambda _ b _ _ => b
  | _ => noE
def laArgs : Expr → Arguments
  | .Lambda a _ _ _ => a
  | _ => ⟨[], [], none, [], [], none, []⟩
def laScope : Expr → Scope
  | .Lambda _ _ s _ => s
  | _ => ⟨.function, [], false, false, []⟩
def laPos : Expr → Pos
  | .Lambda _ _ _ p => p
  | _ => ⟨0, 0, 0, 0⟩
def inL (L : List Nat) : Nat → Bool := fun n => L.any fun j => Nat.beq n j
theorem inL_mem {L : List Nat} {n : Nat} (h : inL L n = true) : n ∈ L := by
  unfold inL at h
  obtain ⟨j, hj, e⟩ := List.any_eq_true.mp h
  rw [Nat.eq_of_beq_eq_true e]; exact hj
/-- of a caller's lambdas a callee knows nothing -/
theorem clM_no {L req : List Nat} {cells : List (Str × Addr)} {c : Nat → Option (List (Str × Addr))} (hd : (req.all fun n => !inL L n) = true) (h : ∀ n ∈ req, c n = none) : ∀ n ∈ req, clM (inL L) cells c n = none := fun n hn => by
  have z := List.all_eq_true.mp hd n hn
  unfold clM
  rw [if_neg (by intro y; rw [y] at z; cases z)]
  exact h n hn
theorem clM_at {L : List Nat} {cells : List (Str × Addr)} {c : Nat → Option (List (Str × Addr))} {n : Nat} (h : inL L n = true) : clM (inL L) cells c n = some cells := by
  unfold clM
  rw [if_pos h]
theorem none_sub {req req2 : List Nat} {c : Nat → Option (List (Str × Addr))} (hd : (req2.all fun n => inL req n) = true) (h : ∀ n ∈ req, c n = none) : ∀ n ∈ req2, c n = none := fun n hn => h n (inL_mem (List.all_eq_true.mp hd n hn))
theorem ids_none {L req : List Nat} {c : Nat → Option (List (Str × Addr))} (hd : (L.all fun n => inL req n) = true) (h : ∀ n ∈ req, c n = none) : ∀ n, inL L n = true → c n = none := fun n hn => h n (inL_mem (List.all_eq_true.mp hd n (inL_mem hn)))
theorem spF0_G {T : Tb} {k np : Nat} {body : (Nat → Option (List Vl)) → CS} {e : Vl} {vs : List V} {H : Hp} {Q : VK} {E : XK} (h : spF0 T (fun as A => mkFnG k body (as ++ [e]) A) np vs H Q E) : spF T (mkFn k (body (capAt e))) np vs H Q (fun _ _ _ => False) := by
  have ef : (fun as A => mkFnG k body (as ++ [e]) A) = mkFn k (body (capAt e)) := by
    funext as A
    exact mkFnG_app
  rw [ef] at h
  exact h
/-- the code's table is that of a maker -/
theorem tab_look {K : PySem.W.Frag} {x : Str} {f c P : Addr} {oc oe : Value} {od oo : Option Addr} {fd : FuncData} {sl sl2 : Array (Option Value)} {vs : Array Value} (a : PySem.W.nsIn K mainGlobals x = some (some (.ref f))) (l : K.lookup f = some ⟨oc, od, .func fd, sl⟩) (hc : fd.code = .ref c) (q : K.lookup c = some ⟨oe, oo, .fields vs, sl2⟩) (v : vs[11]? = some (.ref P)) : PySem.W.tabIn K x = some (c, P) := by
  unfold PySem.W.tabIn
  rw [a]
  simp only [l, hc, q, v]
end Ab

set_option Elab.async false
set_option linter.all false
set_option maxRecDepth 100000
set_option maxHeartbeats 4000000
namespace G
open PySem PySem.Spec PyProof.Rows L2 Ab
def top (i : Nat) : Stmt := PySem.Challenge.pw_unlikeroads_k10_handed_stays.main.body.getD i (.Pass ⟨0, 0, 0, 0⟩)
def okc1 : Nat → Bool := inL [1000, 1001, 1003, 1004, 1006, 1007, 1008]
def okc2 : Nat → Bool := inL [1002, 1005, 1009]
/-! ### is_whole -/
abbrev s0 : Stmt := top 11
abbrev N0 : List Str := ["thing", "least"]
abbrev p0 : List Str := ["thing", "least"]
/-! ### check_street -/
abbrev s1 : Stmt := top 12
abbrev N1 : List Str := ["street", "one"]
abbrev p1 : List Str := ["street"]
/-! ### many_of -/
abbrev s2 : Stmt := top 13
abbrev N2 : List Str := ["street"]
abbrev p2 : List Str := ["street"]
/-! ### ahead_of -/
abbrev s3 : Stmt := top 14
abbrev N3 : List Str := ["street", "spot", "low", "high", "at", "count"]
abbrev p3 : List Str := ["street", "spot"]
/-! ### number_at -/
abbrev s4 : Stmt := top 15
abbrev N4 : List Str := ["street", "spot", "place", "low", "high"]
abbrev p4 : List Str := ["street", "spot", "place"]
/-! ### houses_of -/
abbrev s5 : Stmt := top 16
abbrev N5 : List Str := ["street"]
abbrev p5 : List Str := ["street"]
/-! ### number_of -/
abbrev s6 : Stmt := top 17
abbrev N6 : List Str := ["street", "house", "one"]
abbrev p6 : List Str := ["street", "house"]
/-! ### house_of -/
abbrev s7 : Stmt := top 18
abbrev N7 : List Str := ["street", "number", "many", "lows", "side", "left", "spot", "count", "own"]
abbrev p7 : List Str := ["street", "number"]
/-! ### road_of -/
abbrev s8 : Stmt := top 19
abbrev N8 : List Str := ["street", "difference", "many", "left", "spot", "count"]
abbrev p8 : List Str := ["street", "difference"]
/-! ### gap_of -/
abbrev s9 : Stmt := top 22
abbrev N9 : List Str := ["numbers", "road"]
abbrev p9 : List Str := ["numbers", "road"]
/-! ### is_below -/
abbrev s10 : Stmt := top 23
abbrev N10 : List Str := ["thing", "many"]
abbrev p10 : List Str := ["thing", "many"]
/-! ### Good.shows -/
abbrev s12 : Stmt := inClass (top 24) 0
abbrev N12 : List Str := ["self", "houses", "roads", "numbers", "road"]
abbrev p12 : List Str := ["self", "houses", "roads", "numbers"]
/-! ### Beyond.__init__ -/
abbrev s13 : Stmt := inClass (top 25) 0
abbrev N13 : List Str := ["self", "house"]
abbrev p13 : List Str := ["self", "house"]
/-! ### Beyond.shows -/
abbrev s14 : Stmt := inClass (top 25) 1
abbrev N14 : List Str := ["self", "houses", "roads", "numbers"]
abbrev p14 : List Str := ["self", "houses", "roads", "numbers"]
/-! ### Alike.__init__ -/
abbrev s15 : Stmt := inClass (top 26) 0
abbrev N15 : List Str := ["self", "one", "other"]
abbrev p15 : List Str := ["self", "one", "other"]
/-! ### Alike.shows -/
abbrev s16 : Stmt := inClass (top 26) 1
abbrev N16 : List Str := ["self", "houses", "roads", "numbers"]
abbrev p16 : List Str := ["self", "houses", "roads", "numbers"]
/-! ### Same.__init__ -/
abbrev s17 : Stmt := inClass (top 27) 0
abbrev N17 : List Str := ["self", "one", "other"]
abbrev p17 : List Str := ["self", "one", "other"]
/-! ### Same.shows -/
abbrev s18 : Stmt := inClass (top 27) 1
abbrev N18 : List Str := ["self", "houses", "roads", "numbers"]
abbrev p18 : List Str := ["self", "houses", "roads", "numbers"]
/-! ### are_joined -/
abbrev s11 : Stmt := top 28
abbrev N11 : List Str := ["roads", "one", "other"]
abbrev p11 : List Str := ["roads", "one", "other"]
/-! ### Street.__init__ -/
abbrev s19 : Stmt := inClass (top 29) 0
abbrev N19 : List Str := ["self", "way"]
abbrev p19 : List Str := ["self", "way"]
/-! ### Street.shows -/
abbrev s20 : Stmt := inClass (top 29) 1
abbrev N20 : List Str := ["self", "houses", "roads", "way", "house", "one", "other"]
abbrev p20 : List Str := ["self", "houses", "roads"]
/-! ### Spread.__init__ -/
abbrev s21 : Stmt := inClass (top 30) 0
abbrev N21 : List Str := ["self", "house", "first", "second", "third"]
abbrev p21 : List Str := ["self", "house", "first", "second", "third"]
/-! ### Spread.shows -/
abbrev s22 : Stmt := inClass (top 30) 1
abbrev N22 : List Str := ["self", "houses", "roads", "some", "one", "road"]
abbrev p22 : List Str := ["self", "houses", "roads"]
/-! ### near_of -/
abbrev s23 : Stmt := top 33
abbrev N23 : List Str := ["houses", "roads", "found", "one", "other", "house", "some"]
abbrev p23 : List Str := ["houses", "roads"]
/-! ### is_road -/
abbrev s24 : Stmt := top 34
abbrev N24 : List Str := ["houses", "thing"]
abbrev p24 : List Str := ["houses", "thing"]
/-! ### check_tree -/
abbrev s25 : Stmt := top 35
abbrev N25 : List Str := ["houses", "roads", "near", "met", "waiting", "other", "one"]
abbrev p25 : List Str := ["houses", "roads"]
/-! ### way_through -/
abbrev s26 : Stmt := top 36
abbrev N26 : List Str := ["near", "inner", "ends", "found", "on", "house", "some", "other"]
abbrev p26 : List Str := ["near"]
/-! ### spread_in -/
abbrev s27 : Stmt := top 37
abbrev N27 : List Str := ["near", "house", "some", "inner", "other"]
abbrev p27 : List Str := ["near"]
/-! ### street_in -/
abbrev s28 : Stmt := top 38
abbrev N28 : List Str := ["houses", "roads", "near", "spread"]
abbrev p28 : List Str := ["houses", "roads"]
/-! ### numbered -/
abbrev s29 : Stmt := top 39
abbrev N29 : List Str := ["houses", "roads", "near", "way", "sides", "street", "found", "spot", "house", "at", "other", "some"]
abbrev p29 : List Str := ["houses", "roads"]
/-! ### is_number -/
abbrev s30 : Stmt := top 41
abbrev N30 : List Str := ["thing"]
abbrev p30 : List Str := ["thing"]
/-! ### first_twice -/
abbrev s31 : Stmt := top 42
abbrev N31 : List Str := ["some", "at", "one"]
abbrev p31 : List Str := ["some"]
/-! ### judged -/
abbrev s32 : Stmt := top 43
abbrev N32 : List Str := ["houses", "roads", "numbers", "house", "number", "twice", "one", "road"]
abbrev p32 : List Str := ["houses", "roads", "numbers"]
/-! ### upended -/
abbrev s33 : Stmt := top 44
abbrev N33 : List Str := ["numbers", "one"]
abbrev p33 : List Str := ["numbers"]
/-! ### _law_copied -/
abbrev s60 : Stmt := top 46
abbrev N60 : List Str := ["_law_thing", "_law_one"]
abbrev p60 : List Str := ["_law_thing"]
def c__law_copied_e0 (R : Nat → Fn) : CE :=
  (cCall (R 60) (cCons (cVar 1) cNil))
def c__law_copied (R : Nat → Fn) : CS :=
  (cRet (cIfE (cTst (cF1 (fIsi .lst) (cVar 0))) (cLc (cIt (cVar 0)) (.nm 1) cYes (c__law_copied_e0 R) [1]) (cVar 0)))
/-! ### _law_spoiled -/
abbrev s61 : Stmt := top 47
abbrev N61 : List Str := ["_law_thing", "_law_one"]
abbrev p61 : List Str := ["_law_thing"]
def c__law_spoiled_b0 (R : Nat → Fn) : CS :=
  (cIf (cTst (cF1 (fIsi .lst) (cVar 1)))
  (cDrop (cCall (R 61) (cCons (cVar 1) cNil)))
  cNx)
def c__law_spoiled (R : Nat → Fn) : CS :=
  (cSeq (cFor (cIt (cVar 0)) (.nm 1) (c__law_spoiled_b0 R))
  (cSeq (cDrop (cM fAppend (cVar 0) (cCons (cC (.int 99)) cNil)))
  (cDrop (cM0 fReverse (cVar 0)))))
/-! ### _law_laid -/
abbrev s62 : Stmt := top 48
abbrev N62 : List Str := ["_law_mine", "_law_other", "_law_at", "_law_one"]
abbrev p62 : List Str := ["_law_mine", "_law_other"]
def c__law_laid_b0 (R : Nat → Fn) : CS :=
  (cDrop (cM0 fPop (cVar 0)))
def c__law_laid_b1 (R : Nat → Fn) : CS :=
  (cIf (cTst (cF2 (fEqD false) (cVar 2) (cF fLen (cCons (cVar 0) cNil))))
  (cDrop (cM fAppend (cVar 0) (cCons (cCall (R 60) (cCons (cVar 3) cNil)) cNil)))
  (cIf (cAnd (cTst (cF1 (fIsi .lst) (cVar 3))) (cTst (cF1 (fIsi .lst) (cF2 fIx (cVar 0) (cVar 2)))))
  (cDrop (cCall (R 62) (cCons (cF2 fIx (cVar 0) (cVar 2)) (cCons (cVar 3) cNil))))
  (cSetI (cVar 0) (cVar 2) (cCall (R 60) (cCons (cVar 3) cNil)))))
def c__law_laid (R : Nat → Fn) : CS :=
  (cSeq (cWhile 100 (cTst (cF2 fGt (cF fLen (cCons (cVar 0) cNil)) (cF fLen (cCons (cVar 1) cNil)))) (c__law_laid_b0 R))
  (cFor (cEn (cVar 1)) (.tp [(.nm 2), (.nm 3)]) (c__law_laid_b1 R)))
/-! ### _law_door_right -/
abbrev s63 : Stmt := top 49
abbrev N63 : List Str := ["_law_ask", "_law_one", "_law_other", "_law_mine", "_law_given", "_law_before"]
abbrev p63 : List Str := ["_law_ask", "_law_one", "_law_other"]
def c__law_door_right (R : Nat → Fn) (caps : Nat → Option (List Vl)) : CS :=
  (cSeq (cPut (.nm 3) (cCall (R 60) (cCons (cVar 1) cNil)))
  (cSeq (cPut (.nm 4) (cCallV 0 okc1 (clF caps R) (cCons (cVar 3) cNil)))
  (cSeq (cIf (cTst (cF2 (fEqD true) (cVar 3) (cVar 1)))
  (cRet (cC (.bl false)))
  cNx)
  (cSeq (cPut (.nm 5) (cCall (R 60) (cCons (cVar 4) cNil)))
  (cSeq (cDrop (cCall (R 61) (cCons (cVar 4) cNil)))
  (cSeq (cIf (cTst (cF2 (fEqD true) (cCallV 0 okc1 (clF caps R) (cCons (cVar 3) cNil)) (cVar 5)))
  (cRet (cC (.bl false)))
  cNx)
  (cSeq (cDrop (cCall (R 62) (cCons (cVar 3) (cCons (cVar 2) cNil))))
  (cSeq (cIf (cOr (cTst (cF2 (fEqD true) (cCallV 0 okc1 (clF caps R) (cCons (cVar 3) cNil)) (cCallV 0 okc1 (clF caps R) (cCons (cCall (R 60) (cCons (cVar 2) cNil)) cNil)))) (cTst (cF2 (fEqD true) (cVar 3) (cVar 2))))
  (cRet (cC (.bl false)))
  cNx)
  (cSeq (cDrop (cCall (R 62) (cCons (cVar 3) (cCons (cVar 1) cNil))))
  (cRet (cAndV (cF2 (fEqD false) (cCallV 0 okc1 (clF caps R) (cCons (cVar 3) cNil)) (cVar 5)) (cF2 (fEqD false) (cVar 3) (cVar 1)))))))))))))
/-! ### _law_told -/
abbrev s64 : Stmt := top 50
abbrev N64 : List Str := ["_law_found"]
abbrev p64 : List Str := ["_law_found"]
def c__law_told (R : Nat → Fn) : CS :=
  (cRet (cIfE (cTst (cIsO is_Street (cVar 0))) (cFld ix_way (cVar 0)) (cLst cNil)))
/-! ### _law_free_right -/
abbrev s65 : Stmt := top 51
abbrev N65 : List Str := ["_law_ask", "_law_holds", "_law_one", "_law_other", "_law_mine", "_law_things", "_law_found"]
abbrev p65 : List Str := ["_law_ask", "_law_holds", "_law_one", "_law_other"]
def c__law_free_right_b0 (R : Nat → Fn) (caps : Nat → Option (List Vl)) : CS :=
  (cSeq (cDrop (cCall (R 62) (cCons (cVar 4) (cCons (cVar 5) cNil))))
  (cSeq (cPut (.nm 6) (cCallV 0 okc1 (clF caps R) (cCons (cVar 4) cNil)))
  (cSeq (cIf (cOr (cTst (cF2 (fEqD true) (cVar 4) (cVar 5))) (cTst (cF2 (fIs true) (cCallV 1 okc2 (clF caps R) (cCons (cVar 6) (cCons (cCall (R 60) (cCons (cVar 5) cNil)) cNil))) (cC (.bl true)))))
  (cRet (cC (.bl false)))
  cNx)
  (cDrop (cCall (R 61) (cCons (cCall (R 64) (cCons (cVar 6) cNil)) cNil))))))
def c__law_free_right (R : Nat → Fn) (caps : Nat → Option (List Vl)) : CS :=
  (cSeq (cPut (.nm 4) (cCall (R 60) (cCons (cVar 2) cNil)))
  (cSeq (cFor (cIt (cTup (cCons (cVar 2) (cCons (cVar 2) (cCons (cVar 3) (cCons (cVar 2) cNil)))))) (.nm 5) (c__law_free_right_b0 R caps))
  (cRet (cF2 (fEqD false) (cVar 4) (cVar 2)))))
/-! ### law -/
abbrev s66 : Stmt := top 52
abbrev N66 : List Str := ["_law_script", "_law_cells", "_law_more", "_law_asks", "_law_frees", "_law_many", "_law_line", "_law_star", "_law_street", "_law_later", "_law_numbers", "_law_word", "_law_spread", "_law_seven", "_law_at", "_law_ask", "_law_one", "_law_other", "_law_holds"]
abbrev p66 : List Str := ["_law_script"]
abbrev L66 : List (Nat × List Nat) := [(1000, []), (1001, [5]), (1002, [5]), (1003, [5]), (1004, []), (1005, [5]), (1006, [5]), (1007, [5]), (1008, []), (1009, [])]
def c_law_e0 (R : Nat → Fn) : CE :=
  (cTup (cCons (cC (.int 0)) (cCons (cVar 14) cNil)))
def c_law_e1 (R : Nat → Fn) : CE :=
  (cTup (cCons (cVar 14) (cCons (cF2 fAdd (cVar 14) (cC (.int 1))) cNil)))
def c_law_e2 (R : Nat → Fn) : CE :=
  (cF2 fAdd (cC (.int 2)) (cF2 fMod (cF2 fMul (cVar 14) (cVar 2)) (cC (.int 4))))
def c_law_e3 (R : Nat → Fn) : CE :=
  (cF2 fAdd (cC (.int 1)) (cF2 fMod (cVar 14) (cC (.int 3))))
def c_law_e4 (R : Nat → Fn) : CE :=
  (cTup (cCons (cVar 14) (cCons (cF2 fAdd (cVar 14) (cC (.int 1))) cNil)))
def c_law_e5 (R : Nat → Fn) (e : Vl) : CE :=
  (cCallG (R 63) (fun _ => some e) (cCons (cVar 15) (cCons (cVar 16) (cCons (cVar 17) cNil))))
def c_law_e6 (R : Nat → Fn) (e : Vl) : CE :=
  (cCallG (R 65) (fun _ => some e) (cCons (cVar 15) (cCons (cVar 18) (cCons (cVar 16) (cCons (cVar 17) cNil)))))
def c_law (R : Nat → Fn) : CS :=
  (cSeq (cPut (.nm 1) (cIfE (cTst (cF2 (fEqD true) (cVar 0) (cLst cNil))) (cSl (cVar 0) none (some (cC (.int 63)))) (cLst (cCons (cC (.int 5)) cNil))))
  (cSeq (cPut (.nm 2) (cF fAbs (cCons (cF fSum (cCons (cVar 1) cNil)) cNil)))
  (cSeq (cPar 3 4 (cCons (cLst cNil) (cCons (cLst cNil) cNil)))
  (cSeq (cPut (.nm 5) (cF2 fAdd (cC (.int 2)) (cF2 fMod (cVar 2) (cC (.int 9)))))
  (cSeq (cPar 6 7 (cCons (cLc (cRg1 (cF2 fSub (cVar 5) (cC (.int 1)))) (.nm 14) cYes (c_law_e1 R) [14]) (cCons (cLc (cRg2 (cC (.int 1)) (cVar 5)) (.nm 14) cYes (c_law_e0 R) [14]) cNil)))
  (cSeq (cPar 8 9 (cCons (cLc (cRg1 (cVar 5)) (.nm 14) cYes (c_law_e3 R) [14]) (cCons (cLc (cRg1 (cVar 5)) (.nm 14) cYes (c_law_e2 R) [14]) cNil)))
  (cSeq (cPut (.nm 10) (cCall (R 29) (cCons (cVar 5) (cCons (cF fList (cCons (cVar 6) cNil)) cNil))))
  (cSeq (cDrop (cM fAppend (cVar 3) (cCons (cTup (cCons (cC (.fn 1000)) (cCons (cVar 8) (cCons (cVar 9) cNil)))) cNil)))
  (cSeq (cDrop (cM fAppend (cVar 4) (cCons (cTup (cCons (cC (.fn 1001)) (cCons (cC (.fn 1002)) (cCons (cVar 6) (cCons (cVar 7) cNil))))) cNil)))
  (cSeq (cDrop (cM fAppend (cVar 3) (cCons (cTup (cCons (cC (.fn 1003)) (cCons (cVar 6) (cCons (cVar 7) cNil)))) cNil)))
  (cSeq (cDrop (cM fAppend (cVar 3) (cCons (cTup (cCons (cC (.fn 1004)) (cCons (cVar 10) (cCons (cRgL1 (cVar 5)) cNil)))) cNil)))
  (cSeq (cPut (.nm 11) (cC (.fn 1005)))
  (cSeq (cDrop (cM fAppend (cVar 4) (cCons (cTup (cCons (cC (.fn 1006)) (cCons (cVar 11) (cCons (cLst (cCons (cVar 6) (cCons (cVar 10) cNil))) (cCons (cLst (cCons (cVar 6) (cCons (cF2 fMul (cLst (cCons (cC (.int 0)) cNil)) (cVar 5)) cNil))) cNil))))) cNil)))
  (cSeq (cDrop (cM fAppend (cVar 4) (cCons (cTup (cCons (cC (.fn 1007)) (cCons (cVar 11) (cCons (cLst (cCons (cVar 6) (cCons (cRgL1 (cVar 5)) cNil))) (cCons (cLst (cCons (cVar 7) (cCons (cF2 fMul (cLst (cCons (cF1 fNeg (cC (.int 1))) cNil)) (cVar 5)) cNil))) cNil))))) cNil)))
  (cSeq (cPar 12 13 (cCons (cLst (cCons (cTup (cCons (cC (.int 0)) (cCons (cC (.int 1)) cNil))) (cCons (cTup (cCons (cC (.int 0)) (cCons (cC (.int 2)) cNil))) (cCons (cTup (cCons (cC (.int 0)) (cCons (cC (.int 3)) cNil))) (cCons (cTup (cCons (cC (.int 1)) (cCons (cC (.int 4)) cNil))) (cCons (cTup (cCons (cC (.int 2)) (cCons (cC (.int 5)) cNil))) (cCons (cTup (cCons (cC (.int 3)) (cCons (cC (.int 6)) cNil))) cNil))))))) (cCons (cLc (cRg1 (cC (.int 6))) (.nm 14) cYes (c_law_e4 R) [14]) cNil)))
  (cSeq (cDrop (cM fAppend (cVar 4) (cCons (cTup (cCons (cC (.fn 1008)) (cCons (cC (.fn 1009)) (cCons (cVar 12) (cCons (cVar 13) cNil))))) cNil)))
  (cSeq (cIf (cNot (cTst (cF fAll (cCons (cLcG (enL L66) (cIt (cVar 3)) (.tp [(.nm 15), (.nm 16), (.nm 17)]) cYes (c_law_e5 R) [15, 16, 17]) cNil))))
  (cRet (cC (.bl false)))
  cNx)
  (cRet (cF fAll (cCons (cLcG (enL L66) (cIt (cVar 4)) (.tp [(.nm 15), (.nm 18), (.nm 16), (.nm 17)]) cYes (c_law_e6 R) [15, 18, 16, 17]) cNil))))))))))))))))))))
/-! ### lambda 1000, of law -/
abbrev la1000 : Expr := (eE (eE (sE (dS s66 7)) 0) 0)
abbrev Nl1000 : List Str := ["_law_it"]
abbrev pl1000 : List Str := ["_law_it"]
def c_lam1000 (R : Nat → Fn) : CE :=
  (cLst (cCons (cCall (R 5) (cCons (cVar 0) cNil)) (cCons (cCall (R 6) (cCons (cVar 0) (cCons (cTup (cCons (cC (.int 1)) (cCons (cC (.int 1)) cNil))) cNil))) (cCons (cCall (R 7) (cCons (cVar 0) (cCons (cC (.int 1)) cNil))) (cCons (cCall (R 8) (cCons (cVar 0) (cCons (cC (.int 2)) cNil))) cNil)))))
/-! ### lambda 1001, of law -/
abbrev la1001 : Expr := (eE (eE (sE (dS s66 8)) 0) 0)
abbrev Nl1001 : List Str := ["_law_it", "_law_many"]
abbrev pl1001 : List Str := ["_law_it"]
def c_lam1001 (R : Nat → Fn) : CE :=
  (cCall (R 28) (cCons (cVar 1) (cCons (cVar 0) cNil)))
/-! ### lambda 1002, of law -/
abbrev la1002 : Expr := (eE (eE (sE (dS s66 8)) 0) 1)
abbrev Nl1002 : List Str := ["_law_found", "_law_it", "_law_many"]
abbrev pl1002 : List Str := ["_law_found", "_law_it"]
def c_lam1002 (R : Nat → Fn) : CE :=
  (cMth (mt_shows2 R) (cVar 0) (cCons (cVar 2) (cCons (cVar 1) cNil)))
/-! ### lambda 1003, of law -/
abbrev la1003 : Expr := (eE (eE (sE (dS s66 9)) 0) 0)
abbrev Nl1003 : List Str := ["_law_it", "_law_many"]
abbrev pl1003 : List Str := ["_law_it"]
def c_lam1003 (R : Nat → Fn) : CE :=
  (cLst (cCons (cMth (mt_shows3 R) (cNew 1) (cCons (cVar 1) (cCons (cF fList (cCons (cVar 0) cNil)) (cCons (cCall (R 29) (cCons (cVar 1) (cCons (cVar 0) cNil))) cNil)))) cNil))
/-! ### lambda 1004, of law -/
abbrev la1004 : Expr := (eE (eE (sE (dS s66 10)) 0) 0)
abbrev Nl1004 : List Str := ["_law_it"]
abbrev pl1004 : List Str := ["_law_it"]
def c_lam1004 (R : Nat → Fn) : CE :=
  (cCall (R 33) (cCons (cVar 0) cNil))
/-! ### lambda 1005, of law -/
abbrev la1005 : Expr := (sE (dS s66 11))
abbrev Nl1005 : List Str := ["_law_found", "_law_it", "_law_many"]
abbrev pl1005 : List Str := ["_law_found", "_law_it"]
def c_lam1005 (R : Nat → Fn) : CE :=
  (cMth (mt_shows3 R) (cVar 0) (cCons (cVar 2) (cCons (cF2 fIx (cVar 1) (cC (.int 0))) (cCons (cF2 fIx (cVar 1) (cC (.int 1))) cNil))))
/-! ### lambda 1006, of law -/
abbrev la1006 : Expr := (eE (eE (sE (dS s66 12)) 0) 0)
abbrev Nl1006 : List Str := ["_law_it", "_law_many"]
abbrev pl1006 : List Str := ["_law_it"]
def c_lam1006 (R : Nat → Fn) : CE :=
  (cCall (R 32) (cCons (cVar 1) (cCons (cF2 fIx (cVar 0) (cC (.int 0))) (cCons (cF2 fIx (cVar 0) (cC (.int 1))) cNil))))
/-! ### lambda 1007, of law -/
abbrev la1007 : Expr := (eE (eE (sE (dS s66 13)) 0) 0)
abbrev Nl1007 : List Str := ["_law_it", "_law_many"]
abbrev pl1007 : List Str := ["_law_it"]
def c_lam1007 (R : Nat → Fn) : CE :=
  (cCall (R 32) (cCons (cVar 1) (cCons (cF2 fIx (cVar 0) (cC (.int 0))) (cCons (cF2 fIx (cVar 0) (cC (.int 1))) cNil))))
/-! ### lambda 1008, of law -/
abbrev la1008 : Expr := (eE (eE (sE (dS s66 15)) 0) 0)
abbrev Nl1008 : List Str := ["_law_it"]
abbrev pl1008 : List Str := ["_law_it"]
def c_lam1008 (R : Nat → Fn) : CE :=
  (cCall (R 28) (cCons (cC (.int 7)) (cCons (cVar 0) cNil)))
/-! ### lambda 1009, of law -/
abbrev la1009 : Expr := (eE (eE (sE (dS s66 15)) 0) 1)
abbrev Nl1009 : List Str := ["_law_found", "_law_it"]
abbrev pl1009 : List Str := ["_law_found", "_law_it"]
def c_lam1009 (R : Nat → Fn) : CE :=
  (cMth (mt_shows2 R) (cVar 0) (cCons (cC (.int 7)) (cCons (cVar 1) cNil)))
def lamOf : Nat → Expr
  | 1000 => la1000
  | 1001 => la1001
  | 1002 => la1002
  | 1003 => la1003
  | 1004 => la1004
  | 1005 => la1005
  | 1006 => la1006
  | 1007 => la1007
  | 1008 => la1008
  | 1009 => la1009
  | _ => noE
def nmL : Nat → List Str
  | 1001 => ["_law_many"]
  | 1002 => ["_law_many"]
  | 1003 => ["_law_many"]
  | 1005 => ["_law_many"]
  | 1006 => ["_law_many"]
  | 1007 => ["_law_many"]
  | _ => []
def codeOf (R : Nat → Fn) : Nat → Fn
  | 0 => mkFn 2 (c_is_whole R)
  | 1 => mkFn 2 (c_check_street R)
  | 2 => mkFn 1 (c_many_of R)
  | 3 => mkFn 6 (c_ahead_of R)
  | 4 => mkFn 5 (c_number_at R)
  | 5 => mkFn 1 (c_houses_of R)
  | 6 => mkFn 3 (c_number_of R)
  | 7 => mkFn 9 (c_house_of R)
  | 8 => mkFn 6 (c_road_of R)
  | 9 => mkFn 2 (c_gap_of R)
  | 10 => mkFn 2 (c_is_below R)
  | 12 => mkFn 5 (c_Good_shows R)
  | 13 => mkIn 2 (c_Beyond___init__ R)
  | 14 => mkFn 4 (c_Beyond_shows R)
  | 15 => mkIn 3 (c_Alike___init__ R)
  | 16 => mkFn 4 (c_Alike_shows R)
  | 17 => mkIn 3 (c_Same___init__ R)
  | 18 => mkFn 4 (c_Same_shows R)
  | 11 => mkFn 3 (c_are_joined R)
  | 19 => mkIn 2 (c_Street___init__ R)
  | 20 => mkFn 7 (c_Street_shows R)
  | 21 => mkIn 5 (c_Spread___init__ R)
  | 22 => mkFn 6 (c_Spread_shows R)
  | 23 => mkFn 7 (c_near_of R)
  | 24 => mkFn 2 (c_is_road R)
  | 25 => mkFn 7 (c_check_tree R)
  | 26 => mkFn 8 (c_way_through R)
  | 27 => mkFn 5 (c_spread_in R)
  | 28 => mkFn 4 (c_street_in R)
  | 29 => mkFn 12 (c_numbered R)
  | 30 => mkFn 1 (c_is_number R)
  | 31 => mkFn 3 (c_first_twice R)
  | 32 => mkFn 8 (c_judged R)
  | 33 => mkFn 2 (c_upended R)
  | 60 => mkFn 2 (c__law_copied R)
  | 61 => mkFn 2 (c__law_spoiled R)
  | 62 => mkFn 4 (c__law_laid R)
  | 63 => mkFnG 6 (c__law_door_right R)
  | 64 => mkFn 1 (c__law_told R)
  | 65 => mkFnG 7 (c__law_free_right R)
  | 66 => mkMk 19 (c_law R)
  | 1000 => mkFn 1 (cRet (c_lam1000 R))
  | 1001 => mkFn 2 (cRet (c_lam1001 R))
  | 1002 => mkFn 3 (cRet (c_lam1002 R))
  | 1003 => mkFn 2 (cRet (c_lam1003 R))
  | 1004 => mkFn 1 (cRet (c_lam1004 R))
  | 1005 => mkFn 3 (cRet (c_lam1005 R))
  | 1006 => mkFn 2 (cRet (c_lam1006 R))
  | 1007 => mkFn 2 (cRet (c_lam1007 R))
  | 1008 => mkFn 1 (cRet (c_lam1008 R))
  | 1009 => mkFn 2 (cRet (c_lam1009 R))
  | _ => fun _ _ => .bad
def isIni : Nat → Bool := fun i => [13, 15, 17, 19, 21].any fun j => Nat.beq i j
def run : Nat → Nat → Fn
  | 0 => fun _ _ _ => .bad
  | k + 1 => fun i => if (isIni i && Nat.beq k 0) = true then fun _ _ => .bad else codeOf (run k) i
def tbs (pp : Nat → Addr) : List (Addr × Str) := [(pp 66, ("law" : Str) ++ ".<locals>." ++ "<lambda>")]
abbrev TU (K : PySem.W.Frag) (Cs fs pp : Nat → Addr) (cl : Nat → Option (List (Str × Addr))) (fx : List (V × Vl)) : Tb := ⟨K, Cs, fldsOf, fs, lamOf, cl, tbs pp, fx⟩
structure Fx (K : PySem.W.Frag) (mg : Str → Option Value) (Cs fs cc pp : Nat → Addr) (fd : Nat → FuncData) : Prop where
  d0 : Dn K mg "is_whole" s0 p0 (fs 0) (fd 0)
  d1 : Dn K mg "check_street" s1 p1 (fs 1) (fd 1)
  d2 : Dn K mg "many_of" s2 p2 (fs 2) (fd 2)
  d3 : Dn K mg "ahead_of" s3 p3 (fs 3) (fd 3)
  d4 : Dn K mg "number_at" s4 p4 (fs 4) (fd 4)
  d5 : Dn K mg "houses_of" s5 p5 (fs 5) (fd 5)
  d6 : Dn K mg "number_of" s6 p6 (fs 6) (fd 6)
  d7 : Dn K mg "house_of" s7 p7 (fs 7) (fd 7)
  d8 : Dn K mg "road_of" s8 p8 (fs 8) (fd 8)
  d9 : Dn K mg "gap_of" s9 p9 (fs 9) (fd 9)
  d10 : Dn K mg "is_below" s10 p10 (fs 10) (fd 10)
  d12 : Dm K (Cs 1) "shows" "Good.shows" s12 p12 (fs 12) (fd 12)
  d13 : Dm K (Cs 2) "__init__" "Beyond.__init__" s13 p13 (fs 13) (fd 13)
  n13 : Mk K (Cs 2) (fs 13)
  d14 : Dm K (Cs 2) "shows" "Beyond.shows" s14 p14 (fs 14) (fd 14)
  d15 : Dm K (Cs 3) "__init__" "Alike.__init__" s15 p15 (fs 15) (fd 15)
  n15 : Mk K (Cs 3) (fs 15)
  d16 : Dm K (Cs 3) "shows" "Alike.shows" s16 p16 (fs 16) (fd 16)
  d17 : Dm K (Cs 4) "__init__" "Same.__init__" s17 p17 (fs 17) (fd 17)
  n17 : Mk K (Cs 4) (fs 17)
  d18 : Dm K (Cs 4) "shows" "Same.shows" s18 p18 (fs 18) (fd 18)
  d11 : Dn K mg "are_joined" s11 p11 (fs 11) (fd 11)
  d19 : Dm K (Cs 5) "__init__" "Street.__init__" s19 p19 (fs 19) (fd 19)
  n19 : Mk K (Cs 5) (fs 19)
  d20 : Dm K (Cs 5) "shows" "Street.shows" s20 p20 (fs 20) (fd 20)
  d21 : Dm K (Cs 6) "__init__" "Spread.__init__" s21 p21 (fs 21) (fd 21)
  n21 : Mk K (Cs 6) (fs 21)
  d22 : Dm K (Cs 6) "shows" "Spread.shows" s22 p22 (fs 22) (fd 22)
  d23 : Dn K mg "near_of" s23 p23 (fs 23) (fd 23)
  d24 : Dn K mg "is_road" s24 p24 (fs 24) (fd 24)
  d25 : Dn K mg "check_tree" s25 p25 (fs 25) (fd 25)
  d26 : Dn K mg "way_through" s26 p26 (fs 26) (fd 26)
  d27 : Dn K mg "spread_in" s27 p27 (fs 27) (fd 27)
  d28 : Dn K mg "street_in" s28 p28 (fs 28) (fd 28)
  d29 : Dn K mg "numbered" s29 p29 (fs 29) (fd 29)
  d30 : Dn K mg "is_number" s30 p30 (fs 30) (fd 30)
  d31 : Dn K mg "first_twice" s31 p31 (fs 31) (fd 31)
  d32 : Dn K mg "judged" s32 p32 (fs 32) (fd 32)
  d33 : Dn K mg "upended" s33 p33 (fs 33) (fd 33)
  d60 : Dn K mg "_law_copied" s60 p60 (fs 60) (fd 60)
  d61 : Dn K mg "_law_spoiled" s61 p61 (fs 61) (fd 61)
  d62 : Dn K mg "_law_laid" s62 p62 (fs 62) (fd 62)
  d63 : Dn K mg "_law_door_right" s63 p63 (fs 63) (fd 63)
  d64 : Dn K mg "_law_told" s64 p64 (fs 64) (fd 64)
  d65 : Dn K mg "_law_free_right" s65 p65 (fs 65) (fd 65)
  d66 : Dn K mg "law" s66 p66 (fs 66) (fd 66)
  k0 : Kf K mg "Answer" (Cs 0)
  i0 : PySem.W.findIn K (.ref (Cs 0)) "__init__" = some (some (.builtin "object.__init__"))
  k1 : Kf K mg "Good" (Cs 1)
  i1 : PySem.W.findIn K (.ref (Cs 1)) "__init__" = some (some (.builtin "object.__init__"))
  k2 : Kf K mg "Beyond" (Cs 2)
  a2_house : NoAttr K (Cs 2) "house"
  k3 : Kf K mg "Alike" (Cs 3)
  a3_one : NoAttr K (Cs 3) "one"
  a3_other : NoAttr K (Cs 3) "other"
  k4 : Kf K mg "Same" (Cs 4)
  a4_one : NoAttr K (Cs 4) "one"
  a4_other : NoAttr K (Cs 4) "other"
  k5 : Kf K mg "Street" (Cs 5)
  a5_way : NoAttr K (Cs 5) "way"
  k6 : Kf K mg "Spread" (Cs 6)
  a6_house : NoAttr K (Cs 6) "house"
  a6_first : NoAttr K (Cs 6) "first"
  a6_second : NoAttr K (Cs 6) "second"
  a6_third : NoAttr K (Cs 6) "third"
  o1_Street : PySem.W.kitOne K (.ref (Cs 1)) (.ref (Cs 5)) = some false
  o2_Street : PySem.W.kitOne K (.ref (Cs 2)) (.ref (Cs 5)) = some false
  o3_Street : PySem.W.kitOne K (.ref (Cs 3)) (.ref (Cs 5)) = some false
  o4_Street : PySem.W.kitOne K (.ref (Cs 4)) (.ref (Cs 5)) = some false
  o5_Street : PySem.W.kitOne K (.ref (Cs 5)) (.ref (Cs 5)) = some true
  o6_Street : PySem.W.kitOne K (.ref (Cs 6)) (.ref (Cs 5)) = some false
  b_abs : mg "abs" = none
  b_all : mg "all" = none
  b_any : mg "any" = none
  b_bool : mg "bool" = none
  b_enumerate : mg "enumerate" = none
  b_int : mg "int" = none
  b_isinstance : mg "isinstance" = none
  b_len : mg "len" = none
  b_list : mg "list" = none
  b_max : mg "max" = none
  b_range : mg "range" = none
  b_set : mg "set" = none
  b_sorted : mg "sorted" = none
  b_sum : mg "sum" = none
  b_tuple : mg "tuple" = none
  b_zip : mg "zip" = none
  c_MOST : ∃ t, mg "MOST" = some (.int 60 t)
  c_MOST_HOUSES : ∃ t, mg "MOST_HOUSES" = some (.int 20 t)
  t66 : (fd 66).code = .ref (cc 66)
  tu : ∀ p ∈ tbs pp, ∀ q ∈ tbs pp, p.1 = q.1 → p.2 = q.2
structure Tx (base : Heap) (mg : Str → Option Value) (cc pp : Nat → Addr) : Prop where
  b66 : LamX.TabB base mg (cc 66) (pp 66)
structure Lv (P : Program) (w : World) (K : PySem.W.Frag) (mg : Str → Option Value) (base : Heap) (Cs fs cc pp : Nat → Addr) (fd : Nat → FuncData) (k : Nat) (cl : Nat → Option (List (Str × Addr))) (fx : List (V × Vl)) : Prop where
  g0 : FnOk P w K mg base CX0 k (fs 0) (fd 0) p0 (spF0 (TU K Cs fs pp cl fx) (run k 0) p0.length)
  g1 : FnOk P w K mg base CX0 k (fs 1) (fd 1) p1 (spF0 (TU K Cs fs pp cl fx) (run k 1) p1.length)
  g2 : FnOk P w K mg base CX0 k (fs 2) (fd 2) p2 (spF0 (TU K Cs fs pp cl fx) (run k 2) p2.length)
  g3 : FnOk P w K mg base CX0 k (fs 3) (fd 3) p3 (spF0 (TU K Cs fs pp cl fx) (run k 3) p3.length)
  g4 : FnOk P w K mg base CX0 k (fs 4) (fd 4) p4 (spF0 (TU K Cs fs pp cl fx) (run k 4) p4.length)
  g5 : FnOk P w K mg base CX0 k (fs 5) (fd 5) p5 (spF0 (TU K Cs fs pp cl fx) (run k 5) p5.length)
  g6 : FnOk P w K mg base CX0 k (fs 6) (fd 6) p6 (spF0 (TU K Cs fs pp cl fx) (run k 6) p6.length)
  g7 : FnOk P w K mg base CX0 k (fs 7) (fd 7) p7 (spF0 (TU K Cs fs pp cl fx) (run k 7) p7.length)
  g8 : FnOk P w K mg base CX0 k (fs 8) (fd 8) p8 (spF0 (TU K Cs fs pp cl fx) (run k 8) p8.length)
  g9 : FnOk P w K mg base CX0 k (fs 9) (fd 9) p9 (spF0 (TU K Cs fs pp cl fx) (run k 9) p9.length)
  g10 : FnOk P w K mg base CX0 k (fs 10) (fd 10) p10 (spF0 (TU K Cs fs pp cl fx) (run k 10) p10.length)
  g12 : FnOk P w K mg base CX0 k (fs 12) (fd 12) p12 (spF0 (TU K Cs fs pp cl fx) (run k 12) p12.length)
  g13 : InitOk P w K mg base k (fs 13) (fd 13) p13 (TU K Cs fs pp cl fx) (run k 13)
  g14 : FnOk P w K mg base CX0 k (fs 14) (fd 14) p14 (spF0 (TU K Cs fs pp cl fx) (run k 14) p14.length)
  g15 : InitOk P w K mg base k (fs 15) (fd 15) p15 (TU K Cs fs pp cl fx) (run k 15)
  g16 : FnOk P w K mg base CX0 k (fs 16) (fd 16) p16 (spF0 (TU K Cs fs pp cl fx) (run k 16) p16.length)
  g17 : InitOk P w K mg base k (fs 17) (fd 17) p17 (TU K Cs fs pp cl fx) (run k 17)
  g18 : FnOk P w K mg base CX0 k (fs 18) (fd 18) p18 (spF0 (TU K Cs fs pp cl fx) (run k 18) p18.length)
  g11 : FnOk P w K mg base CX0 k (fs 11) (fd 11) p11 (spF0 (TU K Cs fs pp cl fx) (run k 11) p11.length)
  g19 : InitOk P w K mg base k (fs 19) (fd 19) p19 (TU K Cs fs pp cl fx) (run k 19)
  g20 : FnOk P w K mg base CX0 k (fs 20) (fd 20) p20 (spF0 (TU K Cs fs pp cl fx) (run k 20) p20.length)
  g21 : InitOk P w K mg base k (fs 21) (fd 21) p21 (TU K Cs fs pp cl fx) (run k 21)
  g22 : FnOk P w K mg base CX0 k (fs 22) (fd 22) p22 (spF0 (TU K Cs fs pp cl fx) (run k 22) p22.length)
  g23 : FnOk P w K mg base CX0 k (fs 23) (fd 23) p23 (spF0 (TU K Cs fs pp cl fx) (run k 23) p23.length)
  g24 : FnOk P w K mg base CX0 k (fs 24) (fd 24) p24 (spF0 (TU K Cs fs pp cl fx) (run k 24) p24.length)
  g25 : FnOk P w K mg base CX0 k (fs 25) (fd 25) p25 (spF0 (TU K Cs fs pp cl fx) (run k 25) p25.length)
  g26 : FnOk P w K mg base CX0 k (fs 26) (fd 26) p26 (spF0 (TU K Cs fs pp cl fx) (run k 26) p26.length)
  g27 : FnOk P w K mg base CX0 k (fs 27) (fd 27) p27 (spF0 (TU K Cs fs pp cl fx) (run k 27) p27.length)
  g28 : FnOk P w K mg base CX0 k (fs 28) (fd 28) p28 (spF0 (TU K Cs fs pp cl fx) (run k 28) p28.length)
  g29 : FnOk P w K mg base CX0 k (fs 29) (fd 29) p29 (spF0 (TU K Cs fs pp cl fx) (run k 29) p29.length)
  g30 : FnOk P w K mg base CX0 k (fs 30) (fd 30) p30 (spF0 (TU K Cs fs pp cl fx) (run k 30) p30.length)
  g31 : FnOk P w K mg base CX0 k (fs 31) (fd 31) p31 (spF0 (TU K Cs fs pp cl fx) (run k 31) p31.length)
  g32 : FnOk P w K mg base CX0 k (fs 32) (fd 32) p32 (spF0 (TU K Cs fs pp cl fx) (run k 32) p32.length)
  g33 : FnOk P w K mg base CX0 k (fs 33) (fd 33) p33 (spF0 (TU K Cs fs pp cl fx) (run k 33) p33.length)
  g60 : FnOk P w K mg base CX0 k (fs 60) (fd 60) p60 (spF0 (TU K Cs fs pp cl fx) (run k 60) p60.length)
  g61 : FnOk P w K mg base CX0 k (fs 61) (fd 61) p61 (spF0 (TU K Cs fs pp cl fx) (run k 61) p61.length)
  g62 : FnOk P w K mg base CX0 k (fs 62) (fd 62) p62 (spF0 (TU K Cs fs pp cl fx) (run k 62) p62.length)
  g63 : ∀ e, CGOk P w K mg base CX0 k (fs 63) (fd 63) p63 nmL e (TU K Cs fs pp cl fx) (spF0 (TU K Cs fs pp cl fx) (fun as A => run k 63 (as ++ [e]) A) p63.length)
  g64 : FnOk P w K mg base CX0 k (fs 64) (fd 64) p64 (spF0 (TU K Cs fs pp cl fx) (run k 64) p64.length)
  g65 : ∀ e, CGOk P w K mg base CX0 k (fs 65) (fd 65) p65 nmL e (TU K Cs fs pp cl fx) (spF0 (TU K Cs fs pp cl fx) (fun as A => run k 65 (as ++ [e]) A) p65.length)
  g66 : (∀ n ∈ [1000, 1001, 1002, 1003, 1004, 1005, 1006, 1007, 1008, 1009], cl n = none) → FnOk P w K mg base CX0 k (fs 66) (fd 66) p66 (spF0 (TU K Cs fs pp cl fx) (run k 66) p66.length)
  h1000 : LOk P w K mg base CX0 spF0 k 1000 (TU K Cs fs pp cl fx) (nmL 1000) pl1000.length (run k 1000)
  h1001 : LOk P w K mg base CX0 spF0 k 1001 (TU K Cs fs pp cl fx) (nmL 1001) pl1001.length (run k 1001)
  h1002 : LOk P w K mg base CX0 spF0 k 1002 (TU K Cs fs pp cl fx) (nmL 1002) pl1002.length (run k 1002)
  h1003 : LOk P w K mg base CX0 spF0 k 1003 (TU K Cs fs pp cl fx) (nmL 1003) pl1003.length (run k 1003)
  h1004 : LOk P w K mg base CX0 spF0 k 1004 (TU K Cs fs pp cl fx) (nmL 1004) pl1004.length (run k 1004)
  h1005 : LOk P w K mg base CX0 spF0 k 1005 (TU K Cs fs pp cl fx) (nmL 1005) pl1005.length (run k 1005)
  h1006 : LOk P w K mg base CX0 spF0 k 1006 (TU K Cs fs pp cl fx) (nmL 1006) pl1006.length (run k 1006)
  h1007 : LOk P w K mg base CX0 spF0 k 1007 (TU K Cs fs pp cl fx) (nmL 1007) pl1007.length (run k 1007)
  h1008 : LOk P w K mg base CX0 spF0 k 1008 (TU K Cs fs pp cl fx) (nmL 1008) pl1008.length (run k 1008)
  h1009 : LOk P w K mg base CX0 spF0 k 1009 (TU K Cs fs pp cl fx) (nmL 1009) pl1009.length (run k 1009)
section
variable {P : Program} {w : World} {K : PySem.W.Frag} {mg : Str → Option Value} {base : Heap} {Cs fs cc pp : Nat → Addr} {fd : Nat → FuncData}
theorem fx_first (X : Fx K mg Cs fs cc pp fd) {cl : Nat → Option (List (Str × Addr))} {fx : List (V × Vl)} : ∀ c i, ix_first c = some i → FldOk (TU K Cs fs pp cl fx) K "first" c i := fun c i h => ixc_first h ⟨X.k6.cl, X.a6_first, rfl, fst6_first⟩
theorem fx_house (X : Fx K mg Cs fs cc pp fd) {cl : Nat → Option (List (Str × Addr))} {fx : List (V × Vl)} : ∀ c i, ix_house c = some i → FldOk (TU K Cs fs pp cl fx) K "house" c i := fun c i h => ixc_house h ⟨X.k2.cl, X.a2_house, rfl, fst2_house⟩ ⟨X.k6.cl, X.a6_house, rfl, fst6_house⟩
theorem fx_one (X : Fx K mg Cs fs cc pp fd) {cl : Nat → Option (List (Str × Addr))} {fx : List (V × Vl)} : ∀ c i, ix_one c = some i → FldOk (TU K Cs fs pp cl fx) K "one" c i := fun c i h => ixc_one h ⟨X.k3.cl, X.a3_one, rfl, fst3_one⟩ ⟨X.k4.cl, X.a4_one, rfl, fst4_one⟩
theorem fx_other (X : Fx K mg Cs fs cc pp fd) {cl : Nat → Option (List (Str × Addr))} {fx : List (V × Vl)} : ∀ c i, ix_other c = some i → FldOk (TU K Cs fs pp cl fx) K "other" c i := fun c i h => ixc_other h ⟨X.k3.cl, X.a3_other, rfl, fst3_other⟩ ⟨X.k4.cl, X.a4_other, rfl, fst4_other⟩
theorem fx_second (X : Fx K mg Cs fs cc pp fd) {cl : Nat → Option (List (Str × Addr))} {fx : List (V × Vl)} : ∀ c i, ix_second c = some i → FldOk (TU K Cs fs pp cl fx) K "second" c i := fun c i h => ixc_second h ⟨X.k6.cl, X.a6_second, rfl, fst6_second⟩
theorem fx_third (X : Fx K mg Cs fs cc pp fd) {cl : Nat → Option (List (Str × Addr))} {fx : List (V × Vl)} : ∀ c i, ix_third c = some i → FldOk (TU K Cs fs pp cl fx) K "third" c i := fun c i h => ixc_third h ⟨X.k6.cl, X.a6_third, rfl, fst6_third⟩
theorem fx_way (X : Fx K mg Cs fs cc pp fd) {cl : Nat → Option (List (Str × Addr))} {fx : List (V × Vl)} : ∀ c i, ix_way c = some i → FldOk (TU K Cs fs pp cl fx) K "way" c i := fun c i h => ixc_way h ⟨X.k5.cl, X.a5_way, rfl, fst5_way⟩
theorem fi_Street (X : Fx K mg Cs fs cc pp fd) : ∀ c b, is_Street c = some b → TyF K (Cs c) ∧ PySem.W.kitOne K (.ref (Cs c)) (.ref (Cs 5)) = some b := fun c b h => by
  unfold is_Street at h
  split at h
  · cases h; exact ⟨X.k1.ty, X.o1_Street⟩
  · cases h; exact ⟨X.k2.ty, X.o2_Street⟩
  · cases h; exact ⟨X.k3.ty, X.o3_Street⟩
  · cases h; exact ⟨X.k4.ty, X.o4_Street⟩
  · cases h; exact ⟨X.k5.ty, X.o5_Street⟩
  · cases h; exact ⟨X.k6.ty, X.o6_Street⟩
  · cases h
theorem okc1_L (X : Fx K mg Cs fs cc pp fd) {k : Nat} {cl : Nat → Option (List (Str × Addr))} {fx : List (V × Vl)} (IH : Lv P w K mg base Cs fs cc pp fd k cl fx) : ∀ n, okc1 n = true → CbL P w K mg base CX0 spF0 k (TU K Cs fs pp cl fx) nmL 1 (run k) n := fun n h => by
  have e := inL_mem h
  simp only [List.mem_cons, List.not_mem_nil, or_false] at e
  rcases e with rfl | rfl | rfl | rfl | rfl | rfl | rfl
  · exact .lam (by decide) IH.h1000
  · exact .lam (by decide) IH.h1001
  · exact .lam (by decide) IH.h1003
  · exact .lam (by decide) IH.h1004
  · exact .lam (by decide) IH.h1006
  · exact .lam (by decide) IH.h1007
  · exact .lam (by decide) IH.h1008
theorem okc2_L (X : Fx K mg Cs fs cc pp fd) {k : Nat} {cl : Nat → Option (List (Str × Addr))} {fx : List (V × Vl)} (IH : Lv P w K mg base Cs fs cc pp fd k cl fx) : ∀ n, okc2 n = true → CbL P w K mg base CX0 spF0 k (TU K Cs fs pp cl fx) nmL 2 (run k) n := fun n h => by
  have e := inL_mem h
  simp only [List.mem_cons, List.not_mem_nil, or_false] at e
  rcases e with rfl | rfl | rfl
  · exact .lam (by decide) IH.h1002
  · exact .lam (by decide) IH.h1005
  · exact .lam (by decide) IH.h1009
theorem scl1000 : LamSc Nl1000 pl1000 (nmL 1000) (laScope la1000) := ⟨rfl, rfl, rfl, rfl, by decide +kernel, by decide +kernel, by decide +kernel, by decide +kernel, by decide +kernel⟩
theorem lo1000 (X : Fx K mg Cs fs cc pp fd) {k : Nat} (IH : ∀ cl fx, Lv P w K mg base Cs fs cc pp fd k cl fx) (cl : Nat → Option (List (Str × Addr))) (fx : List (V × Vl)) : LOk P w K mg base CX0 spF0 (k + 1) 1000 (TU K Cs fs pp cl fx) (nmL 1000) pl1000.length (run (k + 1) 1000) := by
  have IH0 := IH cl fx
  refine lok_0 (pa := laArgs la1000) (body := laBody la1000) (scp := laScope la1000) (pos := laPos la1000) rfl scl1000 (fun q cl pm cv ct us hl => match us, hl with | [_], _ => rfl) (fun A outer s H E q g c' cl' hr => ?_)
  exact (ge_lst (ga_cons (ge_call IH0.g5 (fun _ _ _ h => h) (fun _ _ h => h) (argN_cons argN_nil) hr (by rfl) X.d5.g X.d5.F.kp X.d5.b pass0 (ga_cons (ge_var (pv 0)) ga_nil)) (ga_cons (ge_call IH0.g6 (fun _ _ _ h => h) (fun _ _ h => h) (argN_cons (argN_cons argN_nil)) hr (by rfl) X.d6.g X.d6.F.kp X.d6.b pass0 (ga_cons (ge_var (pv 0)) (ga_cons (ge_tup (ga_cons ge_int (ga_cons ge_int ga_nil))) ga_nil))) (ga_cons (ge_call IH0.g7 (fun _ _ _ h => h) (fun _ _ h => h) (argN_cons (argN_cons argN_nil)) hr (by rfl) X.d7.g X.d7.F.kp X.d7.b pass0 (ga_cons (ge_var (pv 0)) (ga_cons ge_int ga_nil))) (ga_cons (ge_call IH0.g8 (fun _ _ _ h => h) (fun _ _ h => h) (argN_cons (argN_cons argN_nil)) hr (by rfl) X.d8.g X.d8.F.kp X.d8.b pass0 (ga_cons (ge_var (pv 0)) (ga_cons ge_int ga_nil))) ga_nil)))))
theorem scl1001 : LamSc Nl1001 pl1001 (nmL 1001) (laScope la1001) := ⟨rfl, rfl, rfl, rfl, by decide +kernel, by decide +kernel, by decide +kernel, by decide +kernel, by decide +kernel⟩
theorem lo1001 (X : Fx K mg Cs fs cc pp fd) {k : Nat} (IH : ∀ cl fx, Lv P w K mg base Cs fs cc pp fd k cl fx) (cl : Nat → Option (List (Str × Addr))) (fx : List (V × Vl)) : LOk P w K mg base CX0 spF0 (k + 1) 1001 (TU K Cs fs pp cl fx) (nmL 1001) pl1001.length (run (k + 1) 1001) := by
  have IH0 := IH cl fx
  refine lok_0 (pa := laArgs la1001) (body := laBody la1001) (scp := laScope la1001) (pos := laPos la1001) rfl scl1001 (fun q cl pm cv ct us hl => match us, hl with | [_], _ => rfl) (fun A outer s H E q g c' cl' hr => ?_)
  exact (ge_call IH0.g28 (fun _ _ _ h => h) (fun _ _ h => h) (argN_cons (argN_cons argN_nil)) hr (by rfl) X.d28.g X.d28.F.kp X.d28.b pass0 (ga_cons (ge_var (pv 1)) (ga_cons (ge_var (pv 0)) ga_nil)))
theorem scl1002 : LamSc Nl1002 pl1002 (nmL 1002) (laScope la1002) := ⟨rfl, rfl, rfl, rfl, by decide +kernel, by decide +kernel, by decide +kernel, by decide +kernel, by decide +kernel⟩
theorem lo1002 (X : Fx K mg Cs fs cc pp fd) {k : Nat} (IH : ∀ cl fx, Lv P w K mg base Cs fs cc pp fd k cl fx) (cl : Nat → Option (List (Str × Addr))) (fx : List (V × Vl)) : LOk P w K mg base CX0 spF0 (k + 1) 1002 (TU K Cs fs pp cl fx) (nmL 1002) pl1002.length (run (k + 1) 1002) := by
  have IH0 := IH cl fx
  refine lok_0 (pa := laArgs la1002) (body := laBody la1002) (scp := laScope la1002) (pos := laPos la1002) rfl scl1002 (fun q cl pm cv ct us hl => match us, hl with | [_, _], _ => rfl) (fun A outer s H E q g c' cl' hr => ?_)
  exact (ge_mth (EX := fun _ _ _ => False) (c0 := 5) rfl (fun c f h => by unfold mt_shows2 at h; split at h; (cases h; exact ⟨nf5_shows, spF0 (TU K Cs fs pp cl fx) (run k 20) p20.length, fun _ _ _ z => z, pe_meth (ge_var (pv 0)) X.k5.cl X.d20.m IH0.g20 hr X.d20.b .nil pass0 (ga_cons (ge_var (pv 2)) (ga_cons (ge_var (pv 1)) ga_nil))⟩); (cases h; exact ⟨nf6_shows, spF0 (TU K Cs fs pp cl fx) (run k 22) p22.length, fun _ _ _ z => z, pe_meth (ge_var (pv 0)) X.k6.cl X.d22.m IH0.g22 hr X.d22.b .nil pass0 (ga_cons (ge_var (pv 2)) (ga_cons (ge_var (pv 1)) ga_nil))⟩); cases h) (fun _ _ z => z) (argN_cons (argN_cons argN_nil)))
theorem scl1003 : LamSc Nl1003 pl1003 (nmL 1003) (laScope la1003) := ⟨rfl, rfl, rfl, rfl, by decide +kernel, by decide +kernel, by decide +kernel, by decide +kernel, by decide +kernel⟩
theorem lo1003 (X : Fx K mg Cs fs cc pp fd) {k : Nat} (IH : ∀ cl fx, Lv P w K mg base Cs fs cc pp fd k cl fx) (cl : Nat → Option (List (Str × Addr))) (fx : List (V × Vl)) : LOk P w K mg base CX0 spF0 (k + 1) 1003 (TU K Cs fs pp cl fx) (nmL 1003) pl1003.length (run (k + 1) 1003) := by
  have IH0 := IH cl fx
  refine lok_0 (pa := laArgs la1003) (body := laBody la1003) (scp := laScope la1003) (pos := laPos la1003) rfl scl1003 (fun q cl pm cv ct us hl => match us, hl with | [_], _ => rfl) (fun A outer s H E q g c' cl' hr => ?_)
  exact (ge_lst (ga_cons (ge_mth (EX := fun _ _ _ => False) (c0 := 1) rfl (fun c f h => by unfold mt_shows3 at h; split at h; (cases h; exact ⟨nf1_shows, spF0 (TU K Cs fs pp cl fx) (run k 12) p12.length, fun _ _ _ z => z, pe_meth (ge_new X.k1.mks X.i1 X.k1.kp (by rfl) X.k1.g) X.k1.cl X.d12.m IH0.g12 hr X.d12.b .nil pass0 (ga_cons (ge_var (pv 1)) (ga_cons (ge_callTy call_list_of sf_list (by rfl) X.b_list (by decide +kernel) (ga_cons (ge_var (pv 0)) ga_nil)) (ga_cons (ge_call IH0.g29 (fun _ _ _ h => h) (fun _ _ h => h) (argN_cons (argN_cons argN_nil)) hr (by rfl) X.d29.g X.d29.F.kp X.d29.b pass0 (ga_cons (ge_var (pv 1)) (ga_cons (ge_var (pv 0)) ga_nil))) ga_nil)))⟩); (cases h; exact ⟨nf2_shows, spF0 (TU K Cs fs pp cl fx) (run k 14) p14.length, fun _ _ _ z => z, pe_meth (ge_new X.k1.mks X.i1 X.k1.kp (by rfl) X.k1.g) X.k2.cl X.d14.m IH0.g14 hr X.d14.b .nil pass0 (ga_cons (ge_var (pv 1)) (ga_cons (ge_callTy call_list_of sf_list (by rfl) X.b_list (by decide +kernel) (ga_cons (ge_var (pv 0)) ga_nil)) (ga_cons (ge_call IH0.g29 (fun _ _ _ h => h) (fun _ _ h => h) (argN_cons (argN_cons argN_nil)) hr (by rfl) X.d29.g X.d29.F.kp X.d29.b pass0 (ga_cons (ge_var (pv 1)) (ga_cons (ge_var (pv 0)) ga_nil))) ga_nil)))⟩); (cases h; exact ⟨nf3_shows, spF0 (TU K Cs fs pp cl fx) (run k 16) p16.length, fun _ _ _ z => z, pe_meth (ge_new X.k1.mks X.i1 X.k1.kp (by rfl) X.k1.g) X.k3.cl X.d16.m IH0.g16 hr X.d16.b .nil pass0 (ga_cons (ge_var (pv 1)) (ga_cons (ge_callTy call_list_of sf_list (by rfl) X.b_list (by decide +kernel) (ga_cons (ge_var (pv 0)) ga_nil)) (ga_cons (ge_call IH0.g29 (fun _ _ _ h => h) (fun _ _ h => h) (argN_cons (argN_cons argN_nil)) hr (by rfl) X.d29.g X.d29.F.kp X.d29.b pass0 (ga_cons (ge_var (pv 1)) (ga_cons (ge_var (pv 0)) ga_nil))) ga_nil)))⟩); (cases h; exact ⟨nf4_shows, spF0 (TU K Cs fs pp cl fx) (run k 18) p18.length, fun _ _ _ z => z, pe_meth (ge_new X.k1.mks X.i1 X.k1.kp (by rfl) X.k1.g) X.k4.cl X.d18.m IH0.g18 hr X.d18.b .nil pass0 (ga_cons (ge_var (pv 1)) (ga_cons (ge_callTy call_list_of sf_list (by rfl) X.b_list (by decide +kernel) (ga_cons (ge_var (pv 0)) ga_nil)) (ga_cons (ge_call IH0.g29 (fun _ _ _ h => h) (fun _ _ h => h) (argN_cons (argN_cons argN_nil)) hr (by rfl) X.d29.g X.d29.F.kp X.d29.b pass0 (ga_cons (ge_var (pv 1)) (ga_cons (ge_var (pv 0)) ga_nil))) ga_nil)))⟩); cases h) (fun _ _ z => z) (argN_cons (argN_cons (argN_cons argN_nil)))) ga_nil))
theorem scl1004 : LamSc Nl1004 pl1004 (nmL 1004) (laScope la1004) := ⟨rfl, rfl, rfl, rfl, by decide +kernel, by decide +kernel, by decide +kernel, by decide +kernel, by decide +kernel⟩
theorem lo1004 (X : Fx K mg Cs fs cc pp fd) {k : Nat} (IH : ∀ cl fx, Lv P w K mg base Cs fs cc pp fd k cl fx) (cl : Nat → Option (List (Str × Addr))) (fx : List (V × Vl)) : LOk P w K mg base CX0 spF0 (k + 1) 1004 (TU K Cs fs pp cl fx) (nmL 1004) pl1004.length (run (k + 1) 1004) := by
  have IH0 := IH cl fx
  refine lok_0 (pa := laArgs la1004) (body := laBody la1004) (scp := laScope la1004) (pos := laPos la1004) rfl scl1004 (fun q cl pm cv ct us hl => match us, hl with | [_], _ => rfl) (fun A outer s H E q g c' cl' hr => ?_)
  exact (ge_call IH0.g33 (fun _ _ _ h => h) (fun _ _ h => h) (argN_cons argN_nil) hr (by rfl) X.d33.g X.d33.F.kp X.d33.b pass0 (ga_cons (ge_var (pv 0)) ga_nil))
theorem scl1005 : LamSc Nl1005 pl1005 (nmL 1005) (laScope la1005) := ⟨rfl, rfl, rfl, rfl, by decide +kernel, by decide +kernel, by decide +kernel, by decide +kernel, by decide +kernel⟩
theorem lo1005 (X : Fx K mg Cs fs cc pp fd) {k : Nat} (IH : ∀ cl fx, Lv P w K mg base Cs fs cc pp fd k cl fx) (cl : Nat → Option (List (Str × Addr))) (fx : List (V × Vl)) : LOk P w K mg base CX0 spF0 (k + 1) 1005 (TU K Cs fs pp cl fx) (nmL 1005) pl1005.length (run (k + 1) 1005) := by
  have IH0 := IH cl fx
  refine lok_0 (pa := laArgs la1005) (body := laBody la1005) (scp := laScope la1005) (pos := laPos la1005) rfl scl1005 (fun q cl pm cv ct us hl => match us, hl with | [_, _], _ => rfl) (fun A outer s H E q g c' cl' hr => ?_)
  exact (ge_mth (EX := fun _ _ _ => False) (c0 := 1) rfl (fun c f h => by unfold mt_shows3 at h; split at h; (cases h; exact ⟨nf1_shows, spF0 (TU K Cs fs pp cl fx) (run k 12) p12.length, fun _ _ _ z => z, pe_meth (ge_var (pv 0)) X.k1.cl X.d12.m IH0.g12 hr X.d12.b .nil pass0 (ga_cons (ge_var (pv 2)) (ga_cons (ge_ix ix_seq sf_ix (ge_var (pv 1)) ge_int (fun _ _ => rfl)) (ga_cons (ge_ix ix_seq sf_ix (ge_var (pv 1)) ge_int (fun _ _ => rfl)) ga_nil)))⟩); (cases h; exact ⟨nf2_shows, spF0 (TU K Cs fs pp cl fx) (run k 14) p14.length, fun _ _ _ z => z, pe_meth (ge_var (pv 0)) X.k2.cl X.d14.m IH0.g14 hr X.d14.b .nil pass0 (ga_cons (ge_var (pv 2)) (ga_cons (ge_ix ix_seq sf_ix (ge_var (pv 1)) ge_int (fun _ _ => rfl)) (ga_cons (ge_ix ix_seq sf_ix (ge_var (pv 1)) ge_int (fun _ _ => rfl)) ga_nil)))⟩); (cases h; exact ⟨nf3_shows, spF0 (TU K Cs fs pp cl fx) (run k 16) p16.length, fun _ _ _ z => z, pe_meth (ge_var (pv 0)) X.k3.cl X.d16.m IH0.g16 hr X.d16.b .nil pass0 (ga_cons (ge_var (pv 2)) (ga_cons (ge_ix ix_seq sf_ix (ge_var (pv 1)) ge_int (fun _ _ => rfl)) (ga_cons (ge_ix ix_seq sf_ix (ge_var (pv 1)) ge_int (fun _ _ => rfl)) ga_nil)))⟩); (cases h; exact ⟨nf4_shows, spF0 (TU K Cs fs pp cl fx) (run k 18) p18.length, fun _ _ _ z => z, pe_meth (ge_var (pv 0)) X.k4.cl X.d18.m IH0.g18 hr X.d18.b .nil pass0 (ga_cons (ge_var (pv 2)) (ga_cons (ge_ix ix_seq sf_ix (ge_var (pv 1)) ge_int (fun _ _ => rfl)) (ga_cons (ge_ix ix_seq sf_ix (ge_var (pv 1)) ge_int (fun _ _ => rfl)) ga_nil)))⟩); cases h) (fun _ _ z => z) (argN_cons (argN_cons (argN_cons argN_nil))))
theorem scl1006 : LamSc Nl1006 pl1006 (nmL 1006) (laScope la1006) := ⟨rfl, rfl, rfl, rfl, by decide +kernel, by decide +kernel, by decide +kernel, by decide +kernel, by decide +kernel⟩
theorem lo1006 (X : Fx K mg Cs fs cc pp fd) {k : Nat} (IH : ∀ cl fx, Lv P w K mg base Cs fs cc pp fd k cl fx) (cl : Nat → Option (List (Str × Addr))) (fx : List (V × Vl)) : LOk P w K mg base CX0 spF0 (k + 1) 1006 (TU K Cs fs pp cl fx) (nmL 1006) pl1006.length (run (k + 1) 1006) := by
  have IH0 := IH cl fx
  refine lok_0 (pa := laArgs la1006) (body := laBody la1006) (scp := laScope la1006) (pos := laPos la1006) rfl scl1006 (fun q cl pm cv ct us hl => match us, hl with | [_], _ => rfl) (fun A outer s H E q g c' cl' hr => ?_)
  exact (ge_call IH0.g32 (fun _ _ _ h => h) (fun _ _ h => h) (argN_cons (argN_cons (argN_cons argN_nil))) hr (by rfl) X.d32.g X.d32.F.kp X.d32.b pass0 (ga_cons (ge_var (pv 1)) (ga_cons (ge_ix ix_seq sf_ix (ge_var (pv 0)) ge_int (fun _ _ => rfl)) (ga_cons (ge_ix ix_seq sf_ix (ge_var (pv 0)) ge_int (fun _ _ => rfl)) ga_nil))))
theorem scl1007 : LamSc Nl1007 pl1007 (nmL 1007) (laScope la1007) := ⟨rfl, rfl, rfl, rfl, by decide +kernel, by decide +kernel, by decide +kernel, by decide +kernel, by decide +kernel⟩
theorem lo1007 (X : Fx K mg Cs fs cc pp fd) {k : Nat} (IH : ∀ cl fx, Lv P w K mg base Cs fs cc pp fd k cl fx) (cl : Nat → Option (List (Str × Addr))) (fx : List (V × Vl)) : LOk P w K mg base CX0 spF0 (k + 1) 1007 (TU K Cs fs pp cl fx) (nmL 1007) pl1007.length (run (k + 1) 1007) := by
  have IH0 := IH cl fx
  refine lok_0 (pa := laArgs la1007) (body := laBody la1007) (scp := laScope la1007) (pos := laPos la1007) rfl scl1007 (fun q cl pm cv ct us hl => match us, hl with | [_], _ => rfl) (fun A outer s H E q g c' cl' hr => ?_)
  exact (ge_call IH0.g32 (fun _ _ _ h => h) (fun _ _ h => h) (argN_cons (argN_cons (argN_cons argN_nil))) hr (by rfl) X.d32.g X.d32.F.kp X.d32.b pass0 (ga_cons (ge_var (pv 1)) (ga_cons (ge_ix ix_seq sf_ix (ge_var (pv 0)) ge_int (fun _ _ => rfl)) (ga_cons (ge_ix ix_seq sf_ix (ge_var (pv 0)) ge_int (fun _ _ => rfl)) ga_nil))))
theorem scl1008 : LamSc Nl1008 pl1008 (nmL 1008) (laScope la1008) := ⟨rfl, rfl, rfl, rfl, by decide +kernel, by decide +kernel, by decide +kernel, by decide +kernel, by decide +kernel⟩
theorem lo1008 (X : Fx K mg Cs fs cc pp fd) {k : Nat} (IH : ∀ cl fx, Lv P w K mg base Cs fs cc pp fd k cl fx) (cl : Nat → Option (List (Str × Addr))) (fx : List (V × Vl)) : LOk P w K mg base CX0 spF0 (k + 1) 1008 (TU K Cs fs pp cl fx) (nmL 1008) pl1008.length (run (k + 1) 1008) := by
  have IH0 := IH cl fx
  refine lok_0 (pa := laArgs la1008) (body := laBody la1008) (scp := laScope la1008) (pos := laPos la1008) rfl scl1008 (fun q cl pm cv ct us hl => match us, hl with | [_], _ => rfl) (fun A outer s H E q g c' cl' hr => ?_)
  exact (ge_call IH0.g28 (fun _ _ _ h => h) (fun _ _ h => h) (argN_cons (argN_cons argN_nil)) hr (by rfl) X.d28.g X.d28.F.kp X.d28.b pass0 (ga_cons ge_int (ga_cons (ge_var (pv 0)) ga_nil)))
theorem scl1009 : LamSc Nl1009 pl1009 (nmL 1009) (laScope la1009) := ⟨rfl, rfl, rfl, rfl, by decide +kernel, by decide +kernel, by decide +kernel, by decide +kernel, by decide +kernel⟩
theorem lo1009 (X : Fx K mg Cs fs cc pp fd) {k : Nat} (IH : ∀ cl fx, Lv P w K mg base Cs fs cc pp fd k cl fx) (cl : Nat → Option (List (Str × Addr))) (fx : List (V × Vl)) : LOk P w K mg base CX0 spF0 (k + 1) 1009 (TU K Cs fs pp cl fx) (nmL 1009) pl1009.length (run (k + 1) 1009) := by
  have IH0 := IH cl fx
  refine lok_0 (pa := laArgs la1009) (body := laBody la1009) (scp := laScope la1009) (pos := laPos la1009) rfl scl1009 (fun q cl pm cv ct us hl => match us, hl with | [_, _], _ => rfl) (fun A outer s H E q g c' cl' hr => ?_)
  exact (ge_mth (EX := fun _ _ _ => False) (c0 := 5) rfl (fun c f h => by unfold mt_shows2 at h; split at h; (cases h; exact ⟨nf5_shows, spF0 (TU K Cs fs pp cl fx) (run k 20) p20.length, fun _ _ _ z => z, pe_meth (ge_var (pv 0)) X.k5.cl X.d20.m IH0.g20 hr X.d20.b .nil pass0 (ga_cons ge_int (ga_cons (ge_var (pv 1)) ga_nil))⟩); (cases h; exact ⟨nf6_shows, spF0 (TU K Cs fs pp cl fx) (run k 22) p22.length, fun _ _ _ z => z, pe_meth (ge_var (pv 0)) X.k6.cl X.d22.m IH0.g22 hr X.d22.b .nil pass0 (ga_cons ge_int (ga_cons (ge_var (pv 1)) ga_nil))⟩); cases h) (fun _ _ z => z) (argN_cons (argN_cons argN_nil)))
theorem sc0 : FnScope N0 p0 (defScope s0) := ⟨rfl, rfl, rfl, by decide +kernel, rfl, by decide +kernel, by decide +kernel⟩
theorem ok0 (X : Fx K mg Cs fs cc pp fd) {k : Nat} (IH : ∀ cl fx, Lv P w K mg base Cs fs cc pp fd k cl fx) (cl : Nat → Option (List (Str × Addr))) (fx : List (V × Vl)) : FnOk P w K mg base CX0 (k + 1) (fs 0) (fd 0) p0 (spF0 (TU K Cs fs pp cl fx) (run (k + 1) 0) p0.length) := by
  have IH0 := IH cl fx
  refine X.d0.F.ok sc0 (fun vs H Q E h => h.1) (fun cdv A outer s H vs Q E hr h => ⟨tS (TU K Cs fs pp cl fx) EF (c_is_whole (run k)), ?_, fn_start (N := N0) (EX := fun _ _ _ => False) h fun _ _ z => z⟩)
  exact (gss_one (gs_ret (ge_and (ge_isi .int rfl ⟨by decide, by decide⟩ (by rfl) X.b_isinstance (by rfl) X.b_int (by decide +kernel) (ge_var (pv 0)) (by decide) (by decide) (by decide +kernel)) (ge_and (ge_not (ge_isi .bl rfl ⟨by decide, by decide⟩ (by rfl) X.b_isinstance (by rfl) X.b_bool (by decide +kernel) (ge_var (pv 0)) (by decide) (by decide) (by decide +kernel))) (ge_one (ge_cmp op_ge sf_ge (ge_var (pv 0)) (ge_var (pv 1)) (nomark _)))))))
theorem sc1 : FnScope N1 p1 (defScope s1) := ⟨rfl, rfl, rfl, by decide +kernel, rfl, by decide +kernel, by decide +kernel⟩
theorem ok1 (X : Fx K mg Cs fs cc pp fd) {k : Nat} (IH : ∀ cl fx, Lv P w K mg base Cs fs cc pp fd k cl fx) (cl : Nat → Option (List (Str × Addr))) (fx : List (V × Vl)) : FnOk P w K mg base CX0 (k + 1) (fs 1) (fd 1) p1 (spF0 (TU K Cs fs pp cl fx) (run (k + 1) 1) p1.length) := by
  have IH0 := IH cl fx
  refine X.d1.F.ok sc1 (fun vs H Q E h => h.1) (fun cdv A outer s H vs Q E hr h => ⟨tS (TU K Cs fs pp cl fx) EF (c_check_street (run k)), ?_, fn_start (N := N1) (EX := fun _ _ _ => False) h fun _ _ z => z⟩)
  exact (gss_one (gs_if (PW.pt (gw_or (gt_not (gt_val (ge_isi .lst rfl ⟨by decide, by decide⟩ (by rfl) X.b_isinstance (by rfl) X.b_list (by decide +kernel) (ge_var (pv 0)) (by decide) (by decide) (by decide +kernel)))) (gw_or (gt_not (gt_ch op_le op_le ge_int (ge_callB call_len_seq sf_len (by rfl) X.b_len (by decide +kernel) (ga_cons (ge_var (pv 0)) ga_nil)) (ge_gi rfl X.c_MOST))) (gw_or1 (gt_not (gt_val (ge_callB (cr_all rfl) sf_all (by rfl) X.b_all (by decide +kernel) (ga_cons (ge_lc (own := [("one", 1)]) (t := (.nm 1)) (by decide) rfl sc1.nd (gi_it rfl (ge_var (pv 0))) (blkOk_by (N := N1) (sc := (defScope s1)) (by decide +kernel)) (fun _ _ _ _ _ => (pg_name (i := 1) sc1.nd rfl (Or.inl rfl))) (fun _ _ _ _ _ => gts_nil) (fun _ _ _ _ _ => (ge_call IH0.g0 (fun _ _ _ h => h) (fun _ _ h => h) (argN_cons (argN_cons argN_nil)) hr (by rfl) X.d0.g X.d0.F.kp X.d0.b pass0 (ga_cons (ge_var (pv 1)) (ga_cons ge_int ga_nil))))) ga_nil))))))))
    (gss_one gs_raise0)
    gss_nil))
theorem sc2 : FnScope N2 p2 (defScope s2) := ⟨rfl, rfl, rfl, by decide +kernel, rfl, by decide +kernel, by decide +kernel⟩
theorem ok2 (X : Fx K mg Cs fs cc pp fd) {k : Nat} (IH : ∀ cl fx, Lv P w K mg base Cs fs cc pp fd k cl fx) (cl : Nat → Option (List (Str × Addr))) (fx : List (V × Vl)) : FnOk P w K mg base CX0 (k + 1) (fs 2) (fd 2) p2 (spF0 (TU K Cs fs pp cl fx) (run (k + 1) 2) p2.length) := by
  have IH0 := IH cl fx
  refine X.d2.F.ok sc2 (fun vs H Q E h => h.1) (fun cdv A outer s H vs Q E hr h => ⟨tS (TU K Cs fs pp cl fx) EF (c_many_of (run k)), ?_, fn_start (N := N2) (EX := fun _ _ _ => False) h fun _ _ z => z⟩)
  exact (gss_one (gs_ret (ge_op (op_or op_add op_cat) sf_add (ge_callB call_len_seq sf_len (by rfl) X.b_len (by decide +kernel) (ga_cons (ge_var (pv 0)) ga_nil)) (ge_callB (cr_sum rfl) sf_sum (by rfl) X.b_sum (by decide +kernel) (ga_cons (ge_var (pv 0)) ga_nil)))))
theorem sc3 : FnScope N3 p3 (defScope s3) := ⟨rfl, rfl, rfl, by decide +kernel, rfl, by decide +kernel, by decide +kernel⟩
theorem ok3 (X : Fx K mg Cs fs cc pp fd) {k : Nat} (IH : ∀ cl fx, Lv P w K mg base Cs fs cc pp fd k cl fx) (cl : Nat → Option (List (Str × Addr))) (fx : List (V × Vl)) : FnOk P w K mg base CX0 (k + 1) (fs 3) (fd 3) p3 (spF0 (TU K Cs fs pp cl fx) (run (k + 1) 3) p3.length) := by
  have IH0 := IH cl fx
  refine X.d3.F.ok sc3 (fun vs H Q E h => h.1) (fun cdv A outer s H vs Q E hr h => ⟨tS (TU K Cs fs pp cl fx) EF (c_ahead_of (run k)), ?_, fn_start (N := N3) (EX := fun _ _ _ => False) h fun _ _ z => z⟩)
  exact (gss_cons (gs_asg (t := (.tp [(.nm 2), (.nm 3)])) (ge_tup (ga_cons ge_int (ga_cons ge_int ga_nil))) (pg_tup rfl (pgs_cons (pg_name (i := 2) sc3.nd rfl (Or.inl rfl)) (pgs_cons (pg_name (i := 3) sc3.nd rfl (Or.inl rfl)) pgs_nil))))
    (gss_cons (gs_for (t := (.tp [(.nm 4), (.nm 5)])) PassesOwn.never rfl (gi_en rfl (by rfl) X.b_enumerate (ge_sl rfl (ge_var (pv 0)) .none (.some (ge_var (pv 1))))) (pg_tup rfl (pgs_cons (pg_name (i := 4) sc3.nd rfl (Or.inl rfl)) (pgs_cons (pg_name (i := 5) sc3.nd rfl (Or.inl rfl)) pgs_nil)))
    (gss_cons (gs_aug (i := 2) sc3.nd rfl (Or.inl rfl) (ge_if (gt_cmp (op_or op_eq (op_eqD hr.units)) sf_eq (ge_op op_mod sf_mod (ge_var (pv 4)) ge_int) ge_int (nomark _)) ge_int (ge_var (pv 5))) ip_add)
    (gss_one (gs_aug (i := 3) sc3.nd rfl (Or.inl rfl) (ge_if (gt_cmp (op_or op_eq (op_eqD hr.units)) sf_eq (ge_op op_mod sf_mod (ge_var (pv 4)) ge_int) ge_int (nomark _)) (ge_var (pv 5)) ge_int) ip_add))))
    (gss_one (gs_ret (ge_tup (ga_cons (ge_var (pv 2)) (ga_cons (ge_var (pv 3)) ga_nil)))))))
theorem sc4 : FnScope N4 p4 (defScope s4) := ⟨rfl, rfl, rfl, by decide +kernel, rfl, by decide +kernel, by decide +kernel⟩
theorem ok4 (X : Fx K mg Cs fs cc pp fd) {k : Nat} (IH : ∀ cl fx, Lv P w K mg base Cs fs cc pp fd k cl fx) (cl : Nat → Option (List (Str × Addr))) (fx : List (V × Vl)) : FnOk P w K mg base CX0 (k + 1) (fs 4) (fd 4) p4 (spF0 (TU K Cs fs pp cl fx) (run (k + 1) 4) p4.length) := by
  have IH0 := IH cl fx
  refine X.d4.F.ok sc4 (fun vs H Q E h => h.1) (fun cdv A outer s H vs Q E hr h => ⟨tS (TU K Cs fs pp cl fx) EF (c_number_at (run k)), ?_, fn_start (N := N4) (EX := fun _ _ _ => False) h fun _ _ z => z⟩)
  exact (gss_cons (gs_asg (t := (.tp [(.nm 3), (.nm 4)])) (ge_call IH0.g3 (fun _ _ _ h => h) (fun _ _ h => h) (argN_cons (argN_cons argN_nil)) hr (by rfl) X.d3.g X.d3.F.kp X.d3.b pass0 (ga_cons (ge_var (pv 0)) (ga_cons (ge_var (pv 1)) ga_nil))) (pg_tup rfl (pgs_cons (pg_name (i := 3) sc4.nd rfl (Or.inl rfl)) (pgs_cons (pg_name (i := 4) sc4.nd rfl (Or.inl rfl)) pgs_nil))))
    (gss_cons (gs_if (gt_cmp (op_or op_eq (op_eqD hr.units)) sf_eq (ge_cmp (op_or op_eq (op_eqD hr.units)) sf_eq (ge_op op_mod sf_mod (ge_var (pv 1)) ge_int) ge_int (nomark _)) (ge_cmp (op_or op_eq (op_eqD hr.units)) sf_eq (ge_var (pv 2)) ge_int (nomark _)) (nomark _))
    (gss_one (gs_ret (ge_op (op_or op_add op_cat) sf_add (ge_var (pv 3)) (ge_callB (call_max2 rfl) sf_max (by rfl) X.b_max (by decide +kernel) (ga_cons ge_int (ga_cons (ge_op op_sub sf_sub (ge_var (pv 2)) ge_int) ga_nil))))))
    gss_nil)
    (gss_one (gs_ret (ge_op op_sub sf_sub (ge_op op_sub sf_sub (ge_op op_sub sf_sub (ge_call IH0.g2 (fun _ _ _ h => h) (fun _ _ h => h) (argN_cons argN_nil) hr (by rfl) X.d2.g X.d2.F.kp X.d2.b pass0 (ga_cons (ge_var (pv 0)) ga_nil)) ge_int) (ge_var (pv 4))) (ge_callB (call_max2 rfl) sf_max (by rfl) X.b_max (by decide +kernel) (ga_cons ge_int (ga_cons (ge_op op_sub sf_sub (ge_var (pv 2)) ge_int) ga_nil))))))))
theorem sc5 : FnScope N5 p5 (defScope s5) := ⟨rfl, rfl, rfl, by decide +kernel, rfl, by decide +kernel, by decide +kernel⟩
theorem ok5 (X : Fx K mg Cs fs cc pp fd) {k : Nat} (IH : ∀ cl fx, Lv P w K mg base Cs fs cc pp fd k cl fx) (cl : Nat → Option (List (Str × Addr))) (fx : List (V × Vl)) : FnOk P w K mg base CX0 (k + 1) (fs 5) (fd 5) p5 (spF0 (TU K Cs fs pp cl fx) (run (k + 1) 5) p5.length) := by
  have IH0 := IH cl fx
  refine X.d5.F.ok sc5 (fun vs H Q E h => h.1) (fun cdv A outer s H vs Q E hr h => ⟨tS (TU K Cs fs pp cl fx) EF (c_houses_of (run k)), ?_, fn_start (N := N5) (EX := fun _ _ _ => False) h fun _ _ z => z⟩)
  exact (gss_cons (gs_drop (ge_call IH0.g1 (fun _ _ _ h => h) (fun _ _ h => h) (argN_cons argN_nil) hr (by rfl) X.d1.g X.d1.F.kp X.d1.b pass0 (ga_cons (ge_var (pv 0)) ga_nil)))
    (gss_one (gs_ret (ge_call IH0.g2 (fun _ _ _ h => h) (fun _ _ h => h) (argN_cons argN_nil) hr (by rfl) X.d2.g X.d2.F.kp X.d2.b pass0 (ga_cons (ge_var (pv 0)) ga_nil)))))
theorem sc6 : FnScope N6 p6 (defScope s6) := ⟨rfl, rfl, rfl, by decide +kernel, rfl, by decide +kernel, by decide +kernel⟩
theorem ok6 (X : Fx K mg Cs fs cc pp fd) {k : Nat} (IH : ∀ cl fx, Lv P w K mg base Cs fs cc pp fd k cl fx) (cl : Nat → Option (List (Str × Addr))) (fx : List (V × Vl)) : FnOk P w K mg base CX0 (k + 1) (fs 6) (fd 6) p6 (spF0 (TU K Cs fs pp cl fx) (run (k + 1) 6) p6.length) := by
  have IH0 := IH cl fx
  refine X.d6.F.ok sc6 (fun vs H Q E h => h.1) (fun cdv A outer s H vs Q E hr h => ⟨tS (TU K Cs fs pp cl fx) EF (c_number_of (run k)), ?_, fn_start (N := N6) (EX := fun _ _ _ => False) h fun _ _ z => z⟩)
  exact (gss_cons (gs_drop (ge_call IH0.g1 (fun _ _ _ h => h) (fun _ _ h => h) (argN_cons argN_nil) hr (by rfl) X.d1.g X.d1.F.kp X.d1.b pass0 (ga_cons (ge_var (pv 0)) ga_nil)))
    (gss_cons (gs_if (PW.pt (gw_or (gt_not (gt_val (ge_isi .tup rfl ⟨by decide, by decide⟩ (by rfl) X.b_isinstance (by rfl) X.b_tuple (by decide +kernel) (ge_var (pv 1)) (by decide) (by decide) (by decide +kernel)))) (gw_or (gt_cmp (op_or op_ne (op_neD hr.units)) sf_ne (ge_callB call_len_seq sf_len (by rfl) X.b_len (by decide +kernel) (ga_cons (ge_var (pv 1)) ga_nil)) ge_int (nomark _)) (gw_or1 (gt_not (gt_val (ge_callB (cr_all rfl) sf_all (by rfl) X.b_all (by decide +kernel) (ga_cons (ge_lc (own := [("one", 2)]) (t := (.nm 2)) (by decide) rfl sc6.nd (gi_it rfl (ge_var (pv 1))) (blkOk_by (N := N6) (sc := (defScope s6)) (by decide +kernel)) (fun _ _ _ _ _ => (pg_name (i := 2) sc6.nd rfl (Or.inl rfl))) (fun _ _ _ _ _ => gts_nil) (fun _ _ _ _ _ => (ge_call IH0.g0 (fun _ _ _ h => h) (fun _ _ h => h) (argN_cons (argN_cons argN_nil)) hr (by rfl) X.d0.g X.d0.F.kp X.d0.b pass0 (ga_cons (ge_var (pv 2)) (ga_cons ge_int ga_nil))))) ga_nil))))))))
    (gss_one gs_raise0)
    gss_nil)
    (gss_cons (gs_if (PW.pt (gw_or (gt_cmp op_ge sf_ge (ge_ix ix_seq sf_ix (ge_var (pv 1)) ge_int (fun _ _ => rfl)) (ge_callB call_len_seq sf_len (by rfl) X.b_len (by decide +kernel) (ga_cons (ge_var (pv 0)) ga_nil)) (nomark _)) (gw_or1 (gt_cmp op_gt sf_gt (ge_ix ix_seq sf_ix (ge_var (pv 1)) ge_int (fun _ _ => rfl)) (ge_ix ix_seq sf_ix (ge_var (pv 0)) (ge_ix ix_seq sf_ix (ge_var (pv 1)) ge_int (fun _ _ => rfl)) (fun _ _ => rfl)) (nomark _)))))
    (gss_one gs_raise0)
    gss_nil)
    (gss_one (gs_ret (ge_call IH0.g4 (fun _ _ _ h => h) (fun _ _ h => h) (argN_cons (argN_cons (argN_cons argN_nil))) hr (by rfl) X.d4.g X.d4.F.kp X.d4.b pass0 (ga_cons (ge_var (pv 0)) (ga_cons (ge_ix ix_seq sf_ix (ge_var (pv 1)) ge_int (fun _ _ => rfl)) (ga_cons (ge_ix ix_seq sf_ix (ge_var (pv 1)) ge_int (fun _ _ => rfl)) ga_nil)))))))))
theorem sc7 : FnScope N7 p7 (defScope s7) := ⟨rfl, rfl, rfl, by decide +kernel, rfl, by decide +kernel, by decide +kernel⟩
theorem ok7 (X : Fx K mg Cs fs cc pp fd) {k : Nat} (IH : ∀ cl fx, Lv P w K mg base Cs fs cc pp fd k cl fx) (cl : Nat → Option (List (Str × Addr))) (fx : List (V × Vl)) : FnOk P w K mg base CX0 (k + 1) (fs 7) (fd 7) p7 (spF0 (TU K Cs fs pp cl fx) (run (k + 1) 7) p7.length) := by
  have IH0 := IH cl fx
  refine X.d7.F.ok sc7 (fun vs H Q E h => h.1) (fun cdv A outer s H vs Q E hr h => ⟨tS (TU K Cs fs pp cl fx) EF (c_house_of (run k)), ?_, fn_start (N := N7) (EX := fun _ _ _ => False) h fun _ _ z => z⟩)
  exact (gss_cons (gs_drop (ge_call IH0.g1 (fun _ _ _ h => h) (fun _ _ h => h) (argN_cons argN_nil) hr (by rfl) X.d1.g X.d1.F.kp X.d1.b pass0 (ga_cons (ge_var (pv 0)) ga_nil)))
    (gss_cons (gs_set (i := 2) sc7.nd rfl (Or.inl rfl) (ge_call IH0.g2 (fun _ _ _ h => h) (fun _ _ h => h) (argN_cons argN_nil) hr (by rfl) X.d2.g X.d2.F.kp X.d2.b pass0 (ga_cons (ge_var (pv 0)) ga_nil)))
    (gss_cons (gs_if (PW.pt (gw_or (gt_not (gt_val (ge_call IH0.g0 (fun _ _ _ h => h) (fun _ _ h => h) (argN_cons (argN_cons argN_nil)) hr (by rfl) X.d0.g X.d0.F.kp X.d0.b pass0 (ga_cons (ge_var (pv 1)) (ga_cons ge_int ga_nil))))) (gw_or1 (gt_cmp op_ge sf_ge (ge_var (pv 1)) (ge_var (pv 2)) (nomark _)))))
    (gss_one gs_raise0)
    gss_nil)
    (gss_cons (gs_set (i := 3) sc7.nd rfl (Or.inl rfl) (ge_ix ix_seq sf_ix (ge_call IH0.g3 (fun _ _ _ h => h) (fun _ _ h => h) (argN_cons (argN_cons argN_nil)) hr (by rfl) X.d3.g X.d3.F.kp X.d3.b pass0 (ga_cons (ge_var (pv 0)) (ga_cons (ge_callB call_len_seq sf_len (by rfl) X.b_len (by decide +kernel) (ga_cons (ge_var (pv 0)) ga_nil)) ga_nil))) ge_int (fun _ _ => rfl)))
    (gss_cons (gs_set (i := 4) sc7.nd rfl (Or.inl rfl) (ge_if (gt_cmp op_lt sf_lt (ge_var (pv 1)) (ge_var (pv 3)) (nomark _)) ge_int ge_int))
    (gss_cons (gs_set (i := 5) sc7.nd rfl (Or.inl rfl) (ge_if (gt_cmp (op_or op_eq (op_eqD hr.units)) sf_eq (ge_var (pv 4)) ge_int (nomark _)) (ge_var (pv 1)) (ge_op op_sub sf_sub (ge_op op_sub sf_sub (ge_var (pv 2)) ge_int) (ge_var (pv 1)))))
    (gss_cons (gs_for (t := (.tp [(.nm 6), (.nm 7)])) PassesOwn.never rfl (gi_en rfl (by rfl) X.b_enumerate (ge_var (pv 0))) (pg_tup rfl (pgs_cons (pg_name (i := 6) sc7.nd rfl (Or.inl rfl)) (pgs_cons (pg_name (i := 7) sc7.nd rfl (Or.inl rfl)) pgs_nil)))
    (gss_cons (gs_set (i := 8) sc7.nd rfl (Or.inl rfl) (ge_if (gt_cmp (op_or op_eq (op_eqD hr.units)) sf_eq (ge_op op_mod sf_mod (ge_var (pv 6)) ge_int) (ge_var (pv 4)) (nomark _)) ge_int (ge_var (pv 7))))
    (gss_cons (gs_if (gt_cmp op_lt sf_lt (ge_var (pv 5)) (ge_var (pv 8)) (nomark _))
    (gss_one (gs_ret (ge_tup (ga_cons (ge_var (pv 6)) (ga_cons (ge_if (gt_cmp (op_or op_eq (op_eqD hr.units)) sf_eq (ge_op op_mod sf_mod (ge_var (pv 6)) ge_int) (ge_var (pv 4)) (nomark _)) ge_int (ge_op (op_or op_add op_cat) sf_add (ge_var (pv 5)) ge_int)) ga_nil)))))
    gss_nil)
    (gss_one (gs_aug (i := 5) sc7.nd rfl (Or.inl rfl) (ge_var (pv 8)) ip_sub)))))
    (gss_one (gs_ret ge_non)))))))))
theorem sc8 : FnScope N8 p8 (defScope s8) := ⟨rfl, rfl, rfl, by decide +kernel, rfl, by decide +kernel, by decide +kernel⟩
theorem ok8 (X : Fx K mg Cs fs cc pp fd) {k : Nat} (IH : ∀ cl fx, Lv P w K mg base Cs fs cc pp fd k cl fx) (cl : Nat → Option (List (Str × Addr))) (fx : List (V × Vl)) : FnOk P w K mg base CX0 (k + 1) (fs 8) (fd 8) p8 (spF0 (TU K Cs fs pp cl fx) (run (k + 1) 8) p8.length) := by
  have IH0 := IH cl fx
  refine X.d8.F.ok sc8 (fun vs H Q E h => h.1) (fun cdv A outer s H vs Q E hr h => ⟨tS (TU K Cs fs pp cl fx) EF (c_road_of (run k)), ?_, fn_start (N := N8) (EX := fun _ _ _ => False) h fun _ _ z => z⟩)
  exact (gss_cons (gs_drop (ge_call IH0.g1 (fun _ _ _ h => h) (fun _ _ h => h) (argN_cons argN_nil) hr (by rfl) X.d1.g X.d1.F.kp X.d1.b pass0 (ga_cons (ge_var (pv 0)) ga_nil)))
    (gss_cons (gs_set (i := 2) sc8.nd rfl (Or.inl rfl) (ge_call IH0.g2 (fun _ _ _ h => h) (fun _ _ h => h) (argN_cons argN_nil) hr (by rfl) X.d2.g X.d2.F.kp X.d2.b pass0 (ga_cons (ge_var (pv 0)) ga_nil)))
    (gss_cons (gs_if (PW.pt (gw_or (gt_not (gt_val (ge_call IH0.g0 (fun _ _ _ h => h) (fun _ _ h => h) (argN_cons (argN_cons argN_nil)) hr (by rfl) X.d0.g X.d0.F.kp X.d0.b pass0 (ga_cons (ge_var (pv 1)) (ga_cons ge_int ga_nil))))) (gw_or1 (gt_cmp op_ge sf_ge (ge_var (pv 1)) (ge_var (pv 2)) (nomark _)))))
    (gss_one gs_raise0)
    gss_nil)
    (gss_cons (gs_set (i := 3) sc8.nd rfl (Or.inl rfl) (ge_op op_sub sf_sub (ge_op op_sub sf_sub (ge_var (pv 2)) ge_int) (ge_var (pv 1))))
    (gss_cons (gs_for (t := (.tp [(.nm 4), (.nm 5)])) PassesOwn.never rfl (gi_en rfl (by rfl) X.b_enumerate (ge_var (pv 0))) (pg_tup rfl (pgs_cons (pg_name (i := 4) sc8.nd rfl (Or.inl rfl)) (pgs_cons (pg_name (i := 5) sc8.nd rfl (Or.inl rfl)) pgs_nil)))
    (gss_cons (gs_if (gt_cmp op_lt sf_lt (ge_var (pv 3)) (ge_var (pv 5)) (nomark _))
    (gss_one (gs_ret (ge_tup (ga_cons (ge_tup (ga_cons (ge_var (pv 4)) (ga_cons ge_int ga_nil))) (ga_cons (ge_tup (ga_cons (ge_var (pv 4)) (ga_cons (ge_op (op_or op_add op_cat) sf_add (ge_var (pv 3)) ge_int) ga_nil))) ga_nil)))))
    gss_nil)
    (gss_cons (gs_if (gt_cmp (op_or op_eq (op_eqD hr.units)) sf_eq (ge_var (pv 3)) (ge_var (pv 5)) (nomark _))
    (gss_one (gs_ret (ge_tup (ga_cons (ge_tup (ga_cons (ge_var (pv 4)) (ga_cons ge_int ga_nil))) (ga_cons (ge_tup (ga_cons (ge_op (op_or op_add op_cat) sf_add (ge_var (pv 4)) ge_int) (ga_cons ge_int ga_nil))) ga_nil)))))
    gss_nil)
    (gss_one (gs_aug (i := 3) sc8.nd rfl (Or.inl rfl) (ge_op (op_or op_add op_cat) sf_add (ge_var (pv 5)) ge_int) ip_sub)))))
    (gss_one (gs_ret ge_non)))))))
theorem sc9 : FnScope N9 p9 (defScope s9) := ⟨rfl, rfl, rfl, by decide +kernel, rfl, by decide +kernel, by decide +kernel⟩
theorem ok9 (X : Fx K mg Cs fs cc pp fd) {k : Nat} (IH : ∀ cl fx, Lv P w K mg base Cs fs cc pp fd k cl fx) (cl : Nat → Option (List (Str × Addr))) (fx : List (V × Vl)) : FnOk P w K mg base CX0 (k + 1) (fs 9) (fd 9) p9 (spF0 (TU K Cs fs pp cl fx) (run (k + 1) 9) p9.length) := by
  have IH0 := IH cl fx
  refine X.d9.F.ok sc9 (fun vs H Q E h => h.1) (fun cdv A outer s H vs Q E hr h => ⟨tS (TU K Cs fs pp cl fx) EF (c_gap_of (run k)), ?_, fn_start (N := N9) (EX := fun _ _ _ => False) h fun _ _ z => z⟩)
  exact (gss_one (gs_ret (ge_callB call_abs sf_abs (by rfl) X.b_abs (by decide +kernel) (ga_cons (ge_op op_sub sf_sub (ge_ix ix_seq sf_ix (ge_var (pv 0)) (ge_ix ix_seq sf_ix (ge_var (pv 1)) ge_int (fun _ _ => rfl)) (fun _ _ => rfl)) (ge_ix ix_seq sf_ix (ge_var (pv 0)) (ge_ix ix_seq sf_ix (ge_var (pv 1)) ge_int (fun _ _ => rfl)) (fun _ _ => rfl))) ga_nil))))
theorem sc10 : FnScope N10 p10 (defScope s10) := ⟨rfl, rfl, rfl, by decide +kernel, rfl, by decide +kernel, by decide +kernel⟩
theorem ok10 (X : Fx K mg Cs fs cc pp fd) {k : Nat} (IH : ∀ cl fx, Lv P w K mg base Cs fs cc pp fd k cl fx) (cl : Nat → Option (List (Str × Addr))) (fx : List (V × Vl)) : FnOk P w K mg base CX0 (k + 1) (fs 10) (fd 10) p10 (spF0 (TU K Cs fs pp cl fx) (run (k + 1) 10) p10.length) := by
  have IH0 := IH cl fx
  refine X.d10.F.ok sc10 (fun vs H Q E h => h.1) (fun cdv A outer s H vs Q E hr h => ⟨tS (TU K Cs fs pp cl fx) EF (c_is_below (run k)), ?_, fn_start (N := N10) (EX := fun _ _ _ => False) h fun _ _ z => z⟩)
  exact (gss_one (gs_ret (ge_and (ge_call IH0.g0 (fun _ _ _ h => h) (fun _ _ h => h) (argN_cons (argN_cons argN_nil)) hr (by rfl) X.d0.g X.d0.F.kp X.d0.b pass0 (ga_cons (ge_var (pv 0)) (ga_cons ge_int ga_nil))) (ge_one (ge_cmp op_lt sf_lt (ge_var (pv 0)) (ge_var (pv 1)) (nomark _))))))
theorem sc12 : FnScope N12 p12 (defScope s12) := ⟨rfl, rfl, rfl, by decide +kernel, rfl, by decide +kernel, by decide +kernel⟩
theorem ok12 (X : Fx K mg Cs fs cc pp fd) {k : Nat} (IH : ∀ cl fx, Lv P w K mg base Cs fs cc pp fd k cl fx) (cl : Nat → Option (List (Str × Addr))) (fx : List (V × Vl)) : FnOk P w K mg base CX0 (k + 1) (fs 12) (fd 12) p12 (spF0 (TU K Cs fs pp cl fx) (run (k + 1) 12) p12.length) := by
  have IH0 := IH cl fx
  refine X.d12.F.ok sc12 (fun vs H Q E h => h.1) (fun cdv A outer s H vs Q E hr h => ⟨tS (TU K Cs fs pp cl fx) EF (c_Good_shows (run k)), ?_, fn_start (N := N12) (EX := fun _ _ _ => False) h fun _ _ z => z⟩)
  exact (gss_cons (gs_if (gt_cmp (op_or op_ne (op_neD hr.units)) sf_ne (ge_callB cr_sortedI sf_sorted (by rfl) X.b_sorted (by decide +kernel) (ga_cons (ge_var (pv 3)) ga_nil)) (ge_listRg1 rfl (by rfl) X.b_list (by rfl) X.b_range (ge_var (pv 1))) (nomark _))
    (gss_one (gs_ret ge_bl))
    gss_nil)
    (gss_one (gs_ret (ge_cmp (op_or op_eq (op_eqD hr.units)) sf_eq (ge_callB cr_sortedI sf_sorted (by rfl) X.b_sorted (by decide +kernel) (ga_cons (ge_lc (own := [("road", 4)]) (t := (.nm 4)) (by decide) rfl sc12.nd (gi_it rfl (ge_var (pv 2))) (blkOk_by (N := N12) (sc := (defScope s12)) (by decide +kernel)) (fun _ _ _ _ _ => (pg_name (i := 4) sc12.nd rfl (Or.inl rfl))) (fun _ _ _ _ _ => gts_nil) (fun _ _ _ _ _ => (ge_call IH0.g9 (fun _ _ _ h => h) (fun _ _ h => h) (argN_cons (argN_cons argN_nil)) hr (by rfl) X.d9.g X.d9.F.kp X.d9.b pass0 (ga_cons (ge_var (pv 3)) (ga_cons (ge_var (pv 4)) ga_nil))))) ga_nil)) (ge_listRg2 rfl (by rfl) X.b_list (by rfl) X.b_range ge_int (ge_var (pv 1))) (nomark _)))))
theorem sc13 : FnScope N13 p13 (defScope s13) := ⟨rfl, rfl, rfl, by decide +kernel, rfl, by decide +kernel, by decide +kernel⟩
theorem ok13 (X : Fx K mg Cs fs cc pp fd) {k : Nat} (cl : Nat → Option (List (Str × Addr))) (fx : List (V × Vl)) : FnOk P w K mg base CX0 1 (fs 13) (fd 13) p13 (spI0 (TU K Cs fs pp cl fx) (run (k + 2) 13) p13.length) := by
  refine X.d13.F.ok sc13 (fun vs H Q E h => h.1) (fun cdv A outer s H vs Q E hr h => ⟨tS (TU K Cs fs pp cl fx) EF (c_Beyond___init__ (run (k + 1))), ?_, fn_startI (N := N13) (EX := fun _ _ _ => False) h fun _ _ z => z⟩)
  exact (gss_one (gs_setF (fun c i h => ⟨fx_house X c i h, flt_house c i h⟩) (ge_var (pv 0)) (ge_var (pv 1))))
theorem sc14 : FnScope N14 p14 (defScope s14) := ⟨rfl, rfl, rfl, by decide +kernel, rfl, by decide +kernel, by decide +kernel⟩
theorem ok14 (X : Fx K mg Cs fs cc pp fd) {k : Nat} (IH : ∀ cl fx, Lv P w K mg base Cs fs cc pp fd k cl fx) (cl : Nat → Option (List (Str × Addr))) (fx : List (V × Vl)) : FnOk P w K mg base CX0 (k + 1) (fs 14) (fd 14) p14 (spF0 (TU K Cs fs pp cl fx) (run (k + 1) 14) p14.length) := by
  have IH0 := IH cl fx
  refine X.d14.F.ok sc14 (fun vs H Q E h => h.1) (fun cdv A outer s H vs Q E hr h => ⟨tS (TU K Cs fs pp cl fx) EF (c_Beyond_shows (run k)), ?_, fn_start (N := N14) (EX := fun _ _ _ => False) h fun _ _ z => z⟩)
  exact (gss_one (gs_ret (ge_and (ge_call IH0.g10 (fun _ _ _ h => h) (fun _ _ h => h) (argN_cons (argN_cons argN_nil)) hr (by rfl) X.d10.g X.d10.F.kp X.d10.b pass0 (ga_cons (ge_fld (fx_house X) (ge_var (pv 0))) (ga_cons (ge_var (pv 1)) ga_nil))) (ge_one (ge_not (ge_ch op_le op_lt ge_int (ge_ix ix_seq sf_ix (ge_var (pv 3)) (ge_fld (fx_house X) (ge_var (pv 0))) (fun _ _ => rfl)) (ge_var (pv 1))))))))
theorem sc15 : FnScope N15 p15 (defScope s15) := ⟨rfl, rfl, rfl, by decide +kernel, rfl, by decide +kernel, by decide +kernel⟩
theorem ok15 (X : Fx K mg Cs fs cc pp fd) {k : Nat} (cl : Nat → Option (List (Str × Addr))) (fx : List (V × Vl)) : FnOk P w K mg base CX0 1 (fs 15) (fd 15) p15 (spI0 (TU K Cs fs pp cl fx) (run (k + 2) 15) p15.length) := by
  refine X.d15.F.ok sc15 (fun vs H Q E h => h.1) (fun cdv A outer s H vs Q E hr h => ⟨tS (TU K Cs fs pp cl fx) EF (c_Alike___init__ (run (k + 1))), ?_, fn_startI (N := N15) (EX := fun _ _ _ => False) h fun _ _ z => z⟩)
  exact (gss_cons (gs_setF (fun c i h => ⟨fx_one X c i h, flt_one c i h⟩) (ge_var (pv 0)) (ge_var (pv 1)))
    (gss_one (gs_setF (fun c i h => ⟨fx_other X c i h, flt_other c i h⟩) (ge_var (pv 0)) (ge_var (pv 2)))))
theorem sc16 : FnScope N16 p16 (defScope s16) := ⟨rfl, rfl, rfl, by decide +kernel, rfl, by decide +kernel, by decide +kernel⟩
theorem ok16 (X : Fx K mg Cs fs cc pp fd) {k : Nat} (IH : ∀ cl fx, Lv P w K mg base Cs fs cc pp fd k cl fx) (cl : Nat → Option (List (Str × Addr))) (fx : List (V × Vl)) : FnOk P w K mg base CX0 (k + 1) (fs 16) (fd 16) p16 (spF0 (TU K Cs fs pp cl fx) (run (k + 1) 16) p16.length) := by
  have IH0 := IH cl fx
  refine X.d16.F.ok sc16 (fun vs H Q E h => h.1) (fun cdv A outer s H vs Q E hr h => ⟨tS (TU K Cs fs pp cl fx) EF (c_Alike_shows (run k)), ?_, fn_start (N := N16) (EX := fun _ _ _ => False) h fun _ _ z => z⟩)
  exact (gss_cons (gs_if (PW.pt (gw_or (gt_not (gt_val (ge_call IH0.g10 (fun _ _ _ h => h) (fun _ _ h => h) (argN_cons (argN_cons argN_nil)) hr (by rfl) X.d10.g X.d10.F.kp X.d10.b pass0 (ga_cons (ge_fld (fx_one X) (ge_var (pv 0))) (ga_cons (ge_var (pv 1)) ga_nil))))) (gw_or (gt_not (gt_val (ge_call IH0.g10 (fun _ _ _ h => h) (fun _ _ h => h) (argN_cons (argN_cons argN_nil)) hr (by rfl) X.d10.g X.d10.F.kp X.d10.b pass0 (ga_cons (ge_fld (fx_other X) (ge_var (pv 0))) (ga_cons (ge_var (pv 1)) ga_nil))))) (gw_or1 (gt_cmp op_ge sf_ge (ge_fld (fx_one X) (ge_var (pv 0))) (ge_fld (fx_other X) (ge_var (pv 0))) (nomark _))))))
    (gss_one (gs_ret ge_bl))
    gss_nil)
    (gss_one (gs_ret (ge_cmp (op_or op_eq (op_eqD hr.units)) sf_eq (ge_ix ix_seq sf_ix (ge_var (pv 3)) (ge_fld (fx_one X) (ge_var (pv 0))) (fun _ _ => rfl)) (ge_ix ix_seq sf_ix (ge_var (pv 3)) (ge_fld (fx_other X) (ge_var (pv 0))) (fun _ _ => rfl)) (nomark _)))))
theorem sc17 : FnScope N17 p17 (defScope s17) := ⟨rfl, rfl, rfl, by decide +kernel, rfl, by decide +kernel, by decide +kernel⟩
theorem ok17 (X : Fx K mg Cs fs cc pp fd) {k : Nat} (cl : Nat → Option (List (Str × Addr))) (fx : List (V × Vl)) : FnOk P w K mg base CX0 1 (fs 17) (fd 17) p17 (spI0 (TU K Cs fs pp cl fx) (run (k + 2) 17) p17.length) := by
  refine X.d17.F.ok sc17 (fun vs H Q E h => h.1) (fun cdv A outer s H vs Q E hr h => ⟨tS (TU K Cs fs pp cl fx) EF (c_Same___init__ (run (k + 1))), ?_, fn_startI (N := N17) (EX := fun _ _ _ => False) h fun _ _ z => z⟩)
  exact (gss_cons (gs_setF (fun c i h => ⟨fx_one X c i h, flt_one c i h⟩) (ge_var (pv 0)) (ge_var (pv 1)))
    (gss_one (gs_setF (fun c i h => ⟨fx_other X c i h, flt_other c i h⟩) (ge_var (pv 0)) (ge_var (pv 2)))))
theorem sc18 : FnScope N18 p18 (defScope s18) := ⟨rfl, rfl, rfl, by decide +kernel, rfl, by decide +kernel, by decide +kernel⟩
theorem ok18 (X : Fx K mg Cs fs cc pp fd) {k : Nat} (IH : ∀ cl fx, Lv P w K mg base Cs fs cc pp fd k cl fx) (cl : Nat → Option (List (Str × Addr))) (fx : List (V × Vl)) : FnOk P w K mg base CX0 (k + 1) (fs 18) (fd 18) p18 (spF0 (TU K Cs fs pp cl fx) (run (k + 1) 18) p18.length) := by
  have IH0 := IH cl fx
  refine X.d18.F.ok sc18 (fun vs H Q E h => h.1) (fun cdv A outer s H vs Q E hr h => ⟨tS (TU K Cs fs pp cl fx) EF (c_Same_shows (run k)), ?_, fn_start (N := N18) (EX := fun _ _ _ => False) h fun _ _ z => z⟩)
  exact (gss_cons (gs_if (PW.pt (gw_or (gt_not (gt_val (ge_call IH0.g10 (fun _ _ _ h => h) (fun _ _ h => h) (argN_cons (argN_cons argN_nil)) hr (by rfl) X.d10.g X.d10.F.kp X.d10.b pass0 (ga_cons (ge_fld (fx_one X) (ge_var (pv 0))) (ga_cons (ge_callB call_len_seq sf_len (by rfl) X.b_len (by decide +kernel) (ga_cons (ge_var (pv 2)) ga_nil)) ga_nil))))) (gw_or (gt_not (gt_val (ge_call IH0.g10 (fun _ _ _ h => h) (fun _ _ h => h) (argN_cons (argN_cons argN_nil)) hr (by rfl) X.d10.g X.d10.F.kp X.d10.b pass0 (ga_cons (ge_fld (fx_other X) (ge_var (pv 0))) (ga_cons (ge_callB call_len_seq sf_len (by rfl) X.b_len (by decide +kernel) (ga_cons (ge_var (pv 2)) ga_nil)) ga_nil))))) (gw_or1 (gt_cmp op_ge sf_ge (ge_fld (fx_one X) (ge_var (pv 0))) (ge_fld (fx_other X) (ge_var (pv 0))) (nomark _))))))
    (gss_one (gs_ret ge_bl))
    gss_nil)
    (gss_one (gs_ret (ge_cmp (op_or op_eq (op_eqD hr.units)) sf_eq (ge_call IH0.g9 (fun _ _ _ h => h) (fun _ _ h => h) (argN_cons (argN_cons argN_nil)) hr (by rfl) X.d9.g X.d9.F.kp X.d9.b pass0 (ga_cons (ge_var (pv 3)) (ga_cons (ge_ix ix_seq sf_ix (ge_var (pv 2)) (ge_fld (fx_one X) (ge_var (pv 0))) (fun _ _ => rfl)) ga_nil))) (ge_call IH0.g9 (fun _ _ _ h => h) (fun _ _ h => h) (argN_cons (argN_cons argN_nil)) hr (by rfl) X.d9.g X.d9.F.kp X.d9.b pass0 (ga_cons (ge_var (pv 3)) (ga_cons (ge_ix ix_seq sf_ix (ge_var (pv 2)) (ge_fld (fx_other X) (ge_var (pv 0))) (fun _ _ => rfl)) ga_nil))) (nomark _)))))
theorem sc11 : FnScope N11 p11 (defScope s11) := ⟨rfl, rfl, rfl, by decide +kernel, rfl, by decide +kernel, by decide +kernel⟩
theorem ok11 (X : Fx K mg Cs fs cc pp fd) {k : Nat} (IH : ∀ cl fx, Lv P w K mg base Cs fs cc pp fd k cl fx) (cl : Nat → Option (List (Str × Addr))) (fx : List (V × Vl)) : FnOk P w K mg base CX0 (k + 1) (fs 11) (fd 11) p11 (spF0 (TU K Cs fs pp cl fx) (run (k + 1) 11) p11.length) := by
  have IH0 := IH cl fx
  refine X.d11.F.ok sc11 (fun vs H Q E h => h.1) (fun cdv A outer s H vs Q E hr h => ⟨tS (TU K Cs fs pp cl fx) EF (c_are_joined (run k)), ?_, fn_start (N := N11) (EX := fun _ _ _ => False) h fun _ _ z => z⟩)
  exact (gss_one (gs_ret (ge_or (ge_cmp (op_inA (in_room hr)) sf_in (ge_tup (ga_cons (ge_var (pv 1)) (ga_cons (ge_var (pv 2)) ga_nil))) (ge_var (pv 0)) rfl) (ge_one (ge_cmp (op_inA (in_room hr)) sf_in (ge_tup (ga_cons (ge_var (pv 2)) (ga_cons (ge_var (pv 1)) ga_nil))) (ge_var (pv 0)) rfl)))))
theorem sc19 : FnScope N19 p19 (defScope s19) := ⟨rfl, rfl, rfl, by decide +kernel, rfl, by decide +kernel, by decide +kernel⟩
theorem ok19 (X : Fx K mg Cs fs cc pp fd) {k : Nat} (cl : Nat → Option (List (Str × Addr))) (fx : List (V × Vl)) : FnOk P w K mg base CX0 1 (fs 19) (fd 19) p19 (spI0 (TU K Cs fs pp cl fx) (run (k + 2) 19) p19.length) := by
  refine X.d19.F.ok sc19 (fun vs H Q E h => h.1) (fun cdv A outer s H vs Q E hr h => ⟨tS (TU K Cs fs pp cl fx) EF (c_Street___init__ (run (k + 1))), ?_, fn_startI (N := N19) (EX := fun _ _ _ => False) h fun _ _ z => z⟩)
  exact (gss_one (gs_setF (fun c i h => ⟨fx_way X c i h, flt_way c i h⟩) (ge_var (pv 0)) (ge_callTy call_list_of sf_list (by rfl) X.b_list (by decide +kernel) (ga_cons (ge_var (pv 1)) ga_nil))))
theorem sc20 : FnScope N20 p20 (defScope s20) := ⟨rfl, rfl, rfl, by decide +kernel, rfl, by decide +kernel, by decide +kernel⟩
theorem ok20 (X : Fx K mg Cs fs cc pp fd) {k : Nat} (IH : ∀ cl fx, Lv P w K mg base Cs fs cc pp fd k cl fx) (cl : Nat → Option (List (Str × Addr))) (fx : List (V × Vl)) : FnOk P w K mg base CX0 (k + 1) (fs 20) (fd 20) p20 (spF0 (TU K Cs fs pp cl fx) (run (k + 1) 20) p20.length) := by
  have IH0 := IH cl fx
  refine X.d20.F.ok sc20 (fun vs H Q E h => h.1) (fun cdv A outer s H vs Q E hr h => ⟨tS (TU K Cs fs pp cl fx) EF (c_Street_shows (run k)), ?_, fn_start (N := N20) (EX := fun _ _ _ => False) h fun _ _ z => z⟩)
  exact (gss_cons (gs_set (i := 3) sc20.nd rfl (Or.inl rfl) (ge_fld (fx_way X) (ge_var (pv 0))))
    (gss_cons (gs_if (PW.pt (gw_or (gt_cmp (op_or op_eq (op_eqD hr.units)) sf_eq (ge_var (pv 3)) (ge_lst ga_nil) (nomark _)) (gw_or (gt_not (gt_val (ge_callB (cr_all rfl) sf_all (by rfl) X.b_all (by decide +kernel) (ga_cons (ge_lc (own := [("house", 4)]) (t := (.nm 4)) (by decide) rfl sc20.nd (gi_it rfl (ge_var (pv 3))) (blkOk_by (N := N20) (sc := (defScope s20)) (by decide +kernel)) (fun _ _ _ _ _ => (pg_name (i := 4) sc20.nd rfl (Or.inl rfl))) (fun _ _ _ _ _ => gts_nil) (fun _ _ _ _ _ => (ge_call IH0.g10 (fun _ _ _ h => h) (fun _ _ h => h) (argN_cons (argN_cons argN_nil)) hr (by rfl) X.d10.g X.d10.F.kp X.d10.b pass0 (ga_cons (ge_var (pv 4)) (ga_cons (ge_var (pv 1)) ga_nil))))) ga_nil)))) (gw_or1 (gt_cmp op_lt sf_lt (ge_ls rfl rfl (by rfl) X.b_len (by rfl) X.b_set (ge_var (pv 3))) (ge_callB call_len_seq sf_len (by rfl) X.b_len (by decide +kernel) (ga_cons (ge_var (pv 3)) ga_nil)) (nomark _))))))
    (gss_one (gs_ret ge_bl))
    gss_nil)
    (gss_cons (gs_if (gt_not (gt_val (ge_callB (cr_all rfl) sf_all (by rfl) X.b_all (by decide +kernel) (ga_cons (ge_lc (own := [("one", 5), ("other", 6)]) (t := (.tp [(.nm 5), (.nm 6)])) (by decide) rfl sc20.nd (gi_zip rfl (by rfl) X.b_zip (ge_var (pv 3)) (ge_sl rfl (ge_var (pv 3)) (.some ge_int) .none)) (blkOk_by (N := N20) (sc := (defScope s20)) (by decide +kernel)) (fun _ _ _ _ _ => (pg_tup rfl (pgs_cons (pg_name (i := 5) sc20.nd rfl (Or.inl rfl)) (pgs_cons (pg_name (i := 6) sc20.nd rfl (Or.inl rfl)) pgs_nil)))) (fun _ _ _ _ _ => gts_nil) (fun _ _ _ _ _ => (ge_call IH0.g11 (fun _ _ _ h => h) (fun _ _ h => h) (argN_cons (argN_cons (argN_cons argN_nil))) hr (by rfl) X.d11.g X.d11.F.kp X.d11.b pass0 (ga_cons (ge_var (pv 2)) (ga_cons (ge_var (pv 5)) (ga_cons (ge_var (pv 6)) ga_nil)))))) ga_nil))))
    (gss_one (gs_ret ge_bl))
    gss_nil)
    (gss_cons (gs_for (t := (.nm 4)) PassesOwn.never rfl (gi_rg1 (by rfl) X.b_range (ge_var (pv 1))) (pg_name (i := 4) sc20.nd rfl (Or.inr rfl))
    (gss_one (gs_if (PW.pt (gw_and (gt_cmp (op_notInA (in_room hr)) sf_in (ge_var (pv 4)) (ge_var (pv 3)) rfl) (gw_and1 (gt_not (gt_val (ge_callB (cr_any rfl) sf_any (by rfl) X.b_any (by decide +kernel) (ga_cons (ge_lc (own := [("other", 6)]) (t := (.nm 6)) (by decide) rfl sc20.nd (gi_it rfl (ge_var (pv 3))) (blkOk_by (N := N20) (sc := (defScope s20)) (by decide +kernel)) (fun _ _ _ _ _ => (pg_name (i := 6) sc20.nd rfl (Or.inl rfl))) (fun _ _ _ _ _ => gts_nil) (fun _ _ _ _ _ => (ge_call IH0.g11 (fun _ _ _ h => h) (fun _ _ h => h) (argN_cons (argN_cons (argN_cons argN_nil))) hr (by rfl) X.d11.g X.d11.F.kp X.d11.b pass0 (ga_cons (ge_var (pv 2)) (ga_cons (ge_var (pv 4)) (ga_cons (ge_var (pv 6)) ga_nil)))))) ga_nil)))))))
    (gss_one (gs_ret ge_bl))
    gss_nil)))
    (gss_one (gs_ret ge_bl))))))
theorem sc21 : FnScope N21 p21 (defScope s21) := ⟨rfl, rfl, rfl, by decide +kernel, rfl, by decide +kernel, by decide +kernel⟩
theorem ok21 (X : Fx K mg Cs fs cc pp fd) {k : Nat} (cl : Nat → Option (List (Str × Addr))) (fx : List (V × Vl)) : FnOk P w K mg base CX0 1 (fs 21) (fd 21) p21 (spI0 (TU K Cs fs pp cl fx) (run (k + 2) 21) p21.length) := by
  refine X.d21.F.ok sc21 (fun vs H Q E h => h.1) (fun cdv A outer s H vs Q E hr h => ⟨tS (TU K Cs fs pp cl fx) EF (c_Spread___init__ (run (k + 1))), ?_, fn_startI (N := N21) (EX := fun _ _ _ => False) h fun _ _ z => z⟩)
  exact (gss_cons (gs_setF (fun c i h => ⟨fx_house X c i h, flt_house c i h⟩) (ge_var (pv 0)) (ge_var (pv 1)))
    (gss_cons (gs_setF (fun c i h => ⟨fx_first X c i h, flt_first c i h⟩) (ge_var (pv 0)) (ge_var (pv 2)))
    (gss_cons (gs_setF (fun c i h => ⟨fx_second X c i h, flt_second c i h⟩) (ge_var (pv 0)) (ge_var (pv 3)))
    (gss_one (gs_setF (fun c i h => ⟨fx_third X c i h, flt_third c i h⟩) (ge_var (pv 0)) (ge_var (pv 4)))))))
theorem sc22 : FnScope N22 p22 (defScope s22) := ⟨rfl, rfl, rfl, by decide +kernel, rfl, by decide +kernel, by decide +kernel⟩
theorem ok22 (X : Fx K mg Cs fs cc pp fd) {k : Nat} (IH : ∀ cl fx, Lv P w K mg base Cs fs cc pp fd k cl fx) (cl : Nat → Option (List (Str × Addr))) (fx : List (V × Vl)) : FnOk P w K mg base CX0 (k + 1) (fs 22) (fd 22) p22 (spF0 (TU K Cs fs pp cl fx) (run (k + 1) 22) p22.length) := by
  have IH0 := IH cl fx
  refine X.d22.F.ok sc22 (fun vs H Q E h => h.1) (fun cdv A outer s H vs Q E hr h => ⟨tS (TU K Cs fs pp cl fx) EF (c_Spread_shows (run k)), ?_, fn_start (N := N22) (EX := fun _ _ _ => False) h fun _ _ z => z⟩)
  exact (gss_cons (gs_set (i := 3) sc22.nd rfl (Or.inl rfl) (ge_lst (ga_cons (ge_fld (fx_first X) (ge_var (pv 0))) (ga_cons (ge_fld (fx_second X) (ge_var (pv 0))) (ga_cons (ge_fld (fx_third X) (ge_var (pv 0))) ga_nil)))))
    (gss_cons (gs_if (PW.pt (gw_or (gt_not (gt_val (ge_callB (cr_all rfl) sf_all (by rfl) X.b_all (by decide +kernel) (ga_cons (ge_lc (own := [("one", 4)]) (t := (.nm 4)) (by decide) rfl sc22.nd (gi_it rfl (ge_op (op_or op_add op_cat) sf_add (ge_var (pv 3)) (ge_lst (ga_cons (ge_fld (fx_house X) (ge_var (pv 0))) ga_nil)))) (blkOk_by (N := N22) (sc := (defScope s22)) (by decide +kernel)) (fun _ _ _ _ _ => (pg_name (i := 4) sc22.nd rfl (Or.inl rfl))) (fun _ _ _ _ _ => gts_nil) (fun _ _ _ _ _ => (ge_call IH0.g10 (fun _ _ _ h => h) (fun _ _ h => h) (argN_cons (argN_cons argN_nil)) hr (by rfl) X.d10.g X.d10.F.kp X.d10.b pass0 (ga_cons (ge_var (pv 4)) (ga_cons (ge_var (pv 1)) ga_nil))))) ga_nil)))) (gw_or1 (gt_cmp op_lt sf_lt (ge_ls rfl rfl (by rfl) X.b_len (by rfl) X.b_set (ge_var (pv 3))) ge_int (nomark _)))))
    (gss_one (gs_ret ge_bl))
    gss_nil)
    (gss_cons (gs_if (gt_not (gt_val (ge_callB (cr_all rfl) sf_all (by rfl) X.b_all (by decide +kernel) (ga_cons (ge_lc (own := [("one", 4)]) (t := (.nm 4)) (by decide) rfl sc22.nd (gi_it rfl (ge_var (pv 3))) (blkOk_by (N := N22) (sc := (defScope s22)) (by decide +kernel)) (fun _ _ _ _ _ => (pg_name (i := 4) sc22.nd rfl (Or.inl rfl))) (fun _ _ _ _ _ => gts_nil) (fun _ _ _ _ _ => (ge_call IH0.g11 (fun _ _ _ h => h) (fun _ _ h => h) (argN_cons (argN_cons (argN_cons argN_nil))) hr (by rfl) X.d11.g X.d11.F.kp X.d11.b pass0 (ga_cons (ge_var (pv 2)) (ga_cons (ge_fld (fx_house X) (ge_var (pv 0))) (ga_cons (ge_var (pv 4)) ga_nil)))))) ga_nil))))
    (gss_one (gs_ret ge_bl))
    gss_nil)
    (gss_one (gs_ret (ge_callB (cr_all rfl) sf_all (by rfl) X.b_all (by decide +kernel) (ga_cons (ge_lc (own := [("one", 4)]) (t := (.nm 4)) (by decide) rfl sc22.nd (gi_it rfl (ge_var (pv 3))) (blkOk_by (N := N22) (sc := (defScope s22)) (by decide +kernel)) (fun _ _ _ _ _ => (pg_name (i := 4) sc22.nd rfl (Or.inr rfl))) (fun _ _ _ _ _ => gts_nil) (fun _ _ _ _ _ => (ge_cmp op_gt sf_gt (ge_callB call_len_seq sf_len (by rfl) X.b_len (by decide +kernel) (ga_cons (ge_lc (own := [("road", 5)]) (t := (.nm 5)) (by decide) rfl sc22.nd (gi_it rfl (ge_var (pv 2))) (blkOk_by (by kernel_rfl)) (fun _ _ _ _ _ => (pg_name (i := 5) sc22.nd rfl (Or.inl rfl))) (fun _ _ _ _ _ => gts_one (gt_cmp (op_inA (in_room hr)) sf_in (ge_var (pv 4)) (ge_var (pv 5)) rfl)) (fun _ _ _ _ _ => (ge_var (pv 5)))) ga_nil)) ge_int (nomark _)))) ga_nil)))))))
theorem sc23 : FnScope N23 p23 (defScope s23) := ⟨rfl, rfl, rfl, by decide +kernel, rfl, by decide +kernel, by decide +kernel⟩
theorem ok23 (X : Fx K mg Cs fs cc pp fd) {k : Nat} (IH : ∀ cl fx, Lv P w K mg base Cs fs cc pp fd k cl fx) (cl : Nat → Option (List (Str × Addr))) (fx : List (V × Vl)) : FnOk P w K mg base CX0 (k + 1) (fs 23) (fd 23) p23 (spF0 (TU K Cs fs pp cl fx) (run (k + 1) 23) p23.length) := by
  have IH0 := IH cl fx
  refine X.d23.F.ok sc23 (fun vs H Q E h => h.1) (fun cdv A outer s H vs Q E hr h => ⟨tS (TU K Cs fs pp cl fx) EF (c_near_of (run k)), ?_, fn_start (N := N23) (EX := fun _ _ _ => False) h fun _ _ z => z⟩)
  exact (gss_cons (gs_setLc (i := 2) (own := [("house", 5)]) (t := (.nm 5)) (by decide) rfl sc23.nd rfl rfl (sw_true rfl rfl rfl (by decide +kernel)) (gi_rg1 (by rfl) X.b_range (ge_var (pv 0))) (blkOk_by (N := N23) (sc := (defScope s23)) (by decide +kernel)) (fun _ _ _ _ _ => (pg_name (i := 5) sc23.nd rfl (Or.inl rfl))) (fun _ _ _ _ _ => gts_nil) (fun _ _ _ _ _ => (ge_lst ga_nil)))
    (gss_cons (gs_for (t := (.tp [(.nm 3), (.nm 4)])) PassesOwn.never rfl (gi_it rfl (ge_var (pv 1))) (pg_tup rfl (pgs_cons (pg_name (i := 3) sc23.nd rfl (Or.inl rfl)) (pgs_cons (pg_name (i := 4) sc23.nd rfl (Or.inl rfl)) pgs_nil)))
    (gss_cons (gs_drop (ge_m rfl PySem.F.slot_list_append PySem.F.type_list_append mt_append sf_append (ge_ix ix_seq sf_ix (ge_var (pv 2)) (ge_var (pv 3)) (fun _ _ => rfl)) (ga_cons (ge_var (pv 4)) ga_nil)))
    (gss_one (gs_drop (ge_m rfl PySem.F.slot_list_append PySem.F.type_list_append mt_append sf_append (ge_ix ix_seq sf_ix (ge_var (pv 2)) (ge_var (pv 4)) (fun _ _ => rfl)) (ga_cons (ge_var (pv 3)) ga_nil))))))
    (gss_one (gs_ret (ge_lc (own := [("some", 6)]) (t := (.nm 6)) (by decide) rfl sc23.nd (gi_it rfl (ge_var (pv 2))) (blkOk_by (N := N23) (sc := (defScope s23)) (by decide +kernel)) (fun _ _ _ _ _ => (pg_name (i := 6) sc23.nd rfl (Or.inl rfl))) (fun _ _ _ _ _ => gts_nil) (fun _ _ _ _ _ => (ge_callB cr_sortedI sf_sorted (by rfl) X.b_sorted (by decide +kernel) (ga_cons (ge_var (pv 6)) ga_nil))))))))
theorem sc24 : FnScope N24 p24 (defScope s24) := ⟨rfl, rfl, rfl, by decide +kernel, rfl, by decide +kernel, by decide +kernel⟩
theorem ok24 (X : Fx K mg Cs fs cc pp fd) {k : Nat} (IH : ∀ cl fx, Lv P w K mg base Cs fs cc pp fd k cl fx) (cl : Nat → Option (List (Str × Addr))) (fx : List (V × Vl)) : FnOk P w K mg base CX0 (k + 1) (fs 24) (fd 24) p24 (spF0 (TU K Cs fs pp cl fx) (run (k + 1) 24) p24.length) := by
  have IH0 := IH cl fx
  refine X.d24.F.ok sc24 (fun vs H Q E h => h.1) (fun cdv A outer s H vs Q E hr h => ⟨tS (TU K Cs fs pp cl fx) EF (c_is_road (run k)), ?_, fn_start (N := N24) (EX := fun _ _ _ => False) h fun _ _ z => z⟩)
  exact (gss_cons (gs_if (PW.pt (gw_or (gt_not (gt_val (ge_isi .tup rfl ⟨by decide, by decide⟩ (by rfl) X.b_isinstance (by rfl) X.b_tuple (by decide +kernel) (ge_var (pv 1)) (by decide) (by decide) (by decide +kernel)))) (gw_or (gt_cmp (op_or op_ne (op_neD hr.units)) sf_ne (ge_callB call_len_seq sf_len (by rfl) X.b_len (by decide +kernel) (ga_cons (ge_var (pv 1)) ga_nil)) ge_int (nomark _)) (gw_or (gt_not (gt_val (ge_call IH0.g0 (fun _ _ _ h => h) (fun _ _ h => h) (argN_cons (argN_cons argN_nil)) hr (by rfl) X.d0.g X.d0.F.kp X.d0.b pass0 (ga_cons (ge_ix ix_seq sf_ix (ge_var (pv 1)) ge_int (fun _ _ => rfl)) (ga_cons ge_int ga_nil))))) (gw_or1 (gt_not (gt_val (ge_call IH0.g0 (fun _ _ _ h => h) (fun _ _ h => h) (argN_cons (argN_cons argN_nil)) hr (by rfl) X.d0.g X.d0.F.kp X.d0.b pass0 (ga_cons (ge_ix ix_seq sf_ix (ge_var (pv 1)) ge_int (fun _ _ => rfl)) (ga_cons ge_int ga_nil))))))))))
    (gss_one (gs_ret ge_bl))
    gss_nil)
    (gss_one (gs_ret (ge_ch op_lt op_lt (ge_ix ix_seq sf_ix (ge_var (pv 1)) ge_int (fun _ _ => rfl)) (ge_ix ix_seq sf_ix (ge_var (pv 1)) ge_int (fun _ _ => rfl)) (ge_var (pv 0))))))
theorem sc25 : FnScope N25 p25 (defScope s25) := ⟨rfl, rfl, rfl, by decide +kernel, rfl, by decide +kernel, by decide +kernel⟩
theorem ok25 (X : Fx K mg Cs fs cc pp fd) {k : Nat} (IH : ∀ cl fx, Lv P w K mg base Cs fs cc pp fd k cl fx) (cl : Nat → Option (List (Str × Addr))) (fx : List (V × Vl)) : FnOk P w K mg base CX0 (k + 1) (fs 25) (fd 25) p25 (spF0 (TU K Cs fs pp cl fx) (run (k + 1) 25) p25.length) := by
  have IH0 := IH cl fx
  refine X.d25.F.ok sc25 (fun vs H Q E h => h.1) (fun cdv A outer s H vs Q E hr h => ⟨tS (TU K Cs fs pp cl fx) EF (c_check_tree (run k)), ?_, fn_start (N := N25) (EX := fun _ _ _ => False) h fun _ _ z => z⟩)
  exact (gss_cons (gs_if (PW.pt (gw_or (gt_not (gt_val (ge_call IH0.g0 (fun _ _ _ h => h) (fun _ _ h => h) (argN_cons (argN_cons argN_nil)) hr (by rfl) X.d0.g X.d0.F.kp X.d0.b pass0 (ga_cons (ge_var (pv 0)) (ga_cons ge_int ga_nil))))) (gw_or1 (gt_cmp op_gt sf_gt (ge_var (pv 0)) (ge_gi rfl X.c_MOST_HOUSES) (nomark _)))))
    (gss_one gs_raise0)
    gss_nil)
    (gss_cons (gs_if (PW.pt (gw_or (gt_not (gt_val (ge_isi .lst rfl ⟨by decide, by decide⟩ (by rfl) X.b_isinstance (by rfl) X.b_list (by decide +kernel) (ge_var (pv 1)) (by decide) (by decide) (by decide +kernel)))) (gw_or (gt_cmp (op_or op_ne (op_neD hr.units)) sf_ne (ge_callB call_len_seq sf_len (by rfl) X.b_len (by decide +kernel) (ga_cons (ge_var (pv 1)) ga_nil)) (ge_op op_sub sf_sub (ge_var (pv 0)) ge_int) (nomark _)) (gw_or1 (gt_not (gt_val (ge_callB (cr_all rfl) sf_all (by rfl) X.b_all (by decide +kernel) (ga_cons (ge_lc (own := [("one", 6)]) (t := (.nm 6)) (by decide) rfl sc25.nd (gi_it rfl (ge_var (pv 1))) (blkOk_by (N := N25) (sc := (defScope s25)) (by decide +kernel)) (fun _ _ _ _ _ => (pg_name (i := 6) sc25.nd rfl (Or.inl rfl))) (fun _ _ _ _ _ => gts_nil) (fun _ _ _ _ _ => (ge_call IH0.g24 (fun _ _ _ h => h) (fun _ _ h => h) (argN_cons (argN_cons argN_nil)) hr (by rfl) X.d24.g X.d24.F.kp X.d24.b pass0 (ga_cons (ge_var (pv 0)) (ga_cons (ge_var (pv 6)) ga_nil))))) ga_nil))))))))
    (gss_one gs_raise0)
    gss_nil)
    (gss_cons (gs_set (i := 2) sc25.nd rfl (Or.inl rfl) (ge_call IH0.g23 (fun _ _ _ h => h) (fun _ _ h => h) (argN_cons (argN_cons argN_nil)) hr (by rfl) X.d23.g X.d23.F.kp X.d23.b pass0 (ga_cons (ge_var (pv 0)) (ga_cons (ge_var (pv 1)) ga_nil))))
    (gss_cons (gs_set (i := 3) sc25.nd rfl (Or.inl rfl) ge_dct1)
    (gss_cons (gs_set (i := 4) sc25.nd rfl (Or.inl rfl) (ge_lst (ga_cons ge_int ga_nil)))
    (gss_cons (gs_while PassesOwn.never (gt_cmp (op_or op_ne (op_neD hr.units)) sf_ne (ge_var (pv 4)) (ge_lst ga_nil) (nomark _))
    (gss_one (gs_for (t := (.nm 5)) PassesOwn.never rfl (gi_it rfl (ge_ix ix_seq sf_ix (ge_var (pv 2)) (ge_m0 rfl PySem.F.slot_list_pop PySem.F.type_list_pop mt_pop sf_pop (ge_var (pv 4))) (fun _ _ => rfl))) (pg_name (i := 5) sc25.nd rfl (Or.inl rfl))
    (gss_one (gs_if (gt_dnotin (hu_of hr) (ge_var (pv 5)) (ge_var (pv 3)))
    (gss_cons (gs_setD (hu_of hr) ge_bl (ge_var (pv 3)) (ge_var (pv 5)))
    (gss_one (gs_drop (ge_m rfl PySem.F.slot_list_append PySem.F.type_list_append mt_append sf_append (ge_var (pv 4)) (ga_cons (ge_var (pv 5)) ga_nil)))))
    gss_nil)))))
    (gss_one (gs_if (gt_cmp op_lt sf_lt (ge_callB call_lenD sf_lenD (by rfl) X.b_len (by decide +kernel) (ga_cons (ge_var (pv 3)) ga_nil)) (ge_var (pv 0)) (nomark _))
    (gss_one gs_raise0)
    gss_nil))))))))
theorem sc26 : FnScope N26 p26 (defScope s26) := ⟨rfl, rfl, rfl, by decide +kernel, rfl, by decide +kernel, by decide +kernel⟩
theorem ok26 (X : Fx K mg Cs fs cc pp fd) {k : Nat} (IH : ∀ cl fx, Lv P w K mg base Cs fs cc pp fd k cl fx) (cl : Nat → Option (List (Str × Addr))) (fx : List (V × Vl)) : FnOk P w K mg base CX0 (k + 1) (fs 26) (fd 26) p26 (spF0 (TU K Cs fs pp cl fx) (run (k + 1) 26) p26.length) := by
  have IH0 := IH cl fx
  refine X.d26.F.ok sc26 (fun vs H Q E h => h.1) (fun cdv A outer s H vs Q E hr h => ⟨tS (TU K Cs fs pp cl fx) EF (c_way_through (run k)), ?_, fn_start (N := N26) (EX := fun _ _ _ => False) h fun _ _ z => z⟩)
  exact (gss_cons (gs_set (i := 1) sc26.nd rfl (Or.inr rfl) (ge_lc (own := [("house", 5), ("some", 6)]) (t := (.tp [(.nm 5), (.nm 6)])) (by decide) rfl sc26.nd (gi_en rfl (by rfl) X.b_enumerate (ge_var (pv 0))) (blkOk_by (N := N26) (sc := (defScope s26)) (by decide +kernel)) (fun _ _ _ _ _ => (pg_tup rfl (pgs_cons (pg_name (i := 5) sc26.nd rfl (Or.inl rfl)) (pgs_cons (pg_name (i := 6) sc26.nd rfl (Or.inl rfl)) pgs_nil)))) (fun _ _ _ _ _ => gts_one (gt_cmp op_gt sf_gt (ge_callB call_len_seq sf_len (by rfl) X.b_len (by decide +kernel) (ga_cons (ge_var (pv 6)) ga_nil)) ge_int (nomark _))) (fun _ _ _ _ _ => (ge_var (pv 5)))))
    (gss_cons (gs_if (gt_cmp (op_or op_eq (op_eqD hr.units)) sf_eq (ge_var (pv 1)) (ge_lst ga_nil) (nomark _))
    (gss_one (gs_ret (ge_lst (ga_cons ge_int ga_nil))))
    gss_nil)
    (gss_cons (gs_setLc (i := 2) (own := [("house", 5)]) (t := (.nm 5)) (by decide) rfl sc26.nd rfl rfl (sw_true rfl rfl rfl (by decide +kernel)) (gi_it rfl (ge_var (pv 1))) (blkOk_by (N := N26) (sc := (defScope s26)) (by decide +kernel)) (fun _ _ _ _ _ => (pg_name (i := 5) sc26.nd rfl (Or.inl rfl))) (fun _ _ _ _ _ => gts_one (gt_cmp op_lt sf_lt (ge_callB call_len_seq sf_len (by rfl) X.b_len (by decide +kernel) (ga_cons (ge_lc (own := [("other", 7)]) (t := (.nm 7)) (by decide) rfl sc26.nd (gi_it rfl (ge_ix ix_seq sf_ix (ge_var (pv 0)) (ge_var (pv 5)) (fun _ _ => rfl))) (blkOk_by (by kernel_rfl)) (fun _ _ _ _ _ => (pg_name (i := 7) sc26.nd rfl (Or.inl rfl))) (fun _ _ _ _ _ => gts_one (gt_cmp (op_inA (in_room hr)) sf_in (ge_var (pv 7)) (ge_var (pv 1)) rfl)) (fun _ _ _ _ _ => (ge_var (pv 7)))) ga_nil)) ge_int (nomark _))) (fun _ _ _ _ _ => (ge_var (pv 5))))
    (gss_cons (gs_set (i := 3) sc26.nd rfl (Or.inr rfl) (ge_lst (ga_cons (ge_ix ix_seq sf_ix (ge_var (pv 2)) ge_int (fun _ _ => rfl)) ga_nil)))
    (gss_cons (gs_setLc (i := 4) (own := [("other", 7)]) (t := (.nm 7)) (by decide) rfl sc26.nd rfl rfl (sw_true rfl rfl rfl (by decide +kernel)) (gi_it rfl (ge_ix ix_seq sf_ix (ge_var (pv 0)) (ge_ix ix_seq sf_ix (ge_var (pv 2)) ge_int (fun _ _ => rfl)) (fun _ _ => rfl))) (blkOk_by (N := N26) (sc := (defScope s26)) (by decide +kernel)) (fun _ _ _ _ _ => (pg_name (i := 7) sc26.nd rfl (Or.inl rfl))) (fun _ _ _ _ _ => gts_one (gt_cmp (op_inA (in_room hr)) sf_in (ge_var (pv 7)) (ge_var (pv 1)) rfl)) (fun _ _ _ _ _ => (ge_var (pv 7))))
    (gss_cons (gs_while PassesOwn.never (gt_cmp (op_or op_ne (op_neD hr.units)) sf_ne (ge_var (pv 4)) (ge_lst ga_nil) (nomark _))
    (gss_cons (gs_drop (ge_m rfl PySem.F.slot_list_append PySem.F.type_list_append mt_append sf_append (ge_var (pv 3)) (ga_cons (ge_ix ix_seq sf_ix (ge_var (pv 4)) ge_int (fun _ _ => rfl)) ga_nil)))
    (gss_one (gs_setLc (i := 4) (own := [("other", 7)]) (t := (.nm 7)) (by decide) rfl sc26.nd rfl rfl (sw_true rfl rfl rfl (by decide +kernel)) (gi_it rfl (ge_ix ix_seq sf_ix (ge_var (pv 0)) (ge_ix ix_seq sf_ix (ge_var (pv 3)) (ge_un un_neg sf_neg ge_int) (fun _ _ => rfl)) (fun _ _ => rfl))) (blkOk_by (N := N26) (sc := (defScope s26)) (by decide +kernel)) (fun _ _ _ _ _ => (pg_name (i := 7) sc26.nd rfl (Or.inl rfl))) (fun _ _ _ _ _ => gts_one (PW.pt (gw_and (gt_cmp (op_inA (in_room hr)) sf_in (ge_var (pv 7)) (ge_var (pv 1)) rfl) (gw_and1 (gt_cmp (op_notInA (in_room hr)) sf_in (ge_var (pv 7)) (ge_var (pv 3)) rfl))))) (fun _ _ _ _ _ => (ge_var (pv 7)))))))
    (gss_one (gs_ret (ge_var (pv 3))))))))))
theorem sc27 : FnScope N27 p27 (defScope s27) := ⟨rfl, rfl, rfl, by decide +kernel, rfl, by decide +kernel, by decide +kernel⟩
theorem ok27 (X : Fx K mg Cs fs cc pp fd) {k : Nat} (IH : ∀ cl fx, Lv P w K mg base Cs fs cc pp fd k cl fx) (cl : Nat → Option (List (Str × Addr))) (fx : List (V × Vl)) : FnOk P w K mg base CX0 (k + 1) (fs 27) (fd 27) p27 (spF0 (TU K Cs fs pp cl fx) (run (k + 1) 27) p27.length) := by
  have IH0 := IH cl fx
  refine X.d27.F.ok sc27 (fun vs H Q E h => h.1) (fun cdv A outer s H vs Q E hr h => ⟨tS (TU K Cs fs pp cl fx) EF (c_spread_in (run k)), ?_, fn_start (N := N27) (EX := fun _ _ _ => False) h fun _ _ z => z⟩)
  exact (gss_cons (gs_for (t := (.tp [(.nm 1), (.nm 2)])) PassesOwn.never rfl (gi_en rfl (by rfl) X.b_enumerate (ge_var (pv 0))) (pg_tup rfl (pgs_cons (pg_name (i := 1) sc27.nd rfl (Or.inl rfl)) (pgs_cons (pg_name (i := 2) sc27.nd rfl (Or.inl rfl)) pgs_nil)))
    (gss_cons (gs_setLc (i := 3) (own := [("other", 4)]) (t := (.nm 4)) (by decide) rfl sc27.nd rfl rfl (sw_true rfl rfl rfl (by decide +kernel)) (gi_it rfl (ge_var (pv 2))) (blkOk_by (N := N27) (sc := (defScope s27)) (by decide +kernel)) (fun _ _ _ _ _ => (pg_name (i := 4) sc27.nd rfl (Or.inl rfl))) (fun _ _ _ _ _ => gts_one (gt_cmp op_gt sf_gt (ge_callB call_len_seq sf_len (by rfl) X.b_len (by decide +kernel) (ga_cons (ge_ix ix_seq sf_ix (ge_var (pv 0)) (ge_var (pv 4)) (fun _ _ => rfl)) ga_nil)) ge_int (nomark _))) (fun _ _ _ _ _ => (ge_var (pv 4))))
    (gss_one (gs_if (gt_cmp op_gt sf_gt (ge_callB call_len_seq sf_len (by rfl) X.b_len (by decide +kernel) (ga_cons (ge_var (pv 3)) ga_nil)) ge_int (nomark _))
    (gss_one (gs_ret (ge_tup (ga_cons (ge_var (pv 1)) (ga_cons (ge_ix ix_seq sf_ix (ge_var (pv 3)) ge_int (fun _ _ => rfl)) (ga_cons (ge_ix ix_seq sf_ix (ge_var (pv 3)) ge_int (fun _ _ => rfl)) (ga_cons (ge_ix ix_seq sf_ix (ge_var (pv 3)) ge_int (fun _ _ => rfl)) ga_nil)))))))
    gss_nil))))
    (gss_one (gs_ret (ge_tup ga_nil))))
theorem sc28 : FnScope N28 p28 (defScope s28) := ⟨rfl, rfl, rfl, by decide +kernel, rfl, by decide +kernel, by decide +kernel⟩
theorem ok28 (X : Fx K mg Cs fs cc pp fd) {k : Nat} (IH : ∀ cl fx, Lv P w K mg base Cs fs cc pp fd k cl fx) (cl : Nat → Option (List (Str × Addr))) (fx : List (V × Vl)) : FnOk P w K mg base CX0 (k + 1) (fs 28) (fd 28) p28 (spF0 (TU K Cs fs pp cl fx) (run (k + 1) 28) p28.length) := by
  have IH0 := IH cl fx
  refine X.d28.F.ok sc28 (fun vs H Q E h => h.1) (fun cdv A outer s H vs Q E hr h => ⟨tS (TU K Cs fs pp cl fx) EF (c_street_in (run k)), ?_, fn_start (N := N28) (EX := fun _ _ _ => False) h fun _ _ z => z⟩)
  exact (gss_cons (gs_drop (ge_call IH0.g25 (fun _ _ _ h => h) (fun _ _ h => h) (argN_cons (argN_cons argN_nil)) hr (by rfl) X.d25.g X.d25.F.kp X.d25.b pass0 (ga_cons (ge_var (pv 0)) (ga_cons (ge_var (pv 1)) ga_nil))))
    (gss_cons (gs_set (i := 2) sc28.nd rfl (Or.inl rfl) (ge_call IH0.g23 (fun _ _ _ h => h) (fun _ _ h => h) (argN_cons (argN_cons argN_nil)) hr (by rfl) X.d23.g X.d23.F.kp X.d23.b pass0 (ga_cons (ge_var (pv 0)) (ga_cons (ge_var (pv 1)) ga_nil))))
    (gss_cons (gs_set (i := 3) sc28.nd rfl (Or.inl rfl) (ge_call IH0.g27 (fun _ _ _ h => h) (fun _ _ h => h) (argN_cons argN_nil) hr (by rfl) X.d27.g X.d27.F.kp X.d27.b pass0 (ga_cons (ge_var (pv 2)) ga_nil)))
    (gss_cons (gs_if (gt_cmp (op_or op_ne (op_neD hr.units)) sf_ne (ge_var (pv 3)) (ge_tup ga_nil) (nomark _))
    (gss_one (gs_ret (ge_makeL X.n21 IH0.g21 ⟨_, rfl, (argN_cons (argN_cons (argN_cons (argN_cons argN_nil))))⟩ hr (by rfl) X.k6.g X.d21.b (ga_cons (ge_ix ix_seq sf_ix (ge_var (pv 3)) ge_int (fun _ _ => rfl)) (ga_cons (ge_ix ix_seq sf_ix (ge_var (pv 3)) ge_int (fun _ _ => rfl)) (ga_cons (ge_ix ix_seq sf_ix (ge_var (pv 3)) ge_int (fun _ _ => rfl)) (ga_cons (ge_ix ix_seq sf_ix (ge_var (pv 3)) ge_int (fun _ _ => rfl)) ga_nil)))))))
    gss_nil)
    (gss_one (gs_ret (ge_makeL X.n19 IH0.g19 ⟨_, rfl, (argN_cons argN_nil)⟩ hr (by rfl) X.k5.g X.d19.b (ga_cons (ge_call IH0.g26 (fun _ _ _ h => h) (fun _ _ h => h) (argN_cons argN_nil) hr (by rfl) X.d26.g X.d26.F.kp X.d26.b pass0 (ga_cons (ge_var (pv 2)) ga_nil)) ga_nil))))))))
theorem sc29 : FnScope N29 p29 (defScope s29) := ⟨rfl, rfl, rfl, by decide +kernel, rfl, by decide +kernel, by decide +kernel⟩
theorem ok29 (X : Fx K mg Cs fs cc pp fd) {k : Nat} (IH : ∀ cl fx, Lv P w K mg base Cs fs cc pp fd k cl fx) (cl : Nat → Option (List (Str × Addr))) (fx : List (V × Vl)) : FnOk P w K mg base CX0 (k + 1) (fs 29) (fd 29) p29 (spF0 (TU K Cs fs pp cl fx) (run (k + 1) 29) p29.length) := by
  have IH0 := IH cl fx
  refine X.d29.F.ok sc29 (fun vs H Q E h => h.1) (fun cdv A outer s H vs Q E hr h => ⟨tS (TU K Cs fs pp cl fx) EF (c_numbered (run k)), ?_, fn_start (N := N29) (EX := fun _ _ _ => False) h fun _ _ z => z⟩)
  exact (gss_cons (gs_drop (ge_call IH0.g25 (fun _ _ _ h => h) (fun _ _ h => h) (argN_cons (argN_cons argN_nil)) hr (by rfl) X.d25.g X.d25.F.kp X.d25.b pass0 (ga_cons (ge_var (pv 0)) (ga_cons (ge_var (pv 1)) ga_nil))))
    (gss_cons (gs_set (i := 2) sc29.nd rfl (Or.inr rfl) (ge_call IH0.g23 (fun _ _ _ h => h) (fun _ _ h => h) (argN_cons (argN_cons argN_nil)) hr (by rfl) X.d23.g X.d23.F.kp X.d23.b pass0 (ga_cons (ge_var (pv 0)) (ga_cons (ge_var (pv 1)) ga_nil))))
    (gss_cons (gs_if (gt_cmp (op_or op_ne (op_neD hr.units)) sf_ne (ge_call IH0.g27 (fun _ _ _ h => h) (fun _ _ h => h) (argN_cons argN_nil) hr (by rfl) X.d27.g X.d27.F.kp X.d27.b pass0 (ga_cons (ge_var (pv 2)) ga_nil)) (ge_tup ga_nil) (nomark _))
    (gss_one gs_raise0)
    gss_nil)
    (gss_cons (gs_set (i := 3) sc29.nd rfl (Or.inr rfl) (ge_call IH0.g26 (fun _ _ _ h => h) (fun _ _ h => h) (argN_cons argN_nil) hr (by rfl) X.d26.g X.d26.F.kp X.d26.b pass0 (ga_cons (ge_var (pv 2)) ga_nil)))
    (gss_cons (gs_setLc (i := 4) (own := [("house", 8)]) (t := (.nm 8)) (by decide) rfl sc29.nd rfl rfl (sw_true rfl rfl rfl (by decide +kernel)) (gi_it rfl (ge_var (pv 3))) (blkOk_by (N := N29) (sc := (defScope s29)) (by decide +kernel)) (fun _ _ _ _ _ => (pg_name (i := 8) sc29.nd rfl (Or.inl rfl))) (fun _ _ _ _ _ => gts_nil) (fun _ _ _ _ _ => (ge_lc (own := [("other", 10)]) (t := (.nm 10)) (by decide) rfl sc29.nd (gi_it rfl (ge_ix ix_seq sf_ix (ge_var (pv 2)) (ge_var (pv 8)) (fun _ _ => rfl))) (blkOk_by (by kernel_rfl)) (fun _ _ _ _ _ => (pg_name (i := 10) sc29.nd rfl (Or.inl rfl))) (fun _ _ _ _ _ => gts_one (gt_cmp (op_notInA (in_room hr)) sf_in (ge_var (pv 10)) (ge_var (pv 3)) rfl)) (fun _ _ _ _ _ => (ge_var (pv 10))))))
    (gss_cons (gs_setLc (i := 5) (own := [("some", 11)]) (t := (.nm 11)) (by decide) rfl sc29.nd rfl rfl (sw_true rfl rfl rfl (by decide +kernel)) (gi_it rfl (ge_var (pv 4))) (blkOk_by (N := N29) (sc := (defScope s29)) (by decide +kernel)) (fun _ _ _ _ _ => (pg_name (i := 11) sc29.nd rfl (Or.inl rfl))) (fun _ _ _ _ _ => gts_nil) (fun _ _ _ _ _ => (ge_callB call_len_seq sf_len (by rfl) X.b_len (by decide +kernel) (ga_cons (ge_var (pv 11)) ga_nil))))
    (gss_cons (gs_set (i := 6) sc29.nd rfl (Or.inl rfl) (ge_op (op_or op_mulB op_rep) sf_mul (ge_lst (ga_cons ge_int ga_nil)) (ge_var (pv 0))))
    (gss_cons (gs_for (t := (.tp [(.nm 7), (.nm 8)])) PassesOwn.never rfl (gi_en rfl (by rfl) X.b_enumerate (ge_var (pv 3))) (pg_tup rfl (pgs_cons (pg_name (i := 7) sc29.nd rfl (Or.inl rfl)) (pgs_cons (pg_name (i := 8) sc29.nd rfl (Or.inl rfl)) pgs_nil)))
    (gss_cons (gs_setI (ge_call IH0.g4 (fun _ _ _ h => h) (fun _ _ h => h) (argN_cons (argN_cons (argN_cons argN_nil))) hr (by rfl) X.d4.g X.d4.F.kp X.d4.b pass0 (ga_cons (ge_var (pv 5)) (ga_cons (ge_var (pv 7)) (ga_cons ge_int ga_nil)))) (ge_var (pv 6)) (ge_var (pv 8)))
    (gss_one (gs_for (t := (.tp [(.nm 9), (.nm 10)])) PassesOwn.never rfl (gi_en rfl (by rfl) X.b_enumerate (ge_ix ix_seq sf_ix (ge_var (pv 4)) (ge_var (pv 7)) (fun _ _ => rfl))) (pg_tup rfl (pgs_cons (pg_name (i := 9) sc29.nd rfl (Or.inl rfl)) (pgs_cons (pg_name (i := 10) sc29.nd rfl (Or.inl rfl)) pgs_nil)))
    (gss_one (gs_setI (ge_call IH0.g4 (fun _ _ _ h => h) (fun _ _ h => h) (argN_cons (argN_cons (argN_cons argN_nil))) hr (by rfl) X.d4.g X.d4.F.kp X.d4.b pass0 (ga_cons (ge_var (pv 5)) (ga_cons (ge_var (pv 7)) (ga_cons (ge_op (op_or op_add op_cat) sf_add (ge_var (pv 9)) ge_int) ga_nil)))) (ge_var (pv 6)) (ge_var (pv 10))))))))
    (gss_one (gs_ret (ge_var (pv 6))))))))))))
theorem sc30 : FnScope N30 p30 (defScope s30) := ⟨rfl, rfl, rfl, by decide +kernel, rfl, by decide +kernel, by decide +kernel⟩
theorem ok30 (X : Fx K mg Cs fs cc pp fd) {k : Nat} (IH : ∀ cl fx, Lv P w K mg base Cs fs cc pp fd k cl fx) (cl : Nat → Option (List (Str × Addr))) (fx : List (V × Vl)) : FnOk P w K mg base CX0 (k + 1) (fs 30) (fd 30) p30 (spF0 (TU K Cs fs pp cl fx) (run (k + 1) 30) p30.length) := by
  have IH0 := IH cl fx
  refine X.d30.F.ok sc30 (fun vs H Q E h => h.1) (fun cdv A outer s H vs Q E hr h => ⟨tS (TU K Cs fs pp cl fx) EF (c_is_number (run k)), ?_, fn_start (N := N30) (EX := fun _ _ _ => False) h fun _ _ z => z⟩)
  exact (gss_one (gs_ret (ge_and (ge_isi .int rfl ⟨by decide, by decide⟩ (by rfl) X.b_isinstance (by rfl) X.b_int (by decide +kernel) (ge_var (pv 0)) (by decide) (by decide) (by decide +kernel)) (ge_one (ge_not (ge_isi .bl rfl ⟨by decide, by decide⟩ (by rfl) X.b_isinstance (by rfl) X.b_bool (by decide +kernel) (ge_var (pv 0)) (by decide) (by decide) (by decide +kernel)))))))
theorem sc31 : FnScope N31 p31 (defScope s31) := ⟨rfl, rfl, rfl, by decide +kernel, rfl, by decide +kernel, by decide +kernel⟩
theorem ok31 (X : Fx K mg Cs fs cc pp fd) {k : Nat} (IH : ∀ cl fx, Lv P w K mg base Cs fs cc pp fd k cl fx) (cl : Nat → Option (List (Str × Addr))) (fx : List (V × Vl)) : FnOk P w K mg base CX0 (k + 1) (fs 31) (fd 31) p31 (spF0 (TU K Cs fs pp cl fx) (run (k + 1) 31) p31.length) := by
  have IH0 := IH cl fx
  refine X.d31.F.ok sc31 (fun vs H Q E h => h.1) (fun cdv A outer s H vs Q E hr h => ⟨tS (TU K Cs fs pp cl fx) EF (c_first_twice (run k)), ?_, fn_start (N := N31) (EX := fun _ _ _ => False) h fun _ _ z => z⟩)
  exact (gss_cons (gs_for (t := (.tp [(.nm 1), (.nm 2)])) PassesOwn.never rfl (gi_en rfl (by rfl) X.b_enumerate (ge_var (pv 0))) (pg_tup rfl (pgs_cons (pg_name (i := 1) sc31.nd rfl (Or.inl rfl)) (pgs_cons (pg_name (i := 2) sc31.nd rfl (Or.inl rfl)) pgs_nil)))
    (gss_one (gs_if (gt_cmp (op_inA (in_room hr)) sf_in (ge_var (pv 2)) (ge_sl rfl (ge_var (pv 0)) .none (.some (ge_var (pv 1)))) rfl)
    (gss_one (gs_ret (ge_tup (ga_cons (ge_m rfl PySem.F.slot_list_index PySem.F.type_list_index mt_index sf_index (ge_var (pv 0)) (ga_cons (ge_var (pv 2)) ga_nil)) (ga_cons (ge_var (pv 1)) ga_nil)))))
    gss_nil)))
    (gss_one (gs_ret (ge_tup ga_nil))))
theorem sc32 : FnScope N32 p32 (defScope s32) := ⟨rfl, rfl, rfl, by decide +kernel, rfl, by decide +kernel, by decide +kernel⟩
theorem ok32 (X : Fx K mg Cs fs cc pp fd) {k : Nat} (IH : ∀ cl fx, Lv P w K mg base Cs fs cc pp fd k cl fx) (cl : Nat → Option (List (Str × Addr))) (fx : List (V × Vl)) : FnOk P w K mg base CX0 (k + 1) (fs 32) (fd 32) p32 (spF0 (TU K Cs fs pp cl fx) (run (k + 1) 32) p32.length) := by
  have IH0 := IH cl fx
  refine X.d32.F.ok sc32 (fun vs H Q E h => h.1) (fun cdv A outer s H vs Q E hr h => ⟨tS (TU K Cs fs pp cl fx) EF (c_judged (run k)), ?_, fn_start (N := N32) (EX := fun _ _ _ => False) h fun _ _ z => z⟩)
  exact (gss_cons (gs_drop (ge_call IH0.g25 (fun _ _ _ h => h) (fun _ _ h => h) (argN_cons (argN_cons argN_nil)) hr (by rfl) X.d25.g X.d25.F.kp X.d25.b pass0 (ga_cons (ge_var (pv 0)) (ga_cons (ge_var (pv 1)) ga_nil))))
    (gss_cons (gs_if (PW.pt (gw_or (gt_not (gt_val (ge_isi .lst rfl ⟨by decide, by decide⟩ (by rfl) X.b_isinstance (by rfl) X.b_list (by decide +kernel) (ge_var (pv 2)) (by decide) (by decide) (by decide +kernel)))) (gw_or (gt_cmp (op_or op_ne (op_neD hr.units)) sf_ne (ge_callB call_len_seq sf_len (by rfl) X.b_len (by decide +kernel) (ga_cons (ge_var (pv 2)) ga_nil)) (ge_var (pv 0)) (nomark _)) (gw_or1 (gt_not (gt_val (ge_callB (cr_all rfl) sf_all (by rfl) X.b_all (by decide +kernel) (ga_cons (ge_lc (own := [("one", 6)]) (t := (.nm 6)) (by decide) rfl sc32.nd (gi_it rfl (ge_var (pv 2))) (blkOk_by (N := N32) (sc := (defScope s32)) (by decide +kernel)) (fun _ _ _ _ _ => (pg_name (i := 6) sc32.nd rfl (Or.inl rfl))) (fun _ _ _ _ _ => gts_nil) (fun _ _ _ _ _ => (ge_call IH0.g30 (fun _ _ _ h => h) (fun _ _ h => h) (argN_cons argN_nil) hr (by rfl) X.d30.g X.d30.F.kp X.d30.b pass0 (ga_cons (ge_var (pv 6)) ga_nil)))) ga_nil))))))))
    (gss_one gs_raise0)
    gss_nil)
    (gss_cons (gs_for (t := (.tp [(.nm 3), (.nm 4)])) PassesOwn.never rfl (gi_en rfl (by rfl) X.b_enumerate (ge_var (pv 2))) (pg_tup rfl (pgs_cons (pg_name (i := 3) sc32.nd rfl (Or.inl rfl)) (pgs_cons (pg_name (i := 4) sc32.nd rfl (Or.inl rfl)) pgs_nil)))
    (gss_one (gs_if (gt_not (gt_ch op_le op_lt ge_int (ge_var (pv 4)) (ge_var (pv 0))))
    (gss_one (gs_ret (ge_makeL X.n13 IH0.g13 ⟨_, rfl, (argN_cons argN_nil)⟩ hr (by rfl) X.k2.g X.d13.b (ga_cons (ge_var (pv 3)) ga_nil))))
    gss_nil)))
    (gss_cons (gs_set (i := 5) sc32.nd rfl (Or.inl rfl) (ge_call IH0.g31 (fun _ _ _ h => h) (fun _ _ h => h) (argN_cons argN_nil) hr (by rfl) X.d31.g X.d31.F.kp X.d31.b pass0 (ga_cons (ge_var (pv 2)) ga_nil)))
    (gss_cons (gs_if (gt_cmp (op_or op_ne (op_neD hr.units)) sf_ne (ge_var (pv 5)) (ge_tup ga_nil) (nomark _))
    (gss_one (gs_ret (ge_makeL X.n15 IH0.g15 ⟨_, rfl, (argN_cons (argN_cons argN_nil))⟩ hr (by rfl) X.k3.g X.d15.b (ga_cons (ge_ix ix_seq sf_ix (ge_var (pv 5)) ge_int (fun _ _ => rfl)) (ga_cons (ge_ix ix_seq sf_ix (ge_var (pv 5)) ge_int (fun _ _ => rfl)) ga_nil)))))
    gss_nil)
    (gss_cons (gs_set (i := 5) sc32.nd rfl (Or.inl rfl) (ge_call IH0.g31 (fun _ _ _ h => h) (fun _ _ h => h) (argN_cons argN_nil) hr (by rfl) X.d31.g X.d31.F.kp X.d31.b pass0 (ga_cons (ge_lc (own := [("road", 7)]) (t := (.nm 7)) (by decide) rfl sc32.nd (gi_it rfl (ge_var (pv 1))) (blkOk_by (N := N32) (sc := (defScope s32)) (by decide +kernel)) (fun _ _ _ _ _ => (pg_name (i := 7) sc32.nd rfl (Or.inl rfl))) (fun _ _ _ _ _ => gts_nil) (fun _ _ _ _ _ => (ge_call IH0.g9 (fun _ _ _ h => h) (fun _ _ h => h) (argN_cons (argN_cons argN_nil)) hr (by rfl) X.d9.g X.d9.F.kp X.d9.b pass0 (ga_cons (ge_var (pv 2)) (ga_cons (ge_var (pv 7)) ga_nil))))) ga_nil)))
    (gss_one (gs_ret (ge_if (gt_cmp (op_or op_eq (op_eqD hr.units)) sf_eq (ge_var (pv 5)) (ge_tup ga_nil) (nomark _)) (ge_new X.k1.mks X.i1 X.k1.kp (by rfl) X.k1.g) (ge_makeL X.n17 IH0.g17 ⟨_, rfl, (argN_cons (argN_cons argN_nil))⟩ hr (by rfl) X.k4.g X.d17.b (ga_cons (ge_ix ix_seq sf_ix (ge_var (pv 5)) ge_int (fun _ _ => rfl)) (ga_cons (ge_ix ix_seq sf_ix (ge_var (pv 5)) ge_int (fun _ _ => rfl)) ga_nil))))))))))))
theorem sc33 : FnScope N33 p33 (defScope s33) := ⟨rfl, rfl, rfl, by decide +kernel, rfl, by decide +kernel, by decide +kernel⟩
theorem ok33 (X : Fx K mg Cs fs cc pp fd) {k : Nat} (IH : ∀ cl fx, Lv P w K mg base Cs fs cc pp fd k cl fx) (cl : Nat → Option (List (Str × Addr))) (fx : List (V × Vl)) : FnOk P w K mg base CX0 (k + 1) (fs 33) (fd 33) p33 (spF0 (TU K Cs fs pp cl fx) (run (k + 1) 33) p33.length) := by
  have IH0 := IH cl fx
  refine X.d33.F.ok sc33 (fun vs H Q E h => h.1) (fun cdv A outer s H vs Q E hr h => ⟨tS (TU K Cs fs pp cl fx) EF (c_upended (run k)), ?_, fn_start (N := N33) (EX := fun _ _ _ => False) h fun _ _ z => z⟩)
  exact (gss_cons (gs_if (PW.pt (gw_or (gt_not (gt_val (ge_isi .lst rfl ⟨by decide, by decide⟩ (by rfl) X.b_isinstance (by rfl) X.b_list (by decide +kernel) (ge_var (pv 0)) (by decide) (by decide) (by decide +kernel)))) (gw_or1 (gt_not (gt_val (ge_callB (cr_all rfl) sf_all (by rfl) X.b_all (by decide +kernel) (ga_cons (ge_lc (own := [("one", 1)]) (t := (.nm 1)) (by decide) rfl sc33.nd (gi_it rfl (ge_var (pv 0))) (blkOk_by (N := N33) (sc := (defScope s33)) (by decide +kernel)) (fun _ _ _ _ _ => (pg_name (i := 1) sc33.nd rfl (Or.inl rfl))) (fun _ _ _ _ _ => gts_nil) (fun _ _ _ _ _ => (ge_call IH0.g0 (fun _ _ _ h => h) (fun _ _ h => h) (argN_cons (argN_cons argN_nil)) hr (by rfl) X.d0.g X.d0.F.kp X.d0.b pass0 (ga_cons (ge_var (pv 1)) (ga_cons ge_int ga_nil))))) ga_nil)))))))
    (gss_one gs_raise0)
    gss_nil)
    (gss_cons (gs_if (PW.pt (gw_or (gt_cmp (op_or op_eq (op_eqD hr.units)) sf_eq (ge_var (pv 0)) (ge_lst ga_nil) (nomark _)) (gw_or1 (gt_cmp (op_or op_ne (op_neD hr.units)) sf_ne (ge_callB cr_sortedI sf_sorted (by rfl) X.b_sorted (by decide +kernel) (ga_cons (ge_var (pv 0)) ga_nil)) (ge_listRg1 rfl (by rfl) X.b_list (by rfl) X.b_range (ge_callB call_len_seq sf_len (by rfl) X.b_len (by decide +kernel) (ga_cons (ge_var (pv 0)) ga_nil))) (nomark _)))))
    (gss_one gs_raise0)
    gss_nil)
    (gss_one (gs_ret (ge_lc (own := [("one", 1)]) (t := (.nm 1)) (by decide) rfl sc33.nd (gi_it rfl (ge_var (pv 0))) (blkOk_by (N := N33) (sc := (defScope s33)) (by decide +kernel)) (fun _ _ _ _ _ => (pg_name (i := 1) sc33.nd rfl (Or.inl rfl))) (fun _ _ _ _ _ => gts_nil) (fun _ _ _ _ _ => (ge_op op_sub sf_sub (ge_op op_sub sf_sub (ge_callB call_len_seq sf_len (by rfl) X.b_len (by decide +kernel) (ga_cons (ge_var (pv 0)) ga_nil)) ge_int) (ge_var (pv 1)))))))))
theorem sc60 : FnScope N60 p60 (defScope s60) := ⟨rfl, rfl, rfl, by decide +kernel, rfl, by decide +kernel, by decide +kernel⟩
theorem ok60 (X : Fx K mg Cs fs cc pp fd) {k : Nat} (IH : ∀ cl fx, Lv P w K mg base Cs fs cc pp fd k cl fx) (cl : Nat → Option (List (Str × Addr))) (fx : List (V × Vl)) : FnOk P w K mg base CX0 (k + 1) (fs 60) (fd 60) p60 (spF0 (TU K Cs fs pp cl fx) (run (k + 1) 60) p60.length) := by
  have IH0 := IH cl fx
  refine X.d60.F.ok sc60 (fun vs H Q E h => h.1) (fun cdv A outer s H vs Q E hr h => ⟨tS (TU K Cs fs pp cl fx) EF (c__law_copied (run k)), ?_, fn_start (N := N60) (EX := fun _ _ _ => False) h fun _ _ z => z⟩)
  exact (gss_one (gs_ret (ge_if (gt_val (ge_isi .lst rfl ⟨by decide, by decide⟩ (by rfl) X.b_isinstance (by rfl) X.b_list (by decide +kernel) (ge_var (pv 0)) (by decide) (by decide) (by decide +kernel))) (ge_lc (own := [("_law_one", 1)]) (t := (.nm 1)) (by decide) rfl sc60.nd (gi_it rfl (ge_var (pv 0))) (blkOk_by (N := N60) (sc := (defScope s60)) (by decide +kernel)) (fun _ _ _ _ _ => (pg_name (i := 1) sc60.nd rfl (Or.inl rfl))) (fun _ _ _ _ _ => gts_nil) (fun _ _ _ _ _ => (ge_call IH0.g60 (fun _ _ _ h => h) (fun _ _ h => h) (argN_cons argN_nil) hr (by rfl) X.d60.g X.d60.F.kp X.d60.b pass0 (ga_cons (ge_var (pv 1)) ga_nil)))) (ge_var (pv 0)))))
theorem sc61 : FnScope N61 p61 (defScope s61) := ⟨rfl, rfl, rfl, by decide +kernel, rfl, by decide +kernel, by decide +kernel⟩
theorem ok61 (X : Fx K mg Cs fs cc pp fd) {k : Nat} (IH : ∀ cl fx, Lv P w K mg base Cs fs cc pp fd k cl fx) (cl : Nat → Option (List (Str × Addr))) (fx : List (V × Vl)) : FnOk P w K mg base CX0 (k + 1) (fs 61) (fd 61) p61 (spF0 (TU K Cs fs pp cl fx) (run (k + 1) 61) p61.length) := by
  have IH0 := IH cl fx
  refine X.d61.F.ok sc61 (fun vs H Q E h => h.1) (fun cdv A outer s H vs Q E hr h => ⟨tS (TU K Cs fs pp cl fx) EF (c__law_spoiled (run k)), ?_, fn_start (N := N61) (EX := fun _ _ _ => False) h fun _ _ z => z⟩)
  exact (gss_cons (gs_for (t := (.nm 1)) PassesOwn.never rfl (gi_it rfl (ge_var (pv 0))) (pg_name (i := 1) sc61.nd rfl (Or.inl rfl))
    (gss_one (gs_if (gt_val (ge_isi .lst rfl ⟨by decide, by decide⟩ (by rfl) X.b_isinstance (by rfl) X.b_list (by decide +kernel) (ge_var (pv 1)) (by decide) (by decide) (by decide +kernel)))
    (gss_one (gs_drop (ge_call IH0.g61 (fun _ _ _ h => h) (fun _ _ h => h) (argN_cons argN_nil) hr (by rfl) X.d61.g X.d61.F.kp X.d61.b pass0 (ga_cons (ge_var (pv 1)) ga_nil))))
    gss_nil)))
    (gss_cons (gs_drop (ge_m rfl PySem.F.slot_list_append PySem.F.type_list_append mt_append sf_append (ge_var (pv 0)) (ga_cons ge_int ga_nil)))
    (gss_one (gs_drop (ge_m0 rfl PySem.F.slot_list_reverse PySem.F.type_list_reverse mt_reverse sf_reverse (ge_var (pv 0)))))))
theorem sc62 : FnScope N62 p62 (defScope s62) := ⟨rfl, rfl, rfl, by decide +kernel, rfl, by decide +kernel, by decide +kernel⟩
theorem ok62 (X : Fx K mg Cs fs cc pp fd) {k : Nat} (IH : ∀ cl fx, Lv P w K mg base Cs fs cc pp fd k cl fx) (cl : Nat → Option (List (Str × Addr))) (fx : List (V × Vl)) : FnOk P w K mg base CX0 (k + 1) (fs 62) (fd 62) p62 (spF0 (TU K Cs fs pp cl fx) (run (k + 1) 62) p62.length) := by
  have IH0 := IH cl fx
  refine X.d62.F.ok sc62 (fun vs H Q E h => h.1) (fun cdv A outer s H vs Q E hr h => ⟨tS (TU K Cs fs pp cl fx) EF (c__law_laid (run k)), ?_, fn_start (N := N62) (EX := fun _ _ _ => False) h fun _ _ z => z⟩)
  exact (gss_cons (gs_while PassesOwn.never (gt_cmp op_gt sf_gt (ge_callB call_len_seq sf_len (by rfl) X.b_len (by decide +kernel) (ga_cons (ge_var (pv 0)) ga_nil)) (ge_callB call_len_seq sf_len (by rfl) X.b_len (by decide +kernel) (ga_cons (ge_var (pv 1)) ga_nil)) (nomark _))
    (gss_one (gs_drop (ge_m0 rfl PySem.F.slot_list_pop PySem.F.type_list_pop mt_pop sf_pop (ge_var (pv 0))))))
    (gss_one (gs_for (t := (.tp [(.nm 2), (.nm 3)])) PassesOwn.never rfl (gi_en rfl (by rfl) X.b_enumerate (ge_var (pv 1))) (pg_tup rfl (pgs_cons (pg_name (i := 2) sc62.nd rfl (Or.inl rfl)) (pgs_cons (pg_name (i := 3) sc62.nd rfl (Or.inl rfl)) pgs_nil)))
    (gss_one (gs_if (gt_cmp (op_or op_eq (op_eqD hr.units)) sf_eq (ge_var (pv 2)) (ge_callB call_len_seq sf_len (by rfl) X.b_len (by decide +kernel) (ga_cons (ge_var (pv 0)) ga_nil)) (nomark _))
    (gss_one (gs_drop (ge_m rfl PySem.F.slot_list_append PySem.F.type_list_append mt_append sf_append (ge_var (pv 0)) (ga_cons (ge_call IH0.g60 (fun _ _ _ h => h) (fun _ _ h => h) (argN_cons argN_nil) hr (by rfl) X.d60.g X.d60.F.kp X.d60.b pass0 (ga_cons (ge_var (pv 3)) ga_nil)) ga_nil))))
    (gss_one (gs_if (PW.pt (gw_and (gt_val (ge_isi .lst rfl ⟨by decide, by decide⟩ (by rfl) X.b_isinstance (by rfl) X.b_list (by decide +kernel) (ge_var (pv 3)) (by decide) (by decide) (by decide +kernel))) (gw_and1 (gt_val (ge_isi .lst rfl ⟨by decide, by decide⟩ (by rfl) X.b_isinstance (by rfl) X.b_list (by decide +kernel) (ge_ix ix_seq sf_ix (ge_var (pv 0)) (ge_var (pv 2)) (fun _ _ => rfl)) (by decide) (by decide) (by decide +kernel))))))
    (gss_one (gs_drop (ge_call IH0.g62 (fun _ _ _ h => h) (fun _ _ h => h) (argN_cons (argN_cons argN_nil)) hr (by rfl) X.d62.g X.d62.F.kp X.d62.b pass0 (ga_cons (ge_ix ix_seq sf_ix (ge_var (pv 0)) (ge_var (pv 2)) (fun _ _ => rfl)) (ga_cons (ge_var (pv 3)) ga_nil)))))
    (gss_one (gs_setI (ge_call IH0.g60 (fun _ _ _ h => h) (fun _ _ h => h) (argN_cons argN_nil) hr (by rfl) X.d60.g X.d60.F.kp X.d60.b pass0 (ga_cons (ge_var (pv 3)) ga_nil)) (ge_var (pv 0)) (ge_var (pv 2)))))))))))
theorem sc63 : FnScope N63 p63 (defScope s63) := ⟨rfl, rfl, rfl, by decide +kernel, rfl, by decide +kernel, by decide +kernel⟩
theorem ok63 (X : Fx K mg Cs fs cc pp fd) {k : Nat} (IH : ∀ cl fx, Lv P w K mg base Cs fs cc pp fd k cl fx) (cl : Nat → Option (List (Str × Addr))) (fx : List (V × Vl)) (e : Vl) : CGOk P w K mg base CX0 (k + 1) (fs 63) (fd 63) p63 nmL e (TU K Cs fs pp cl fx) (spF0 (TU K Cs fs pp cl fx) (fun as A => run (k + 1) 63 (as ++ [e]) A) p63.length) := by
  have IH0 := IH cl fx
  refine cgok_of X.d63.F sc63 (fun vs H Q E h => h.1) (fun cdv A outer s H vs Q E hr hcap h => ⟨tS (TU K Cs fs pp cl fx) EF (c__law_door_right (run k) (capAt e)), ?_, fn_start (N := N63) (EX := fun _ _ _ => False) (spF0_G h) fun _ _ z => z⟩)
  exact (gss_cons (gs_set (i := 3) sc63.nd rfl (Or.inl rfl) (ge_call IH0.g60 (fun _ _ _ h => h) (fun _ _ h => h) (argN_cons argN_nil) hr (by rfl) X.d60.g X.d60.F.kp X.d60.b pass0 (ga_cons (ge_var (pv 1)) ga_nil)))
    (gss_cons (gs_set (i := 4) sc63.nd rfl (Or.inl rfl) (ge_callV (v := 0) (np := 1) (ok := okc1) (R := clF (capAt e) (run k)) (fun n hn => (okc1_L X IH0 n hn).ok (fun _ _ _ _ => no_spF0) hcap hr) (argN_cons argN_nil) rfl (Or.inl rfl) (ga_cons (ge_var (pv 3)) ga_nil)))
    (gss_cons (gs_if (gt_cmp (op_or op_ne (op_neD hr.units)) sf_ne (ge_var (pv 3)) (ge_var (pv 1)) (nomark _))
    (gss_one (gs_ret ge_bl))
    gss_nil)
    (gss_cons (gs_set (i := 5) sc63.nd rfl (Or.inl rfl) (ge_call IH0.g60 (fun _ _ _ h => h) (fun _ _ h => h) (argN_cons argN_nil) hr (by rfl) X.d60.g X.d60.F.kp X.d60.b pass0 (ga_cons (ge_var (pv 4)) ga_nil)))
    (gss_cons (gs_drop (ge_call IH0.g61 (fun _ _ _ h => h) (fun _ _ h => h) (argN_cons argN_nil) hr (by rfl) X.d61.g X.d61.F.kp X.d61.b pass0 (ga_cons (ge_var (pv 4)) ga_nil)))
    (gss_cons (gs_if (gt_cmp (op_or op_ne (op_neD hr.units)) sf_ne (ge_callV (v := 0) (np := 1) (ok := okc1) (R := clF (capAt e) (run k)) (fun n hn => (okc1_L X IH0 n hn).ok (fun _ _ _ _ => no_spF0) hcap hr) (argN_cons argN_nil) rfl (Or.inl rfl) (ga_cons (ge_var (pv 3)) ga_nil)) (ge_var (pv 5)) (nomark _))
    (gss_one (gs_ret ge_bl))
    gss_nil)
    (gss_cons (gs_drop (ge_call IH0.g62 (fun _ _ _ h => h) (fun _ _ h => h) (argN_cons (argN_cons argN_nil)) hr (by rfl) X.d62.g X.d62.F.kp X.d62.b pass0 (ga_cons (ge_var (pv 3)) (ga_cons (ge_var (pv 2)) ga_nil))))
    (gss_cons (gs_if (PW.pt (gw_or (gt_cmp (op_or op_ne (op_neD hr.units)) sf_ne (ge_callV (v := 0) (np := 1) (ok := okc1) (R := clF (capAt e) (run k)) (fun n hn => (okc1_L X IH0 n hn).ok (fun _ _ _ _ => no_spF0) hcap hr) (argN_cons argN_nil) rfl (Or.inl rfl) (ga_cons (ge_var (pv 3)) ga_nil)) (ge_callV (v := 0) (np := 1) (ok := okc1) (R := clF (capAt e) (run k)) (fun n hn => (okc1_L X IH0 n hn).ok (fun _ _ _ _ => no_spF0) hcap hr) (argN_cons argN_nil) rfl (Or.inl rfl) (ga_cons (ge_call IH0.g60 (fun _ _ _ h => h) (fun _ _ h => h) (argN_cons argN_nil) hr (by rfl) X.d60.g X.d60.F.kp X.d60.b pass0 (ga_cons (ge_var (pv 2)) ga_nil)) ga_nil)) (nomark _)) (gw_or1 (gt_cmp (op_or op_ne (op_neD hr.units)) sf_ne (ge_var (pv 3)) (ge_var (pv 2)) (nomark _)))))
    (gss_one (gs_ret ge_bl))
    gss_nil)
    (gss_cons (gs_drop (ge_call IH0.g62 (fun _ _ _ h => h) (fun _ _ h => h) (argN_cons (argN_cons argN_nil)) hr (by rfl) X.d62.g X.d62.F.kp X.d62.b pass0 (ga_cons (ge_var (pv 3)) (ga_cons (ge_var (pv 1)) ga_nil))))
    (gss_one (gs_ret (ge_and (ge_cmp (op_or op_eq (op_eqD hr.units)) sf_eq (ge_callV (v := 0) (np := 1) (ok := okc1) (R := clF (capAt e) (run k)) (fun n hn => (okc1_L X IH0 n hn).ok (fun _ _ _ _ => no_spF0) hcap hr) (argN_cons argN_nil) rfl (Or.inl rfl) (ga_cons (ge_var (pv 3)) ga_nil)) (ge_var (pv 5)) (nomark _)) (ge_one (ge_cmp (op_or op_eq (op_eqD hr.units)) sf_eq (ge_var (pv 3)) (ge_var (pv 1)) (nomark _)))))))))))))))
theorem sc64 : FnScope N64 p64 (defScope s64) := ⟨rfl, rfl, rfl, by decide +kernel, rfl, by decide +kernel, by decide +kernel⟩
theorem ok64 (X : Fx K mg Cs fs cc pp fd) {k : Nat} (IH : ∀ cl fx, Lv P w K mg base Cs fs cc pp fd k cl fx) (cl : Nat → Option (List (Str × Addr))) (fx : List (V × Vl)) : FnOk P w K mg base CX0 (k + 1) (fs 64) (fd 64) p64 (spF0 (TU K Cs fs pp cl fx) (run (k + 1) 64) p64.length) := by
  have IH0 := IH cl fx
  refine X.d64.F.ok sc64 (fun vs H Q E h => h.1) (fun cdv A outer s H vs Q E hr h => ⟨tS (TU K Cs fs pp cl fx) EF (c__law_told (run k)), ?_, fn_start (N := N64) (EX := fun _ _ _ => False) h fun _ _ z => z⟩)
  exact (gss_one (gs_ret (ge_if (gt_val (ge_isO rfl (fi_Street X) (by rfl) X.b_isinstance (by rfl) X.k5.g (by decide) (ge_var (pv 0)) (by decide +kernel))) (ge_fld (fx_way X) (ge_var (pv 0))) (ge_lst ga_nil))))
theorem sc65 : FnScope N65 p65 (defScope s65) := ⟨rfl, rfl, rfl, by decide +kernel, rfl, by decide +kernel, by decide +kernel⟩
theorem ok65 (X : Fx K mg Cs fs cc pp fd) {k : Nat} (IH : ∀ cl fx, Lv P w K mg base Cs fs cc pp fd k cl fx) (cl : Nat → Option (List (Str × Addr))) (fx : List (V × Vl)) (e : Vl) : CGOk P w K mg base CX0 (k + 1) (fs 65) (fd 65) p65 nmL e (TU K Cs fs pp cl fx) (spF0 (TU K Cs fs pp cl fx) (fun as A => run (k + 1) 65 (as ++ [e]) A) p65.length) := by
  have IH0 := IH cl fx
  refine cgok_of X.d65.F sc65 (fun vs H Q E h => h.1) (fun cdv A outer s H vs Q E hr hcap h => ⟨tS (TU K Cs fs pp cl fx) EF (c__law_free_right (run k) (capAt e)), ?_, fn_start (N := N65) (EX := fun _ _ _ => False) (spF0_G h) fun _ _ z => z⟩)
  exact (gss_cons (gs_set (i := 4) sc65.nd rfl (Or.inl rfl) (ge_call IH0.g60 (fun _ _ _ h => h) (fun _ _ h => h) (argN_cons argN_nil) hr (by rfl) X.d60.g X.d60.F.kp X.d60.b pass0 (ga_cons (ge_var (pv 2)) ga_nil)))
    (gss_cons (gs_for (t := (.nm 5)) PassesOwn.never rfl (gi_it rfl (ge_tup (ga_cons (ge_var (pv 2)) (ga_cons (ge_var (pv 2)) (ga_cons (ge_var (pv 3)) (ga_cons (ge_var (pv 2)) ga_nil)))))) (pg_name (i := 5) sc65.nd rfl (Or.inl rfl))
    (gss_cons (gs_drop (ge_call IH0.g62 (fun _ _ _ h => h) (fun _ _ h => h) (argN_cons (argN_cons argN_nil)) hr (by rfl) X.d62.g X.d62.F.kp X.d62.b pass0 (ga_cons (ge_var (pv 4)) (ga_cons (ge_var (pv 5)) ga_nil))))
    (gss_cons (gs_set (i := 6) sc65.nd rfl (Or.inl rfl) (ge_callV (v := 0) (np := 1) (ok := okc1) (R := clF (capAt e) (run k)) (fun n hn => (okc1_L X IH0 n hn).ok (fun _ _ _ _ => no_spF0) hcap hr) (argN_cons argN_nil) rfl (Or.inl rfl) (ga_cons (ge_var (pv 4)) ga_nil)))
    (gss_cons (gs_if (PW.pt (gw_or (gt_cmp (op_or op_ne (op_neD hr.units)) sf_ne (ge_var (pv 4)) (ge_var (pv 5)) (nomark _)) (gw_or1 (gt_cmp op_isnot_bl sf_isnot (ge_callV (v := 1) (np := 2) (ok := okc2) (R := clF (capAt e) (run k)) (fun n hn => (okc2_L X IH0 n hn).ok (fun _ _ _ _ => no_spF0) hcap hr) (argN_cons (argN_cons argN_nil)) rfl (Or.inl rfl) (ga_cons (ge_var (pv 6)) (ga_cons (ge_call IH0.g60 (fun _ _ _ h => h) (fun _ _ h => h) (argN_cons argN_nil) hr (by rfl) X.d60.g X.d60.F.kp X.d60.b pass0 (ga_cons (ge_var (pv 5)) ga_nil)) ga_nil))) ge_bl (nomark _)))))
    (gss_one (gs_ret ge_bl))
    gss_nil)
    (gss_one (gs_drop (ge_call IH0.g61 (fun _ _ _ h => h) (fun _ _ h => h) (argN_cons argN_nil) hr (by rfl) X.d61.g X.d61.F.kp X.d61.b pass0 (ga_cons (ge_call IH0.g64 (fun _ _ _ h => h) (fun _ _ h => h) (argN_cons argN_nil) hr (by rfl) X.d64.g X.d64.F.kp X.d64.b pass0 (ga_cons (ge_var (pv 6)) ga_nil)) ga_nil))))))))
    (gss_one (gs_ret (ge_cmp (op_or op_eq (op_eqD hr.units)) sf_eq (ge_var (pv 4)) (ge_var (pv 2)) (nomark _))))))
theorem sc66 : FnScope N66 p66 (defScope s66) := ⟨rfl, rfl, rfl, by decide +kernel, rfl, by decide +kernel, by decide +kernel⟩
theorem slo66 : (L66.all fun p => slotOk N66 (defScope s66) p.2 (nmL p.1)) = true := by decide +kernel
theorem sli66 : (L66.all fun p => inL [1000, 1001, 1002, 1003, 1004, 1005, 1006, 1007, 1008, 1009] p.1) = true := by decide +kernel
theorem ok66 (X : Fx K mg Cs fs cc pp fd) (Y : Tx base mg cc pp) {k : Nat} (IH : ∀ cl fx, Lv P w K mg base Cs fs cc pp fd k cl fx) (cl : Nat → Option (List (Str × Addr))) (fx : List (V × Vl)) (hcl : ∀ n ∈ [1000, 1001, 1002, 1003, 1004, 1005, 1006, 1007, 1008, 1009], cl n = none) : FnOk P w K mg base CX0 (k + 1) (fs 66) (fd 66) p66 (spF0 (TU K Cs fs pp cl fx) (run (k + 1) 66) p66.length) := by
  refine okM X.t66 X.d66.F sc66 (fun vs H Q E h => h.1) (fun A outer s H vs Q E hr h => ⟨tS (TU K Cs fs pp (clM (inL [1000, 1001, 1002, 1003, 1004, 1005, 1006, 1007, 1008, 1009]) (cellsFrom (s.heap.objs.size + 1) (defScope s66).names []) cl) fx) EF (c_law (run k)), ?_, fn_startM (T := (TU K Cs fs pp cl fx)) (ids := inL [1000, 1001, 1002, 1003, 1004, 1005, 1006, 1007, 1008, 1009]) (cells := cellsFrom (s.heap.objs.size + 1) (defScope s66).names []) (N := N66) (ids_none (by decide) hcl) h⟩)
  have IH0 := IH (clM (inL [1000, 1001, 1002, 1003, 1004, 1005, 1006, 1007, 1008, 1009]) (cellsFrom (s.heap.objs.size + 1) (defScope s66).names []) cl) fx
  have hL : ∀ p ∈ L66, (TU K Cs fs pp (clM (inL [1000, 1001, 1002, 1003, 1004, 1005, 1006, 1007, 1008, 1009]) (cellsFrom (s.heap.objs.size + 1) (defScope s66).names []) cl) fx).cl p.1 = some ((cxOf CX0 P w K mg base N66 "law" (defScope s66) (fs 66) (.ref (cc 66)) A outer s H E).nox).env.cells ∧ slotOk ((cxOf CX0 P w K mg base N66 "law" (defScope s66) (fs 66) (.ref (cc 66)) A outer s H E).nox).N ((cxOf CX0 P w K mg base N66 "law" (defScope s66) (fs 66) (.ref (cc 66)) A outer s H E).nox).env.scope p.2 (nmL p.1) = true := fun p hp => ⟨clM_at (List.all_eq_true.mp sli66 p hp), List.all_eq_true.mp slo66 p hp⟩
  have src : Src ((cxOf CX0 P w K mg base N66 "law" (defScope s66) (fs 66) (.ref (cc 66)) A outer s H E).nox) (TU K Cs fs pp (clM (inL [1000, 1001, 1002, 1003, 1004, 1005, 1006, 1007, 1008, 1009]) (cellsFrom (s.heap.objs.size + 1) (defScope s66).names []) cl) fx) nmL (enL L66) := src_frame hL
  exact (gss_cons (gs_set (i := 1) sc66.nd rfl (Or.inl rfl) (ge_if (gt_cmp (op_or op_ne (op_neD hr.units)) sf_ne (ge_var (pv 0)) (ge_lst ga_nil) (nomark _)) (ge_sl rfl (ge_var (pv 0)) .none (.some ge_int)) (ge_lst (ga_cons ge_int ga_nil))))
    (gss_cons (gs_set (i := 2) sc66.nd rfl (Or.inr rfl) (ge_callB call_abs sf_abs (by rfl) X.b_abs (by decide +kernel) (ga_cons (ge_callB (cr_sum rfl) sf_sum (by rfl) X.b_sum (by decide +kernel) (ga_cons (ge_var (pv 1)) ga_nil)) ga_nil)))
    (gss_cons (gs_par (i := 3) (j := 4) rfl sc66.nd rfl rfl (by decide) rfl rfl (ga_cons (ge_lst ga_nil) (ga_cons (ge_lst ga_nil) ga_nil)) (by rfl))
    (gss_cons (gs_set (i := 5) sc66.nd rfl (Or.inr rfl) (ge_op (op_or op_add op_cat) sf_add ge_int (ge_op op_mod sf_mod (ge_var (pv 2)) ge_int)))
    (gss_cons (gs_par (i := 6) (j := 7) rfl sc66.nd rfl rfl (by decide) rfl rfl (ga_cons (ge_lc (own := [("_law_at", 14)]) (t := (.nm 14)) (by decide) rfl sc66.nd (gi_rg1 (by rfl) X.b_range (ge_op op_sub sf_sub (ge_var (pv 5)) ge_int)) (blkOk_by (N := N66) (sc := (defScope s66)) (by decide +kernel)) (fun _ _ _ _ _ => (pg_name (i := 14) sc66.nd rfl (Or.inl rfl))) (fun _ _ _ _ _ => gts_nil) (fun _ _ _ _ _ => (ge_tup (ga_cons (ge_var (pv 14)) (ga_cons (ge_op (op_or op_add op_cat) sf_add (ge_var (pv 14)) ge_int) ga_nil))))) (ga_cons (ge_lc (own := [("_law_at", 14)]) (t := (.nm 14)) (by decide) rfl sc66.nd (gi_rg2 (by rfl) X.b_range ge_int (ge_var (pv 5))) (blkOk_by (N := N66) (sc := (defScope s66)) (by decide +kernel)) (fun _ _ _ _ _ => (pg_name (i := 14) sc66.nd rfl (Or.inl rfl))) (fun _ _ _ _ _ => gts_nil) (fun _ _ _ _ _ => (ge_tup (ga_cons ge_int (ga_cons (ge_var (pv 14)) ga_nil))))) ga_nil)) (by rfl))
    (gss_cons (gs_par (i := 8) (j := 9) rfl sc66.nd rfl rfl (by decide) rfl rfl (ga_cons (ge_lc (own := [("_law_at", 14)]) (t := (.nm 14)) (by decide) rfl sc66.nd (gi_rg1 (by rfl) X.b_range (ge_var (pv 5))) (blkOk_by (N := N66) (sc := (defScope s66)) (by decide +kernel)) (fun _ _ _ _ _ => (pg_name (i := 14) sc66.nd rfl (Or.inl rfl))) (fun _ _ _ _ _ => gts_nil) (fun _ _ _ _ _ => (ge_op (op_or op_add op_cat) sf_add ge_int (ge_op op_mod sf_mod (ge_var (pv 14)) ge_int)))) (ga_cons (ge_lc (own := [("_law_at", 14)]) (t := (.nm 14)) (by decide) rfl sc66.nd (gi_rg1 (by rfl) X.b_range (ge_var (pv 5))) (blkOk_by (N := N66) (sc := (defScope s66)) (by decide +kernel)) (fun _ _ _ _ _ => (pg_name (i := 14) sc66.nd rfl (Or.inl rfl))) (fun _ _ _ _ _ => gts_nil) (fun _ _ _ _ _ => (ge_op (op_or op_add op_cat) sf_add ge_int (ge_op op_mod sf_mod (ge_op (op_or op_mulB op_rep) sf_mul (ge_var (pv 14)) (ge_var (pv 2))) ge_int)))) ga_nil)) (by rfl))
    (gss_cons (gs_set (i := 10) sc66.nd rfl (Or.inl rfl) (ge_call IH0.g29 (fun _ _ _ h => h) (fun _ _ h => h) (argN_cons (argN_cons argN_nil)) hr (by rfl) X.d29.g X.d29.F.kp X.d29.b pass0 (ga_cons (ge_var (pv 5)) (ga_cons (ge_callTy call_list_of sf_list (by rfl) X.b_list (by decide +kernel) (ga_cons (ge_var (pv 6)) ga_nil)) ga_nil))))
    (gss_cons (gs_drop (ge_m rfl PySem.F.slot_list_append PySem.F.type_list_append mt_append sf_append (ge_var (pv 3)) (ga_cons (ge_tup (ga_cons (ge_lam (n := 1000) ⟨Y.b66, rfl, (List.mem_of_getElem? (i := 0) rfl), fun p hp e => X.tu p hp _ (List.mem_of_getElem? (i := 0) rfl) e, by decide, rfl, rfl, (free_frame (by decide +kernel))⟩ rfl) (ga_cons (ge_var (pv 8)) (ga_cons (ge_var (pv 9)) ga_nil)))) ga_nil)))
    (gss_cons (gs_drop (ge_m rfl PySem.F.slot_list_append PySem.F.type_list_append mt_append sf_append (ge_var (pv 4)) (ga_cons (ge_tup (ga_cons (ge_lam (n := 1001) ⟨Y.b66, rfl, (List.mem_of_getElem? (i := 0) rfl), fun p hp e => X.tu p hp _ (List.mem_of_getElem? (i := 0) rfl) e, by decide, rfl, rfl, (free_frame (by decide +kernel))⟩ rfl) (ga_cons (ge_lam (n := 1002) ⟨Y.b66, rfl, (List.mem_of_getElem? (i := 0) rfl), fun p hp e => X.tu p hp _ (List.mem_of_getElem? (i := 0) rfl) e, by decide, rfl, rfl, (free_frame (by decide +kernel))⟩ rfl) (ga_cons (ge_var (pv 6)) (ga_cons (ge_var (pv 7)) ga_nil))))) ga_nil)))
    (gss_cons (gs_drop (ge_m rfl PySem.F.slot_list_append PySem.F.type_list_append mt_append sf_append (ge_var (pv 3)) (ga_cons (ge_tup (ga_cons (ge_lam (n := 1003) ⟨Y.b66, rfl, (List.mem_of_getElem? (i := 0) rfl), fun p hp e => X.tu p hp _ (List.mem_of_getElem? (i := 0) rfl) e, by decide, rfl, rfl, (free_frame (by decide +kernel))⟩ rfl) (ga_cons (ge_var (pv 6)) (ga_cons (ge_var (pv 7)) ga_nil)))) ga_nil)))
    (gss_cons (gs_drop (ge_m rfl PySem.F.slot_list_append PySem.F.type_list_append mt_append sf_append (ge_var (pv 3)) (ga_cons (ge_tup (ga_cons (ge_lam (n := 1004) ⟨Y.b66, rfl, (List.mem_of_getElem? (i := 0) rfl), fun p hp e => X.tu p hp _ (List.mem_of_getElem? (i := 0) rfl) e, by decide, rfl, rfl, (free_frame (by decide +kernel))⟩ rfl) (ga_cons (ge_var (pv 10)) (ga_cons (ge_listRg1 rfl (by rfl) X.b_list (by rfl) X.b_range (ge_var (pv 5))) ga_nil)))) ga_nil)))
    (gss_cons (gs_set (i := 11) sc66.nd rfl (Or.inl rfl) (ge_lam (n := 1005) ⟨Y.b66, rfl, (List.mem_of_getElem? (i := 0) rfl), fun p hp e => X.tu p hp _ (List.mem_of_getElem? (i := 0) rfl) e, by decide, rfl, rfl, (free_frame (by decide +kernel))⟩ rfl))
    (gss_cons (gs_drop (ge_m rfl PySem.F.slot_list_append PySem.F.type_list_append mt_append sf_append (ge_var (pv 4)) (ga_cons (ge_tup (ga_cons (ge_lam (n := 1006) ⟨Y.b66, rfl, (List.mem_of_getElem? (i := 0) rfl), fun p hp e => X.tu p hp _ (List.mem_of_getElem? (i := 0) rfl) e, by decide, rfl, rfl, (free_frame (by decide +kernel))⟩ rfl) (ga_cons (ge_var (pv 11)) (ga_cons (ge_lst (ga_cons (ge_var (pv 6)) (ga_cons (ge_var (pv 10)) ga_nil))) (ga_cons (ge_lst (ga_cons (ge_var (pv 6)) (ga_cons (ge_op (op_or op_mulB op_rep) sf_mul (ge_lst (ga_cons ge_int ga_nil)) (ge_var (pv 5))) ga_nil))) ga_nil))))) ga_nil)))
    (gss_cons (gs_drop (ge_m rfl PySem.F.slot_list_append PySem.F.type_list_append mt_append sf_append (ge_var (pv 4)) (ga_cons (ge_tup (ga_cons (ge_lam (n := 1007) ⟨Y.b66, rfl, (List.mem_of_getElem? (i := 0) rfl), fun p hp e => X.tu p hp _ (List.mem_of_getElem? (i := 0) rfl) e, by decide, rfl, rfl, (free_frame (by decide +kernel))⟩ rfl) (ga_cons (ge_var (pv 11)) (ga_cons (ge_lst (ga_cons (ge_var (pv 6)) (ga_cons (ge_listRg1 rfl (by rfl) X.b_list (by rfl) X.b_range (ge_var (pv 5))) ga_nil))) (ga_cons (ge_lst (ga_cons (ge_var (pv 7)) (ga_cons (ge_op (op_or op_mulB op_rep) sf_mul (ge_lst (ga_cons (ge_un un_neg sf_neg ge_int) ga_nil)) (ge_var (pv 5))) ga_nil))) ga_nil))))) ga_nil)))
    (gss_cons (gs_par (i := 12) (j := 13) rfl sc66.nd rfl rfl (by decide) rfl rfl (ga_cons (ge_lst (ga_cons (ge_tup (ga_cons ge_int (ga_cons ge_int ga_nil))) (ga_cons (ge_tup (ga_cons ge_int (ga_cons ge_int ga_nil))) (ga_cons (ge_tup (ga_cons ge_int (ga_cons ge_int ga_nil))) (ga_cons (ge_tup (ga_cons ge_int (ga_cons ge_int ga_nil))) (ga_cons (ge_tup (ga_cons ge_int (ga_cons ge_int ga_nil))) (ga_cons (ge_tup (ga_cons ge_int (ga_cons ge_int ga_nil))) ga_nil))))))) (ga_cons (ge_lc (own := [("_law_at", 14)]) (t := (.nm 14)) (by decide) rfl sc66.nd (gi_rg1 (by rfl) X.b_range ge_int) (blkOk_by (N := N66) (sc := (defScope s66)) (by decide +kernel)) (fun _ _ _ _ _ => (pg_name (i := 14) sc66.nd rfl (Or.inl rfl))) (fun _ _ _ _ _ => gts_nil) (fun _ _ _ _ _ => (ge_tup (ga_cons (ge_var (pv 14)) (ga_cons (ge_op (op_or op_add op_cat) sf_add (ge_var (pv 14)) ge_int) ga_nil))))) ga_nil)) (by rfl))
    (gss_cons (gs_drop (ge_m rfl PySem.F.slot_list_append PySem.F.type_list_append mt_append sf_append (ge_var (pv 4)) (ga_cons (ge_tup (ga_cons (ge_lam (n := 1008) ⟨Y.b66, rfl, (List.mem_of_getElem? (i := 0) rfl), fun p hp e => X.tu p hp _ (List.mem_of_getElem? (i := 0) rfl) e, by decide, rfl, rfl, (free_frame (by decide +kernel))⟩ rfl) (ga_cons (ge_lam (n := 1009) ⟨Y.b66, rfl, (List.mem_of_getElem? (i := 0) rfl), fun p hp e => X.tu p hp _ (List.mem_of_getElem? (i := 0) rfl) e, by decide, rfl, rfl, (free_frame (by decide +kernel))⟩ rfl) (ga_cons (ge_var (pv 12)) (ga_cons (ge_var (pv 13)) ga_nil))))) ga_nil)))
    (gss_cons (gs_if (gt_not (gt_val (ge_callB (cr_all rfl) sf_all (by rfl) X.b_all (by decide +kernel) (ga_cons (ge_lcG (own := [("_law_ask", 15), ("_law_one", 16), ("_law_other", 17)]) (t := (.tp [(.nm 15), (.nm 16), (.nm 17)])) src (hcl_enL hL) (by decide) rfl sc66.nd (gi_it rfl (ge_var (pv 3))) (blkOk_by (N := N66) (sc := (defScope s66)) (by decide +kernel)) (fun _ _ _ _ _ => (pg_tup rfl (pgs_cons (pg_name (i := 15) sc66.nd rfl (Or.inl rfl)) (pgs_cons (pg_name (i := 16) sc66.nd rfl (Or.inl rfl)) (pgs_cons (pg_name (i := 17) sc66.nd rfl (Or.inl rfl)) pgs_nil))))) (fun _ _ _ _ _ => gts_nil) (fun F e s2 H2 fp hcap => have IH0 := IH (clM (inL [1000, 1001, 1002, 1003, 1004, 1005, 1006, 1007, 1008, 1009]) (cellsFrom (s.heap.objs.size + 1) (defScope s66).names []) cl) (F ++ fx); show PE _ _ (tE (TU K Cs fs pp (clM (inL [1000, 1001, 1002, 1003, 1004, 1005, 1006, 1007, 1008, 1009]) (cellsFrom (s.heap.objs.size + 1) (defScope s66).names []) cl) (F ++ fx)) EF _) from (ge_callG (fun F2 e2 => (IH (clM (inL [1000, 1001, 1002, 1003, 1004, 1005, 1006, 1007, 1008, 1009]) (cellsFrom (s.heap.objs.size + 1) (defScope s66).names []) cl) (F2 ++ (F ++ fx))).g63 e2) (src_block hcap) (argN_cons (argN_cons (argN_cons argN_nil))) hr (by rfl) X.d63.g X.d63.F.kp X.d63.b (ga_cons (ge_var (pv 15)) (ga_cons (ge_var (pv 16)) (ga_cons (ge_var (pv 17)) ga_nil)))))) ga_nil))))
    (gss_one (gs_ret ge_bl))
    gss_nil)
    (gss_one (gs_ret (ge_callB (cr_all rfl) sf_all (by rfl) X.b_all (by decide +kernel) (ga_cons (ge_lcG (own := [("_law_ask", 15), ("_law_holds", 18), ("_law_one", 16), ("_law_other", 17)]) (t := (.tp [(.nm 15), (.nm 18), (.nm 16), (.nm 17)])) src (hcl_enL hL) (by decide) rfl sc66.nd (gi_it rfl (ge_var (pv 4))) (blkOk_by (N := N66) (sc := (defScope s66)) (by decide +kernel)) (fun _ _ _ _ _ => (pg_tup rfl (pgs_cons (pg_name (i := 15) sc66.nd rfl (Or.inl rfl)) (pgs_cons (pg_name (i := 18) sc66.nd rfl (Or.inl rfl)) (pgs_cons (pg_name (i := 16) sc66.nd rfl (Or.inl rfl)) (pgs_cons (pg_name (i := 17) sc66.nd rfl (Or.inl rfl)) pgs_nil)))))) (fun _ _ _ _ _ => gts_nil) (fun F e s2 H2 fp hcap => have IH0 := IH (clM (inL [1000, 1001, 1002, 1003, 1004, 1005, 1006, 1007, 1008, 1009]) (cellsFrom (s.heap.objs.size + 1) (defScope s66).names []) cl) (F ++ fx); show PE _ _ (tE (TU K Cs fs pp (clM (inL [1000, 1001, 1002, 1003, 1004, 1005, 1006, 1007, 1008, 1009]) (cellsFrom (s.heap.objs.size + 1) (defScope s66).names []) cl) (F ++ fx)) EF _) from (ge_callG (fun F2 e2 => (IH (clM (inL [1000, 1001, 1002, 1003, 1004, 1005, 1006, 1007, 1008, 1009]) (cellsFrom (s.heap.objs.size + 1) (defScope s66).names []) cl) (F2 ++ (F ++ fx))).g65 e2) (src_block hcap) (argN_cons (argN_cons (argN_cons (argN_cons argN_nil)))) hr (by rfl) X.d65.g X.d65.F.kp X.d65.b (ga_cons (ge_var (pv 15)) (ga_cons (ge_var (pv 18)) (ga_cons (ge_var (pv 16)) (ga_cons (ge_var (pv 17)) ga_nil))))))) ga_nil)))))))))))))))))))))
theorem lv (X : Fx K mg Cs fs cc pp fd) (Y : Tx base mg cc pp) : ∀ k cl fx, Lv P w K mg base Cs fs cc pp fd k cl fx
  | 0, cl, fx => ⟨fn_zero0 fun _ _ => rfl, fn_zero0 fun _ _ => rfl, fn_zero0 fun _ _ => rfl, fn_zero0 fun _ _ => rfl, fn_zero0 fun _ _ => rfl, fn_zero0 fun _ _ => rfl, fn_zero0 fun _ _ => rfl, fn_zero0 fun _ _ => rfl, fn_zero0 fun _ _ => rfl, fn_zero0 fun _ _ => rfl, fn_zero0 fun _ _ => rfl, fn_zero0 fun _ _ => rfl, .inl fun _ _ => rfl, fn_zero0 fun _ _ => rfl, .inl fun _ _ => rfl, fn_zero0 fun _ _ => rfl, .inl fun _ _ => rfl, fn_zero0 fun _ _ => rfl, fn_zero0 fun _ _ => rfl, .inl fun _ _ => rfl, fn_zero0 fun _ _ => rfl, .inl fun _ _ => rfl, fn_zero0 fun _ _ => rfl, fn_zero0 fun _ _ => rfl, fn_zero0 fun _ _ => rfl, fn_zero0 fun _ _ => rfl, fn_zero0 fun _ _ => rfl, fn_zero0 fun _ _ => rfl, fn_zero0 fun _ _ => rfl, fn_zero0 fun _ _ => rfl, fn_zero0 fun _ _ => rfl, fn_zero0 fun _ _ => rfl, fn_zero0 fun _ _ => rfl, fn_zero0 fun _ _ => rfl, fn_zero0 fun _ _ => rfl, fn_zero0 fun _ _ => rfl, fn_zero0 fun _ _ => rfl, fun e => gok_zero fun _ _ => rfl, fn_zero0 fun _ _ => rfl, fun e => gok_zero fun _ _ => rfl, fun _ => fn_zero0 fun _ _ => rfl, lok_zero0 fun _ _ => rfl, lok_zero0 fun _ _ => rfl, lok_zero0 fun _ _ => rfl, lok_zero0 fun _ _ => rfl, lok_zero0 fun _ _ => rfl, lok_zero0 fun _ _ => rfl, lok_zero0 fun _ _ => rfl, lok_zero0 fun _ _ => rfl, lok_zero0 fun _ _ => rfl, lok_zero0 fun _ _ => rfl⟩
  | 1, cl, fx => ⟨ok0 X (lv X Y 0) cl fx, ok1 X (lv X Y 0) cl fx, ok2 X (lv X Y 0) cl fx, ok3 X (lv X Y 0) cl fx, ok4 X (lv X Y 0) cl fx, ok5 X (lv X Y 0) cl fx, ok6 X (lv X Y 0) cl fx, ok7 X (lv X Y 0) cl fx, ok8 X (lv X Y 0) cl fx, ok9 X (lv X Y 0) cl fx, ok10 X (lv X Y 0) cl fx, ok12 X (lv X Y 0) cl fx, .inl fun _ _ => rfl, ok14 X (lv X Y 0) cl fx, .inl fun _ _ => rfl, ok16 X (lv X Y 0) cl fx, .inl fun _ _ => rfl, ok18 X (lv X Y 0) cl fx, ok11 X (lv X Y 0) cl fx, .inl fun _ _ => rfl, ok20 X (lv X Y 0) cl fx, .inl fun _ _ => rfl, ok22 X (lv X Y 0) cl fx, ok23 X (lv X Y 0) cl fx, ok24 X (lv X Y 0) cl fx, ok25 X (lv X Y 0) cl fx, ok26 X (lv X Y 0) cl fx, ok27 X (lv X Y 0) cl fx, ok28 X (lv X Y 0) cl fx, ok29 X (lv X Y 0) cl fx, ok30 X (lv X Y 0) cl fx, ok31 X (lv X Y 0) cl fx, ok32 X (lv X Y 0) cl fx, ok33 X (lv X Y 0) cl fx, ok60 X (lv X Y 0) cl fx, ok61 X (lv X Y 0) cl fx, ok62 X (lv X Y 0) cl fx, ok63 X (lv X Y 0) cl fx, ok64 X (lv X Y 0) cl fx, ok65 X (lv X Y 0) cl fx, ok66 X Y (lv X Y 0) cl fx, lo1000 X (lv X Y 0) cl fx, lo1001 X (lv X Y 0) cl fx, lo1002 X (lv X Y 0) cl fx, lo1003 X (lv X Y 0) cl fx, lo1004 X (lv X Y 0) cl fx, lo1005 X (lv X Y 0) cl fx, lo1006 X (lv X Y 0) cl fx, lo1007 X (lv X Y 0) cl fx, lo1008 X (lv X Y 0) cl fx, lo1009 X (lv X Y 0) cl fx⟩
  | k + 2, cl, fx => ⟨ok0 X (lv X Y (k + 1)) cl fx, ok1 X (lv X Y (k + 1)) cl fx, ok2 X (lv X Y (k + 1)) cl fx, ok3 X (lv X Y (k + 1)) cl fx, ok4 X (lv X Y (k + 1)) cl fx, ok5 X (lv X Y (k + 1)) cl fx, ok6 X (lv X Y (k + 1)) cl fx, ok7 X (lv X Y (k + 1)) cl fx, ok8 X (lv X Y (k + 1)) cl fx, ok9 X (lv X Y (k + 1)) cl fx, ok10 X (lv X Y (k + 1)) cl fx, ok12 X (lv X Y (k + 1)) cl fx, .inr ⟨1, by omega, ok13 X cl fx⟩, ok14 X (lv X Y (k + 1)) cl fx, .inr ⟨1, by omega, ok15 X cl fx⟩, ok16 X (lv X Y (k + 1)) cl fx, .inr ⟨1, by omega, ok17 X cl fx⟩, ok18 X (lv X Y (k + 1)) cl fx, ok11 X (lv X Y (k + 1)) cl fx, .inr ⟨1, by omega, ok19 X cl fx⟩, ok20 X (lv X Y (k + 1)) cl fx, .inr ⟨1, by omega, ok21 X cl fx⟩, ok22 X (lv X Y (k + 1)) cl fx, ok23 X (lv X Y (k + 1)) cl fx, ok24 X (lv X Y (k + 1)) cl fx, ok25 X (lv X Y (k + 1)) cl fx, ok26 X (lv X Y (k + 1)) cl fx, ok27 X (lv X Y (k + 1)) cl fx, ok28 X (lv X Y (k + 1)) cl fx, ok29 X (lv X Y (k + 1)) cl fx, ok30 X (lv X Y (k + 1)) cl fx, ok31 X (lv X Y (k + 1)) cl fx, ok32 X (lv X Y (k + 1)) cl fx, ok33 X (lv X Y (k + 1)) cl fx, ok60 X (lv X Y (k + 1)) cl fx, ok61 X (lv X Y (k + 1)) cl fx, ok62 X (lv X Y (k + 1)) cl fx, ok63 X (lv X Y (k + 1)) cl fx, ok64 X (lv X Y (k + 1)) cl fx, ok65 X (lv X Y (k + 1)) cl fx, ok66 X Y (lv X Y (k + 1)) cl fx, lo1000 X (lv X Y (k + 1)) cl fx, lo1001 X (lv X Y (k + 1)) cl fx, lo1002 X (lv X Y (k + 1)) cl fx, lo1003 X (lv X Y (k + 1)) cl fx, lo1004 X (lv X Y (k + 1)) cl fx, lo1005 X (lv X Y (k + 1)) cl fx, lo1006 X (lv X Y (k + 1)) cl fx, lo1007 X (lv X Y (k + 1)) cl fx, lo1008 X (lv X Y (k + 1)) cl fx, lo1009 X (lv X Y (k + 1)) cl fx⟩
end
end G

set_option linter.all false
set_option autoImplicit false
namespace M
/-- what a spot has of low numbers, of high ones, of differences -/
def gLow (i : Nat) (c : Int) : Int := if i % 2 = 0 then 1 else c
def gHigh (i : Nat) (c : Int) : Int := if i % 2 = 0 then c else 1
def gRoad (_ : Nat) (c : Int) : Int := c + 1
def tot (g : Nat → Int → Int) : Nat → List Int → Int
  | _, [] => 0
  | k, x :: r => g k x + tot g (k + 1) r
def find (g : Nat → Int → Int) : Nat → List Int → Int → Option (Nat × Int)
  | _, [], _ => none
  | k, x :: r, left => if left < g k x then some (k, left) else find g (k + 1) r (left - g k x)
theorem find_some (g : Nat → Int → Int) : ∀ (xs : List Int) (k : Nat) (left : Int), 0 ≤ left → left < tot g k xs →
    ∃ j c r, find g k xs left = some (k + j, r) ∧ xs[j]? = some c ∧ left = tot g k (xs.take j) + r ∧ 0 ≤ r ∧ r < g (k + j) c
  | [], k, left, h0, h1 => by simp [tot] at h1; omega
  | x :: xs, k, left, h0, h1 => by
    unfold find
    split
    · rename_i h
      exact ⟨0, x, left, rfl, rfl, by simp [tot], h0, h⟩
    · rename_i h
      obtain ⟨j, c, r, e1, e2, e3, e4, e5⟩ := find_some g xs (k + 1) (left - g k x) (by omega) (by simp [tot] at h1; omega)
      refine ⟨j + 1, c, r, ?_, by simpa using e2, ?_, e4, ?_⟩
      · rw [e1]; simp; omega
      · simp [tot]; omega
      · rw [show k + (j + 1) = k + 1 + j by omega]; exact e5
theorem tot_nonneg (g : Nat → Int → Int) (hg : ∀ i c, 0 ≤ c → 0 ≤ g i c) : ∀ (xs : List Int) (k : Nat), (∀ x ∈ xs, 0 ≤ x) → 0 ≤ tot g k xs
  | [], _, _ => by simp [tot]
  | x :: xs, k, h => by
    have h1 := hg k x (h x (by simp))
    have h2 := tot_nonneg g hg xs (k + 1) fun y hy => h y (by simp [hy])
    simp [tot]; omega
theorem find_at (g : Nat → Int → Int) (hg : ∀ i c, 0 ≤ c → 0 ≤ g i c) : ∀ (xs : List Int) (k j : Nat) (c r : Int), (∀ x ∈ xs, 0 ≤ x) → xs[j]? = some c → 0 ≤ r → r < g (k + j) c → find g k xs (tot g k (xs.take j) + r) = some (k + j, r)
  | [], _, _, _, _, _, h, _, _ => by simp at h
  | x :: xs, k, 0, c, r, hp, h, h0, h1 => by
    simp at h; subst h
    unfold find
    simp [tot] at h1 ⊢
    omega
  | x :: xs, k, j + 1, c, r, hp, h, h0, h1 => by
    have hx := hg k x (hp x (by simp))
    have ht := tot_nonneg g hg (xs.take j) (k + 1) fun y hy => hp y (by simp [List.mem_of_mem_take hy])
    have ih := find_at g hg xs (k + 1) j c r (fun y hy => hp y (by simp [hy])) (by simpa using h) h0 (by rw [show k + 1 + j = k + (j + 1) by omega]; exact h1)
    unfold find
    simp only [List.take_succ_cons, tot]
    rw [if_neg (by omega)]
    rw [show g k x + tot g (k + 1) (List.take j xs) + r - g k x = tot g (k + 1) (List.take j xs) + r by omega, ih]
    simp; omega
theorem tot_split (g : Nat → Int → Int) (hg : ∀ i c, 0 ≤ c → 0 ≤ g i c) : ∀ (xs : List Int) (k j : Nat) (c : Int), (∀ x ∈ xs, 0 ≤ x) → xs[j]? = some c → tot g k (xs.take j) + g (k + j) c ≤ tot g k xs
  | [], _, _, _, _, h => by simp at h
  | x :: xs, k, 0, c, hp, h => by
    simp at h; subst h
    have := tot_nonneg g hg xs (k + 1) fun y hy => hp y (by simp [hy])
    simp [tot]; omega
  | x :: xs, k, j + 1, c, hp, h => by
    have := tot_split g hg xs (k + 1) j c (fun y hy => hp y (by simp [hy])) (by simpa using h)
    rw [show k + 1 + j = k + (j + 1) by omega] at this
    simp [tot]; omega
theorem tot_take_succ (g : Nat → Int → Int) : ∀ (xs : List Int) (k j : Nat) (c : Int), xs[j]? = some c → tot g k (xs.take (j + 1)) = tot g k (xs.take j) + g (k + j) c
  | [], _, _, _, h => by simp at h
  | x :: xs, k, 0, c, h => by simp at h; subst h; simp [tot]
  | x :: xs, k, j + 1, c, h => by
    have := tot_take_succ g xs (k + 1) j c (by simpa using h)
    rw [show k + 1 + j = k + (j + 1) by omega] at this
    rw [List.take_succ_cons, List.take_succ_cons, tot, tot, this]; omega
theorem tot_lh : ∀ (xs : List Int) (k : Nat), tot gLow k xs + tot gHigh k xs = tot gRoad k xs
  | [], _ => by simp [tot]
  | x :: xs, k => by
    have := tot_lh xs (k + 1)
    simp only [tot]
    have e : gLow k x + gHigh k x = gRoad k x := by unfold gLow gHigh gRoad; split <;> omega
    omega
theorem tot_road : ∀ (xs : List Int) (k : Nat), tot gRoad k xs = xs.length + xs.sum
  | [], _ => by simp [tot]
  | x :: xs, k => by
    have := tot_road xs (k + 1)
    simp only [tot, List.length_cons, List.sum_cons, gRoad]; omega
def many (xs : List Int) : Int := xs.length + xs.sum
def mx (p : Int) : Int := if p - 1 > 0 then p - 1 else 0
def numAt (xs : List Int) (s : Nat) (p : Int) : Int :=
  if ((s % 2 = 0) ↔ (p = 0)) then tot gLow 0 (xs.take s) + mx p else many xs - 1 - tot gHigh 0 (xs.take s) - mx p
def side (xs : List Int) (m : Int) : Int := if m < tot gLow 0 xs then 0 else 1
def gS (sd : Int) (i : Nat) (c : Int) : Int := if ((i : Int) % 2 = sd) then 1 else c
def houseOf (xs : List Int) (m : Int) : Option (Nat × Int) :=
  (find (gS (side xs m)) 0 xs (if side xs m = 0 then m else many xs - 1 - m)).map fun q => (q.1, if ((q.1 : Int) % 2 = side xs m) then 0 else q.2 + 1)
theorem gS0 : gS 0 = gLow := by funext i c; unfold gS gLow; split <;> split <;> omega
theorem gS1 : gS 1 = gHigh := by funext i c; unfold gS gHigh; split <;> split <;> omega
theorem gLow_nn : ∀ i c, 0 ≤ c → 0 ≤ gLow i c := fun i c h => by unfold gLow; split <;> omega
theorem gHigh_nn : ∀ i c, 0 ≤ c → 0 ≤ gHigh i c := fun i c h => by unfold gHigh; split <;> omega
theorem gRoad_nn : ∀ i c, 0 ≤ c → 0 ≤ gRoad i c := fun i c h => by unfold gRoad; omega
/-- a house of a street -/
def IsH (xs : List Int) (s : Nat) (p : Int) : Prop := ∃ c, xs[s]? = some c ∧ 0 ≤ p ∧ p ≤ c
theorem num_ok {xs : List Int} (hp : ∀ x ∈ xs, 0 ≤ x) {s : Nat} {p : Int} (h : IsH xs s p) : 0 ≤ numAt xs s p ∧ numAt xs s p < many xs ∧ houseOf xs (numAt xs s p) = some (s, p) := by
  obtain ⟨c, hc, h0, h1⟩ := h
  have l1 := tot_split gLow gLow_nn xs 0 s c hp hc
  have l2 := tot_split gHigh gHigh_nn xs 0 s c hp hc
  have l3 := tot_lh xs 0
  have l4 := tot_road xs 0
  have l5 := tot_nonneg gLow gLow_nn (xs.take s) 0 fun y hy => hp y (List.mem_of_mem_take hy)
  have l6 := tot_nonneg gHigh gHigh_nn (xs.take s) 0 fun y hy => hp y (List.mem_of_mem_take hy)
  have hm : many xs = tot gLow 0 xs + tot gHigh 0 xs := by unfold many; omega
  rw [Nat.zero_add] at l1 l2
  have hmx0 : 0 ≤ mx p := by unfold mx; split <;> omega
  unfold numAt
  split
  · rename_i hb
    have hr : mx p < gLow s c := by
      unfold gLow mx
      by_cases hs : s % 2 = 0
      · have : p = 0 := hb.mp hs
        rw [if_pos hs]; split <;> omega
      · have : p ≠ 0 := fun z => hs (hb.mpr z)
        rw [if_neg hs]; split <;> omega
    have hf := find_at gLow gLow_nn xs 0 s c (mx p) hp hc hmx0 (by rw [Nat.zero_add]; exact hr)
    have hlt : tot gLow 0 (xs.take s) + mx p < tot gLow 0 xs := by omega
    have hs0 : side xs (tot gLow 0 (xs.take s) + mx p) = 0 := by unfold side; rw [if_pos hlt]
    have hh := tot_nonneg gHigh gHigh_nn xs 0 hp
    refine ⟨by omega, by omega, ?_⟩
    unfold houseOf
    rw [hs0, gS0, if_pos rfl, hf]
    simp only [Option.map_some, Nat.zero_add, Option.some.injEq, Prod.mk.injEq, true_and]
    by_cases hs : s % 2 = 0
    · rw [if_pos (by omega)]; exact (hb.mp hs).symm
    · have : p ≠ 0 := fun z => hs (hb.mpr z)
      rw [if_neg (by omega)]; unfold mx; split <;> omega
  · rename_i hb
    have hr : mx p < gHigh s c := by
      unfold gHigh mx
      by_cases hs : s % 2 = 0
      · have : p ≠ 0 := fun z => hb ⟨fun _ => z, fun _ => hs⟩
        rw [if_pos hs]; split <;> omega
      · have : p = 0 := by
          apply Classical.byContradiction; intro z
          exact hb ⟨fun q => absurd q hs, fun q => absurd q z⟩
        rw [if_neg hs]; split <;> omega
    have hf := find_at gHigh gHigh_nn xs 0 s c (mx p) hp hc hmx0 (by rw [Nat.zero_add]; exact hr)
    have hge : ¬ (many xs - 1 - tot gHigh 0 (xs.take s) - mx p < tot gLow 0 xs) := by omega
    have hs0 : side xs (many xs - 1 - tot gHigh 0 (xs.take s) - mx p) = 1 := by unfold side; rw [if_neg hge]
    have hh := tot_nonneg gLow gLow_nn xs 0 hp
    refine ⟨by omega, by omega, ?_⟩
    unfold houseOf
    rw [hs0, gS1, if_neg (by decide), show many xs - 1 - (many xs - 1 - tot gHigh 0 (List.take s xs) - mx p) = tot gHigh 0 (List.take s xs) + mx p by omega, hf]
    simp only [Option.map_some, Nat.zero_add, Option.some.injEq, Prod.mk.injEq, true_and]
    by_cases hs : s % 2 = 0
    · have : p ≠ 0 := fun z => hb ⟨fun _ => z, fun _ => hs⟩
      rw [if_neg (by omega)]; unfold mx; split <;> omega
    · have : p = 0 := by
        apply Classical.byContradiction; intro z
        exact hb ⟨fun q => absurd q hs, fun q => absurd q z⟩
      rw [if_pos (by omega)]; exact this.symm
theorem house_ok {xs : List Int} (hp : ∀ x ∈ xs, 0 ≤ x) {m : Int} (h0 : 0 ≤ m) (h1 : m < many xs) : ∃ s p, houseOf xs m = some (s, p) ∧ IsH xs s p ∧ numAt xs s p = m := by
  have l3 := tot_lh xs 0
  have l4 := tot_road xs 0
  have hm : many xs = tot gLow 0 xs + tot gHigh 0 xs := by unfold many; omega
  unfold houseOf
  by_cases hl : m < tot gLow 0 xs
  · have hs : side xs m = 0 := by unfold side; rw [if_pos hl]
    obtain ⟨j, c, r, e1, e2, e3, e4, e5⟩ := find_some gLow xs 0 m h0 hl
    rw [hs, gS0, if_pos rfl, e1]
    simp only [Nat.zero_add] at e5 ⊢
    unfold gLow at e5
    by_cases hj : j % 2 = 0
    · refine ⟨j, 0, by simp; omega, ⟨c, e2, by omega, hp c (List.mem_of_getElem? e2)⟩, ?_⟩
      rw [if_pos hj] at e5
      unfold numAt mx
      rw [if_pos (by simp [hj])]; simp; omega
    · rw [if_neg hj] at e5
      refine ⟨j, r + 1, by simp; omega, ⟨c, e2, by omega, by omega⟩, ?_⟩
      unfold numAt mx
      rw [if_pos (by constructor <;> intro z <;> omega)]; split <;> omega
  · have hs : side xs m = 1 := by unfold side; rw [if_neg hl]
    obtain ⟨j, c, r, e1, e2, e3, e4, e5⟩ := find_some gHigh xs 0 (many xs - 1 - m) (by omega) (by omega)
    rw [hs, gS1, if_neg (by decide), e1]
    simp only [Nat.zero_add] at e5 ⊢
    unfold gHigh at e5
    by_cases hj : j % 2 = 0
    · rw [if_pos hj] at e5
      refine ⟨j, r + 1, by simp; omega, ⟨c, e2, by omega, by omega⟩, ?_⟩
      unfold numAt mx
      rw [if_neg (by intro z; have := z.mp hj; omega)]; split <;> omega
    · rw [if_neg hj] at e5
      refine ⟨j, 0, by simp; omega, ⟨c, e2, by omega, hp c (List.mem_of_getElem? e2)⟩, ?_⟩
      unfold numAt mx
      rw [if_neg (by intro z; exact hj (z.mpr rfl))]; simp; omega
/-- roads -/
def roadOf (xs : List Int) (d : Int) : Option ((Nat × Int) × (Nat × Int)) :=
  (find gRoad 0 xs (many xs - 1 - d)).map fun q => ((q.1, 0), if q.2 < xs.getD q.1 0 then (q.1, q.2 + 1) else (q.1 + 1, 0))
def IsR (xs : List Int) (a b : Nat × Int) : Prop := a.2 = 0 ∧ IsH xs a.1 0 ∧ ((b = (a.1 + 1, 0) ∧ IsH xs b.1 0) ∨ (b.1 = a.1 ∧ 0 < b.2 ∧ IsH xs b.1 b.2))
def gap (xs : List Int) (a b : Nat × Int) : Int := numAt xs a.1 a.2 - numAt xs b.1 b.2
def iabs (i : Int) : Int := if i < 0 then -i else i
theorem er_ (i : Nat) (c : Int) : gRoad i c = c + 1 := rfl
theorem num_e0 {xs : List Int} {s : Nat} (h : s % 2 = 0) : numAt xs s 0 = tot gLow 0 (xs.take s) := by
  unfold numAt mx
  rw [if_pos (by simp [h])]; simp
theorem num_ep {xs : List Int} {s : Nat} {p : Int} (h : s % 2 = 0) (hp : 0 < p) : numAt xs s p = many xs - 1 - tot gHigh 0 (xs.take s) - (p - 1) := by
  unfold numAt mx
  rw [if_neg (by intro z; have := z.mp h; omega)]; split <;> omega
theorem num_o0 {xs : List Int} {s : Nat} (h : ¬ s % 2 = 0) : numAt xs s 0 = many xs - 1 - tot gHigh 0 (xs.take s) := by
  unfold numAt mx
  rw [if_neg (by intro z; exact h (z.mpr rfl))]; simp
theorem num_op {xs : List Int} {s : Nat} {p : Int} (h : ¬ s % 2 = 0) (hp : 0 < p) : numAt xs s p = tot gLow 0 (xs.take s) + (p - 1) := by
  unfold numAt mx
  rw [if_pos (by constructor <;> intro z <;> omega)]; split <;> omega
/-- the difference of a road by its place -/
theorem gap_side {xs : List Int} (hp : ∀ x ∈ xs, 0 ≤ x) {s : Nat} {p : Int} (h : IsH xs s p) (h0 : 0 < p) : iabs (numAt xs s 0 - numAt xs s p) = many xs - 1 - (tot gRoad 0 (xs.take s) + (p - 1)) := by
  obtain ⟨c, hc, _, h1⟩ := h
  have l1 := tot_split gRoad gRoad_nn xs 0 s c hp hc
  have l3 := tot_lh (xs.take s) 0
  have l4 := tot_road xs 0
  have hm : many xs = tot gRoad 0 xs := by unfold many; omega
  rw [Nat.zero_add, er_] at l1
  unfold iabs
  by_cases hs : s % 2 = 0
  · rw [num_e0 hs, num_ep hs h0]; split <;> omega
  · rw [num_o0 hs, num_op hs h0]; split <;> omega
theorem gap_next {xs : List Int} (hp : ∀ x ∈ xs, 0 ≤ x) {s : Nat} {c : Int} (hc : xs[s]? = some c) (h2 : IsH xs (s + 1) 0) : iabs (numAt xs s 0 - numAt xs (s + 1) 0) = many xs - 1 - (tot gRoad 0 (xs.take s) + c) := by
  obtain ⟨c2, hc2, _, h1⟩ := h2
  have l1 := tot_split gRoad gRoad_nn xs 0 (s + 1) c2 hp hc2
  have l3 := tot_lh (xs.take s) 0
  have l4 := tot_road xs 0
  have hm : many xs = tot gRoad 0 xs := by unfold many; omega
  have l5 := tot_take_succ gRoad xs 0 s c hc
  have l6 := tot_take_succ gLow xs 0 s c hc
  have l7 := tot_take_succ gHigh xs 0 s c hc
  have hcn := hp c (List.mem_of_getElem? hc)
  rw [Nat.zero_add, er_] at l1 l5
  rw [Nat.zero_add] at l6 l7
  unfold iabs
  by_cases hs : s % 2 = 0
  · rw [show gLow s c = 1 by unfold gLow; rw [if_pos hs]] at l6
    rw [show gHigh s c = c by unfold gHigh; rw [if_pos hs]] at l7
    rw [num_e0 hs, num_o0 (by omega)]; split <;> omega
  · rw [show gLow s c = c by unfold gLow; rw [if_neg hs]] at l6
    rw [show gHigh s c = 1 by unfold gHigh; rw [if_neg hs]] at l7
    rw [num_o0 hs, num_e0 (by omega)]; split <;> omega
theorem road_ok {xs : List Int} (hp : ∀ x ∈ xs, 0 ≤ x) {d : Int} (h0 : 0 < d) (h1 : d < many xs) : ∃ a b, roadOf xs d = some (a, b) ∧ IsR xs a b ∧ iabs (gap xs a b) = d := by
  have l4 := tot_road xs 0
  have hm : many xs = tot gRoad 0 xs := by unfold many; omega
  obtain ⟨j, c, r, e1, e2, e3, e4, e5⟩ := find_some gRoad xs 0 (many xs - 1 - d) (by omega) (by omega)
  unfold roadOf
  rw [e1]
  simp only [Nat.zero_add, gRoad] at e5 ⊢
  have hg : xs.getD j 0 = c := by rw [List.getD_eq_getElem?_getD, e2]; rfl
  have hc0 := hp c (List.mem_of_getElem? e2)
  simp only [Option.map_some, hg]
  by_cases hr : r < c
  · rw [if_pos hr]
    have hh : IsH xs j (r + 1) := ⟨c, e2, by omega, by omega⟩
    refine ⟨_, _, rfl, ⟨rfl, ⟨c, e2, by omega, by simpa using hc0⟩, .inr ⟨rfl, by simp; omega, hh⟩⟩, ?_⟩
    have := gap_side hp hh (by omega)
    unfold gap; simp only; rw [this]; omega
  · rw [if_neg hr]
    have hj : ∃ c2, xs[j + 1]? = some c2 := by
      cases hq : xs[j + 1]? with
      | some c2 => exact ⟨c2, rfl⟩
      | none =>
        exfalso
        have hlen := List.getElem?_eq_none_iff.mp hq
        have := tot_take_succ gRoad xs 0 j c e2
        rw [List.take_of_length_le hlen, Nat.zero_add, er_] at this
        omega
    obtain ⟨c2, hc2⟩ := hj
    have hh : IsH xs (j + 1) 0 := ⟨c2, hc2, by omega, hp c2 (List.mem_of_getElem? hc2)⟩
    refine ⟨_, _, rfl, ⟨rfl, ⟨c, e2, by omega, by simpa using hc0⟩, .inl ⟨rfl, hh⟩⟩, ?_⟩
    have := gap_next hp e2 hh
    unfold gap; simp only; rw [this]; omega
theorem isR_ok {xs : List Int} (hp : ∀ x ∈ xs, 0 ≤ x) {a b : Nat × Int} (h : IsR xs a b) : 0 < iabs (gap xs a b) ∧ iabs (gap xs a b) < many xs ∧ roadOf xs (iabs (gap xs a b)) = some (a, b) := by
  obtain ⟨s, p⟩ := a
  obtain ⟨h1, ⟨c, hc, _, h2⟩, h3⟩ := h
  simp only at h1 hc h2 h3
  subst h1
  have l4 := tot_road xs 0
  have hm : many xs = tot gRoad 0 xs := by unfold many; omega
  have l1 := tot_split gRoad gRoad_nn xs 0 s c hp hc
  have l0 := tot_nonneg gRoad gRoad_nn (xs.take s) 0 fun y hy => hp y (List.mem_of_mem_take hy)
  rw [Nat.zero_add] at l1
  have hg : xs.getD s 0 = c := by rw [List.getD_eq_getElem?_getD, hc]; rfl
  have er : ∀ c, gRoad s c = c + 1 := fun _ => rfl
  rw [er] at l1
  rcases h3 with ⟨rfl, h4⟩ | ⟨h4, h5, h6⟩
  · have g := gap_next hp hc h4
    obtain ⟨c2, hc2, hy, hz⟩ := h4
    have l7 := tot_split gRoad gRoad_nn xs 0 (s + 1) c2 hp hc2
    have l8 := tot_take_succ gRoad xs 0 s c hc
    rw [Nat.zero_add] at l7 l8
    rw [er] at l8
    have er2 : gRoad (s + 1) c2 = c2 + 1 := rfl
    rw [er2] at l7
    have gg : iabs (gap xs (s, 0) (s + 1, 0)) = many xs - 1 - (tot gRoad 0 (xs.take s) + c) := g
    rw [gg]
    refine ⟨by omega, by omega, ?_⟩
    unfold roadOf
    rw [show many xs - 1 - (many xs - 1 - (tot gRoad 0 (List.take s xs) + c)) = tot gRoad 0 (xs.take s) + c by omega, find_at gRoad gRoad_nn xs 0 s c c hp hc h2 (by rw [Nat.zero_add, er]; omega)]
    simp [hc]
  · obtain ⟨s', q⟩ := b
    simp only at h4 h5 h6
    subst h4
    have g := gap_side hp h6 h5
    have gg : iabs (gap xs (s', 0) (s', q)) = many xs - 1 - (tot gRoad 0 (xs.take s') + (q - 1)) := g
    obtain ⟨c', hc', _, hq⟩ := h6
    rw [hc] at hc'
    cases hc'
    rw [gg]
    refine ⟨by omega, by omega, ?_⟩
    unfold roadOf
    rw [show many xs - 1 - (many xs - 1 - (tot gRoad 0 (List.take s' xs) + (q - 1))) = tot gRoad 0 (xs.take s') + (q - 1) by omega, find_at gRoad gRoad_nn xs 0 s' c (q - 1) hp hc (by omega) (by rw [Nat.zero_add, er]; omega)]
    simp only [Option.map_some, Nat.zero_add, hg]
    rw [if_pos (by omega)]
    simp
end M

set_option Elab.async false
set_option linter.all false
set_option maxRecDepth 100000
set_option maxHeartbeats 1000000
set_option autoImplicit false
namespace Ab
open PySem PySem.Spec PyProof.Rows L2
@[simp] theorem bind_ok {α β : Type} {a : α} {A : AH} {k : α → AH → Res β} : (Res.ok a A).bind k = k a A := rfl
@[simp] theorem bind_exc {α β : Type} {c : Nat} {A : AH} {k : α → AH → Res β} : (Res.exc c A).bind k = .exc c A := rfl
@[simp] theorem bind_bad {α β : Type} {k : α → AH → Res β} : (Res.bad).bind k = .bad := rfl
@[simp] theorem toInts_map (xs : List Int) : toInts (xs.map Vl.int) = some xs := by
  induction xs with
  | nil => rfl
  | cons x r ih => simp [toInts, ih]
@[simp] theorem toBls_map {α : Type} (xs : List α) (g : α → Bool) : toBls (xs.map fun x => Vl.bl (g x)) = some (xs.map g) := by
  induction xs with
  | nil => rfl
  | cons x r ih => simp [toBls, ih]
@[simp] theorem toInts_mapf {α : Type} (xs : List α) (g : α → Int) : toInts (xs.map fun x => Vl.int (g x)) = some (xs.map g) := by
  induction xs with
  | nil => rfl
  | cons x r ih => simp [toInts, ih]
@[simp] theorem plains_ints (xs : List Int) : plains (xs.map Vl.int) = true := by
  induction xs with
  | nil => rfl
  | cons x r ih => simp [plains, plain, ih]
@[simp] theorem plains_take {xs : List Vl} {n : Nat} (h : plains xs = true) : plains (xs.take n) = true := by
  induction xs generalizing n with
  | nil => simp [plains]
  | cons x r ih =>
    rw [plains, Bool.and_eq_true] at h
    cases n with
    | zero => rfl
    | succ n => rw [List.take_succ_cons, plains, h.1, ih h.2]; rfl
@[simp] theorem plains_nil : plains [] = true := rfl
@[simp] theorem plains_cons {x : Vl} {r : List Vl} : plains (x :: r) = (plain x && plains r) := rfl
@[simp] theorem plains_append {x r : List Vl} : plains (x ++ r) = (plains x && plains r) := by
  induction x with
  | nil => rfl
  | cons y z ih => simp [ih, Bool.and_assoc]
theorem plains_of {xs : List Vl} (h : ∀ x ∈ xs, plain x = true) : plains xs = true := by
  induction xs with
  | nil => rfl
  | cons x r ih => simp [h x (by simp), ih fun y hy => h y (by simp [hy])]
@[simp] theorem plain_int {i : Int} : plain (.int i) = true := rfl
@[simp] theorem plain_bl {i : Bool} : plain (.bl i) = true := rfl
@[simp] theorem plain_non : plain .non = true := rfl
@[simp] theorem plain_str {i : Str} : plain (.str i) = true := rfl
@[simp] theorem plain_loc {i : Nat} : plain (.loc i) = false := rfl
@[simp] theorem plain_new {k : Kd} {xs : List Vl} : plain (.new k xs) = false := rfl
@[simp] theorem plain_tup {xs : List Vl} : plain (.tup xs) = plains xs := by rw [plain]
@[simp] theorem plain_rol {xs : List Vl} : plain (.rol xs) = plains xs := by rw [plain]
@[simp] theorem gc_len {d : Vl} {A : AH} : gc A.length d A = .ok d A := by unfold gc; rw [if_pos (Nat.le_refl _)]
theorem gc_pl {n : Nat} {d : Vl} {A : AH} (h : plain d = true) : gc n d A = .ok d (A.take n) := gc_plain h
theorem gc_app {d : Vl} {A B : AH} (h : plain d = true) : gc A.length d (A ++ B) = .ok d A := by rw [gc_plain h]; simp
theorem unb_new {n f : Nat} {A : AH} {k : Kd} {xs : List Vl} (h : plains xs = true) : unb n A (f + 1) (.new k xs) [] = some (.new k xs, []) := by
  simp [unb, mapV_plains h]
theorem gc_new {A B : AH} {k : Kd} {xs : List Vl} (h : plains xs = true) : gc A.length (.new k xs) (A ++ B) = .ok (.new k xs) A := by
  unfold gc
  split
  · rename_i hl
    have : B = [] := List.length_eq_zero_iff.mp (by rw [List.length_append] at hl; omega)
    simp [this]
  · rw [unb_new h]; simp
theorem unb_loc {n f m : Nat} {A : AH} {k : Kd} {xs : List Vl} (hm : n ≤ m) (e : A[m]? = some (k, xs)) (h : plains xs = true) : unb n A (f + 1) (.loc m) [] = some (.new k xs, [m]) := by
  rw [unb]
  simp [Nat.not_lt.mpr hm, e, mapV_plains h]
/-- a list of a def's own is handed out -/
theorem gc_loc {A B : AH} {m : Nat} {k : Kd} {xs : List Vl} (hm : A.length ≤ m) (e : (A ++ B)[m]? = some (k, xs)) (h : plains xs = true) : gc A.length (.loc m) (A ++ B) = .ok (.new k xs) A := by
  unfold gc
  split
  · rename_i hl
    have := (List.getElem?_eq_some_iff.mp e).1
    omega
  · rw [unb_loc hm e h]; simp
/-- a list stands at a place -/
abbrev LA (A : AH) (l : Nat) (xs : List Int) : Prop := A[l]? = some (.lst, xs.map Vl.int)
theorem LA.app {A B : AH} {l : Nat} {xs : List Int} (h : LA A l xs) : LA (A ++ B) l xs := by
  unfold LA at h ⊢
  rw [List.getElem?_append_left (List.getElem?_eq_some_iff.mp h).1]; exact h

@[simp] theorem box_int {i : Int} {A : AH} : box (.int i) A = (.int i, A) := rfl
@[simp] theorem box_bl {i : Bool} {A : AH} : box (.bl i) A = (.bl i, A) := rfl
@[simp] theorem box_non {A : AH} : box .non A = (.non, A) := rfl
@[simp] theorem box_str {i : Str} {A : AH} : box (.str i) A = (.str i, A) := rfl
@[simp] theorem box_loc {i : Nat} {A : AH} : box (.loc i) A = (.loc i, A) := rfl
@[simp] theorem box_rol {i : List Vl} {A : AH} : box (.rol i) A = (.rol i, A) := rfl
@[simp] theorem boxs_nil {A : AH} : boxs [] A = ([], A) := rfl
@[simp] theorem boxs_cons {x : Vl} {r : List Vl} {A : AH} : boxs (x :: r) A = ((box x A).1 :: (boxs r (box x A).2).1, (boxs r (box x A).2).2) := by rw [boxs]
theorem box_tup {xs : List Vl} {A : AH} (h : plains xs = true) : box (.tup xs) A = (.tup xs, A) := by rw [box, if_pos h]
theorem box_new {k : Kd} {xs : List Vl} {A : AH} (h : plains xs = true) : box (.new k xs) A = (.loc A.length, A ++ [(k, xs)]) := by rw [box, boxs_plains xs A h]
/-- comprehensions -/
theorem compL_map {α : Type} {t : Tgt} {elt : CE} {w : Wch} {b : Nat} {s : List (Option Vl)} {A : AH} {phi psi : α → Vl} (hs : seen w A = true) : ∀ {xs : List α} {acc : List Vl}, (∀ x ∈ xs, ∃ s1, put t (phi x) s = some s1 ∧ elt ⟨b, s1⟩ A = .ok (psi x) A) →
    compL t cYes elt w b s (xs.map phi) A acc = .ok (acc ++ xs.map psi) A
  | [], acc, _ => by simp [compL]
  | x :: r, acc, h => by
    obtain ⟨s1, e1, e2⟩ := h x (by simp)
    simp only [List.map_cons, compL, e1, cYes, e2, hs, if_true]
    rw [compL_map hs fun y hy => h y (by simp [hy])]
    simp
theorem cLc_map {α : Type} {ci : CI} {t : Tgt} {elt : CE} {vs : List Nat} {ρ : Ev} {A A1 : AH} {w : Wch} {xs : List α} {phi psi : α → Vl} (hi : ci ρ A = .ok (xs.map phi, w) A1) (hl : xs.length ≤ 100000) (hs : seen w A1 = true) (h : ∀ x ∈ xs, ∃ s1, put t (phi x) (wipeS ρ.s vs) = some s1 ∧ elt ⟨ρ.b, s1⟩ A1 = .ok (psi x) A1) :
    cLc ci t cYes elt vs ρ A = .ok (.new .lst (xs.map psi)) A1 := by
  unfold cLc
  rw [hi]
  simp only [bind_ok, List.length_map, hl, if_true]
  rw [compL_map hs h]
  simp
/-- with a test -/
theorem compL_fil {α : Type} {t : Tgt} {test : CT} {elt : CE} {w : Wch} {b : Nat} {s : List (Option Vl)} {A : AH} {phi psi : α → Vl} {p : α → Bool} (hs : seen w A = true) : ∀ {xs : List α} {acc : List Vl}, (∀ x ∈ xs, ∃ s1, put t (phi x) s = some s1 ∧ test ⟨b, s1⟩ A = .ok (p x) A ∧ (p x = true → elt ⟨b, s1⟩ A = .ok (psi x) A)) →
    compL t test elt w b s (xs.map phi) A acc = .ok (acc ++ (xs.filter p).map psi) A
  | [], acc, _ => by simp [compL]
  | x :: r, acc, h => by
    obtain ⟨s1, e1, e2, e3⟩ := h x (by simp)
    have ih : ∀ acc, compL t test elt w b s (r.map phi) A acc = .ok (acc ++ (r.filter p).map psi) A := fun acc => compL_fil (xs := r) hs fun y hy => h y (by simp [hy])
    cases hp : p x with
    | true =>
      simp only [List.map_cons, compL, e1, e2, hp, e3 hp, hs, if_true, List.filter_cons]
      rw [ih]
      simp
    | false =>
      simp only [List.map_cons, compL, e1, e2, hp, hs, if_true, List.filter_cons]
      rw [ih]
      simp
theorem cLc_fil {α : Type} {ci : CI} {t : Tgt} {test : CT} {elt : CE} {vs : List Nat} {ρ : Ev} {A A1 : AH} {w : Wch} {xs : List α} {phi psi : α → Vl} {p : α → Bool} (hi : ci ρ A = .ok (xs.map phi, w) A1) (hl : xs.length ≤ 100000) (hs : seen w A1 = true)
    (h : ∀ x ∈ xs, ∃ s1, put t (phi x) (wipeS ρ.s vs) = some s1 ∧ test ⟨ρ.b, s1⟩ A1 = .ok (p x) A1 ∧ (p x = true → elt ⟨ρ.b, s1⟩ A1 = .ok (psi x) A1)) :
    cLc ci t test elt vs ρ A = .ok (.new .lst ((xs.filter p).map psi)) A1 := by
  unfold cLc
  rw [hi]
  simp only [bind_ok, List.length_map, hl, if_true]
  rw [compL_fil hs h]
  simp
@[simp] theorem seen_one {A : AH} {l : Nat} {xs : List Vl} (h : A[l]? = some (.lst, xs)) : seen [(l, xs)] A = true := by
  simp [seen, seen1_iff, h]
@[simp] theorem seen_n {A : AH} : seen [] A = true := rfl
/-! code, one step -/
@[simp] theorem back_ok {n : Nat} {d : Vl} {A : AH} : back n (.ok d A) = gc n d A := rfl
@[simp] theorem back_exc {n : Nat} {c : Nat} {A : AH} : back n (.exc c A) = .exc c (A.take n) := rfl
@[simp] theorem fin_rt {n : Nat} {d : Vl} {A : AH} : fin n (.rt d A) = gc n d A := rfl
@[simp] theorem fin_nx {n : Nat} {s : List (Option Vl)} {A : AH} : fin n (.nx s A) = gc n .non A := rfl
@[simp] theorem fin_exc {n : Nat} {c : Nat} {A : AH} : fin n (.exc c A) = .exc c (A.take n) := rfl
@[simp] theorem cC_ {d : Vl} {ρ : Ev} {A : AH} : cC d ρ A = .ok d A := rfl
@[simp] theorem cVar_ {i b : Nat} {s : List (Option Vl)} {A : AH} : cVar i ⟨b, s⟩ A = match s[i]? with | some (some d) => .ok d A | _ => .bad := rfl
@[simp] theorem cNil_ {ρ : Ev} {A : AH} : cNil ρ A = .ok [] A := rfl
@[simp] theorem cCons_ {c : CE} {cs : CA} {ρ : Ev} {A : AH} : cCons c cs ρ A = (c ρ A).bind fun d A1 => (cs ρ A1).bind fun ds A2 => .ok (d :: ds) A2 := rfl
@[simp] theorem cF_ {F : FB} {cs : CA} {ρ : Ev} {A : AH} : cF F cs ρ A = (cs ρ A).bind fun ds A1 => F ρ.b ds A1 := rfl
@[simp] theorem cF1_ {F : FB} {c : CE} {ρ : Ev} {A : AH} : cF1 F c ρ A = (c ρ A).bind fun d A1 => F ρ.b [d] A1 := rfl
@[simp] theorem cF2_ {F : FB} {ca cb : CE} {ρ : Ev} {A : AH} : cF2 F ca cb ρ A = (ca ρ A).bind fun x A1 => (cb ρ A1).bind fun y A2 => F ρ.b [x, y] A2 := rfl
@[simp] theorem cTup_ {cs : CA} {ρ : Ev} {A : AH} : cTup cs ρ A = (cs ρ A).bind fun ds A1 => if ds.length ≤ 100000 then .ok (.tup ds) A1 else .bad := rfl
@[simp] theorem cLst_ {cs : CA} {ρ : Ev} {A : AH} : cLst cs ρ A = (cs ρ A).bind fun ds A1 => if ds.length ≤ 100000 then .ok (.new .lst ds) A1 else .bad := rfl
@[simp] theorem asB_ {k : Bool} {A : AH} : asB (.bl k) A = .ok k A := rfl
@[simp] theorem cTst_ {c : CE} {ρ : Ev} {A : AH} : cTst c ρ A = (c ρ A).bind asB := rfl
@[simp] theorem cAnd_ {a c : CT} {ρ : Ev} {A : AH} : cAnd a c ρ A = (a ρ A).bind fun k A1 => if k = true then c ρ A1 else .ok false A1 := rfl
@[simp] theorem cOr_ {a c : CT} {ρ : Ev} {A : AH} : cOr a c ρ A = (a ρ A).bind fun k A1 => if k = true then .ok true A1 else c ρ A1 := rfl
@[simp] theorem cNot_ {a : CT} {ρ : Ev} {A : AH} : cNot a ρ A = (a ρ A).bind fun k A1 => .ok (!k) A1 := rfl
@[simp] theorem cAndV_ {a c : CE} {ρ : Ev} {A : AH} : cAndV a c ρ A = ((a ρ A).bind asB).bind fun k A1 => if k = true then c ρ A1 else .ok (.bl false) A1 := rfl
@[simp] theorem cOrV_ {a c : CE} {ρ : Ev} {A : AH} : cOrV a c ρ A = ((a ρ A).bind asB).bind fun k A1 => if k = true then .ok (.bl true) A1 else c ρ A1 := rfl
@[simp] theorem cNotV_ {a : CE} {ρ : Ev} {A : AH} : cNotV a ρ A = ((a ρ A).bind asB).bind fun k A1 => .ok (.bl (!k)) A1 := rfl
@[simp] theorem cIfE_ {t : CT} {a c : CE} {ρ : Ev} {A : AH} : cIfE t a c ρ A = (t ρ A).bind fun k A1 => if k = true then a ρ A1 else c ρ A1 := rfl
@[simp] theorem cCall_ {f : Fn} {cs : CA} {ρ : Ev} {A : AH} : cCall f cs ρ A = (cs ρ A).bind fun ds A1 => callF f ds A1 := rfl
@[simp] theorem callF_ {f : Fn} {ds : List Vl} {A : AH} : callF f ds A = back A.length (f (boxs ds A).1 (boxs ds A).2) := rfl
@[simp] theorem cDrop_ {c : CE} {ρ : Ev} {A : AH} : cDrop c ρ A = match c ρ A with | .ok _ A1 => .nx ρ.s A1 | .exc k A1 => .exc k A1 | .bad => .bad := rfl
@[simp] theorem cRet_ {c : CE} {ρ : Ev} {A : AH} : cRet c ρ A = match c ρ A with | .ok d A1 => .rt d A1 | .exc k A1 => .exc k A1 | .bad => .bad := rfl
@[simp] theorem cNx_ {ρ : Ev} {A : AH} : cNx ρ A = .nx ρ.s A := rfl
@[simp] theorem cRaise_ {c : Nat} {ρ : Ev} {A : AH} : cRaise c ρ A = .exc c A := rfl
@[simp] theorem cIf_ {t : CT} {c d : CS} {ρ : Ev} {A : AH} : cIf t c d ρ A = match t ρ A with | .ok true A1 => c ρ A1 | .ok false A1 => d ρ A1 | .exc k A1 => .exc k A1 | .bad => .bad := rfl
@[simp] theorem fSub_ {b : Nat} {i j : Int} {A : AH} : fSub b [.int i, .int j] A = .ok (.int (i - j)) A := rfl
@[simp] theorem fLt_ {b : Nat} {i j : Int} {A : AH} : fLt b [.int i, .int j] A = .ok (.bl (decide (i < j))) A := rfl
@[simp] theorem fLe_ {b : Nat} {i j : Int} {A : AH} : fLe b [.int i, .int j] A = .ok (.bl (decide (i ≤ j))) A := rfl
@[simp] theorem fGt_ {b : Nat} {i j : Int} {A : AH} : fGt b [.int i, .int j] A = .ok (.bl (decide (j < i))) A := rfl
@[simp] theorem fGe_ {b : Nat} {i j : Int} {A : AH} : fGe b [.int i, .int j] A = .ok (.bl (decide (j ≤ i))) A := rfl
@[simp] theorem fMax_ {b : Nat} {i j : Int} {A : AH} : fMax b [.int i, .int j] A = .ok (.int (if j > i then j else i)) A := rfl
@[simp] theorem fMin_ {b : Nat} {i j : Int} {A : AH} : fMin b [.int i, .int j] A = .ok (.int (if j < i then j else i)) A := rfl
@[simp] theorem fAbs_ {b : Nat} {i : Int} {A : AH} : fAbs b [.int i] A = .ok (.int (if i < 0 then -i else i)) A := rfl
@[simp] theorem fNeg_ {b : Nat} {i : Int} {A : AH} : fNeg b [.int i] A = .ok (.int (-i)) A := rfl
@[simp] theorem fAdd_ {b : Nat} {i j : Int} {A : AH} : fAdd b [.int i, .int j] A = .ok (.int (i + j)) A := rfl
@[simp] theorem fEq_ {b : Nat} {i j : Int} {A : AH} : fEqD false b [.int i, .int j] A = .ok (.bl (decide (i = j))) A := rfl
@[simp] theorem fNe_ {b : Nat} {i j : Int} {A : AH} : fEqD true b [.int i, .int j] A = .ok (.bl (!decide (i = j))) A := rfl
@[simp] theorem fEqb_ {b : Nat} {i j : Bool} {A : AH} : fEqD false b [.bl i, .bl j] A = .ok (.bl (decide (i = j))) A := rfl
@[simp] theorem fNeb_ {b : Nat} {i j : Bool} {A : AH} : fEqD true b [.bl i, .bl j] A = .ok (.bl (!decide (i = j))) A := rfl
theorem fMod_ {b : Nat} {i j : Int} {A : AH} (h : 0 < j) : fMod b [.int i, .int j] A = .ok (.int (i % j)) A := by simp [fMod, fI, h]
theorem fDiv_ {b : Nat} {i j : Int} {A : AH} (h : 0 < j ∧ j < 1073741824) : fDiv b [.int i, .int j] A = .ok (.int (i / j)) A := by simp [fDiv, fI, h]
@[simp] theorem fIsi_int {b : Nat} {n : Tg} {i : Int} {A : AH} : fIsi n b [.int i] A = .ok (.bl (isiB .int n)) A := rfl
@[simp] theorem fIsi_bl {b : Nat} {n : Tg} {i : Bool} {A : AH} : fIsi n b [.bl i] A = .ok (.bl (isiB .bl n)) A := rfl
@[simp] theorem fIsi_non {b : Nat} {n : Tg} {A : AH} : fIsi n b [.non] A = .ok (.bl (isiB .non n)) A := rfl
@[simp] theorem fIsi_str {b : Nat} {n : Tg} {i : Str} {A : AH} : fIsi n b [.str i] A = .ok (.bl (isiB .str n)) A := rfl
@[simp] theorem fIsi_tup {b : Nat} {n : Tg} {i : List Vl} {A : AH} : fIsi n b [.tup i] A = .ok (.bl (isiB .tup n)) A := rfl
theorem fIsi_loc {b : Nat} {n : Tg} {l : Nat} {xs : List Vl} {A : AH} (h : A[l]? = some (.lst, xs)) : fIsi n b [.loc l] A = .ok (.bl (isiB .lst n)) A := by simp [fIsi, tgOf, h]
theorem fLen_loc {b l : Nat} {xs : List Vl} {A : AH} (h : A[l]? = some (.lst, xs)) : fLen b [.loc l] A = .ok (.int xs.length) A := by simp [fLen, seqA, seqL, h]
@[simp] theorem fLen_tup {b : Nat} {xs : List Vl} {A : AH} : fLen b [.tup xs] A = .ok (.int xs.length) A := rfl
@[simp] theorem fLen_new {b : Nat} {xs : List Vl} {A : AH} : fLen b [.new .lst xs] A = .ok (.int xs.length) A := rfl
@[simp] theorem fLen_rol {b : Nat} {xs : List Vl} {A : AH} : fLen b [.rol xs] A = .ok (.int xs.length) A := rfl
theorem fSum_loc {b l : Nat} {xs : List Int} {A : AH} (h : LA A l xs) : fSum b [.loc l] A = .ok (.int xs.sum) A := by simp [fSum, fInts, seqL, h]
@[simp] theorem fSum_new {b : Nat} {xs : List Int} {A : AH} : fSum b [.new .lst (xs.map Vl.int)] A = .ok (.int xs.sum) A := by simp [fSum, fInts, seqL]
@[simp] theorem fAll_new {b : Nat} {α : Type} {xs : List α} {g : α → Bool} {A : AH} : fAll b [.new .lst (xs.map fun x => Vl.bl (g x))] A = .ok (.bl (xs.all g)) A := by
  simp only [fAll, fBls, seqL, toBls_map]
  congr 2
  simp [List.all_map]
@[simp] theorem fAny_new {b : Nat} {α : Type} {xs : List α} {g : α → Bool} {A : AH} : fAny b [.new .lst (xs.map fun x => Vl.bl (g x))] A = .ok (.bl (xs.any g)) A := by
  simp only [fAny, fBls, seqL, toBls_map]
  congr 2
  simp [List.any_map]
theorem fIx_loc {b l : Nat} {xs : List Vl} {i : Int} {d : Vl} {A : AH} (h : A[l]? = some (.lst, xs)) (hd : atI xs i = some d) : fIx b [.loc l, .int i] A = .ok d A := by simp [fIx, seqA, seqL, h, hd]
theorem fIx_tup {b : Nat} {xs : List Vl} {i : Int} {d : Vl} {A : AH} (hd : atI xs i = some d) : fIx b [.tup xs, .int i] A = .ok d A := by simp [fIx, seqA, hd]
theorem atI_n {α : Type} {xs : List α} {n : Nat} {d : α} (h : xs[n]? = some d) : atI xs (n : Int) = some d := atI_nat h
@[simp] theorem fIx_t0 {b : Nat} {x : Vl} {xs : List Vl} {A : AH} : fIx b [.tup (x :: xs), .int 0] A = .ok x A := fIx_tup (atI_n (n := 0) rfl)
@[simp] theorem fIx_t1 {b : Nat} {x y : Vl} {xs : List Vl} {A : AH} : fIx b [.tup (x :: y :: xs), .int 1] A = .ok y A := fIx_tup (atI_n (n := 1) rfl)
theorem cIt_loc {c : CE} {ρ : Ev} {A A1 : AH} {l : Nat} {xs : List Vl} (h : c ρ A = .ok (.loc l) A1) (hl : A1[l]? = some (.lst, xs)) : cIt c ρ A = .ok (xs, [(l, xs)]) A1 := by simp [cIt, h, walkA, walkL, hl]
theorem cIt_tup {c : CE} {ρ : Ev} {A A1 : AH} {xs : List Vl} (h : c ρ A = .ok (.tup xs) A1) (hp : plains xs = true) : cIt c ρ A = .ok (xs, []) A1 := by simp [cIt, h, walkA, boxs_plains xs A1 hp]
theorem cEn_loc {c : CE} {ρ : Ev} {A A1 : AH} {l : Nat} {xs : List Vl} (h : c ρ A = .ok (.loc l) A1) (hl : A1[l]? = some (.lst, xs)) : cEn c ρ A = .ok (enumL 0 xs, [(l, xs)]) A1 := by simp [cEn, h, walkL, hl]
theorem cEn_new {c : CE} {ρ : Ev} {A A1 : AH} {xs : List Vl} (h : c ρ A = .ok (.new .lst xs) A1) (hp : plains xs = true) : cEn c ρ A = .ok (enumL 0 xs, []) A1 := by simp [cEn, h, walkL, boxs_plains xs A1 hp]
theorem seq_nx {c d : CS} {ρ : Ev} {A A1 : AH} {s : List (Option Vl)} (h : c ρ A = .nx s A1) : cSeq c d ρ A = d ⟨ρ.b, s⟩ A1 := by simp [cSeq, h]
theorem seq_rt {c d : CS} {ρ : Ev} {A A1 : AH} {v : Vl} (h : c ρ A = .rt v A1) : cSeq c d ρ A = .rt v A1 := by simp [cSeq, h]
theorem seq_exc {c d : CS} {ρ : Ev} {A A1 : AH} {k : Nat} (h : c ρ A = .exc k A1) : cSeq c d ρ A = .exc k A1 := by simp [cSeq, h]
theorem for_of {ci : CI} {t : Tgt} {body : CS} {ρ : Ev} {A A1 : AH} {xs : List Vl} {w : Wch} (h : ci ρ A = .ok (xs, w) A1) : cFor ci t body ρ A = forL t body w ρ.b xs ρ.s A1 := by simp [cFor, h]
@[simp] theorem put_n {i : Nat} {d : Vl} {s : List (Option Vl)} : put (.nm i) d s = some (s.set i (some d)) := by rw [put]
@[simp] theorem put_t {ts : List Tgt} {xs : List Vl} {s : List (Option Vl)} : put (.tp ts) (.tup xs) s = puts ts xs s := by rw [put]
@[simp] theorem puts_n {s : List (Option Vl)} : puts [] [] s = some s := by rw [puts]
@[simp] theorem puts_c {t : Tgt} {ts : List Tgt} {d : Vl} {ds : List Vl} {s : List (Option Vl)} : puts (t :: ts) (d :: ds) s = match put t d s with | none => none | some s1 => puts ts ds s1 := by rw [puts]; try (cases put t d s <;> rfl)
theorem put_of {c : CE} {t : Tgt} {ρ : Ev} {A A1 : AH} {d : Vl} {s : List (Option Vl)} (h : c ρ A = .ok d A1) (hp : put t (box d A1).1 ρ.s = some s) : cPut t c ρ A = .nx s (box d A1).2 := by simp [cPut, h, hp]
theorem put_nm {c : CE} {i : Nat} {ρ : Ev} {A A1 : AH} {d : Vl} (h : c ρ A = .ok d A1) : cPut (.nm i) c ρ A = .nx (ρ.s.set i (some (box d A1).1)) (box d A1).2 := by simp [cPut, h, put]
end Ab

set_option Elab.async false
set_option linter.all false
set_option maxRecDepth 100000
set_option maxHeartbeats 1000000
set_option autoImplicit false
namespace Ab
open PySem PySem.Spec PyProof.Rows L2
theorem cut_take {α : Type} {xs : List α} {s : Int} (h : 0 ≤ s) : cut xs none (some s) = xs.take s.toNat := by
  obtain ⟨n, rfl⟩ := Int.eq_ofNat_of_zero_le h
  unfold cut
  rw [HT.sIx_nat, HT.sIx_none]
  simp
theorem cSl_loc {c : CE} {hi : CE} {ρ : Ev} {A A1 A2 : AH} {l : Nat} {xs : List Vl} {s : Int} (h : c ρ A = .ok (.loc l) A1) (h2 : hi ρ A1 = .ok (.int s) A2) (hl : A2[l]? = some (.lst, xs)) (h0 : 0 ≤ s) : cSl c none (some hi) ρ A = .ok (.new .lst (xs.take s.toNat)) A2 := by
  simp [cSl, h, cPart, h2, fCut, seqL, hl, cut_take h0]
theorem cSl_rol {c : CE} {hi : CE} {ρ : Ev} {A A1 A2 : AH} {xs : List Vl} {s : Int} (h : c ρ A = .ok (.rol xs) A1) (h2 : hi ρ A1 = .ok (.int s) A2) (h0 : 0 ≤ s) : cSl c none (some hi) ρ A = .ok (.new .lst (xs.take s.toNat)) A2 := by
  simp [cSl, h, cPart, h2, fCut, seqL, cut_take h0]
end Ab
namespace G
open PySem PySem.Spec PyProof.Rows L2 Ab
structure Street (xs : List Int) : Prop where
  lo : 1 ≤ xs.length
  hi : xs.length ≤ 60
  nn : ∀ x ∈ xs, 0 ≤ x
def IsWhole (f : Fn) : Prop := ∀ A i j, f [.int i, .int j] A = .ok (.bl (decide (j ≤ i))) A
def CkStreet (f : Fn) : Prop := ∀ A l xs, LA A l xs → Street xs → f [.loc l] A = .ok .non A
def ManyOf (f : Fn) : Prop := ∀ A l xs, LA A l xs → f [.loc l] A = .ok (.int (M.many xs)) A
def AheadOf (f : Fn) : Prop := ∀ A l xs (s : Nat), LA A l xs → f [.loc l, .int s] A = .ok (.tup [.int (M.tot M.gLow 0 (xs.take s)), .int (M.tot M.gHigh 0 (xs.take s))]) A
def NumberAt (f : Fn) : Prop := ∀ A l xs (s : Nat) (p : Int), LA A l xs → f [.loc l, .int s, .int p] A = .ok (.int (M.numAt xs s p)) A
def HousesOf (f : Fn) : Prop := ∀ A l xs, LA A l xs → Street xs → f [.loc l] A = .ok (.int (M.many xs)) A
def NumberOf (f : Fn) : Prop := ∀ A l xs (s : Nat) (p : Int), LA A l xs → Street xs → M.IsH xs s p → f [.loc l, .tup [.int s, .int p]] A = .ok (.int (M.numAt xs s p)) A
def HouseOf (f : Fn) : Prop := ∀ A l xs (m : Int) (s : Nat) (p : Int), LA A l xs → Street xs → 0 ≤ m → m < M.many xs → M.houseOf xs m = some (s, p) → f [.loc l, .int m] A = .ok (.tup [.int s, .int p]) A
def RoadOf (f : Fn) : Prop := ∀ A l xs (d : Int) (s t : Nat) (p q : Int), LA A l xs → Street xs → 0 < d → d < M.many xs → M.roadOf xs d = some ((s, p), (t, q)) → f [.loc l, .int d] A = .ok (.tup [.tup [.int s, .int p], .tup [.int t, .int q]]) A
variable {R : Nat → Fn}
theorem is_whole_ok : IsWhole (mkFn 2 (c_is_whole R)) := fun A i j => by
  simp [mkFn, c_is_whole, isiB]
theorem many_of_ok : ManyOf (mkFn 1 (c_many_of R)) := fun A l xs h => by
  simp [mkFn, c_many_of, fLen_loc h, fSum_loc h, M.many]
theorem check_street_ok (h0 : IsWhole (R 0)) : CkStreet (mkFn 2 (c_check_street R)) := fun A l xs h st => by
  have e : cLc (cIt (cVar 0)) (.nm 1) cYes (c_check_street_e0 R) [1] ⟨A.length, [some (.loc l), none]⟩ A = .ok (.new .lst (xs.map fun x => .bl (decide (0 ≤ x)))) A := by
    refine cLc_map (phi := Vl.int) (w := [(l, xs.map Vl.int)]) (cIt_loc (by simp) h) (by have := st.hi; omega) (seen_one h) fun x hx => ⟨_, put_n, ?_⟩
    simp only [wipeS, List.set_cons_succ, List.set_cons_zero]
    simp [c_check_street_e0, h0 A x 0]
  have hall : (xs.all fun x => decide (0 ≤ x)) = true := by rw [List.all_eq_true]; exact fun x hx => decide_eq_true (st.nn x hx)
  have h1 : (1 : Int) ≤ xs.length := by have := st.lo; omega
  have h2 : (xs.length : Int) ≤ 60 := by have := st.hi; omega
  simp [mkFn, c_check_street, cCh, fIsi_loc h, isiB, fLen_loc h, h1, h2, e, hall]
theorem ahead_loop {w : Wch} {b : Nat} {A : AH} (hs : seen w A = true) {x0 x1 : Option Vl} : ∀ (xs : List Int) (k : Nat) (lo hi : Int) (x4 x5 : Option Vl), ∃ y4 y5,
    forL (.tp [.nm 4, .nm 5]) (c_ahead_of_b0 R) w b (enumL k (xs.map Vl.int)) [x0, x1, some (.int lo), some (.int hi), x4, x5] A = .nx [x0, x1, some (.int (lo + M.tot M.gLow k xs)), some (.int (hi + M.tot M.gHigh k xs)), y4, y5] A
  | [], k, lo, hi, x4, x5 => ⟨x4, x5, by simp [enumL, forL, M.tot]⟩
  | x :: xs, k, lo, hi, x4, x5 => by
    obtain ⟨y4, y5, e⟩ := ahead_loop hs xs (k + 1) (lo + M.gLow k x) (hi + M.gHigh k x) (some (.int k)) (some (.int x))
    refine ⟨y4, y5, ?_⟩
    have hb : c_ahead_of_b0 R ⟨b, [x0, x1, some (.int lo), some (.int hi), some (.int k), some (.int x)]⟩ A = .nx [x0, x1, some (.int (lo + M.gLow k x)), some (.int (hi + M.gHigh k x)), some (.int k), some (.int x)] A := by
      unfold c_ahead_of_b0 M.gLow M.gHigh
      by_cases hk : k % 2 = 0
      · have hk2 : ((k : Int) % 2 = 0) := by omega
        simp [cSeq, cAug, fMod_, hk, hk2]
      · have hk2 : ¬ ((k : Int) % 2 = 0) := by omega
        simp [cSeq, cAug, fMod_, hk, hk2]
    simp only [List.map_cons, enumL, forL, put, puts, List.set_cons_succ, List.set_cons_zero, hb, hs, if_true, M.tot]
    rw [e]
    simp [Int.add_assoc]
theorem ahead_of_ok : AheadOf (mkFn 6 (c_ahead_of R)) := fun A l xs s h => by
  obtain ⟨y4, y5, e⟩ := ahead_loop (R := R) (w := []) (b := A.length) (A := A) rfl (x0 := some (.loc l)) (x1 := some (.int s)) (xs.take s) 0 0 0 none none
  have e1 : cEn (cSl (cVar 0) none (some (cVar 1))) ⟨A.length, [some (.loc l), some (.int s), some (.int 0), some (.int 0), none, none]⟩ A = .ok (enumL 0 ((xs.take s).map Vl.int), []) A := by
    refine cEn_new ?_ (by simp)
    rw [cSl_loc (A1 := A) (A2 := A) (s := s) (l := l) (by simp) (by simp) h (by omega)]
    simp [List.map_take]
  have e2 : cPut (.tp [.nm 2, .nm 3]) (cTup (cCons (cC (.int 0)) (cCons (cC (.int 0)) cNil))) ⟨A.length, [some (.loc l), some (.int s), none, none, none, none]⟩ A = .nx [some (.loc l), some (.int s), some (.int 0), some (.int 0), none, none] A := by
    simp [cPut, box_tup, put, puts]
  simp only [mkFn, c_ahead_of, List.map_cons, List.map_nil, List.length_cons, List.length_nil, Nat.zero_add, Nat.reduceAdd, Nat.reduceSub, List.replicate, List.cons_append, List.nil_append]
  rw [seq_nx e2, seq_nx ((for_of e1).trans e)]
  simp
theorem number_at_ok (h3 : AheadOf (R 3)) (h2 : ManyOf (R 2)) : NumberAt (mkFn 5 (c_number_at R)) := fun A l xs s p h => by
  have e1 : cPut (.tp [.nm 3, .nm 4]) (cCall (R 3) (cCons (cVar 0) (cCons (cVar 1) cNil))) ⟨A.length, [some (.loc l), some (.int s), some (.int p), none, none]⟩ A = .nx [some (.loc l), some (.int s), some (.int p), some (.int (M.tot M.gLow 0 (xs.take s))), some (.int (M.tot M.gHigh 0 (xs.take s)))] A := by
    simp [cPut, h3 A l xs s h, box_tup, put, puts]
  simp only [mkFn, c_number_at, List.map_cons, List.map_nil, List.length_cons, List.length_nil, Nat.zero_add, Nat.reduceAdd, Nat.reduceSub, List.replicate, List.cons_append, List.nil_append]
  rw [seq_nx e1]
  unfold M.numAt M.mx
  by_cases hb : (s % 2 = 0 ↔ p = 0)
  · have hd : decide (decide ((s : Int) % 2 = 0) = decide (p = 0)) = true := by
      by_cases hp : p = 0
      · have := hb.mpr hp
        have : ((s : Int) % 2 = 0) := by omega
        simp [hp, this]
      · have : ¬ (s % 2 = 0) := fun z => hp (hb.mp z)
        have : ¬ ((s : Int) % 2 = 0) := by omega
        simp [hp, this]
    rw [if_pos hb, seq_rt (v := .int (M.tot M.gLow 0 (xs.take s) + if p - 1 > 0 then p - 1 else 0)) (A1 := A)]
    · simp
    · simp only [cIf_, cTst_, cF2_, cVar_, List.getElem?_cons_succ, List.getElem?_cons_zero, bind_ok, cC_, fMod_ (show (0 : Int) < 2 by decide), fEq_, fEqb_, hd, asB_, cRet_, cF_, cCons_, cNil_, fSub_, fMax_, fAdd_]
  · have hd : decide (decide ((s : Int) % 2 = 0) = decide (p = 0)) = false := by
      rw [decide_eq_false_iff_not]
      intro z
      apply hb
      rw [decide_eq_decide] at z
      rw [← z]; omega
    rw [if_neg hb, seq_nx (s := [some (.loc l), some (.int s), some (.int p), some (.int (M.tot M.gLow 0 (xs.take s))), some (.int (M.tot M.gHigh 0 (xs.take s)))]) (A1 := A)]
    · simp [h2 A l xs h]
    · simp only [cIf_, cTst_, cF2_, cVar_, List.getElem?_cons_succ, List.getElem?_cons_zero, bind_ok, cC_, fMod_ (show (0 : Int) < 2 by decide), fEq_, fEqb_, hd, asB_, cNx_]
theorem houses_of_ok (h1 : CkStreet (R 1)) (h2 : ManyOf (R 2)) : HousesOf (mkFn 1 (c_houses_of R)) := fun A l xs h st => by
  simp [mkFn, c_houses_of, cSeq, h1 A l xs h st, h2 A l xs h]
end G

set_option Elab.async false
set_option linter.all false
set_option maxRecDepth 100000
set_option maxHeartbeats 1000000
set_option autoImplicit false
namespace G
open PySem PySem.Spec PyProof.Rows L2 Ab
variable {R : Nat → Fn}
theorem number_of_ok (h0 : IsWhole (R 0)) (h1 : CkStreet (R 1)) (h4 : NumberAt (R 4)) : NumberOf (mkFn 3 (c_number_of R)) := fun A l xs s p h st hh => by
  obtain ⟨c, hc, hp0, hp1⟩ := hh
  have hs := (List.getElem?_eq_some_iff.mp hc).1
  have e : cLc (cIt (cVar 1)) (.nm 2) cYes (c_number_of_e0 R) [2] ⟨A.length, [some (.loc l), some (.tup [.int s, .int p]), none]⟩ A = .ok (.new .lst ([(s : Int), p].map fun x => .bl (decide (0 ≤ x)))) A := by
    refine cLc_map (phi := Vl.int) (w := []) (xs := [(s : Int), p]) (cIt_tup (by simp) (by simp)) (by simp) rfl fun x hx => ⟨_, put_n, ?_⟩
    simp only [wipeS, List.set_cons_succ, List.set_cons_zero]
    simp [c_number_of_e0, h0 A x 0]
  have hix : atI (xs.map Vl.int) (s : Int) = some (.int c) := atI_n (by rw [List.getElem?_map, hc]; rfl)
  have h8 : ¬ ((xs.length : Int) ≤ s) := by omega
  have h9 : ¬ (c < p) := by omega
  have h10 : (0 : Int) ≤ s := by omega
  simp [mkFn, c_number_of, cSeq, h1 A l xs h st, isiB, e, fLen_loc h, h8, fIx_loc h hix, h9, h4 A l xs s p h, box_tup, hp0, fAll, fBls, seqL, toBls]
theorem house_loop {w : Wch} {b : Nat} {A : AH} (hs : seen w A = true) {x0 x1 x2 x3 : Option Vl} {sd : Int} : ∀ (xs : List Int) (k : Nat) (left : Int) (x6 x7 x8 : Option Vl) (s : Nat) (r : Int), M.find (M.gS sd) k xs left = some (s, r) →
    forL (.tp [.nm 6, .nm 7]) (c_house_of_b0 R) w b (enumL k (xs.map Vl.int)) [x0, x1, x2, x3, some (.int sd), some (.int left), x6, x7, x8] A = .rt (.tup [.int s, .int (if (s : Int) % 2 = sd then 0 else r + 1)]) A
  | [], k, left, x6, x7, x8, s, r, h => by simp [M.find] at h
  | x :: xs, k, left, x6, x7, x8, s, r, h => by
    unfold M.find at h
    by_cases hlt : left < M.gS sd k x
    · rw [if_pos hlt] at h
      cases h
      have hb : c_house_of_b0 R ⟨b, [x0, x1, x2, x3, some (.int sd), some (.int left), some (.int k), some (.int x), x8]⟩ A = .rt (.tup [.int k, .int (if (k : Int) % 2 = sd then 0 else left + 1)]) A := by
        unfold c_house_of_b0
        unfold M.gS at hlt
        by_cases hk : (k : Int) % 2 = sd
        · rw [if_pos hk] at hlt
          simp [cSeq, cPut, fMod_, hk, hlt]
        · rw [if_neg hk] at hlt
          simp [cSeq, cPut, fMod_, hk, hlt]
      simp only [List.map_cons, enumL, forL, put_t, puts_c, put_n, puts_n, List.set_cons_succ, List.set_cons_zero, hb]
    · rw [if_neg hlt] at h
      have ih := house_loop (b := b) (x0 := x0) (x1 := x1) (x2 := x2) (x3 := x3) hs xs (k + 1) (left - M.gS sd k x) (some (.int k)) (some (.int x)) (some (.int (M.gS sd k x))) s r h
      have hb : c_house_of_b0 R ⟨b, [x0, x1, x2, x3, some (.int sd), some (.int left), some (.int k), some (.int x), x8]⟩ A = .nx [x0, x1, x2, x3, some (.int sd), some (.int (left - M.gS sd k x)), some (.int k), some (.int x), some (.int (M.gS sd k x))] A := by
        unfold c_house_of_b0
        unfold M.gS at hlt ⊢
        by_cases hk : (k : Int) % 2 = sd
        · rw [if_pos hk] at hlt ⊢
          simp [cSeq, cPut, cAug, fMod_, hk, hlt]
        · rw [if_neg hk] at hlt ⊢
          simp [cSeq, cPut, cAug, fMod_, hk, hlt]
      simp only [List.map_cons, enumL, forL, put_t, puts_c, put_n, puts_n, List.set_cons_succ, List.set_cons_zero, hb, hs, if_true]
      exact ih
theorem house_of_ok (h0 : IsWhole (R 0)) (h1 : CkStreet (R 1)) (h2 : ManyOf (R 2)) (h3 : AheadOf (R 3)) : HouseOf (mkFn 9 (c_house_of R)) := fun A l xs m s p h st hm0 hm1 hh => by
  unfold M.houseOf at hh
  rw [Option.map_eq_some_iff] at hh
  obtain ⟨⟨s', r⟩, hf, e⟩ := hh
  simp only [Prod.mk.injEq] at e
  obtain ⟨rfl, rfl⟩ := e
  have ea := h3 A l xs xs.length h
  rw [List.take_length] at ea
  have lp := house_loop (R := R) (w := [(l, xs.map Vl.int)]) (b := A.length) (A := A) (seen_one h) (x0 := some (.loc l)) (x1 := some (.int m)) (x2 := some (.int (M.many xs))) (x3 := some (.int (M.tot M.gLow 0 xs))) (sd := M.side xs m) xs 0 _ none none none s' r hf
  have en := cEn_loc (c := cVar 0) (ρ := ⟨A.length, [some (.loc l), some (.int m), some (.int (M.many xs)), some (.int (M.tot M.gLow 0 xs)), some (.int (M.side xs m)), some (.int (if M.side xs m = 0 then m else M.many xs - 1 - m)), none, none, none]⟩) (A := A) (A1 := A) (by simp) h
  have g1 : ¬ (M.many xs ≤ m) := by omega
  simp only [mkFn, c_house_of, List.map_cons, List.map_nil, List.length_cons, List.length_nil, Nat.zero_add, Nat.reduceAdd, Nat.reduceSub, List.replicate, List.cons_append, List.nil_append]
  rw [seq_nx (s := [some (.loc l), some (.int m), none, none, none, none, none, none, none]) (A1 := A) (by simp [h1 A l xs h st])]
  rw [seq_nx (s := [some (.loc l), some (.int m), some (.int (M.many xs)), none, none, none, none, none, none]) (A1 := A) (by simp [cPut, h2 A l xs h])]
  rw [seq_nx (s := [some (.loc l), some (.int m), some (.int (M.many xs)), none, none, none, none, none, none]) (A1 := A) (by simp [h0 A m 0, hm0, g1])]
  rw [seq_nx (s := [some (.loc l), some (.int m), some (.int (M.many xs)), some (.int (M.tot M.gLow 0 xs)), none, none, none, none, none]) (A1 := A) (by simp [cPut, fLen_loc h, ea])]
  rw [seq_nx (s := [some (.loc l), some (.int m), some (.int (M.many xs)), some (.int (M.tot M.gLow 0 xs)), some (.int (M.side xs m)), none, none, none, none]) (A1 := A) (by
    unfold M.side
    by_cases hq : m < M.tot M.gLow 0 xs <;> simp [cPut, hq])]
  rw [seq_nx (s := [some (.loc l), some (.int m), some (.int (M.many xs)), some (.int (M.tot M.gLow 0 xs)), some (.int (M.side xs m)), some (.int (if M.side xs m = 0 then m else M.many xs - 1 - m)), none, none, none]) (A1 := A) (by
    by_cases hq : M.side xs m = 0 <;> simp [cPut, hq])]
  rw [seq_rt ((for_of en).trans lp)]
  simp
theorem road_loop {w : Wch} {b : Nat} {A : AH} (hs : seen w A = true) {x0 x1 x2 : Option Vl} : ∀ (xs : List Int) (k : Nat) (left : Int) (x4 x5 : Option Vl) (s : Nat) (r c : Int), (∀ x ∈ xs, 0 ≤ x) → M.find M.gRoad k xs left = some (s, r) → k ≤ s → xs[s - k]? = some c →
    forL (.tp [.nm 4, .nm 5]) (c_road_of_b0 R) w b (enumL k (xs.map Vl.int)) [x0, x1, x2, some (.int left), x4, x5] A = .rt (.tup [.tup [.int s, .int 0], if r < c then .tup [.int s, .int (r + 1)] else .tup [.int ((s : Int) + 1), .int 0]]) A
  | [], k, left, x4, x5, s, r, c, _, h, _, _ => by simp [M.find] at h
  | x :: xs, k, left, x4, x5, s, r, c, hn, h, hks, hc => by
    unfold M.find at h
    by_cases hlt : left < M.gRoad k x
    · rw [if_pos hlt] at h
      cases h
      rw [Nat.sub_self] at hc
      simp at hc
      subst hc
      unfold M.gRoad at hlt
      have hb : c_road_of_b0 R ⟨b, [x0, x1, x2, some (.int left), some (.int k), some (.int x)]⟩ A = .rt (.tup [.tup [.int k, .int 0], if left < x then .tup [.int k, .int (left + 1)] else .tup [.int ((k : Int) + 1), .int 0]]) A := by
        unfold c_road_of_b0
        by_cases hk : left < x
        · simp [cSeq, hk]
        · have : left = x := by omega
          subst this
          simp [cSeq]
      simp only [List.map_cons, enumL, forL, put_t, puts_c, put_n, puts_n, List.set_cons_succ, List.set_cons_zero, hb]
    · rw [if_neg hlt] at h
      have hks2 : k + 1 ≤ s := by
        obtain ⟨j, c', r', e1, _⟩ : ∃ j c' r', M.find M.gRoad (k + 1) xs (left - M.gRoad k x) = some (k + 1 + j, r') ∧ True := by
          have key : ∀ (ys : List Int) (k : Nat) (lf : Int) (s : Nat) (r : Int), M.find M.gRoad k ys lf = some (s, r) → k ≤ s := by
            intro ys
            induction ys with
            | nil => intro k lf s r h; simp [M.find] at h
            | cons y ys ih =>
              intro k lf s r h
              unfold M.find at h
              split at h
              · cases h; exact Nat.le_refl _
              · have := ih _ _ _ _ h; omega
          have := key _ _ _ _ _ h
          exact ⟨s - (k + 1), 0, r, by rw [h, show k + 1 + (s - (k + 1)) = s by omega], trivial⟩
        rw [h] at e1
        cases e1
        omega
      have ih := road_loop (b := b) (x0 := x0) (x1 := x1) (x2 := x2) hs xs (k + 1) (left - M.gRoad k x) (some (.int k)) (some (.int x)) s r c (fun y hy => hn y (by simp [hy])) h hks2 (by
        have : s - k = (s - (k + 1)) + 1 := by omega
        rw [this] at hc
        simpa using hc)
      unfold M.gRoad at hlt
      have hb : c_road_of_b0 R ⟨b, [x0, x1, x2, some (.int left), some (.int k), some (.int x)]⟩ A = .nx [x0, x1, x2, some (.int (left - M.gRoad k x)), some (.int k), some (.int x)] A := by
        unfold c_road_of_b0 M.gRoad
        have q1 : ¬ (left < x) := by omega
        have q2 : ¬ (left = x) := by omega
        simp [cSeq, cAug, q1, q2]
      simp only [List.map_cons, enumL, forL, put_t, puts_c, put_n, puts_n, List.set_cons_succ, List.set_cons_zero, hb, hs, if_true]
      exact ih
theorem road_of_ok (h0 : IsWhole (R 0)) (h1 : CkStreet (R 1)) (h2 : ManyOf (R 2)) : RoadOf (mkFn 6 (c_road_of R)) := fun A l xs d s t p q h st hm0 hm1 hh => by
  have l4 := M.tot_road xs 0
  have hm : M.many xs = M.tot M.gRoad 0 xs := by unfold M.many; omega
  obtain ⟨j, c, r, e1, e2, e3, e4, e5⟩ := M.find_some M.gRoad xs 0 (M.many xs - 1 - d) (by omega) (by omega)
  unfold M.roadOf at hh
  rw [e1] at hh
  simp only [Nat.zero_add, Option.map_some, Option.some.injEq, Prod.mk.injEq] at hh e1
  have hg : xs.getD j 0 = c := by rw [List.getD_eq_getElem?_getD, e2]; rfl
  rw [hg] at hh
  obtain ⟨⟨rfl, rfl⟩, hq⟩ := hh
  have lp := road_loop (R := R) (w := [(l, xs.map Vl.int)]) (b := A.length) (A := A) (seen_one h) (x0 := some (.loc l)) (x1 := some (.int d)) (x2 := some (.int (M.many xs))) xs 0 _ none none j r c st.nn e1 (Nat.zero_le _) (by simpa using e2)
  have en := cEn_loc (c := cVar 0) (ρ := ⟨A.length, [some (.loc l), some (.int d), some (.int (M.many xs)), some (.int (M.many xs - 1 - d)), none, none]⟩) (A := A) (A1 := A) (by simp) h
  have g1 : ¬ (M.many xs ≤ d) := by omega
  have g0 : (1 : Int) ≤ d := by omega
  simp only [mkFn, c_road_of, List.map_cons, List.map_nil, List.length_cons, List.length_nil, Nat.zero_add, Nat.reduceAdd, Nat.reduceSub, List.replicate, List.cons_append, List.nil_append]
  rw [seq_nx (s := [some (.loc l), some (.int d), none, none, none, none]) (A1 := A) (by simp [h1 A l xs h st])]
  rw [seq_nx (s := [some (.loc l), some (.int d), some (.int (M.many xs)), none, none, none]) (A1 := A) (by simp [cPut, h2 A l xs h])]
  rw [seq_nx (s := [some (.loc l), some (.int d), some (.int (M.many xs)), none, none, none]) (A1 := A) (by simp [h0 A d 1, g0, g1])]
  rw [seq_nx (s := [some (.loc l), some (.int d), some (.int (M.many xs)), some (.int (M.many xs - 1 - d)), none, none]) (A1 := A) (by simp [cPut])]
  rw [seq_rt ((for_of en).trans lp)]
  split at hq
  · rename_i hr
    cases hq
    simp [hr]
  · rename_i hr
    cases hq
    simp [hr]
end G

set_option Elab.async false
set_option linter.all false
set_option maxRecDepth 100000
set_option maxHeartbeats 1000000
set_option autoImplicit false
namespace Ab
open PySem PySem.Spec PyProof.Rows L2
/-! sizes -/
def lg (x : Int) : Nat := x.natAbs.log2
theorem lg_lt {x : Int} {k : Nat} (h : x.natAbs < 2 ^ k) : lg x ≤ k := by
  unfold lg
  by_cases h0 : x.natAbs = 0
  · rw [h0]; simp
  · exact Nat.le_of_lt ((Nat.log2_lt h0).mpr h)
theorem lt_lg (x : Int) : x.natAbs < 2 ^ (lg x + 1) := Nat.lt_log2_self
theorem lg_add (x y : Int) : lg (x + y) ≤ max (lg x) (lg y) + 2 := by
  apply lg_lt
  have h1 := lt_lg x
  have h2 := lt_lg y
  have h3 : (x + y).natAbs ≤ x.natAbs + y.natAbs := Int.natAbs_add_le x y
  have m1 : 2 ^ (lg x + 1) ≤ 2 ^ (max (lg x) (lg y) + 1) := Nat.pow_le_pow_right (by decide) (by omega)
  have m2 : 2 ^ (lg y + 1) ≤ 2 ^ (max (lg x) (lg y) + 1) := Nat.pow_le_pow_right (by decide) (by omega)
  have m3 : 2 ^ (max (lg x) (lg y) + 2) = 2 ^ (max (lg x) (lg y) + 1) * 2 := Nat.pow_succ ..
  omega
theorem lg_mul (x y : Int) : lg (x * y) ≤ lg x + lg y + 2 := by
  apply lg_lt
  have h1 := lt_lg x
  have h2 := lt_lg y
  rw [Int.natAbs_mul, show lg x + lg y + 2 = (lg x + 1) + (lg y + 1) by omega, Nat.pow_add]
  exact Nat.mul_lt_mul'' h1 h2
theorem lg_neg (x : Int) : lg (-x) = lg x := by unfold lg; rw [Int.natAbs_neg]
theorem lg_sub (x y : Int) : lg (x - y) ≤ max (lg x) (lg y) + 2 := by
  have := lg_add x (-y)
  rw [lg_neg] at this
  exact this
theorem lg_bits {x : Int} {n : Nat} (h : Builtin.Int.intBits x ≤ n) : lg x ≤ n := by
  unfold Builtin.Int.intBits at h
  unfold lg
  split at h
  · rename_i h0
    have : x = 0 := by simpa using h0
    subst this
    simp
  · omega
theorem lg_sum {n : Nat} : ∀ {xs : List Int}, (∀ x ∈ xs, lg x ≤ n) → lg xs.sum ≤ n + 2 * xs.length
  | [], _ => by simp [lg]
  | x :: r, h => by
    have h1 := h x (by simp)
    have h2 := lg_sum (n := n) (xs := r) fun y hy => h y (by simp [hy])
    have h3 := lg_add x r.sum
    rw [List.sum_cons, List.length_cons]
    omega
theorem fMul_ {b : Nat} {i j : Int} {A : AH} (h : lg i + lg j < 100000000) : fMul b [.int i, .int j] A = .ok (.int (i * j)) A := by
  unfold lg at h
  simp [fMul, h]
theorem fPow_ {b : Nat} {i j : Int} {A : AH} (h : 0 ≤ j ∧ j ≤ 1000000 ∧ i.natAbs < 2 ^ 64) : fPow b [.int i, .int j] A = .ok (.int (i ^ j.toNat)) A := by
  show (if decide (0 ≤ j ∧ j ≤ 1000000 ∧ i.natAbs < 2 ^ 64) = true then Res.ok (Vl.int (i ^ j.toNat)) A else Res.bad) = _
  rw [if_pos (decide_eq_true h)]
/-! == of data -/
theorem eqvAll_ints : ∀ ns ms : List Int, PyData.eqvAll (ns.map PyData.int) (ms.map PyData.int) = decide (ns = ms)
  | [], [] => by simp [PyData.eqvAll]
  | [], _ :: _ => by simp [PyData.eqvAll]
  | _ :: _, [] => by simp [PyData.eqvAll]
  | n :: r, k :: q => by
    simp only [List.map_cons, PyData.eqvAll, PyData.eqv, eqvAll_ints r q]
    by_cases h : n = k <;> simp [h]
theorem toD_int {A : AH} {f : Nat} {i : Int} : toD A (f + 1) (.int i) = some (.int i) := by rw [toD]
theorem mapO_ints {A : AH} {f : Nat} : ∀ ns : List Int, mapO (toD A (f + 1)) (ns.map Vl.int) = some (ns.map PyData.int)
  | [] => rfl
  | n :: r => by simp only [List.map_cons, mapO, toD_int, mapO_ints r]
theorem toD_loc {A : AH} {f l : Nat} {ns : List Int} (h : LA A l ns) : toD A (f + 2) (.loc l) = some (.list (ns.map PyData.int)) := by
  unfold toD
  simp [seqL, h, mapO_ints]
theorem toD_new {A : AH} {f : Nat} {ns : List Int} : toD A (f + 2) (.new .lst (ns.map Vl.int)) = some (.list (ns.map PyData.int)) := by
  unfold toD
  simp [seqL, mapO_ints]
theorem toD_rol {A : AH} {f : Nat} {ns : List Int} : toD A (f + 2) (.rol (ns.map Vl.int)) = some (.list (ns.map PyData.int)) := by
  unfold toD
  simp [seqL, mapO_ints]
theorem fEq_list {neg : Bool} {b : Nat} {A : AH} {x y : Vl} {l : List PyData} {e : PyData} (hx : toD A 8 x = some (.list l)) (hy : toD A 8 y = some e) (s1 : SeqAt.shaped (.list l) = true) (s2 : SeqAt.shaped e = true) : fEqD neg b [x, y] A = .ok (.bl (if neg = true then !PyData.eqv (.list l) e else PyData.eqv (.list l) e)) A := by
  unfold fEqD
  split
  · rename_i e1; cases e1; simp [toD] at hx
  · rename_i e1; cases e1; simp [toD] at hx
  · rename_i e1; cases e1; simp [hx, hy, s1, s2]
  · rename_i h3; exact absurd rfl (h3 x y)
theorem fEq_tuple {neg : Bool} {b : Nat} {A : AH} {x y : Vl} {l : List PyData} {e : PyData} (hx : toD A 8 x = some (.tuple l)) (hy : toD A 8 y = some e) (s1 : SeqAt.shaped (.tuple l) = true) (s2 : SeqAt.shaped e = true) : fEqD neg b [x, y] A = .ok (.bl (if neg = true then !PyData.eqv (.tuple l) e else PyData.eqv (.tuple l) e)) A := by
  unfold fEqD
  split
  · rename_i e1; cases e1; simp [toD] at hx
  · rename_i e1; cases e1; simp [toD] at hx
  · rename_i e1; cases e1; simp [hx, hy, s1, s2]
  · rename_i h3; exact absurd rfl (h3 x y)
/-- two lists of whole numbers -/
theorem fEq_ints {neg : Bool} {b : Nat} {A : AH} {x y : Vl} {ns ms : List Int} (hx : toD A 8 x = some (.list (ns.map PyData.int))) (hy : toD A 8 y = some (.list (ms.map PyData.int))) : fEqD neg b [x, y] A = .ok (.bl (if neg = true then !decide (ns = ms) else decide (ns = ms))) A := by
  rw [fEq_list hx hy (PySem.W.shaped_ints ns) (PySem.W.shaped_ints ms)]
  simp only [PyData.eqv, eqvAll_ints]
theorem toD_tup2 {A : AH} {f : Nat} {i j : Int} : toD A (f + 2) (.tup [.int i, .int j]) = some (.tuple [.int i, .int j]) := by simp [toD, mapO]
theorem shaped_2 {i j : Int} : SeqAt.shaped (.tuple [.int i, .int j]) = true := by
  simp [SeqAt.shaped, PyData.canLay0, PyData.canLayAll0, PyData.depth, PyData.depthAll]
/-- two pairs -/
theorem fEq_pairs {neg : Bool} {b : Nat} {A : AH} {i j k l : Int} : fEqD neg b [.tup [.int i, .int j], .tup [.int k, .int l]] A = .ok (.bl (if neg = true then !decide (i = k ∧ j = l) else decide (i = k ∧ j = l))) A := by
  rw [fEq_tuple toD_tup2 toD_tup2 shaped_2 shaped_2]
  have : PyData.eqv (.tuple [.int i, .int j]) (.tuple [.int k, .int l]) = decide (i = k ∧ j = l) := by
    simp only [PyData.eqv, PyData.eqvAll, Bool.and_true]
    by_cases h1 : i = k <;> by_cases h2 : j = l <;> simp [h1, h2]
  rw [this]
theorem perm_of_sub {α : Type} [DecidableEq α] : ∀ {l m : List α}, l.Nodup → (∀ x ∈ l, x ∈ m) → m.length ≤ l.length → l.Perm m
  | [], m, _, _, h => by
    have : m = [] := List.length_eq_zero_iff.mp (by simpa using h)
    rw [this]
  | x :: r, m, hn, hs, hl => by
    rw [List.nodup_cons] at hn
    have hx := hs x (by simp)
    refine ((perm_of_sub hn.2 (fun y hy => ?_) ?_).cons x).trans (List.perm_cons_erase hx).symm
    · exact (List.mem_erase_of_ne (a := y) (b := x) fun z => hn.1 (z ▸ hy)).mpr (hs y (by simp [hy]))
    · rw [List.length_erase_of_mem hx]
      simp at hl
      omega
theorem isort_range {l : List Int} {n : Nat} (h1 : l.length = n) (h2 : l.Nodup) (h3 : ∀ x ∈ l, 0 ≤ x ∧ x < n) : isort l = (List.range n).map fun i : Nat => (i : Int) := by
  apply isort_eq
  · have hs : l.Subset ((List.range n).map fun i : Nat => (i : Int)) := fun x hx => by
      obtain ⟨a, b⟩ := h3 x hx
      rw [List.mem_map]
      exact ⟨x.toNat, by rw [List.mem_range]; omega, by omega⟩
    exact (perm_of_sub h2 hs (by simp [h1])).symm
  · rw [List.pairwise_map]
    refine List.Pairwise.imp ?_ List.pairwise_lt_range
    intro a b h
    omega
end Ab

set_option Elab.async false
set_option linter.all false
set_option maxRecDepth 100000
set_option maxHeartbeats 1000000
set_option autoImplicit false
namespace Ab
open PySem PySem.Spec PyProof.Rows L2
theorem toD_2 {A : AH} {f : Nat} : toD A (f + 1) (.new .lst []) = some (.list []) := by
  unfold toD
  simp [seqL, mapO]
theorem fIx_n {b : Nat} {xs : List Vl} {n : Nat} {d : Vl} {A : AH} (h : xs[n]? = some d) : fIx b [.tup xs, .int n] A = .ok d A := fIx_tup (atI_n h)
theorem rgL_map (n : Nat) : rgL 0 (n : Int) = (List.range n).map fun i : Nat => Vl.int (i : Int) := by
  unfold rgL
  simp
theorem cRg1_n {c : CE} {ρ : Ev} {A A1 : AH} {n : Nat} (h : c ρ A = .ok (.int n) A1) (hn : n ≤ 100000) : cRg1 c ρ A = .ok ((List.range n).map fun i : Nat => Vl.int (i : Int), []) A1 := by
  have : (0 : Int) ≤ 0 ∧ (0 : Int) ≤ 100000 ∧ (-100000 : Int) ≤ n ∧ (n : Int) ≤ 100000 := by omega
  simp [cRg1, h, fRg, this, rgL_map]
end Ab
namespace G
open PySem PySem.Spec PyProof.Rows L2 Ab
variable {R : Nat → Fn}
def lmix (c a w : Int) : Int := ((c + 977 * a) * 48271 + w) % 2147483647
def lmor (c a w : Int) : Int := lmix c a w * (lmix c a w + 31 * a + 7) * (lmix c a w + c + 5)
def lnum (c a w : Int) : Int := if (10 : Int) ^ 18 ≤ c then c else lmor c a w * (lmor c a w + 48271) / 1009
def LawNumber (f : Fn) : Prop := ∀ A c a w, lg c ≤ 2000000 → lg w ≤ 2000000 → 0 ≤ a → a ≤ 1000 → f [.int c, .int a, .int w] A = .ok (.int (lnum c a w)) A
theorem lg_small {x : Int} (k : Nat) (h : x.natAbs < 2 ^ k) : lg x ≤ k := lg_lt h
theorem law_number_ok : LawNumber (mkFn 5 (c__law_number R)) := fun A c a w hc hw h0 h1 => by
  have la : lg a ≤ 10 := lg_small 10 (by omega)
  have l977 : lg (977 : Int) ≤ 10 := lg_small 10 (by decide)
  have l31 : lg (31 : Int) ≤ 10 := lg_small 10 (by decide)
  have l4 : lg (48271 : Int) ≤ 16 := lg_small 16 (by decide)
  have l7 : lg (7 : Int) ≤ 10 := lg_small 10 (by decide)
  have l5 : lg (5 : Int) ≤ 10 := lg_small 10 (by decide)
  have a1 := lg_mul 977 a
  have a2 := lg_add c (977 * a)
  have a3 := lg_mul (c + 977 * a) 48271
  have hm0 : 0 ≤ lmix c a w := Int.emod_nonneg _ (by decide)
  have hm1 : lmix c a w < 2147483647 := Int.emod_lt_of_pos _ (by decide)
  have lm : lg (lmix c a w) ≤ 31 := lg_small 31 (by omega)
  have b1 := lg_mul 31 a
  have b2 := lg_add (lmix c a w) (31 * a)
  have b3 := lg_add (lmix c a w + 31 * a) 7
  have b4 := lg_mul (lmix c a w) (lmix c a w + 31 * a + 7)
  have b5 := lg_add (lmix c a w) c
  have b6 := lg_add (lmix c a w + c) 5
  have b7 := lg_mul (lmix c a w * (lmix c a w + 31 * a + 7)) (lmix c a w + c + 5)
  have c1 : lg (lmor c a w) ≤ lg (lmix c a w * (lmix c a w + 31 * a + 7)) + lg (lmix c a w + c + 5) + 2 := b7
  have c2 := lg_add (lmor c a w) 48271
  simp only [mkFn, c__law_number, List.map_cons, List.map_nil, List.length_cons, List.length_nil, Nat.zero_add, Nat.reduceAdd, Nat.reduceSub, List.replicate, List.cons_append, List.nil_append]
  have hpow : fPow A.length [.int 10, .int 18] A = .ok (.int (10 ^ 18)) A := fPow_ ⟨by decide, by decide, by decide⟩
  by_cases hge : (10 : Int) ^ 18 ≤ c
  · rw [seq_rt (v := .int c) (A1 := A)]
    · rw [fin_rt, gc_len]; unfold lnum; rw [if_pos hge]
    · simp only [cIf_, cTst_, cF2_, cVar_, List.getElem?_cons_zero, bind_ok, cC_, hpow, fGe_, decide_eq_true hge, asB_, cRet_]
  · rw [seq_nx (s := [some (.int c), some (.int a), some (.int w), none, none]) (A1 := A)]
    · rw [seq_nx (s := [some (.int c), some (.int a), some (.int w), some (.int (lmix c a w)), none]) (A1 := A)]
      · rw [seq_nx (s := [some (.int c), some (.int a), some (.int w), some (.int (lmix c a w)), some (.int (lmor c a w))]) (A1 := A)]
        · simp only [cRet_, cF2_, cVar_, List.getElem?_cons_succ, List.getElem?_cons_zero, bind_ok, cC_, fAdd_, fMul_ (i := lmor c a w) (j := lmor c a w + 48271) (by omega), fDiv_ (j := 1009) ⟨by decide, by decide⟩]
          rw [fin_rt, gc_len]; unfold lnum; rw [if_neg hge]
        · rw [put_nm (d := .int (lmor c a w)) (A1 := A)]
          · simp
          · simp only [cF2_, cVar_, List.getElem?_cons_succ, List.getElem?_cons_zero, bind_ok, cC_, fAdd_]
            rw [fMul_ (i := 31) (j := a) (by omega)]
            simp only [bind_ok, fAdd_]
            rw [fMul_ (i := lmix c a w) (by omega)]
            simp only [bind_ok]
            rw [fMul_ (by omega)]
            rfl
      · rw [put_nm (d := .int (lmix c a w)) (A1 := A)]
        · simp
        · simp only [cF2_, cVar_, List.getElem?_cons_succ, List.getElem?_cons_zero, bind_ok, cC_]
          rw [fMul_ (i := 977) (j := a) (by omega)]
          simp only [bind_ok, fAdd_]
          rw [fMul_ (i := c + 977 * a) (by omega)]
          simp only [bind_ok, fAdd_, fMod_ (j := 2147483647) (by decide)]
          rfl
    · simp only [cIf_, cTst_, cF2_, cVar_, List.getElem?_cons_zero, bind_ok, cC_, hpow, fGe_, decide_eq_false hge, asB_, cNx_]
def LawWhole (f : Fn) : Prop := ∀ A i, f [.int i] A = .ok (.bl true) A
theorem law_whole_ok : LawWhole (mkFn 1 (c__law_whole R)) := fun A i => by
  simp [mkFn, c__law_whole, isiB]
def cells (ns : List Int) : List Int := if ns = [] then [3] else ns.take 63
theorem cells_ok {ns : List Int} (h : ∀ z ∈ ns, Builtin.Int.intBits z ≤ 1048576) : cells ns ≠ [] ∧ (cells ns).length ≤ 63 ∧ ∀ z ∈ cells ns, lg z ≤ 1048576 := by
  unfold cells
  split
  · refine ⟨by simp, by simp, fun z hz => ?_⟩
    simp at hz
    subst hz
    exact Nat.le_trans (lg_small 10 (by decide)) (by decide)
  · rename_i h0
    refine ⟨?_, by simp; omega, fun z hz => lg_bits (h z (List.mem_of_mem_take hz))⟩
    intro z
    cases ns with
    | nil => exact h0 rfl
    | cons a r => simp at z
/-- the street of a script -/
def wide (w : Int) : Int := if w / 720 % 4 = 0 then 3 else if w / 720 % 4 = 1 then 6 else if w / 720 % 4 = 2 then 10 ^ 6 else 10 ^ 40
def spots (w : Int) : Nat := (if w / 6 % 2 = 0 then 1 + w % 6 else 1 + w / 12 % 60).toNat
def street (ns : List Int) (by_ : Int) : List Int := (List.range (spots ((cells ns).sum + by_))).map fun i : Nat => lnum ((cells ns).getD (((i : Int) + by_) % (cells ns).length).toNat 0) (i + by_) ((cells ns).sum + by_) / 3 % wide ((cells ns).sum + by_)
theorem wide_pos (w : Int) : 0 < wide w := by unfold wide; split <;> (try split) <;> (try split) <;> decide
theorem spots_ok (w : Int) : 1 ≤ spots w ∧ spots w ≤ 60 := by
  unfold spots
  split <;> omega
theorem street_ok (ns : List Int) (by_ : Int) : Street (street ns by_) := by
  have := spots_ok ((cells ns).sum + by_)
  refine ⟨by simp [street]; omega, by simp [street]; omega, fun x hx => ?_⟩
  unfold street at hx
  rw [List.mem_map] at hx
  obtain ⟨i, _, rfl⟩ := hx
  exact Int.emod_nonneg _ (by have := wide_pos ((cells ns).sum + by_); omega)
def LawStreet (f : Fn) : Prop := ∀ A ns (b : Int), (∀ z ∈ ns, Builtin.Int.intBits z ≤ 1048576) → 0 ≤ b → b ≤ 10 → f [.rol (ns.map Vl.int), .int b] A = .ok (.new .lst ((street ns b).map Vl.int)) A
theorem law_street_ok (h34 : LawNumber (R 34)) : LawStreet (mkFn 7 (c__law_street R)) := fun A ns b hb b0 b1 => by
  obtain ⟨k1, k2, k3⟩ := cells_ok hb
  have kl : 0 < (cells ns).length := by
    cases h : cells ns with
    | nil => exact absurd h k1
    | cons _ _ => simp
  have ks := lg_sum k3
  have ks2 := lg_add (cells ns).sum b
  have lb : lg b ≤ 10 := lg_small 10 (by omega)
  let w := (cells ns).sum + b
  have hw : lg w ≤ 2000000 := by
    show lg ((cells ns).sum + b) ≤ _
    omega
  have sp := spots_ok w
  simp only [mkFn, c__law_street, List.map_cons, List.map_nil, List.length_cons, List.length_nil, Nat.zero_add, Nat.reduceAdd, Nat.reduceSub, List.replicate, List.cons_append, List.nil_append]
  -- the cells
  have e1 : cPut (.nm 2) (cIfE (cTst (cF2 (fEqD true) (cVar 0) (cLst cNil))) (cSl (cVar 0) none (some (cC (.int 63)))) (cLst (cCons (cC (.int 3)) cNil))) ⟨A.length, [some (.rol (ns.map Vl.int)), some (.int b), none, none, none, none, none]⟩ A = .nx [some (.rol (ns.map Vl.int)), some (.int b), some (.loc A.length), none, none, none, none] (A ++ [(.lst, (cells ns).map Vl.int)]) := by
    rw [put_nm (d := .new .lst ((cells ns).map Vl.int)) (A1 := A)]
    · rw [box_new (by simp)]; simp
    · have eq : fEqD true A.length [.rol (ns.map Vl.int), .new .lst []] A = .ok (.bl (!decide (ns = []))) A := fEq_ints (neg := true) (ns := ns) (ms := []) toD_rol (by rw [List.map_nil]; exact toD_2)
      simp only [cIfE_, cTst_, cF2_, cVar_, List.getElem?_cons_zero, bind_ok, cLst_, cNil_, List.length_nil, Nat.zero_le, if_true, eq, asB_]
      unfold cells
      by_cases h0 : ns = []
      · subst h0; simp
      · simp only [h0, decide_false, Bool.not_false, if_true, if_false]
        rw [cSl_rol (A1 := A) (A2 := A) (s := 63) (xs := ns.map Vl.int) (by simp) (by simp) (by decide)]
        simp [List.map_take]
  rw [seq_nx e1]
  have hA : LA (A ++ [(.lst, (cells ns).map Vl.int)]) A.length (cells ns) := by simp [LA]
  generalize hB : A ++ [(Kd.lst, (cells ns).map Vl.int)] = B at hA
  rw [seq_nx (s := [some (.rol (ns.map Vl.int)), some (.int b), some (.loc A.length), some (.int w), none, none, none]) (A1 := B) (by simp [cPut, fSum_loc hA]; rfl)]
  have e3 : cPut (.nm 4) (cF2 fIx (cTup (cCons (cF2 fAdd (cC (.int 1)) (cF2 fMod (cVar 3) (cC (.int 6)))) (cCons (cF2 fAdd (cC (.int 1)) (cF2 fMod (cF2 fDiv (cVar 3) (cC (.int 12))) (cC (.int 60)))) cNil))) (cF2 fMod (cF2 fDiv (cVar 3) (cC (.int 6))) (cC (.int 2)))) ⟨A.length, [some (.rol (ns.map Vl.int)), some (.int b), some (.loc A.length), some (.int w), none, none, none]⟩ B = .nx [some (.rol (ns.map Vl.int)), some (.int b), some (.loc A.length), some (.int w), some (.int (spots w)), none, none] B := by
    rw [put_nm (d := .int (spots w)) (A1 := B)]
    · simp
    · simp only [cF2_, cTup_, cCons_, cNil_, cVar_, List.getElem?_cons_succ, List.getElem?_cons_zero, bind_ok, cC_, fMod_ (show (0 : Int) < 6 by decide), fMod_ (show (0 : Int) < 60 by decide), fMod_ (show (0 : Int) < 2 by decide), fDiv_ (show (0 : Int) < 12 ∧ (12 : Int) < 1073741824 by decide), fDiv_ (show (0 : Int) < 6 ∧ (6 : Int) < 1073741824 by decide), fAdd_, List.length_cons, List.length_nil]
      rw [if_pos (by decide)]
      unfold spots
      by_cases hq : w / 6 % 2 = 0
      · simp only [bind_ok, hq, if_true, fIx_t0]
        congr 2; omega
      · have hq2 : w / 6 % 2 = 1 := by omega
        simp only [bind_ok, hq2, fIx_t1]
        congr 2; simp; omega
  rw [seq_nx e3]
  have e4 : cPut (.nm 5) (cF2 fIx (cTup (cCons (cC (.int 3)) (cCons (cC (.int 6)) (cCons (cF2 fPow (cC (.int 10)) (cC (.int 6))) (cCons (cF2 fPow (cC (.int 10)) (cC (.int 40))) cNil))))) (cF2 fMod (cF2 fDiv (cVar 3) (cC (.int 720))) (cC (.int 4)))) ⟨A.length, [some (.rol (ns.map Vl.int)), some (.int b), some (.loc A.length), some (.int w), some (.int (spots w)), none, none]⟩ B = .nx [some (.rol (ns.map Vl.int)), some (.int b), some (.loc A.length), some (.int w), some (.int (spots w)), some (.int (wide w)), none] B := by
    rw [put_nm (d := .int (wide w)) (A1 := B)]
    · simp
    · have p1 : fPow A.length [.int 10, .int 6] B = .ok (.int (10 ^ 6)) B := fPow_ ⟨by decide, by decide, by decide⟩
      have p2 : fPow A.length [.int 10, .int 40] B = .ok (.int (10 ^ 40)) B := fPow_ ⟨by decide, by decide, by decide⟩
      simp only [cF2_, cTup_, cCons_, cNil_, cVar_, List.getElem?_cons_succ, List.getElem?_cons_zero, bind_ok, cC_, p1, p2, fMod_ (show (0 : Int) < 4 by decide), fDiv_ (show (0 : Int) < 720 ∧ (720 : Int) < 1073741824 by decide), List.length_cons, List.length_nil]
      rw [if_pos (by decide)]
      simp only [bind_ok]
      unfold wide
      have hc : w / 720 % 4 = 0 ∨ w / 720 % 4 = 1 ∨ w / 720 % 4 = 2 ∨ w / 720 % 4 = 3 := by omega
      rcases hc with q | q | q | q <;> rw [q]
      · exact fIx_n (n := 0) rfl
      · exact fIx_n (n := 1) rfl
      · exact fIx_n (n := 2) rfl
      · exact fIx_n (n := 3) rfl
  rw [seq_nx e4]
  have e5 : cLc (cRg1 (cVar 4)) (.nm 6) cYes (c__law_street_e0 R) [6] ⟨A.length, [some (.rol (ns.map Vl.int)), some (.int b), some (.loc A.length), some (.int w), some (.int (spots w)), some (.int (wide w)), none]⟩ B = .ok (.new .lst ((street ns b).map Vl.int)) B := by
    unfold street
    rw [List.map_map]
    refine cLc_map (phi := fun i : Nat => Vl.int (i : Int)) (w := []) (xs := List.range (spots w)) (cRg1_n (by simp) (by omega)) (by simp; omega) rfl fun i hi => ⟨_, put_n, ?_⟩
    rw [List.mem_range] at hi
    simp only [wipeS, List.set_cons_succ, List.set_cons_zero]
    have hx0 : 0 ≤ ((i : Int) + b) % (cells ns).length := Int.emod_nonneg _ (by omega)
    have hx1 : ((i : Int) + b) % (cells ns).length < (cells ns).length := Int.emod_lt_of_pos _ (by omega)
    have hlt : (((i : Int) + b) % (cells ns).length).toNat < (cells ns).length := by omega
    have hget : (cells ns)[(((i : Int) + b) % (cells ns).length).toNat]? = some ((cells ns).getD (((i : Int) + b) % (cells ns).length).toNat 0) := by
      rw [List.getD_eq_getElem?_getD, List.getElem?_eq_getElem hlt]; rfl
    have hix : atI ((cells ns).map Vl.int) (((i : Int) + b) % (cells ns).length) = some (.int ((cells ns).getD (((i : Int) + b) % (cells ns).length).toNat 0)) := by
      have := atI_n (xs := (cells ns).map Vl.int) (n := (((i : Int) + b) % (cells ns).length).toNat) (d := .int ((cells ns).getD (((i : Int) + b) % (cells ns).length).toNat 0)) (by rw [List.getElem?_map, hget]; rfl)
      rwa [Int.toNat_of_nonneg hx0] at this
    have hlc : lg ((cells ns).getD (((i : Int) + b) % (cells ns).length).toNat 0) ≤ 2000000 := Nat.le_trans (k3 _ (List.mem_of_getElem? hget)) (by decide)
    have hn := h34 B ((cells ns).getD (((i : Int) + b) % (cells ns).length).toNat 0) ((i : Int) + b) w hlc hw (by omega) (by omega)
    have hkl : (0 : Int) < ((cells ns).map Vl.int).length := by simp; omega
    simp only [c__law_street_e0, cF2_, cCall_, cCons_, cNil_, cF_, cVar_, List.getElem?_cons_succ, List.getElem?_cons_zero, bind_ok, cC_, fAdd_, fLen_loc hA, fMod_ hkl, callF_, boxs_cons, boxs_nil, box_int]
    rw [List.length_map, fIx_loc hA hix]
    simp only [bind_ok, boxs_cons, boxs_nil, box_int, hn, back_ok, gc_len, fDiv_ (show (0 : Int) < 3 ∧ (3 : Int) < 1073741824 by decide), fMod_ (wide_pos w)]
    rfl
  rw [cRet_, e5]
  simp only [fin_rt]
  rw [← hB, gc_new (by simp)]
end G

set_option Elab.async false
set_option linter.all false
set_option maxRecDepth 100000
set_option maxHeartbeats 1000000
set_option autoImplicit false
namespace Ab
open PySem PySem.Spec PyProof.Rows L2
@[simp] theorem at_app {A B : AH} {j : Nat} : (A ++ B)[A.length + j]? = B[j]? := by
  rw [List.getElem?_append_right (by omega)]; simp
@[simp] theorem at_app0 {A B : AH} : (A ++ B)[A.length]? = B[0]? := by
  rw [List.getElem?_append_right (by omega)]; simp
@[simp] theorem set_app {A B : AH} {j : Nat} {c : Cell} : (A ++ B).set (A.length + j) c = A ++ B.set j c := by
  rw [List.set_append_right _ _ (by omega)]; simp
theorem fAppend_ {b l : Nat} {A : AH} {xs : List Vl} {y : Vl} (h : A[l]? = some (.lst, xs)) (hp : plain y = true) (hl : xs.length < 100000) (hm : b ≤ l) : fAppend b [.loc l, y] A = .ok .non (A.set l (.lst, xs ++ [y])) := by
  simp [fAppend, box_plain y A hp, h, hl, mayPut, hm]
theorem cM_loc {F : FB} {co : CE} {cs : CA} {ρ : Ev} {A A1 : AH} {l : Nat} {xs : List Vl} (h : co ρ A = .ok (.loc l) A1) (hl : A1[l]? = some (.lst, xs)) : cM F co cs ρ A = (cs ρ A1).bind fun ds A2 => F ρ.b (.loc l :: ds) A2 := by
  simp [cM, h, seqL, hl]
end Ab
namespace G
open PySem PySem.Spec PyProof.Rows L2 Ab
variable {R : Nat → Fn}
abbrev pr (q : Nat × Int) : Vl := .tup [.int q.1, .int q.2]
theorem plains_pr (qs : List (Nat × Int)) : plains (qs.map pr) = true := by
  induction qs with
  | nil => rfl
  | cons q r ih => simp [ih]
def LawSomeHouse (f : Fn) : Prop := ∀ A l xs n, LA A l xs → Street xs → ∃ q : Nat × Int, M.IsH xs q.1 q.2 ∧ f [.loc l, .int n] A = .ok (pr q) A
theorem law_some_house_ok : LawSomeHouse (mkFn 3 (c__law_some_house R)) := fun A l xs n h st => by
  have hl : (0 : Int) < xs.length := by have := st.lo; omega
  have hl2 : (0 : Int) < (xs.map Vl.int).length := by simpa using hl
  have h0 : 0 ≤ n % xs.length := Int.emod_nonneg _ (by omega)
  have h1 : n % xs.length < xs.length := Int.emod_lt_of_pos _ hl
  obtain ⟨s, hs⟩ := Int.eq_ofNat_of_zero_le h0
  have hs1 : s < xs.length := by omega
  have hc : xs[s]? = some xs[s] := List.getElem?_eq_getElem hs1
  have hcn := st.nn xs[s] (List.getElem_mem hs1)
  have hix : atI (xs.map Vl.int) (s : Int) = some (.int xs[s]) := atI_n (by rw [List.getElem?_map, hc]; rfl)
  have hp : (0 : Int) < xs[s] + 1 := by omega
  have p0 : 0 ≤ n / 61 % (xs[s] + 1) := Int.emod_nonneg _ (by omega)
  have p1 : n / 61 % (xs[s] + 1) < xs[s] + 1 := Int.emod_lt_of_pos _ hp
  refine ⟨(s, n / 61 % (xs[s] + 1)), ⟨xs[s], hc, p0, by simp only; omega⟩, ?_⟩
  have e1 : cPut (.nm 2) (cF2 fMod (cVar 1) (cF fLen (cCons (cVar 0) cNil))) ⟨A.length, [some (.loc l), some (.int n), none]⟩ A = .nx [some (.loc l), some (.int n), some (.int s)] A := by
    rw [put_nm (d := .int s) (A1 := A)]
    · simp
    · simp only [cF2_, cF_, cCons_, cNil_, cVar_, List.getElem?_cons_succ, List.getElem?_cons_zero, bind_ok, fLen_loc h, fMod_ hl2]
      rw [List.length_map, hs]
  simp only [mkFn, c__law_some_house, List.map_cons, List.map_nil, List.length_cons, List.length_nil, Nat.zero_add, Nat.reduceAdd, Nat.reduceSub, List.replicate, List.cons_append, List.nil_append]
  rw [seq_nx e1]
  simp [fIx_loc h hix, fDiv_ (show (0 : Int) < 61 ∧ (61 : Int) < 1073741824 by decide), fMod_ hp]
def LawIsHouse (f : Fn) : Prop := ∀ A l xs q, LA A l xs → M.IsH xs q.1 q.2 → f [.loc l, pr q] A = .ok (.bl true) A
theorem law_is_house_ok (h35 : LawWhole (R 35)) : LawIsHouse (mkFn 2 (c__law_is_house R)) := fun A l xs q h hh => by
  obtain ⟨s, p⟩ := q
  obtain ⟨c, hc, h0, h1⟩ := hh
  have hs := (List.getElem?_eq_some_iff.mp hc).1
  have hix : atI (xs.map Vl.int) (s : Int) = some (.int c) := atI_n (by rw [List.getElem?_map, hc]; rfl)
  have g1 : (s : Int) < xs.length := by omega
  have g2 : (0 : Int) ≤ s := by omega
  simp only at h0 h1
  simp [mkFn, c__law_is_house, cSeq, isiB, h35 A, cCh, fLen_loc h, fIx_loc h hix, h0, h1, g1, g2]
def every : Nat → List Int → List (Nat × Int)
  | _, [] => []
  | k, c :: r => ((List.range (c + 1).toNat).map fun i : Nat => (k, (i : Int))) ++ every (k + 1) r
theorem mem_every : ∀ {xs : List Int} {k : Nat} {q : Nat × Int}, q ∈ every k xs → k ≤ q.1 ∧ ∃ c, xs[q.1 - k]? = some c ∧ 0 ≤ q.2 ∧ q.2 ≤ c
  | [], _, _, h => by simp [every] at h
  | c :: r, k, q, h => by
    rw [every, List.mem_append] at h
    rcases h with h | h
    · rw [List.mem_map] at h
      obtain ⟨i, hi, rfl⟩ := h
      rw [List.mem_range] at hi
      exact ⟨Nat.le_refl _, c, by simp, by simp only; omega, by simp only; omega⟩
    · obtain ⟨h1, c', h2, h3, h4⟩ := mem_every h
      refine ⟨by omega, c', ?_, h3, h4⟩
      rw [show q.1 - k = (q.1 - (k + 1)) + 1 by omega]
      simpa using h2
theorem len_every : ∀ {xs : List Int} {k : Nat}, (∀ x ∈ xs, 0 ≤ x) → ((every k xs).length : Int) = M.many xs
  | [], _, _ => by simp [every, M.many]
  | c :: r, k, h => by
    have ih := len_every (xs := r) (k := k + 1) fun y hy => h y (by simp [hy])
    have hc := h c (by simp)
    unfold M.many at ih ⊢
    simp only [every, List.length_append, List.length_map, List.length_range, List.length_cons, List.sum_cons]
    omega
theorem nodup_every : ∀ {xs : List Int} {k : Nat}, (every k xs).Nodup
  | [], _ => by simp [every]
  | c :: r, k => by
    rw [every, List.nodup_append]
    refine ⟨?_, nodup_every, fun a ha b hb e => ?_⟩
    · refine List.Pairwise.map _ ?_ List.nodup_range
      intro a b h z
      simp only [Prod.mk.injEq, true_and] at z
      exact h (by omega)
    · rw [List.mem_map] at ha
      obtain ⟨i, _, rfl⟩ := ha
      have := (mem_every hb).1
      rw [← e] at this
      simp only at this
      omega
theorem every_isH {xs : List Int} {q : Nat × Int} (h : q ∈ every 0 xs) : M.IsH xs q.1 q.2 := by
  obtain ⟨_, c, h2, h3, h4⟩ := mem_every h
  exact ⟨c, by simpa using h2, h3, h4⟩
/-- all numbers of a street, sorted -/
theorem sort_every {xs : List Int} (hp : ∀ x ∈ xs, 0 ≤ x) : isort ((every 0 xs).map fun q => M.numAt xs q.1 q.2) = (List.range (M.many xs).toNat).map fun i : Nat => (i : Int) := by
  have hl := len_every (k := 0) hp
  have e : (M.many xs).toNat = (every 0 xs).length := by omega
  apply isort_range
  · rw [List.length_map, e]
  · refine List.Pairwise.of_map (S := fun a b => a ≠ b) (fun m => M.houseOf xs m) (fun a b h z => h (by rw [z])) ?_
    rw [List.map_map]
    have : (every 0 xs).map ((fun m => M.houseOf xs m) ∘ fun q => M.numAt xs q.1 q.2) = (every 0 xs).map some := by
      apply List.map_congr_left
      intro q hq
      exact (M.num_ok hp (every_isH hq)).2.2
    rw [this]
    exact List.Pairwise.map _ (fun a b h z => h (Option.some.inj z)) nodup_every
  · intro m hm
    rw [List.mem_map] at hm
    obtain ⟨q, hq, rfl⟩ := hm
    have := M.num_ok hp (every_isH hq)
    omega
def LawEvery (f : Fn) : Prop := ∀ A l xs, LA A l xs → (∀ x ∈ xs, 0 ≤ x) → M.many xs < 1000 → f [.loc l] A = .ok (.new .lst ((every 0 xs).map pr)) A
theorem every_loop {b l : Nat} {A : AH} {ys : List Int} : ∀ (xs : List Int) (k : Nat) (B : AH) (acc : List (Nat × Int)) (m : Nat) (x2 x3 x4 : Option Vl), LA A l ys → (A ++ B)[m]? = some (.lst, acc.map pr) → A.length ≤ m → (∀ x ∈ xs, 0 ≤ x) → M.many xs + acc.length < 2000 →
    ∃ B' m' y2 y3 y4, forL (.tp [.nm 2, .nm 3]) (c__law_every_b1 R) [(l, ys.map Vl.int)] b (enumL k (xs.map Vl.int)) [some (.loc l), some (.loc m), x2, x3, x4] (A ++ B) = .nx [some (.loc l), some (.loc m'), y2, y3, y4] (A ++ B') ∧
      (A ++ B')[m']? = some (.lst, (acc ++ every k xs).map pr) ∧ A.length ≤ m'
  | [], k, B, acc, m, x2, x3, x4, hl, h, hm, _, _ => ⟨B, m, x2, x3, x4, by simp [enumL, forL], by simpa [every] using h, hm⟩
  | x :: xs, k, B, acc, m, x2, x3, x4, hl, h, hm, hn, hs => by
    have hx := hn x (by simp)
    have hn' : ∀ y ∈ xs, 0 ≤ y := fun y hy => hn y (by simp [hy])
    have ht : 0 ≤ M.many xs := by
      have := len_every (k := 0) hn'
      omega
    have hmany : M.many (x :: xs) = x + 1 + M.many xs := by unfold M.many; simp; omega
    have hxs : ((x + 1).toNat : Int) = x + 1 := by omega
    have e1 : cLc (cRg1 (cF2 fAdd (cVar 3) (cC (.int 1)))) (.nm 4) cYes (c__law_every_e0 R) [4] ⟨b, [some (.loc l), some (.loc m), some (.int k), some (.int x), x4]⟩ (A ++ B) = .ok (.new .lst (((List.range (x + 1).toNat).map fun i : Nat => (k, (i : Int))).map pr)) (A ++ B) := by
      rw [List.map_map]
      refine cLc_map (phi := fun i : Nat => Vl.int (i : Int)) (w := []) (xs := List.range (x + 1).toNat) (cRg1_n (by simp; omega) (by omega)) (by simp; omega) rfl fun i hi => ⟨_, put_n, ?_⟩
      simp only [wipeS, List.set_cons_succ, List.set_cons_zero]
      simp [c__law_every_e0]
    have e2 : c__law_every_b1 R ⟨b, [some (.loc l), some (.loc m), some (.int k), some (.int x), x4]⟩ (A ++ B) = .nx [some (.loc l), some (.loc (A ++ B).length), some (.int k), some (.int x), x4] (A ++ (B ++ [(.lst, (acc ++ (List.range (x + 1).toNat).map fun i : Nat => (k, (i : Int))).map pr)])) := by
      unfold c__law_every_b1
      have hadd : fAdd b [.loc m, .new .lst (((List.range (x + 1).toNat).map fun i : Nat => (k, (i : Int))).map pr)] (A ++ B) = .ok (.new .lst ((acc ++ (List.range (x + 1).toNat).map fun i : Nat => (k, (i : Int))).map pr)) (A ++ B) := by
        have hc : (acc.map pr).length + (((List.range (x + 1).toNat).map fun i : Nat => (k, (i : Int))).map pr).length ≤ 100000 := by simp; omega
        simp only [fAdd, mutL, h, hc, if_true, List.map_append]
      rw [put_nm (d := .new .lst ((acc ++ (List.range (x + 1).toNat).map fun i : Nat => (k, (i : Int))).map pr)) (A1 := A ++ B)]
      · rw [box_new (plains_pr _)]
        simp
      · simp only [cF2_, cVar_, List.getElem?_cons_succ, List.getElem?_cons_zero, bind_ok]
        rw [e1]
        simp only [bind_ok, hadd]
    obtain ⟨B', m', y2, y3, y4, e3, e4, e5⟩ := every_loop xs (k + 1) (B ++ [(.lst, (acc ++ (List.range (x + 1).toNat).map fun i : Nat => (k, (i : Int))).map pr)]) (acc ++ (List.range (x + 1).toNat).map fun i : Nat => (k, (i : Int))) (A ++ B).length (some (.int k)) (some (.int x)) x4 hl (by rw [← List.append_assoc]; simp) (by simp) hn' (by simp; omega)
    refine ⟨B', m', y2, y3, y4, ?_, by rw [e4, every]; simp, e5⟩
    simp only [List.map_cons, enumL, forL, put_t, puts_c, put_n, puts_n, List.set_cons_succ, List.set_cons_zero, e2]
    rw [if_pos (seen_one (LA.app hl))]
    exact e3
theorem law_every_ok : LawEvery (mkFn 5 (c__law_every R)) := fun A l xs h hn hm => by
  obtain ⟨B', m', y2, y3, y4, e3, e4, e5⟩ := every_loop (R := R) (b := A.length) (l := l) (A := A) (ys := xs) xs 0 [(.lst, [])] [] A.length none none none h (by simp) (Nat.le_refl _) hn (by simpa using Int.lt_of_lt_of_le hm (by decide))
  simp only [mkFn, c__law_every, List.map_cons, List.map_nil, List.length_cons, List.length_nil, Nat.zero_add, Nat.reduceAdd, Nat.reduceSub, List.replicate, List.cons_append, List.nil_append]
  rw [seq_nx (s := [some (.loc l), some (.loc A.length), none, none, none]) (A1 := A ++ [(.lst, [])]) (by simp [cPut, box_new plains_nil])]
  rw [seq_nx ((for_of (cEn_loc (A1 := A ++ [(.lst, [])]) (by simp) (LA.app h))).trans e3)]
  simp only [cRet_, cVar_, List.getElem?_cons_succ, List.getElem?_cons_zero, fin_rt]
  rw [gc_loc e5 e4 (plains_pr _)]
  simp
end G

set_option linter.all false
set_option autoImplicit false
namespace M
/-! trees -/
def Adj (rs : List (Nat × Nat)) (a b : Nat) : Prop := (a, b) ∈ rs ∨ (b, a) ∈ rs
theorem Adj.symm {rs : List (Nat × Nat)} {a b : Nat} (h : Adj rs a b) : Adj rs b a := h.elim .inr .inl
structure TreeOk (n : Nat) (rs : List (Nat × Nat)) : Prop where
  n1 : 1 ≤ n
  n20 : n ≤ 20
  len : rs.length + 1 = n
  ok : ∀ r ∈ rs, r.1 < r.2 ∧ r.2 < n
  nd : rs.Nodup
  ord : ∃ o : Nat → Nat, (∀ u v, u < n → v < n → o u = o v → u = v) ∧ (∀ v, v < n → o v ≠ 0 → ∃ u, Adj rs u v ∧ o u < o v) ∧ (∀ v a b, Adj rs a v → Adj rs b v → o a < o v → o b < o v → a = b)
section
variable {n : Nat} {rs : List (Nat × Nat)}
theorem TreeOk.lt (t : TreeOk n rs) {a b : Nat} (h : Adj rs a b) : a < n ∧ b < n ∧ a ≠ b := by
  rcases h with h | h <;> have := t.ok _ h <;> simp only at this <;> omega
/-- what holds at one house and passes over each road holds everywhere -/
theorem TreeOk.all (t : TreeOk n rs) {P : Nat → Prop} (hP : ∀ a b, Adj rs a b → P a → P b) {w : Nat} (hw : w < n) (h : P w) : ∀ v, v < n → P v := by
  obtain ⟨o, inj, par, _⟩ := t.ord
  have down : ∀ k v, o v = k → v < n → ∃ r, r < n ∧ o r = 0 ∧ (P v ↔ P r) := by
    intro k
    induction k using Nat.strongRecOn with
    | ind k ih =>
      intro v hv hn
      by_cases h0 : o v = 0
      · exact ⟨v, hn, h0, Iff.rfl⟩
      · obtain ⟨u, hu, hlt⟩ := par v hn h0
        obtain ⟨r, h1, h2, h3⟩ := ih (o u) (by omega) u rfl (t.lt hu).1
        exact ⟨r, h1, h2, Iff.trans ⟨hP v u hu.symm, hP u v hu⟩ h3⟩
  obtain ⟨r, r1, r2, r3⟩ := down _ w rfl hw
  intro v hv
  obtain ⟨r', q1, q2, q3⟩ := down _ v rfl hv
  have : r = r' := inj r r' r1 q1 (by omega)
  subst this
  exact q3.mpr (r3.mp h)
end
/-- lists of those beside -/
structure Gr (n : Nat) (rs : List (Nat × Nat)) (G : List (List Nat)) : Prop where
  len : G.length = n
  mem : ∀ v, v < n → ∀ u, u ∈ G.getD v [] ↔ Adj rs u v
  nd : ∀ v, v < n → (G.getD v []).Nodup
def isIn (G : List (List Nat)) (v : Nat) : Bool := decide (1 < (G.getD v []).length)
def inner (G : List (List Nat)) : List Nat := (List.range G.length).filter (isIn G)
def inN (G : List (List Nat)) (v : Nat) : List Nat := (G.getD v []).filter (isIn G)
/-- no house with three beside it that have another road each -/
def NoSpread (G : List (List Nat)) : Prop := ∀ v, v < G.length → (inN G v).length ≤ 2
theorem two_of {l : List Nat} {x y : Nat} (hx : x ∈ l) (hy : y ∈ l) (h : x ≠ y) : 2 ≤ l.length := by
  cases l with
  | nil => simp at hx
  | cons a r =>
    cases r with
    | nil => simp at hx hy; omega
    | cons b r => simp
theorem erase_len {l : List Nat} {x : Nat} (h : x ∈ l) : (l.erase x).length + 1 = l.length := by
  rw [List.length_erase_of_mem h]
  have := List.length_pos_of_mem h
  omega
theorem three_of {l : List Nat} {x y z : Nat} (hx : x ∈ l) (hy : y ∈ l) (hz : z ∈ l) (h1 : x ≠ y) (h2 : x ≠ z) (h3 : y ≠ z) : 3 ≤ l.length := by
  have e := erase_len hx
  have a : y ∈ l.erase x := (List.mem_erase_of_ne (Ne.symm h1)).mpr hy
  have b : z ∈ l.erase x := (List.mem_erase_of_ne (Ne.symm h2)).mpr hz
  have := two_of a b h3
  omega
theorem one_of {l : List Nat} {x : Nat} (h : x ∈ l) (hl : l.length ≤ 1) : l = [x] := by
  cases l with
  | nil => simp at h
  | cons a r =>
    cases r with
    | nil => simp at h; rw [h]
    | cons b r => simp at hl
section
variable {n : Nat} {rs : List (Nat × Nat)} {G : List (List Nat)}
theorem mem_inN (g : Gr n rs G) {v u : Nat} (hv : v < n) : u ∈ inN G v ↔ Adj rs u v ∧ isIn G u = true := by
  unfold inN
  rw [List.mem_filter, g.mem v hv]
theorem mem_inner (g : Gr n rs G) {u : Nat} : u ∈ inner G ↔ u < n ∧ isIn G u = true := by
  unfold inner
  rw [List.mem_filter, List.mem_range, g.len]
/-- an inner set that is closed over inner roads is all of it; each other house has its one road to it -/
theorem cover (t : TreeOk n rs) (g : Gr n rs G) {F : Nat → Prop} (hF : ∀ a, F a → a < n ∧ isIn G a = true) (hc : ∀ a b, Adj rs a b → F a → isIn G b = true → F b) {w : Nat} (hw : F w) :
    ∀ v, v < n → F v ∨ (isIn G v = false ∧ ∃ x, F x ∧ Adj rs x v) := by
  refine t.all (P := fun v => F v ∨ (isIn G v = false ∧ ∃ x, F x ∧ Adj rs x v)) ?_ (hF w hw).1 (.inl hw)
  intro a b hab h
  rcases h with h | ⟨h, x, hx, hax⟩
  · cases hb : isIn G b with
    | true => exact .inl (hc a b hab h hb)
    | false => exact .inr ⟨rfl, a, h, hab⟩
  · have ha := (t.lt hab).1
    have l1 : (G.getD a []).length ≤ 1 := by
      unfold isIn at h
      have := of_decide_eq_false h
      omega
    have m1 := one_of ((g.mem a ha x).mpr hax) l1
    have m2 : b ∈ G.getD a [] := (g.mem a ha b).mpr hab.symm
    rw [m1] at m2
    simp at m2
    subst m2
    exact .inl hx
/-- a way -/
structure Way (n : Nat) (rs : List (Nat × Nat)) (G : List (List Nat)) (W : List Nat) : Prop where
  ne : W ≠ []
  nd : W.Nodup
  lt : ∀ v ∈ W, v < n
  nx : ∀ (i a b : Nat), W[i]? = some a → W[i + 1]? = some b → Adj rs a b
  only : ∀ (i j a b : Nat), i < j → W[i]? = some a → W[j]? = some b → Adj rs a b → j = i + 1
  leaf : ∀ v, v < n → v ∉ W → ∃ w, w ∈ W ∧ G.getD v [] = [w]
/-- no inner house: at most two houses -/
theorem way_zero (t : TreeOk n rs) (g : Gr n rs G) (h : inner G = []) : Way n rs G [0] := by
  have no : ∀ v, v < n → (G.getD v []).length ≤ 1 := fun v hv => by
    have : ¬ v ∈ inner G := by rw [h]; simp
    rw [mem_inner g] at this
    have : ¬ isIn G v = true := fun z => this ⟨hv, z⟩
    unfold isIn at this
    simp at this
    exact this
  have h0 : 0 < n := t.n1
  have all : ∀ v, v < n → v = 0 ∨ Adj rs 0 v := by
    refine t.all ?_ h0 (.inl rfl)
    intro a b hab ha
    rcases ha with rfl | ha
    · exact .inr hab
    · have := (t.lt hab).1
      have m1 := one_of ((g.mem a this 0).mpr ha) (no a this)
      have m2 := (g.mem a this b).mpr hab.symm
      rw [m1] at m2
      simp at m2
      exact .inl m2
  refine ⟨by simp, by simp, by simpa using h0, fun i a b _ h2 => by simp at h2, fun i j a b hij h1 h2 _ => ?_, fun v hv hn => ?_⟩
  · have := (List.getElem?_eq_some_iff.mp h2).1
    simp at this
    omega
  · rcases all v hv with rfl | h
    · simp at hn
    · exact ⟨0, by simp, one_of ((g.mem v hv 0).mpr h) (no v hv)⟩
/-- the house that was laid last among the inner ones has at most one inner one beside it -/
theorem has_end (t : TreeOk n rs) (g : Gr n rs G) (h : inner G ≠ []) : ∃ v, v ∈ inner G ∧ (inN G v).length < 2 := by
  obtain ⟨o, inj, _, low⟩ := t.ord
  have mx : ∀ l : List Nat, l ≠ [] → ∃ v, v ∈ l ∧ ∀ u ∈ l, o u ≤ o v := by
    intro l
    induction l with
    | nil => intro h; exact absurd rfl h
    | cons a r ih =>
      intro _
      by_cases hr : r = []
      · subst hr; exact ⟨a, by simp, by simp⟩
      · obtain ⟨v, hv, hm⟩ := ih hr
        by_cases hav : o v ≤ o a
        · exact ⟨a, by simp, fun u hu => by
            rcases List.mem_cons.mp hu with rfl | hu
            · exact Nat.le_refl _
            · exact Nat.le_trans (hm u hu) hav⟩
        · exact ⟨v, by simp [hv], fun u hu => by
            rcases List.mem_cons.mp hu with rfl | hu
            · omega
            · exact hm u hu⟩
  obtain ⟨v, hv, hm⟩ := mx _ h
  refine ⟨v, hv, ?_⟩
  obtain ⟨hvn, _⟩ := (mem_inner g).mp hv
  apply Classical.byContradiction
  intro hlen
  have hnd : (inN G v).Nodup := (g.nd v hvn).sublist List.filter_sublist
  match hl : inN G v, hlen with
  | [], hlen => simp at hlen
  | [_], hlen => simp at hlen
  | a :: b :: r, _ =>
    have ha := (mem_inN g hvn).mp (by rw [hl]; simp : a ∈ inN G v)
    have hb := (mem_inN g hvn).mp (by rw [hl]; simp : b ∈ inN G v)
    have la := hm a ((mem_inner g).mpr ⟨(t.lt ha.1).1, ha.2⟩)
    have lb := hm b ((mem_inner g).mpr ⟨(t.lt hb.1).1, hb.2⟩)
    have na : o a ≠ o v := fun z => (t.lt ha.1).2.2 (inj a v (t.lt ha.1).1 hvn z)
    have nb : o b ≠ o v := fun z => (t.lt hb.1).2.2 (inj b v (t.lt hb.1).1 hvn z)
    have e := low v a b ha.1 hb.1 (by omega) (by omega)
    rw [hl] at hnd
    simp [e] at hnd
def onOf (G : List (List Nat)) (I found : List Nat) (x : Nat) : List Nat := (G.getD x []).filter fun o => decide (o ∈ I) && !decide (o ∈ found)
def walkW (G : List (List Nat)) (I : List Nat) : Nat → List Nat → List Nat → Option (List Nat)
  | 0, _, _ => none
  | f + 1, found, [] => some found
  | f + 1, found, x :: _ => walkW G I f (found ++ [x]) (onOf G I (found ++ [x]) x)
/-- the way so far -/
structure Part (n : Nat) (rs : List (Nat × Nat)) (G : List (List Nat)) (F : List Nat) : Prop where
  nd : F.Nodup
  inn : ∀ v ∈ F, v ∈ inner G
  nx : ∀ (i a b : Nat), F[i]? = some a → F[i + 1]? = some b → Adj rs a b
  fst : ∀ a, F[0]? = some a → (inN G a).length < 2
  old : ∀ (i a b x : Nat), F[i]? = some a → F[i + 1]? = some b → Adj rs x a → isIn G x = true → x = b ∨ ∃ j, i = j + 1 ∧ F[j]? = some x
theorem mem_on (g : Gr n rs G) {F : List Nat} {x y : Nat} (hx : x < n) : y ∈ onOf G (inner G) F x ↔ Adj rs y x ∧ y ∈ inner G ∧ y ∉ F := by
  unfold onOf
  rw [List.mem_filter, g.mem x hx]
  simp
theorem part_step (t : TreeOk n rs) (g : Gr n rs G) (ns : NoSpread G) {F : List Nat} {x y : Nat} (p : Part n rs G (F ++ [x])) (hy : y ∈ onOf G (inner G) (F ++ [x]) x) : Part n rs G (F ++ [x] ++ [y]) := by
  have hxn : x < n := ((mem_inner g).mp (p.inn x (by simp))).1
  obtain ⟨ha, hi, hn⟩ := (mem_on g hxn).mp hy
  have hyi := ((mem_inner g).mp hi).2
  refine ⟨?_, ?_, ?_, ?_, ?_⟩
  · rw [List.nodup_append]
    exact ⟨p.nd, by simp, fun a hm b hb e => hn (by simp at hb; subst hb; subst e; exact hm)⟩
  · intro v hv
    rcases List.mem_append.mp hv with h | h
    · exact p.inn v h
    · simp at h; subst h; exact hi
  · intro i a b h1 h2
    have hl := (List.getElem?_eq_some_iff.mp h2).1
    simp at hl
    by_cases hi : i < F.length
    · exact p.nx i a b (by rw [List.getElem?_append_left (by simp; omega)] at h1; exact h1) (by rw [List.getElem?_append_left (by simp; omega)] at h2; exact h2)
    · have : i = F.length := by omega
      subst this
      rw [List.getElem?_append_left (by simp)] at h1
      rw [List.getElem?_append_right (by simp)] at h2
      simp at h1 h2
      subst h1; subst h2
      exact ha.symm
  · intro a h
    rw [List.getElem?_append_left (by simp)] at h
    exact p.fst a h
  · intro i a b z h1 h2 hz hzi
    have hl := (List.getElem?_eq_some_iff.mp h2).1
    simp at hl
    by_cases hi' : i < F.length
    · rcases p.old i a b z (by rw [List.getElem?_append_left (by simp; omega)] at h1; exact h1) (by rw [List.getElem?_append_left (by simp; omega)] at h2; exact h2) hz hzi with h | ⟨j, hj, h⟩
      · exact .inl h
      · exact .inr ⟨j, hj, by rw [List.getElem?_append_left (List.getElem?_eq_some_iff.mp h).1]; exact h⟩
    · have : i = F.length := by omega
      subst this
      rw [List.getElem?_append_left (by simp)] at h1
      rw [List.getElem?_append_right (by simp)] at h2
      simp at h1 h2
      subst h1; subst h2
      by_cases hzy : z = y
      · exact .inl hzy
      · right
        have z1 : z ∈ inN G x := (mem_inN g hxn).mpr ⟨hz, hzi⟩
        have y1 : y ∈ inN G x := (mem_inN g hxn).mpr ⟨ha, hyi⟩
        cases hF : F.length with
        | zero =>
          have : F = [] := List.length_eq_zero_iff.mp hF
          subst this
          have := p.fst x (by simp)
          have := two_of z1 y1 hzy
          omega
        | succ m =>
          refine ⟨m, rfl, ?_⟩
          have hm : m < F.length := by omega
          have w1 : (F ++ [x])[m]? = some F[m] := by rw [List.getElem?_append_left hm, List.getElem?_eq_getElem hm]
          have w2 : (F ++ [x])[m + 1]? = some x := by rw [List.getElem?_append_right (by omega)]; simp [hF]
          have hw := p.nx m F[m] x w1 w2
          have wi := (mem_inner g).mp (p.inn F[m] (by simp))
          have w3 : F[m] ∈ inN G x := (mem_inN g hxn).mpr ⟨hw, wi.2⟩
          have hwy : F[m] ≠ y := fun e => hn (by rw [← e]; simp)
          by_cases hzw : z = F[m]
          · rw [List.getElem?_append_left (by simp; omega), w1, hzw]
          · have := three_of z1 y1 w3 hzy hzw (Ne.symm hwy)
            have := ns x (by rw [g.len]; exact hxn)
            omega
theorem part_len (t : TreeOk n rs) (g : Gr n rs G) {F : List Nat} (p : Part n rs G F) : F.length ≤ n := by
  have key : ∀ (l m : List Nat), l.Nodup → (∀ x ∈ l, x ∈ m) → l.length ≤ m.length := by
    intro l
    induction l with
    | nil => intro m _ _; simp
    | cons a r ih =>
      intro m hn hs
      rw [List.nodup_cons] at hn
      have h1 := ih (m.erase a) hn.2 fun y hy => (List.mem_erase_of_ne (a := y) (b := a) fun z => hn.1 (z ▸ hy)).mpr (hs y (by simp [hy]))
      have h2 := erase_len (hs a (by simp))
      simp
      omega
  have := key F (List.range n) p.nd fun x hx => by
    rw [List.mem_range]
    exact ((mem_inner g).mp (p.inn x hx)).1
  simpa using this
theorem walk_some (t : TreeOk n rs) (g : Gr n rs G) (ns : NoSpread G) : ∀ (f : Nat) (F : List Nat) (x : Nat), Part n rs G (F ++ [x]) → n + 2 ≤ f + (F ++ [x]).length → ∃ W y, walkW G (inner G) f (F ++ [x]) (onOf G (inner G) (F ++ [x]) x) = some (W ++ [y]) ∧ Part n rs G (W ++ [y]) ∧ onOf G (inner G) (W ++ [y]) y = []
  | 0, F, x, p, hf => by
    have := part_len t g p
    omega
  | f + 1, F, x, p, hf => by
    cases ho : onOf G (inner G) (F ++ [x]) x with
    | nil => exact ⟨F, x, by rw [walkW], p, ho⟩
    | cons y r =>
      have p2 := part_step t g ns p (by rw [ho]; simp : y ∈ _)
      rw [walkW]
      exact walk_some t g ns f (F ++ [x]) y p2 (by simp at hf ⊢; omega)
theorem way_end (t : TreeOk n rs) (g : Gr n rs G) {W : List Nat} {y : Nat} (p : Part n rs G (W ++ [y])) (ho : onOf G (inner G) (W ++ [y]) y = []) : Way n rs G (W ++ [y]) := by
  have hyn : y < n := ((mem_inner g).mp (p.inn y (by simp))).1
  have inF : ∀ (i : Nat) (a x : Nat), (W ++ [y])[i]? = some a → Adj rs x a → isIn G x = true → x ∈ W ++ [y] := by
    intro i a x h1 hx hxi
    have hl := (List.getElem?_eq_some_iff.mp h1).1
    simp at hl
    by_cases hi : i < W.length
    · have hl2 : i + 1 < (W ++ [y]).length := by simp; omega
      have h2 : (W ++ [y])[i + 1]? = some (W ++ [y])[i + 1] := List.getElem?_eq_getElem hl2
      rcases p.old i a _ x h1 h2 hx hxi with h | ⟨j, _, h⟩
      · rw [h]; exact List.getElem_mem _
      · exact List.mem_of_getElem? h
    · have : i = W.length := by omega
      subst this
      simp at h1
      subst h1
      apply Classical.byContradiction
      intro hn
      have := (mem_on g hyn).mpr ⟨hx, (mem_inner g).mpr ⟨(t.lt hx).1, hxi⟩, hn⟩
      rw [ho] at this
      simp at this
  have cov := cover t g (F := fun v => v ∈ W ++ [y]) (fun a ha => (mem_inner g).mp (p.inn a ha)) (fun a b hab ha hb => by
    obtain ⟨i, hi⟩ := List.mem_iff_getElem?.mp ha
    exact inF i a b hi hab.symm hb) (w := y) (by simp)
  refine ⟨by simp, p.nd, fun v hv => ((mem_inner g).mp (p.inn v hv)).1, p.nx, ?_, ?_⟩
  · intro i j a b hij h1 h2 hab
    have hl := (List.getElem?_eq_some_iff.mp h2).1
    have hl3 : i + 1 < (W ++ [y]).length := by omega
    have h3 : (W ++ [y])[i + 1]? = some (W ++ [y])[i + 1] := List.getElem?_eq_getElem hl3
    have hb := (mem_inner g).mp (p.inn b (List.mem_of_getElem? h2))
    have uniq : ∀ (k m c : Nat), (W ++ [y])[k]? = some c → (W ++ [y])[m]? = some c → k = m := fun k m c e1 e2 => by
      obtain ⟨l1, _⟩ := List.getElem?_eq_some_iff.mp e1
      exact (List.getElem?_inj l1 p.nd).mp (e1.trans e2.symm)
    rcases p.old i a _ b h1 h3 hab.symm hb.2 with h | ⟨k, hk, h⟩
    · rw [← h] at h3
      exact uniq j (i + 1) b h2 h3
    · have := uniq j k b h2 h
      omega
  · intro v hv hn
    rcases cov v hv with h | ⟨h, x, hx, hax⟩
    · exact absurd h hn
    · refine ⟨x, hx, one_of ((g.mem v hv x).mpr hax) ?_⟩
      unfold isIn at h
      have := of_decide_eq_false h
      omega
/-- the whole of way_through: inner houses, an end, the walk -/
def endsOf (G : List (List Nat)) : List Nat := (inner G).filter fun v => decide (((G.getD v []).filter fun o => decide (o ∈ inner G)).length < 2)
def wayOf (G : List (List Nat)) : Option (List Nat) := if inner G = [] then some [0] else match endsOf G with
  | [] => none
  | e :: _ => walkW G (inner G) 100 [e] ((G.getD e []).filter fun o => decide (o ∈ inner G))
theorem inN_eq (t : TreeOk n rs) (g : Gr n rs G) {v : Nat} (hv : v < n) : ((G.getD v []).filter fun o => decide (o ∈ inner G)) = inN G v := by
  unfold inN
  apply List.filter_congr
  intro u hu
  have := t.lt ((g.mem v hv u).mp hu)
  rw [Bool.eq_iff_iff, decide_eq_true_iff, mem_inner g]
  exact ⟨fun h => h.2, fun h => ⟨this.1, h⟩⟩
theorem way_ok (t : TreeOk n rs) (g : Gr n rs G) (ns : NoSpread G) : ∃ W, wayOf G = some W ∧ Way n rs G W := by
  unfold wayOf
  split
  · rename_i h
    exact ⟨[0], rfl, way_zero t g h⟩
  · rename_i h
    obtain ⟨v, hv, hl⟩ := has_end t g h
    have he : endsOf G ≠ [] := by
      intro z
      have : v ∈ endsOf G := by
        unfold endsOf
        rw [List.mem_filter]
        exact ⟨hv, decide_eq_true (by rw [inN_eq t g ((mem_inner g).mp hv).1]; exact hl)⟩
      rw [z] at this
      simp at this
    split
    · rename_i z; exact absurd z he
    · rename_i e r hc
      have hem : e ∈ endsOf G := by rw [hc]; simp
      unfold endsOf at hem
      rw [List.mem_filter] at hem
      obtain ⟨hi, hl2⟩ := hem
      have hen := ((mem_inner g).mp hi).1
      have hl3 := of_decide_eq_true hl2
      rw [inN_eq t g hen] at hl3
      have hon : ((G.getD e []).filter fun o => decide (o ∈ inner G)) = onOf G (inner G) [e] e := by
        unfold onOf
        apply List.filter_congr
        intro u hu
        have := (t.lt ((g.mem e hen u).mp hu)).2.2
        simp [this]
      rw [hon]
      have p0 : Part n rs G ([] ++ [e]) := ⟨by simp, by simpa using hi, fun i a b _ h2 => by simp at h2, fun a h => by simp at h; subst h; exact hl3, fun i a b x _ h2 => by simp at h2⟩
      obtain ⟨W, y, h1, h2, h3⟩ := walk_some t g ns 100 [] e p0 (by have := t.n20; simp; omega)
      exact ⟨W ++ [y], h1, way_end t g h2 h3⟩
end
end M

set_option linter.all false
set_option autoImplicit false
namespace M
def nbr1 (v : Nat) (r : Nat × Nat) : List Nat := (if r.1 = v then [r.2] else []) ++ (if r.2 = v then [r.1] else [])
def nbrs (rs : List (Nat × Nat)) (v : Nat) : List Nat := rs.flatMap (nbr1 v)
def addN (G : List (List Nat)) (a b : Nat) : List (List Nat) := G.set a (G.getD a [] ++ [b])
def nearF (G : List (List Nat)) (rs : List (Nat × Nat)) : List (List Nat) := rs.foldl (fun G r => addN (addN G r.1 r.2) r.2 r.1) G
theorem addN_len (G : List (List Nat)) (a b : Nat) : (addN G a b).length = G.length := by simp [addN]
theorem addN_get {G : List (List Nat)} {a b v : Nat} (ha : a < G.length) : (addN G a b).getD v [] = G.getD v [] ++ (if a = v then [b] else []) := by
  unfold addN
  rw [List.getD_eq_getElem?_getD, List.getElem?_set]
  split
  · rename_i h
    subst h
    simp [ha]
  · simp [List.getD_eq_getElem?_getD]
theorem nearF_len : ∀ (rs : List (Nat × Nat)) (G : List (List Nat)), (nearF G rs).length = G.length
  | [], G => rfl
  | r :: rs, G => by
    unfold nearF
    rw [List.foldl_cons]
    have := nearF_len rs (addN (addN G r.1 r.2) r.2 r.1)
    unfold nearF at this
    rw [this, addN_len, addN_len]
theorem nearF_get : ∀ (rs : List (Nat × Nat)) (G : List (List Nat)) (v : Nat), (∀ r ∈ rs, r.1 < G.length ∧ r.2 < G.length) → (nearF G rs).getD v [] = G.getD v [] ++ nbrs rs v
  | [], G, v, _ => by simp [nearF, nbrs]
  | r :: rs, G, v, h => by
    have hr := h r (by simp)
    have ih := nearF_get rs (addN (addN G r.1 r.2) r.2 r.1) v (fun q hq => by rw [addN_len, addN_len]; exact h q (by simp [hq]))
    unfold nearF at ih ⊢
    rw [List.foldl_cons, ih, addN_get (by rw [addN_len]; exact hr.2), addN_get hr.1]
    unfold nbrs
    rw [List.flatMap_cons]
    unfold nbr1
    simp [List.append_assoc]
theorem nearF_eq {n : Nat} {rs : List (Nat × Nat)} (h : ∀ r ∈ rs, r.1 < n ∧ r.2 < n) : nearF (List.replicate n []) rs = (List.range n).map (nbrs rs) := by
  apply List.ext_getElem?
  intro i
  by_cases hi : i < n
  · have l1 : i < (nearF (List.replicate n []) rs).length := by rw [nearF_len]; simpa using hi
    have := nearF_get rs (List.replicate n []) i (by simpa using h)
    rw [List.getD_eq_getElem?_getD, List.getElem?_eq_getElem l1] at this
    rw [List.getElem?_eq_getElem l1]
    simp [hi] at this ⊢
    exact this
  · rw [List.getElem?_eq_none (by rw [nearF_len]; simpa using hi), List.getElem?_eq_none (by simpa using hi)]
theorem mem_nbrs {rs : List (Nat × Nat)} {v u : Nat} : u ∈ nbrs rs v ↔ Adj rs u v := by
  unfold nbrs nbr1 Adj
  rw [List.mem_flatMap]
  constructor
  · rintro ⟨⟨a, b⟩, hr, hu⟩
    rw [List.mem_append] at hu
    rcases hu with hu | hu
    · split at hu
      · rename_i h
        simp at hu h
        subst h; subst hu
        exact .inr hr
      · simp at hu
    · split at hu
      · rename_i h
        simp at hu h
        subst h; subst hu
        exact .inl hr
      · simp at hu
  · rintro (h | h)
    · exact ⟨_, h, by simp⟩
    · exact ⟨_, h, by simp⟩
theorem nodup_nbrs {v : Nat} : ∀ {rs : List (Nat × Nat)}, rs.Nodup → (∀ r ∈ rs, r.1 < r.2) → (nbrs rs v).Nodup
  | [], _, _ => by simp [nbrs]
  | r :: rs, hn, hl => by
    rw [List.nodup_cons] at hn
    have ih := nodup_nbrs (v := v) hn.2 fun q hq => hl q (by simp [hq])
    have hr := hl r (by simp)
    have hm : ∀ u, u ∈ nbr1 v r → u ∉ nbrs rs v := by
      intro u hu hx
      rw [mem_nbrs] at hx
      unfold nbr1 at hu
      rw [List.mem_append] at hu
      obtain ⟨a, b⟩ := r
      simp only at hu hr
      rcases hu with hu | hu
      · split at hu
        · rename_i h
          simp at hu
          subst h; subst hu
          rcases hx with hx | hx
          · have := hl _ (by simp [hx] : (u, a) ∈ (a, u) :: rs)
            simp only at this
            omega
          · exact hn.1 hx
        · simp at hu
      · split at hu
        · rename_i h
          simp at hu
          subst h; subst hu
          rcases hx with hx | hx
          · exact hn.1 hx
          · have := hl _ (by simp [hx] : (b, u) ∈ (u, b) :: rs)
            simp only at this
            omega
        · simp at hu
    unfold nbrs
    rw [List.flatMap_cons, List.nodup_append]
    refine ⟨?_, ih, fun a ha b hb e => hm a ha (e ▸ hb)⟩
    unfold nbr1
    split <;> split <;> simp
    omega
theorem len_nbrs {v : Nat} : ∀ {rs : List (Nat × Nat)}, (∀ r ∈ rs, r.1 < r.2) → (nbrs rs v).length = (rs.filter fun r => decide (v = r.1) || decide (v = r.2)).length
  | [], _ => by simp [nbrs]
  | r :: rs, hl => by
    have ih := len_nbrs (v := v) (rs := rs) fun q hq => hl q (by simp [hq])
    have hr := hl r (by simp)
    unfold nbrs at ih ⊢
    rw [List.flatMap_cons, List.length_append, ih, List.filter_cons]
    unfold nbr1
    by_cases h1 : r.1 = v <;> by_cases h2 : r.2 = v
    · omega
    · have h2' : ¬ v = r.2 := fun z => h2 z.symm
      simp [h1, h2, h2']; omega
    · have h1' : ¬ v = r.1 := fun z => h1 z.symm
      simp [h1, h2, h1']; omega
    · have h1' : ¬ v = r.1 := fun z => h1 z.symm
      have h2' : ¬ v = r.2 := fun z => h2 z.symm
      simp [h1, h2, h1', h2']
def grf (n : Nat) (f : Nat → List Nat) : List (List Nat) := (List.range n).map f
theorem grf_get {n : Nat} {f : Nat → List Nat} {v : Nat} (hv : v < n) : (grf n f).getD v [] = f v := by
  unfold grf
  rw [List.getD_eq_getElem?_getD]
  simp [hv]
theorem grf_len {n : Nat} {f : Nat → List Nat} : (grf n f).length = n := by simp [grf]
theorem gr_of {n : Nat} {rs : List (Nat × Nat)} (t : TreeOk n rs) {f : Nat → List Nat} (hf : ∀ v, (f v).Perm (nbrs rs v)) : Gr n rs (grf n f) :=
  ⟨grf_len, fun v hv u => by rw [grf_get hv, (hf v).mem_iff, mem_nbrs], fun v hv => by
    rw [grf_get hv]
    exact (hf v).nodup_iff.mpr (nodup_nbrs t.nd fun r hr => (t.ok r hr).1)⟩
/-! going about -/
def visit (M W : List Nat) : List Nat → List Nat × List Nat
  | [] => (M, W)
  | o :: os => if o ∈ M then visit M W os else visit (M ++ [o]) (W ++ [o]) os
def dfs (G : List (List Nat)) : Nat → List Nat → List Nat → Option (List Nat)
  | 0, _, _ => none
  | f + 1, M, W => match W.getLast? with
    | none => some M
    | some w => dfs G f (visit M W.dropLast (G.getD w [])).1 (visit M W.dropLast (G.getD w [])).2
theorem visit_spec {n : Nat} : ∀ (os M W : List Nat), M.Nodup → (∀ v ∈ M, v < n) → (∀ v ∈ W, v ∈ M) → (∀ o ∈ os, o < n) →
    (visit M W os).1.Nodup ∧ (∀ v ∈ (visit M W os).1, v < n) ∧ (∀ v ∈ (visit M W os).2, v ∈ (visit M W os).1) ∧ (∀ o ∈ os, o ∈ (visit M W os).1) ∧ (∀ v ∈ M, v ∈ (visit M W os).1) ∧ (∀ v ∈ W, v ∈ (visit M W os).2) ∧
      (∀ v ∈ (visit M W os).1, v ∈ M ∨ v ∈ (visit M W os).2) ∧ (visit M W os).1.length + W.length = M.length + (visit M W os).2.length
  | [], M, W, h1, h2, h3, _ => ⟨h1, h2, h3, by simp, fun _ h => h, fun _ h => h, fun _ h => .inl h, by simp [visit]⟩
  | o :: os, M, W, h1, h2, h3, h4 => by
    unfold visit
    split
    · rename_i ho
      obtain ⟨a, b, c, d, e, f, g, h⟩ := visit_spec os M W h1 h2 h3 fun q hq => h4 q (by simp [hq])
      exact ⟨a, b, c, fun q hq => by
        rcases List.mem_cons.mp hq with rfl | hq
        · exact e _ ho
        · exact d q hq, e, f, g, h⟩
    · rename_i ho
      obtain ⟨a, b, c, d, e, f, g, h⟩ := visit_spec os (M ++ [o]) (W ++ [o]) (by
        rw [List.nodup_append]
        exact ⟨h1, by simp, fun x hx y hy z => ho (by simp at hy; subst hy; subst z; exact hx)⟩) (fun v hv => by
        rcases List.mem_append.mp hv with q | q
        · exact h2 v q
        · simp at q; subst q; exact h4 _ (by simp)) (fun v hv => by
        rcases List.mem_append.mp hv with q | q
        · exact List.mem_append_left _ (h3 v q)
        · exact List.mem_append_right _ q) fun q hq => h4 q (by simp [hq])
      refine ⟨a, b, c, fun q hq => ?_, fun v hv => e v (by simp [hv]), fun v hv => f v (by simp [hv]), fun v hv => ?_, by simp at h; omega⟩
      · rcases List.mem_cons.mp hq with rfl | hq
        · exact e _ (by simp)
        · exact d q hq
      · rcases g v hv with q | q
        · rcases List.mem_append.mp q with q | q
          · exact .inl q
          · exact .inr (f v (by simp at q; simp [q]))
        · exact .inr q
theorem nodup_len {n : Nat} {M : List Nat} (h1 : M.Nodup) (h2 : ∀ v ∈ M, v < n) : M.length ≤ n := by
  have key : ∀ (l m : List Nat), l.Nodup → (∀ x ∈ l, x ∈ m) → l.length ≤ m.length := by
    intro l
    induction l with
    | nil => intro m _ _; simp
    | cons a r ih =>
      intro m hn hs
      rw [List.nodup_cons] at hn
      have h1 := ih (m.erase a) hn.2 fun y hy => (List.mem_erase_of_ne (a := y) (b := a) fun z => hn.1 (z ▸ hy)).mpr (hs y (by simp [hy]))
      have h2 := erase_len (hs a (by simp))
      simp
      omega
  have := key M (List.range n) h1 fun x hx => List.mem_range.mpr (h2 x hx)
  simpa using this
theorem dfs_ok {n : Nat} {rs : List (Nat × Nat)} {G : List (List Nat)} (t : TreeOk n rs) (g : Gr n rs G) : ∀ (f : Nat) (M W : List Nat), M.Nodup → (∀ v ∈ M, v < n) → (∀ v ∈ W, v ∈ M) → (∀ v ∈ M, v ∈ W ∨ ∀ u, Adj rs u v → u ∈ M) → 0 ∈ M → n + W.length < f + M.length →
    ∃ M', dfs G f M W = some M' ∧ M'.length = n
  | 0, M, W, h1, h2, _, _, _, hf => by have := nodup_len h1 h2; omega
  | f + 1, M, W, h1, h2, h3, h4, h5, hf => by
    unfold dfs
    cases hw : W.getLast? with
    | none =>
      have : W = [] := List.getLast?_eq_none_iff.mp hw
      subst this
      refine ⟨M, rfl, ?_⟩
      have all : ∀ v, v < n → v ∈ M := t.all (P := fun v => v ∈ M) (fun a b hab ha => by
        rcases h4 a ha with z | z
        · simp at z
        · exact z b hab.symm) t.n1 h5
      have l1 := nodup_len h1 h2
      have l2 : n ≤ M.length := by
        have key : ∀ (l m : List Nat), l.Nodup → (∀ x ∈ l, x ∈ m) → l.length ≤ m.length := by
          intro l
          induction l with
          | nil => intro m _ _; simp
          | cons a r ih =>
            intro m hn hs
            rw [List.nodup_cons] at hn
            have h1 := ih (m.erase a) hn.2 fun y hy => (List.mem_erase_of_ne (a := y) (b := a) fun z => hn.1 (z ▸ hy)).mpr (hs y (by simp [hy]))
            have h2 := erase_len (hs a (by simp))
            simp
            omega
        have := key (List.range n) M List.nodup_range fun x hx => all x (List.mem_range.mp hx)
        simpa using this
      omega
    | some w =>
      have hne : W ≠ [] := fun z => by subst z; simp at hw
      have hwl : w ∈ W := List.mem_of_getLast? hw
      have hwn := h2 w (h3 w hwl)
      have hd : ∀ v, v ∈ W → v = w ∨ v ∈ W.dropLast := fun v hv => by
        have ew : W.getLast hne = w := by
          rw [List.getLast?_eq_some_getLast hne] at hw
          exact Option.some.inj hw
        have e := List.dropLast_concat_getLast hne
        rw [ew] at e
        rw [← e] at hv
        rcases List.mem_append.mp hv with q | q
        · exact .inr q
        · exact .inl (by simpa using q)
      obtain ⟨a, b, c, d, e, f', gg, h⟩ := visit_spec (n := n) (G.getD w []) M W.dropLast h1 h2 (fun v hv => h3 v (List.mem_of_mem_dropLast' hv)) (fun o ho => (t.lt ((g.mem w hwn o).mp ho)).1)
      refine dfs_ok t g f _ _ a b c (fun v hv => ?_) (e 0 h5) ?_
      · rcases gg v hv with q | q
        · rcases h4 v q with z | z
          · rcases hd v z with rfl | z
            · exact .inr fun u hu => d u ((g.mem v hwn u).mpr hu)
            · exact .inl (f' v z)
          · exact .inr fun u hu => e u (z u hu)
        · exact .inl q
      · have : W.dropLast.length + 1 = W.length := by
          rw [List.length_dropLast]
          have := List.length_pos_of_mem hwl
          omega
        omega
where
  List.mem_of_mem_dropLast' {α : Type} {l : List α} {a : α} (h : a ∈ l.dropLast) : a ∈ l := by
    rw [List.dropLast_eq_take] at h
    exact List.mem_of_mem_take h
end M

set_option Elab.async false
set_option linter.all false
set_option maxRecDepth 100000
set_option maxHeartbeats 1000000
set_option autoImplicit false
namespace Ab
open PySem PySem.Spec PyProof.Rows L2
abbrev iN (x : Nat) : Vl := .int (x : Int)
abbrev rv (r : Nat × Nat) : Vl := .tup [.int (r.1 : Int), .int (r.2 : Int)]
theorem plains_iN (xs : List Nat) : plains (xs.map iN) = true := by
  induction xs with
  | nil => rfl
  | cons x r ih => simp [ih]
theorem plains_rv (xs : List (Nat × Nat)) : plains (xs.map rv) = true := by
  induction xs with
  | nil => rfl
  | cons x r ih => simp [ih]
abbrev ci (xs : List Nat) : List Int := xs.map fun x : Nat => (x : Int)
theorem map_iN (xs : List Nat) : xs.map iN = (ci xs).map Vl.int := by simp [ci, Function.comp_def]
/-- numbers of houses sorted -/
def srt (xs : List Nat) : List Nat := (isort (ci xs)).map Int.toNat
theorem srt_map (xs : List Nat) : (isort (ci xs)).map Vl.int = (srt xs).map iN := by
  unfold srt
  rw [List.map_map]
  apply List.map_congr_left
  intro i hi
  have := (isort_perm (ci xs)).mem_iff.mp hi
  simp only [ci, List.mem_map] at this
  obtain ⟨x, _, rfl⟩ := this
  simp
theorem srt_perm (xs : List Nat) : (srt xs).Perm xs := by
  have := (isort_perm (ci xs)).map Int.toNat
  unfold srt
  refine this.trans ?_
  simp [ci, Function.comp_def]
/-- lists of those beside, at a place -/
structure NA (A : AH) (m : Nat) (G : List (List Nat)) (ls : List Nat) : Prop where
  top : A[m]? = some (.lst, ls.map Vl.loc)
  len : ls.length = G.length
  each : ∀ (i l : Nat), ls[i]? = some l → A[l]? = some (.lst, (G.getD i []).map iN)
theorem NA.app {A B : AH} {m : Nat} {G : List (List Nat)} {ls : List Nat} (h : NA A m G ls) : NA (A ++ B) m G ls :=
  ⟨by rw [List.getElem?_append_left (List.getElem?_eq_some_iff.mp h.top).1]; exact h.top, h.len, fun i l e => by
    have := h.each i l e
    rw [List.getElem?_append_left (List.getElem?_eq_some_iff.mp this).1]; exact this⟩
theorem NA.set {A : AH} {m k : Nat} {c : Cell} {G : List (List Nat)} {ls : List Nat} (h : NA A m G ls) (h1 : k ≠ m) (h2 : k ∉ ls) : NA (A.set k c) m G ls :=
  ⟨by rw [List.getElem?_set_ne h1]; exact h.top, h.len, fun i l e => by
    rw [List.getElem?_set_ne (fun z => h2 (by rw [z]; exact List.mem_of_getElem? e))]; exact h.each i l e⟩
theorem NA.lt {A : AH} {m : Nat} {G : List (List Nat)} {ls : List Nat} (h : NA A m G ls) : m < A.length ∧ ∀ l ∈ ls, l < A.length :=
  ⟨(List.getElem?_eq_some_iff.mp h.top).1, fun l hl => by
    obtain ⟨i, hi⟩ := List.mem_iff_getElem?.mp hl
    exact (List.getElem?_eq_some_iff.mp (h.each i l hi)).1⟩
abbrev nl (g : List Nat) : Vl := .new .lst (g.map iN)
abbrev nc (g : List Nat) : Cell := (.lst, g.map iN)
def nLay (A : AH) (G : List (List Nat)) : AH := A ++ (G.map nc ++ [(.lst, (List.range G.length).map fun i => .loc (A.length + i))])
theorem boxs_nl : ∀ (G : List (List Nat)) (A : AH), boxs (G.map nl) A = ((List.range G.length).map fun i => .loc (A.length + i), A ++ G.map nc)
  | [], A => by simp
  | g :: G, A => by
    rw [List.map_cons, boxs_cons, box_new (plains_iN g), boxs_nl G]
    simp [List.range_succ_eq_map, Function.comp_def]
    intro i _
    omega
theorem box_nl (G : List (List Nat)) (A : AH) : box (.new .lst (G.map nl)) A = (.loc (A.length + G.length), nLay A G) := by
  rw [box, boxs_nl]
  simp [nLay]
theorem nLay_na (A : AH) (G : List (List Nat)) : NA (nLay A G) (A.length + G.length) G ((List.range G.length).map fun i => A.length + i) := by
  refine ⟨?_, by simp, fun i l e => ?_⟩
  · unfold nLay
    rw [at_app, List.getElem?_append_right (by simp)]
    simp [Function.comp_def]
  · rw [List.getElem?_map] at e
    cases hq : (List.range G.length)[i]? with
    | none => rw [hq] at e; cases e
    | some j =>
      rw [hq] at e
      cases e
      have hl := (List.getElem?_eq_some_iff.mp hq).1
      rw [List.getElem?_eq_getElem hl, List.getElem_range] at hq
      cases hq
      simp at hl
      unfold nLay
      rw [at_app, List.getElem?_append_left (by simpa using hl), List.getElem?_map, List.getElem?_eq_getElem hl]
      simp [List.getD_eq_getElem?_getD, List.getElem?_eq_getElem hl]
theorem nLay_len (A : AH) (G : List (List Nat)) : (nLay A G).length = A.length + G.length + 1 := by simp [nLay]; omega
/-- one's own lists of lists handed out -/
theorem mapV_nl {n f : Nat} {A : AH} : ∀ {G : List (List Nat)} {vis : List Nat}, mapV (unb n A (f + 1)) (G.map nl) vis = some (G.map nl, vis)
  | [], _ => rfl
  | g :: G, vis => by
    have e : unb n A (f + 1) (nl g) vis = some (nl g, vis) := by
      rw [unb]
      simp [mapV_plains (plains_iN g)]
    simp [mapV, e, mapV_nl (G := G)]
theorem gc_nl {A B : AH} {G : List (List Nat)} : gc A.length (.new .lst (G.map nl)) (A ++ B) = .ok (.new .lst (G.map nl)) A := by
  unfold gc
  split
  · rename_i hl
    have : B = [] := List.length_eq_zero_iff.mp (by rw [List.length_append] at hl; omega)
    simp [this]
  · rw [unb]
    simp [mapV_nl]
theorem fSorted_iN {b l : Nat} {A : AH} {xs : List Nat} (h : A[l]? = some (.lst, xs.map iN)) : fSorted b [.loc l] A = .ok (nl (srt xs)) A := by
  rw [map_iN] at h
  simp only [fSorted, fInts, seqL, h, toInts_map, srt_map]
/-- in, over numbers -/
theorem mapO_sc (xs : List Nat) : mapO sc (xs.map iN) = some (xs.map fun x : Nat => V.int (x : Int)) := by
  induction xs with
  | nil => rfl
  | cons x r ih => simp [mapO, sc, ih]
theorem inV_iN (o : Nat) (xs : List Nat) : inV (.int (o : Int)) (xs.map fun x : Nat => V.int (x : Int)) = decide (o ∈ xs) := by
  unfold inV
  induction xs with
  | nil => simp
  | cons x r ih =>
    simp only [List.map_cons, List.any_cons, ih]
    have : eqV (V.int (x : Int)) (V.int (o : Int)) = decide (o = x) := by
      unfold eqV
      by_cases h : o = x
      · subst h; simp
      · have : ¬ ((x : Int) = (o : Int)) := by omega
        simp [h, this]
    rw [this]
    by_cases h : o = x <;> simp [h]
theorem fIn_iN {neg : Bool} {b l : Nat} {A : AH} {o : Nat} {xs : List Nat} (h : A[l]? = some (.lst, xs.map iN)) : fIn neg b [.int (o : Int), .loc l] A = .ok (.bl (if neg then !decide (o ∈ xs) else decide (o ∈ xs))) A := by
  simp only [fIn, seqA, seqL, h, sc, mapO_sc, inV_iN]
theorem fIx_NA {b : Nat} {A : AH} {m : Nat} {G : List (List Nat)} {ls : List Nat} {v : Nat} (h : NA A m G ls) (hv : v < G.length) : ∃ l, ls[v]? = some l ∧ fIx b [.loc m, .int (v : Int)] A = .ok (.loc l) A ∧ A[l]? = some (.lst, (G.getD v []).map iN) := by
  have hl : v < ls.length := by rw [h.len]; exact hv
  refine ⟨ls[v], List.getElem?_eq_getElem hl, fIx_loc h.top (atI_n (by rw [List.getElem?_map, List.getElem?_eq_getElem hl]; rfl)), h.each v _ (List.getElem?_eq_getElem hl)⟩
end Ab
namespace G
open PySem PySem.Spec PyProof.Rows L2 Ab
variable {R : Nat → Fn}
def NearOf (f : Fn) : Prop := ∀ A (n l : Nat) (rs : List (Nat × Nat)), A[l]? = some (.lst, rs.map rv) → (∀ r ∈ rs, r.1 < n ∧ r.2 < n) → n ≤ 1000 → rs.length ≤ 1000 → f [.int (n : Int), .loc l] A = .ok (.new .lst ((M.grf n fun v => srt (M.nbrs rs v)).map nl)) A
theorem near_loop {b l n : Nat} {A : AH} {rs0 : List (Nat × Nat)} (hl : A[l]? = some (.lst, rs0.map rv)) (hb : b ≤ A.length) {x0 : Option Vl} : ∀ (rs : List (Nat × Nat)) (G : List (List Nat)) (x3 x4 : Option Vl) (rest : List (Option Vl)), G.length = n → (∀ r ∈ rs, r.1 < n ∧ r.2 < n) → (∀ g ∈ G, g.length + 2 * rs.length ≤ 50000) →
    ∃ y3 y4, forL (.tp [.nm 3, .nm 4]) (c_near_of_b1 R) [(l, rs0.map rv)] b (rs.map rv) (x0 :: some (.loc l) :: some (.loc (A.length + n)) :: x3 :: x4 :: rest) (nLay A G) = .nx (x0 :: some (.loc l) :: some (.loc (A.length + n)) :: y3 :: y4 :: rest) (nLay A (M.nearF G rs))
  | [], G, x3, x4, rest, _, _, _ => ⟨x3, x4, by simp [forL, M.nearF]⟩
  | (a, c) :: rs, G, x3, x4, rest, hG, hr, hg => by
    have hr0 := hr (a, c) (by simp)
    simp only at hr0
    have lt : l < A.length := (List.getElem?_eq_some_iff.mp hl).1
    have app1 : ∀ (G : List (List Nat)) (i j : Nat) (ei ej : CE) (s : List (Option Vl)), G.length = n → i < n → (∀ g ∈ G, g.length < 100000) → s[2]? = some (some (.loc (A.length + n))) → ei ⟨b, s⟩ (nLay A G) = .ok (.int (i : Int)) (nLay A G) → ej ⟨b, s⟩ (nLay A G) = .ok (.int (j : Int)) (nLay A G) →
        cDrop (cM fAppend (cF2 fIx (cVar 2) ei) (cCons ej cNil)) ⟨b, s⟩ (nLay A G) = .nx s (nLay A (M.addN G i j)) := by
      intro G i j ei ej s hG hi hlen h2 e1 e2
      have na := nLay_na A G
      rw [hG] at na
      obtain ⟨l2, k1, k2, k3⟩ := fIx_NA (b := b) na (v := i) (by omega)
      have k1' : l2 = A.length + i := by
        rw [List.getElem?_map] at k1
        simp [hi] at k1
        omega
      subst k1'
      have hgi : (G.getD i []).length < 100000 := by
        rw [List.getD_eq_getElem?_getD, List.getElem?_eq_getElem (by omega)]
        exact hlen _ (List.getElem_mem _)
      rw [cDrop_, cM_loc (l := A.length + i) (xs := (G.getD i []).map iN) (A1 := nLay A G) (by simp only [cF2_, cVar_, h2, bind_ok, e1, k2]) k3]
      simp only [cCons_, cNil_, e2, bind_ok]
      rw [fAppend_ k3 rfl (by simpa using hgi) (Nat.le_trans hb (Nat.le_add_right _ _))]
      simp only
      congr 1
      unfold nLay M.addN
      rw [set_app, List.set_append_left _ _ (by simp; omega)]
      have e3 : (G.map nc).set i (.lst, (G.getD i []).map iN ++ [.int (j : Int)]) = (G.set i (G.getD i [] ++ [j])).map nc := by
        rw [List.map_set]
        show _ = (G.map nc).set i (Kd.lst, (G.getD i [] ++ [j]).map iN)
        rw [List.map_append]
        rfl
      rw [e3]
      simp
    obtain ⟨y3, y4, e⟩ := near_loop hl hb (x0 := x0) rs (M.addN (M.addN G a c) c a) (some (.int (a : Int))) (some (.int (c : Int))) rest (by rw [M.addN_len, M.addN_len]; exact hG) (fun r h => hr r (by simp [h])) (fun g hg' => by
      have : g.length + 2 * rs.length ≤ 50000 := by
        have t1 : ∀ g ∈ M.addN G a c, g.length + (2 * rs.length + 1) ≤ 50000 := fun g h => by
          unfold M.addN at h
          rcases List.mem_or_eq_of_mem_set h with q | q
          · have := hg g q; simp at this; omega
          · rw [q]
            have : G.getD a [] ∈ G := by
              rw [List.getD_eq_getElem?_getD, List.getElem?_eq_getElem (by omega)]
              exact List.getElem_mem _
            have := hg _ this
            simp at this ⊢
            omega
        unfold M.addN at hg'
        rcases List.mem_or_eq_of_mem_set hg' with q | q
        · have := t1 g q; omega
        · rw [q]
          have : (M.addN G a c).getD c [] ∈ M.addN G a c := by
            rw [List.getD_eq_getElem?_getD, List.getElem?_eq_getElem (by rw [M.addN_len]; omega)]
            exact List.getElem_mem _
          have := t1 _ this
          unfold M.addN at this
          simp at this ⊢
          omega
      exact this)
    refine ⟨y3, y4, ?_⟩
    have hlen1 : ∀ g ∈ G, g.length < 100000 := fun g h => by have := hg g h; omega
    have hlen2 : ∀ g ∈ M.addN G a c, g.length < 100000 := fun g h => by
      unfold M.addN at h
      rcases List.mem_or_eq_of_mem_set h with q | q
      · exact hlen1 g q
      · rw [q]
        have : G.getD a [] ∈ G := by
          rw [List.getD_eq_getElem?_getD, List.getElem?_eq_getElem (by omega)]
          exact List.getElem_mem _
        have := hg _ this
        simp at this ⊢
        omega
    have hb1 : c_near_of_b1 R ⟨b, x0 :: some (.loc l) :: some (.loc (A.length + n)) :: some (.int (a : Int)) :: some (.int (c : Int)) :: rest⟩ (nLay A G) = .nx (x0 :: some (.loc l) :: some (.loc (A.length + n)) :: some (.int (a : Int)) :: some (.int (c : Int)) :: rest) (nLay A (M.addN (M.addN G a c) c a)) := by
      unfold c_near_of_b1
      rw [seq_nx (app1 G a c _ _ _ hG hr0.1 hlen1 rfl (by simp) (by simp))]
      exact app1 (M.addN G a c) c a _ _ _ (by rw [M.addN_len]; exact hG) hr0.2 hlen2 rfl (by simp) (by simp)
    have hseen : ∀ G : List (List Nat), Ab.seen [(l, rs0.map rv)] (nLay A G) = true := fun G => seen_one (by unfold nLay; rw [List.getElem?_append_left lt]; exact hl)
    simp only [List.map_cons, forL, put_t, puts_c, put_n, puts_n, List.set_cons_succ, List.set_cons_zero, hb1, hseen, if_true]
    have en : M.nearF G ((a, c) :: rs) = M.nearF (M.addN (M.addN G a c) c a) rs := rfl
    rw [en]
    exact e
theorem near_of_ok : NearOf (mkFn 7 (c_near_of R)) := fun A n l rs hl hr hn hrl => by
  have e0 : cLc (cRg1 (cVar 0)) (.nm 5) cYes (c_near_of_e0 R) [5] ⟨A.length, [some (.int (n : Int)), some (.loc l), none, none, none, none, none]⟩ A = .ok (.new .lst ((List.replicate n []).map nl)) A := by
    have := cLc_map (t := .nm 5) (elt := c_near_of_e0 R) (vs := [5]) (ρ := ⟨A.length, [some (.int (n : Int)), some (.loc l), none, none, none, none, none]⟩) (phi := fun i : Nat => Vl.int (i : Int)) (psi := fun _ => nl []) (w := []) (xs := List.range n) (cRg1_n (c := cVar 0) (ρ := ⟨A.length, [some (.int (n : Int)), some (.loc l), none, none, none, none, none]⟩) (A := A) (A1 := A) (n := n) (by simp) (by omega)) (by simp; omega) rfl (fun i hi => ⟨_, put_n, by simp [c_near_of_e0]⟩)
    rw [this, List.map_const', List.length_range, List.map_replicate]
  have lt : l < A.length := (List.getElem?_eq_some_iff.mp hl).1
  obtain ⟨y3, y4, e1⟩ := near_loop (R := R) (b := A.length) (l := l) (n := n) hl (Nat.le_refl _) (x0 := some (.int (n : Int))) rs (List.replicate n []) none none [none, none] (by simp) hr (fun g hg => by
    have := List.eq_of_mem_replicate hg
    subst this
    simp
    omega)
  simp only [mkFn, c_near_of, List.map_cons, List.map_nil, List.length_cons, List.length_nil, Nat.zero_add, Nat.reduceAdd, Nat.reduceSub, List.replicate, List.cons_append, List.nil_append]
  rw [seq_nx (s := [some (.int (n : Int)), some (.loc l), some (.loc (A.length + n)), none, none, none, none]) (A1 := nLay A (List.replicate n [])) (by
    rw [put_nm e0, box_nl]
    simp)]
  have hl2 : (nLay A (List.replicate n []))[l]? = some (.lst, rs.map rv) := by unfold nLay; rw [List.getElem?_append_left lt]; exact hl
  rw [seq_nx ((for_of (cIt_loc (A1 := nLay A (List.replicate n [])) (l := l) (by simp) hl2)).trans e1)]
  rw [M.nearF_eq hr]
  let G := (List.range n).map (M.nbrs rs)
  have na := nLay_na A G
  have hGl : G.length = n := by simp [G]
  rw [hGl] at na
  have e2 : cLc (cIt (cVar 2)) (.nm 6) cYes (c_near_of_e2 R) [6] ⟨A.length, [some (.int (n : Int)), some (.loc l), some (.loc (A.length + n)), y3, y4, none, none]⟩ (nLay A G) = .ok (.new .lst ((M.grf n fun v => srt (M.nbrs rs v)).map nl)) (nLay A G) := by
    unfold M.grf
    rw [List.map_map]
    have hit : cIt (cVar 2) ⟨A.length, [some (.int (n : Int)), some (.loc l), some (.loc (A.length + n)), y3, y4, none, none]⟩ (nLay A G) = .ok ((List.range n).map (fun i => Vl.loc (A.length + i)), [(A.length + n, (List.range n).map fun i => Vl.loc (A.length + i))]) (nLay A G) := cIt_loc (by simp) (by have := na.top; rw [List.map_map] at this; exact this)
    refine cLc_map (xs := List.range n) hit (by simp; omega) (seen_one (by have := na.top; rw [List.map_map] at this; exact this)) fun v hv => ⟨_, put_n, ?_⟩
    rw [List.mem_range] at hv
    simp only [wipeS, List.set_cons_succ, List.set_cons_zero]
    have h3 := na.each v (A.length + v) (by simp [hv])
    have hGv : G.getD v [] = M.nbrs rs v := M.grf_get (f := M.nbrs rs) hv
    rw [hGv] at h3
    simp only [c_near_of_e2, cF_, cCons_, cNil_, cVar_, List.getElem?_cons_succ, List.getElem?_cons_zero, bind_ok, fSorted_iN h3]
    rfl
  rw [cRet_, e2]
  simp only [fin_rt]
  unfold nLay
  rw [gc_nl]
end G

set_option Elab.async false
set_option linter.all false
set_option maxRecDepth 100000
set_option maxHeartbeats 1000000
set_option autoImplicit false
namespace Ab
open PySem PySem.Spec PyProof.Rows L2
abbrev mk_ (M : List Nat) : List (Int × Bool) := M.map fun v : Nat => ((v : Int), true)
theorem hasK_mk (M : List Nat) (o : Nat) : hasK (mk_ M) (o : Int) = decide (o ∈ M) := by
  unfold hasK
  induction M with
  | nil => simp
  | cons x r ih =>
    simp only [List.map_cons, List.any_cons, ih]
    by_cases h : o = x
    · subst h; simp
    · have : ¬ ((x : Int) = (o : Int)) := by omega
      simp [h, this]
theorem fEq_iN {neg : Bool} {b : Nat} {A : AH} {l : Nat} {xs : List Nat} (h : A[l]? = some (.lst, xs.map iN)) : fEqD neg b [.loc l, .new .lst []] A = .ok (.bl (if neg = true then !decide (xs = []) else decide (xs = []))) A := by
  rw [map_iN] at h
  rw [fEq_ints (ns := ci xs) (ms := []) (toD_loc h) (by rw [List.map_nil]; exact toD_2)]
  have : decide (ci xs = []) = decide (xs = []) := by cases xs <;> simp
  rw [this]
theorem while_end {test : CT} {body : CS} {b f : Nat} {s : List (Option Vl)} {A A1 : AH} (h : test ⟨b, s⟩ A = .ok false A1) : whileL test body b (f + 1) s A = .nx s A1 := by rw [whileL, h]
theorem while_go {test : CT} {body : CS} {b f : Nat} {s s2 : List (Option Vl)} {A A1 A2 : AH} (h : test ⟨b, s⟩ A = .ok true A1) (h2 : body ⟨b, s⟩ A1 = .nx s2 A2) : whileL test body b (f + 1) s A = whileL test body b f s2 A2 := by rw [whileL, h]; simp only [h2]
theorem cM0_loc {F : FB} {co : CE} {ρ : Ev} {A A1 : AH} {l : Nat} {xs : List Vl} (h : co ρ A = .ok (.loc l) A1) (hl : A1[l]? = some (.lst, xs)) : cM0 F co ρ A = F ρ.b [.loc l] A1 := by
  simp [cM0, h, seqL, hl]
theorem fPop_ {b l : Nat} {A : AH} {xs : List Vl} {y : Vl} (h : A[l]? = some (.lst, xs)) (hy : xs.getLast? = some y) : fPop b [.loc l] A = .ok y (A.set l (.lst, xs.dropLast)) := by
  rw [List.getLast?_eq_getElem?] at hy
  simp [fPop, h, hy]
end Ab
namespace G
open PySem PySem.Spec PyProof.Rows L2 Ab
variable {R : Nat → Fn}
def IsRoad (f : Fn) : Prop := ∀ A (n : Nat) (r : Nat × Nat), r.1 < r.2 → r.2 < n → f [.int (n : Int), rv r] A = .ok (.bl true) A
theorem is_road_ok (h0 : IsWhole (R 0)) : IsRoad (mkFn 2 (c_is_road R)) := fun A n r h1 h2 => by
  have a1 : (0 : Int) ≤ r.1 := by omega
  have a2 : (0 : Int) ≤ r.2 := by omega
  have a3 : (r.1 : Int) < r.2 := by omega
  have a4 : (r.2 : Int) < n := by omega
  simp [mkFn, c_is_road, cSeq, isiB, h0 A, a1, a2, a3, a4, cCh]
def CkTree (f : Fn) : Prop := ∀ A (n l : Nat) (rs : List (Nat × Nat)), A[l]? = some (.lst, rs.map rv) → M.TreeOk n rs → f [.int (n : Int), .loc l] A = .ok .non A
/-- what the walk about has in the heap -/
abbrev BT (A1 : AH) (M W : List Nat) : AH := A1 ++ [(.dct (mk_ M), []), (.lst, W.map iN)]
theorem visit_loop {b lw : Nat} {A1 : AH} {its : List Nat} (hl : A1[lw]? = some (.lst, its.map iN)) (hb : b ≤ A1.length) {x0 x1 x2 x6 : Option Vl} : ∀ (os Mt W : List Nat) (x5 : Option Vl), Mt.length + os.length < 1000 → W.length + os.length < 1000 →
    ∃ y5, forL (.nm 5) (c_check_tree_b1 R) [(lw, its.map iN)] b (os.map iN) [x0, x1, x2, some (.loc A1.length), some (.loc (A1.length + 1)), x5, x6] (BT A1 Mt W) = .nx [x0, x1, x2, some (.loc A1.length), some (.loc (A1.length + 1)), y5, x6] (BT A1 (M.visit Mt W os).1 (M.visit Mt W os).2)
  | [], Mt, W, x5, _, _ => ⟨x5, by simp [forL, M.visit]⟩
  | o :: os, Mt, W, x5, h1, h2 => by
    have lt : lw < A1.length := (List.getElem?_eq_some_iff.mp hl).1
    have hseen : ∀ M W : List Nat, Ab.seen [(lw, its.map iN)] (BT A1 M W) = true := fun M W => seen_one (by rw [List.getElem?_append_left lt]; exact hl)
    have hd : dctL (BT A1 Mt W) (.loc A1.length) = some (mk_ Mt) := by simp [dctL]
    have hin : fDIn true b [.int (o : Int), .loc A1.length] (BT A1 Mt W) = .ok (.bl (!decide (o ∈ Mt))) (BT A1 Mt W) := by
      simp only [fDIn, hd, hasK_mk, if_true]
    by_cases ho : o ∈ Mt
    · obtain ⟨y5, e⟩ := visit_loop hl hb (x0 := x0) (x1 := x1) (x2 := x2) (x6 := x6) os Mt W (some (iN o)) (by simp at h1; omega) (by simp at h2; omega)
      refine ⟨y5, ?_⟩
      have hb1 : c_check_tree_b1 R ⟨b, [x0, x1, x2, some (.loc A1.length), some (.loc (A1.length + 1)), some (iN o), x6]⟩ (BT A1 Mt W) = .nx [x0, x1, x2, some (.loc A1.length), some (.loc (A1.length + 1)), some (iN o), x6] (BT A1 Mt W) := by
        unfold c_check_tree_b1
        simp only [cIf_, cTst_, cF2_, cVar_, List.getElem?_cons_succ, List.getElem?_cons_zero, bind_ok, hin, ho, decide_true, Bool.not_true, asB_, cNx_]
      have ev : M.visit Mt W (o :: os) = M.visit Mt W os := by rw [M.visit, if_pos ho]
      simp only [List.map_cons, forL, put_n, List.set_cons_succ, List.set_cons_zero, hb1, hseen, if_true, ev]
      exact e
    · obtain ⟨y5, e⟩ := visit_loop hl hb (x0 := x0) (x1 := x1) (x2 := x2) (x6 := x6) os (Mt ++ [o]) (W ++ [o]) (some (iN o)) (by simp at h1 ⊢; omega) (by simp at h2 ⊢; omega)
      refine ⟨y5, ?_⟩
      have hb1 : c_check_tree_b1 R ⟨b, [x0, x1, x2, some (.loc A1.length), some (.loc (A1.length + 1)), some (iN o), x6]⟩ (BT A1 Mt W) = .nx [x0, x1, x2, some (.loc A1.length), some (.loc (A1.length + 1)), some (iN o), x6] (BT A1 (Mt ++ [o]) (W ++ [o])) := by
        unfold c_check_tree_b1
        simp only [cIf_, cTst_, cF2_, cVar_, List.getElem?_cons_succ, List.getElem?_cons_zero, bind_ok, hin, ho, decide_false, Bool.not_false, asB_]
        have hput : putKI (mk_ Mt) (o : Int) true = mk_ (Mt ++ [o]) := by
          unfold putKI
          rw [hasK_mk, decide_eq_false ho, if_neg (by simp)]
          simp
        have e1 : cSetD (cVar 3) (cVar 5) (cC (.bl true)) ⟨b, [x0, x1, x2, some (.loc A1.length), some (.loc (A1.length + 1)), some (iN o), x6]⟩ (BT A1 Mt W) = .nx [x0, x1, x2, some (.loc A1.length), some (.loc (A1.length + 1)), some (iN o), x6] (BT A1 (Mt ++ [o]) W) := by
          have hk : (mk_ Mt).length < 100000 := by simp at h1 ⊢; omega
          have hset : (BT A1 Mt W).set A1.length (.dct (mk_ (Mt ++ [o])), []) = BT A1 (Mt ++ [o]) W := by
            have := set_app (A := A1) (B := [(.dct (mk_ Mt), []), (.lst, W.map iN)]) (j := 0) (c := (.dct (mk_ (Mt ++ [o])), []))
            simpa using this
          unfold cSetD
          simp only [cDrop_, cF_, cCons_, cNil_, cC_, cVar_, List.getElem?_cons_succ, List.getElem?_cons_zero, bind_ok, fPutD, hd, hk, if_true, hput, hset]
        rw [seq_nx e1]
        rw [cDrop_, cM_loc (l := A1.length + 1) (xs := W.map iN) (A1 := BT A1 (Mt ++ [o]) W) (by simp) (by simp)]
        simp only [cCons_, cNil_, cVar_, List.getElem?_cons_succ, List.getElem?_cons_zero, bind_ok]
        rw [fAppend_ (xs := W.map iN) (by simp) rfl (by simp at h2 ⊢; omega) (Nat.le_trans hb (Nat.le_add_right _ _))]
        simp
      have ev : M.visit Mt W (o :: os) = M.visit (Mt ++ [o]) (W ++ [o]) os := by rw [M.visit, if_neg ho]
      simp only [List.map_cons, forL, put_n, List.set_cons_succ, List.set_cons_zero, hb1, hseen, if_true, ev]
      exact e
theorem dfs_loop {n : Nat} {rs : List (Nat × Nat)} {G : List (List Nat)} (t : M.TreeOk n rs) (g : M.Gr n rs G) {b m : Nat} {ls : List Nat} {A1 : AH} (na : NA A1 m G ls) (hb : b ≤ A1.length) {x0 x1 x6 : Option Vl} : ∀ (f : Nat) (Mt W M' : List Nat) (x5 : Option Vl), Mt.Nodup → (∀ v ∈ Mt, v < n) → (∀ v ∈ W, v ∈ Mt) → W.length ≤ Mt.length → M.dfs G f Mt W = some M' →
    ∃ y5, whileL (cTst (cF2 (fEqD true) (cVar 4) (cLst cNil))) (c_check_tree_b2 R) b f [x0, x1, some (.loc m), some (.loc A1.length), some (.loc (A1.length + 1)), x5, x6] (BT A1 Mt W) = .nx [x0, x1, some (.loc m), some (.loc A1.length), some (.loc (A1.length + 1)), y5, x6] (BT A1 M' [])
  | 0, Mt, W, M', x5, _, _, _, _, h => by simp [M.dfs] at h
  | f + 1, Mt, W, M', x5, h1, h2, h3, hwl, h => by
    have htest : ∀ s4 : List (Option Vl), cTst (cF2 (fEqD true) (cVar 4) (cLst cNil)) ⟨b, [x0, x1, some (.loc m), some (.loc A1.length), some (.loc (A1.length + 1)), x5, x6]⟩ (BT A1 Mt W) = .ok (!decide (W = [])) (BT A1 Mt W) := fun _ => by
      have := fEq_iN (neg := true) (b := b) (A := BT A1 Mt W) (l := A1.length + 1) (xs := W) (by simp)
      simp only [cTst_, cF2_, cVar_, List.getElem?_cons_succ, List.getElem?_cons_zero, bind_ok, cLst_, cNil_, List.length_nil, Nat.zero_le, if_true, this, asB_]
    unfold M.dfs at h
    cases hw : W.getLast? with
    | none =>
      have : W = [] := List.getLast?_eq_none_iff.mp hw
      subst this
      simp only [List.getLast?_nil] at h
      cases h
      exact ⟨x5, while_end (by rw [htest []]; simp)⟩
    | some w =>
      rw [hw] at h
      simp only at h
      have hne : W ≠ [] := fun z => by subst z; simp at hw
      have hwm : w ∈ W := List.mem_of_getLast? hw
      have hwn := h2 w (h3 w hwm)
      have hmt := M.nodup_len h1 h2
      have hdl : ∀ v ∈ W.dropLast, v ∈ W := fun v hv => by rw [List.dropLast_eq_take] at hv; exact List.mem_of_mem_take hv
      have hn20 := t.n20
      have hgl : (G.getD w []).length ≤ n := M.nodup_len (g.nd w hwn) fun u hu => (t.lt ((g.mem w hwn u).mp hu)).1
      obtain ⟨l, k1, k2, k3⟩ := fIx_NA (b := b) (na.app (B := [(.dct (mk_ Mt), []), (.lst, W.dropLast.map iN)])) (v := w) (by rw [g.len]; exact hwn)
      have k3' : A1[l]? = some (.lst, (G.getD w []).map iN) := na.each w l k1
      have hdlen : W.dropLast.length ≤ W.length := by simp
      obtain ⟨y5, e⟩ := visit_loop (R := R) (b := b) k3' hb (x0 := x0) (x1 := x1) (x2 := some (.loc m)) (x6 := x6) (G.getD w []) Mt W.dropLast x5 (by omega) (by omega)
      have hb2 : c_check_tree_b2 R ⟨b, [x0, x1, some (.loc m), some (.loc A1.length), some (.loc (A1.length + 1)), x5, x6]⟩ (BT A1 Mt W) = .nx [x0, x1, some (.loc m), some (.loc A1.length), some (.loc (A1.length + 1)), y5, x6] (BT A1 (M.visit Mt W.dropLast (G.getD w [])).1 (M.visit Mt W.dropLast (G.getD w [])).2) := by
        unfold c_check_tree_b2
        have hp : fPop b [.loc (A1.length + 1)] (BT A1 Mt W) = .ok (iN w) (BT A1 Mt W.dropLast) := by
          rw [fPop_ (xs := W.map iN) (y := iN w) (by simp) (by rw [List.getLast?_map, hw]; rfl)]
          simp
        have hit : cIt (cF2 fIx (cVar 2) (cM0 fPop (cVar 4))) ⟨b, [x0, x1, some (.loc m), some (.loc A1.length), some (.loc (A1.length + 1)), x5, x6]⟩ (BT A1 Mt W) = .ok ((G.getD w []).map iN, [(l, (G.getD w []).map iN)]) (BT A1 Mt W.dropLast) := by
          refine cIt_loc ?_ k3
          simp only [cF2_, cVar_, List.getElem?_cons_succ, List.getElem?_cons_zero, bind_ok]
          rw [cM0_loc (l := A1.length + 1) (xs := W.map iN) (A1 := BT A1 Mt W) (by simp) (by simp), hp]
          exact k2
        rw [for_of hit]
        exact e
      obtain ⟨a1, a2, a3, a4, a5, a6, a7, a8⟩ := M.visit_spec (n := n) (G.getD w []) Mt W.dropLast h1 h2 (fun v hv => h3 v (hdl v hv)) (fun o ho => (t.lt ((g.mem w hwn o).mp ho)).1)
      have hwl1 : W.dropLast.length + 1 = W.length := by
        rw [List.length_dropLast]
        have := List.length_pos_of_mem hwm
        omega
      obtain ⟨y5', e2⟩ := dfs_loop t g na hb (x0 := x0) (x1 := x1) (x6 := x6) f _ _ M' y5 a1 a2 a3 (by omega) h
      refine ⟨y5', ?_⟩
      rw [while_go (by rw [htest []]; simp [hne]) hb2]
      exact e2
theorem check_tree_ok (h0 : IsWhole (R 0)) (h23 : NearOf (R 23)) (h24 : IsRoad (R 24)) : CkTree (mkFn 7 (c_check_tree R)) := fun A n l rs hl t => by
  have n1 := t.n1
  have n20 := t.n20
  have hlen := t.len
  have lt : l < A.length := (List.getElem?_eq_some_iff.mp hl).1
  have near := h23 A n l rs hl (fun r hr => by have := t.ok r hr; omega) (by omega) (by omega)
  let Gs := M.grf n fun v => srt (M.nbrs rs v)
  have g : M.Gr n rs Gs := M.gr_of t fun v => srt_perm _
  have hall : cLc (cIt (cVar 1)) (.nm 6) cYes (c_check_tree_e0 R) [6] ⟨A.length, [some (.int (n : Int)), some (.loc l), none, none, none, none, none]⟩ A = .ok (.new .lst (rs.map fun _ => .bl true)) A := by
    refine cLc_map (phi := rv) (w := [(l, rs.map rv)]) (cIt_loc (by simp) hl) (by omega) (seen_one hl) fun r hr => ⟨_, put_n, ?_⟩
    simp only [wipeS, List.set_cons_succ, List.set_cons_zero]
    have hb : box (rv r) A = (rv r, A) := box_tup (by simp)
    simp [c_check_tree_e0, hb, h24 A n r (t.ok r hr).1 (t.ok r hr).2]
  have hallt : (rs.all fun _ => true) = true := List.all_eq_true.mpr fun _ _ => rfl
  have i1 : (1 : Int) ≤ n := by omega
  have i2 : ¬ ((20 : Int) < n) := by omega
  have i3 : (rs.length : Int) = (n : Int) - 1 := by omega
  simp only [mkFn, c_check_tree, List.map_cons, List.map_nil, List.length_cons, List.length_nil, Nat.zero_add, Nat.reduceAdd, Nat.reduceSub, List.replicate, List.cons_append, List.nil_append]
  rw [seq_nx (s := [some (.int (n : Int)), some (.loc l), none, none, none, none, none]) (A1 := A) (by simp [h0 A n 1, i1, i2])]
  rw [seq_nx (s := [some (.int (n : Int)), some (.loc l), none, none, none, none, none]) (A1 := A) (by
    simp [fIsi_loc hl, isiB, fLen_loc hl, i3, hall, hallt])]
  let A1 := nLay A Gs
  have hA1 : A.length ≤ A1.length := by simp [A1, nLay_len]; omega
  have hGl : Gs.length = n := M.grf_len
  rw [seq_nx (s := [some (.int (n : Int)), some (.loc l), some (.loc (A.length + n)), none, none, none, none]) (A1 := A1) (by
    rw [put_nm (d := .new .lst (Gs.map nl)) (A1 := A)]
    · rw [box_nl, hGl]; simp [A1]
    · simp [near]; rfl)]
  rw [seq_nx (s := [some (.int (n : Int)), some (.loc l), some (.loc (A.length + n)), some (.loc A1.length), none, none, none]) (A1 := A1 ++ [(.dct (mk_ [0]), [])]) (by
    rw [put_nm (d := .new (.dct [(0, true)]) []) (A1 := A1) rfl, box_new plains_nil]
    simp)]
  rw [seq_nx (s := [some (.int (n : Int)), some (.loc l), some (.loc (A.length + n)), some (.loc A1.length), some (.loc (A1.length + 1)), none, none]) (A1 := BT A1 [0] [0]) (by
    rw [put_nm (d := .new .lst [.int 0]) (A1 := A1 ++ [(.dct (mk_ [0]), [])]) (by simp), box_new (by simp)]
    simp)]
  have na := nLay_na A Gs
  rw [hGl] at na
  have na : NA A1 (A.length + n) Gs ((List.range n).map fun i => A.length + i) := na
  obtain ⟨M', d1, d2⟩ := M.dfs_ok t g 100 [0] [0] (by simp) (by simp; omega) (by simp) (by simp) (by simp) (by simp; omega)
  obtain ⟨y5, e⟩ := dfs_loop (R := R) t g (b := A.length) na hA1 (x0 := some (.int (n : Int))) (x1 := some (.loc l)) (x6 := none) 100 [0] [0] M' none (by simp) (by simp; omega) (by simp) (by simp) d1
  rw [seq_nx (s := [some (.int (n : Int)), some (.loc l), some (.loc (A.length + n)), some (.loc A1.length), some (.loc (A1.length + 1)), y5, none]) (A1 := BT A1 M' []) e]
  have hd : dctL (BT A1 M' []) (.loc A1.length) = some (mk_ M') := by simp [dctL]
  have hk : (mk_ M').length = n := by simp [d2]
  simp only [cIf_, cTst_, cF2_, cF_, cCons_, cNil_, cVar_, List.getElem?_cons_succ, List.getElem?_cons_zero, bind_ok, fLenD, hd, hk, fLt_, Int.lt_irrefl, decide_false, asB_, cNx_, fin_nx]
  show gc A.length .non (BT A1 M' []) = _
  have : BT A1 M' [] = A ++ ((Gs.map nc ++ [(.lst, (List.range Gs.length).map fun i => .loc (A.length + i))]) ++ [(.dct (mk_ M'), []), (.lst, ([] : List Nat).map iN)]) := by
    simp [A1, nLay]
  rw [this, gc_app rfl]
end G

set_option Elab.async false
set_option linter.all false
set_option maxRecDepth 100000
set_option maxHeartbeats 1000000
set_option autoImplicit false
namespace Ab
open PySem PySem.Spec PyProof.Rows L2
abbrev eI (ls : List Nat) (i : Nat) : Vl := .tup [.int (i : Int), .loc (ls.getD i 0)]
theorem enumL_range (ls : List Nat) : enumL 0 (ls.map Vl.loc) = (List.range ls.length).map (eI ls) := by
  apply List.ext_getElem?
  intro i
  rw [enumL_get, List.getElem?_map, List.getElem?_map]
  by_cases hi : i < ls.length
  · simp [hi]
  · rw [List.getElem?_eq_none (by omega), List.getElem?_eq_none (by simpa using hi)]
    rfl
theorem len_get {G : List (List Nat)} {k : Nat} (h : ∀ g ∈ G, g.length ≤ k) (v : Nat) : (G.getD v []).length ≤ k := by
  rw [List.getD_eq_getElem?_getD]
  cases hq : G[v]? with
  | none => simp
  | some g => exact h g (List.mem_of_getElem? hq)
/-- a filtered list of numbers -/
theorem lc_filN {ci : CI} {i : Nat} {test : CT} {elt : CE} {vs : List Nat} {ρ : Ev} {A : AH} {w : Wch} {xs : List Nat} {p : Nat → Bool} (hi : ci ρ A = .ok (xs.map iN, w) A) (hl : xs.length ≤ 100000) (hs : seen w A = true)
    (h : ∀ x ∈ xs, test ⟨ρ.b, (wipeS ρ.s vs).set i (some (iN x))⟩ A = .ok (p x) A ∧ elt ⟨ρ.b, (wipeS ρ.s vs).set i (some (iN x))⟩ A = .ok (iN x) A) :
    cLc ci (.nm i) test elt vs ρ A = .ok (nl (xs.filter p)) A :=
  cLc_fil hi hl hs fun x hx => ⟨_, put_n, (h x hx).1, fun _ => (h x hx).2⟩
/-- the lists stand whole, each of numbers below n -/
structure GOk (n : Nat) (G : List (List Nat)) : Prop where
  len : G.length = n
  n20 : n ≤ 20
  lt : ∀ v, v < n → ∀ u ∈ G.getD v [], u < n
  few : ∀ v, (G.getD v []).length ≤ 1000
theorem gOk_of {n : Nat} {rs : List (Nat × Nat)} {G : List (List Nat)} (t : M.TreeOk n rs) (g : M.Gr n rs G) : GOk n G :=
  ⟨g.len, t.n20, fun v hv u hu => (t.lt ((g.mem v hv u).mp hu)).1, fun v => by
    by_cases hv : v < n
    · have := M.nodup_len (g.nd v hv) fun u hu => (t.lt ((g.mem v hv u).mp hu)).1
      have := t.n20
      omega
    · rw [List.getD_eq_getElem?_getD, List.getElem?_eq_none (by rw [g.len]; omega)]
      simp⟩
end Ab
namespace G
open PySem PySem.Spec PyProof.Rows L2 Ab
variable {R : Nat → Fn}
/-- len(near[v]) > 1 -/
theorem isIn_code {b m v : Nat} {A : AH} {G : List (List Nat)} {ls : List Nat} (na : NA A m G ls) (hv : v < G.length) {ρ : Ev} (hb : ρ.b = b) {e1 e2 : CE} (h1 : e1 ρ A = .ok (.loc m) A) (h2 : e2 ρ A = .ok (iN v) A) : cTst (cF2 fGt (cF fLen (cCons (cF2 fIx e1 e2) cNil)) (cC (.int 1))) ρ A = .ok (M.isIn G v) A := by
  obtain ⟨l, k1, k2, k3⟩ := fIx_NA (b := ρ.b) na hv
  simp only [cTst_, cF2_, cF_, cCons_, cNil_, cC_, h1, h2, bind_ok, k2, fLen_loc k3, fGt_, asB_, List.length_map]
  congr 1
  unfold M.isIn
  by_cases h : 1 < (G.getD v []).length
  · rw [decide_eq_true h, decide_eq_true (by omega)]
  · rw [decide_eq_false h, decide_eq_false (by omega)]
def SpreadIn (f : Fn) : Prop := ∀ A (m n : Nat) (G : List (List Nat)) (ls : List Nat), NA A m G ls → GOk n G →
  (M.NoSpread G → f [.loc m] A = .ok (.tup []) A) ∧ (¬ M.NoSpread G → ∃ h a c d r, h < n ∧ M.inN G h = a :: c :: d :: r ∧ f [.loc m] A = .ok (.tup [iN h, iN a, iN c, iN d]) A)
theorem spread_loop {m n b : Nat} {A : AH} {G : List (List Nat)} {ls : List Nat} (na : NA A m G ls) (g : GOk n G) : ∀ (ks : List Nat) (B : AH) (x1 x2 x3 x4 : Option Vl), (∀ k ∈ ks, k < n) →
    (∃ B' y1 y2 y3 y4, forL (.tp [.nm 1, .nm 2]) (c_spread_in_b2 R) [(m, ls.map Vl.loc)] b (ks.map (eI ls)) [some (.loc m), x1, x2, x3, x4] (A ++ B) = .nx [some (.loc m), y1, y2, y3, y4] (A ++ B') ∧ ∀ k ∈ ks, (M.inN G k).length ≤ 2) ∨
    (∃ B' h a c d r, h ∈ ks ∧ M.inN G h = a :: c :: d :: r ∧ forL (.tp [.nm 1, .nm 2]) (c_spread_in_b2 R) [(m, ls.map Vl.loc)] b (ks.map (eI ls)) [some (.loc m), x1, x2, x3, x4] (A ++ B) = .rt (.tup [iN h, iN a, iN c, iN d]) (A ++ B'))
  | [], B, x1, x2, x3, x4, _ => .inl ⟨B, x1, x2, x3, x4, by simp [forL], by simp⟩
  | k :: ks, B, x1, x2, x3, x4, hk => by
    have hkn := hk k (by simp)
    have hls : ls[k]? = some (ls.getD k 0) := by
      rw [List.getD_eq_getElem?_getD, List.getElem?_eq_getElem (by rw [na.len, g.len]; exact hkn)]; rfl
    have na' := na.app (B := B)
    have hl := na'.each k _ hls
    have e1 : cPut (.nm 3) (cLc (cIt (cVar 2)) (.nm 4) (c_spread_in_t1 R) (c_spread_in_e0 R) [4]) ⟨b, [some (.loc m), some (iN k), some (.loc (ls.getD k 0)), x3, x4]⟩ (A ++ B) = .nx [some (.loc m), some (iN k), some (.loc (ls.getD k 0)), some (.loc (A ++ B).length), x4] (A ++ (B ++ [nc (M.inN G k)])) := by
      rw [put_nm (lc_filN (p := M.isIn G) (cIt_loc (by simp) hl) (by have := g.few k; omega) (seen_one hl) fun u hu => ⟨?_, ?_⟩)]
      · rw [box_new (plains_iN _)]
        simp [M.inN]
      · have hun := g.lt k hkn u hu
        simp only [wipeS, List.set_cons_succ, List.set_cons_zero]
        unfold c_spread_in_t1
        exact isIn_code na' (by rw [g.len]; exact hun) rfl (by simp) (by simp)
      · simp [c_spread_in_e0, wipeS]
    have hc : (A ++ (B ++ [nc (M.inN G k)]))[(A ++ B).length]? = some (.lst, (M.inN G k).map iN) := by
      rw [← List.append_assoc]; simp
    by_cases h2 : 2 < (M.inN G k).length
    · right
      match hq : M.inN G k, h2 with
      | a :: c :: d :: r, _ =>
        rw [hq] at hc e1
        refine ⟨B ++ [nc (a :: c :: d :: r)], k, a, c, d, r, by simp, hq, ?_⟩
        have hb : c_spread_in_b2 R ⟨b, [some (.loc m), some (iN k), some (.loc (ls.getD k 0)), x3, x4]⟩ (A ++ B) = .rt (.tup [iN k, iN a, iN c, iN d]) (A ++ (B ++ [nc (a :: c :: d :: r)])) := by
          unfold c_spread_in_b2
          rw [seq_nx e1]
          have i0 := fIx_loc (b := b) hc (i := ((0 : Nat) : Int)) (atI_n (n := 0) rfl)
          have i1 := fIx_loc (b := b) hc (i := ((1 : Nat) : Int)) (atI_n (n := 1) rfl)
          have i2 := fIx_loc (b := b) hc (i := ((2 : Nat) : Int)) (atI_n (n := 2) rfl)
          simp only [Int.natCast_zero, Int.cast_ofNat_Int] at i0 i1 i2
          have hlen : (2 : Int) < (((a :: c :: d :: r).map iN).length : Nat) := by simp; omega
          simp only [cIf_, cTst_, cF2_, cF_, cCons_, cNil_, cC_, cVar_, List.getElem?_cons_succ, List.getElem?_cons_zero, bind_ok, fLen_loc hc, fGt_, decide_eq_true hlen, asB_, cRet_, cTup_, i0, i1, i2]
          simp
        simp only [List.map_cons, forL, put_t, puts_c, put_n, puts_n, List.set_cons_succ, List.set_cons_zero, hb]
    · have hb : c_spread_in_b2 R ⟨b, [some (.loc m), some (iN k), some (.loc (ls.getD k 0)), x3, x4]⟩ (A ++ B) = .nx [some (.loc m), some (iN k), some (.loc (ls.getD k 0)), some (.loc (A ++ B).length), x4] (A ++ (B ++ [nc (M.inN G k)])) := by
        unfold c_spread_in_b2
        rw [seq_nx e1]
        have hlen : ¬ ((2 : Int) < (((M.inN G k).map iN).length : Nat)) := by simp; omega
        simp only [cIf_, cTst_, cF2_, cF_, cCons_, cNil_, cC_, cVar_, List.getElem?_cons_succ, List.getElem?_cons_zero, bind_ok, fLen_loc hc, fGt_, decide_eq_false hlen, asB_, cNx_]
      have hseen : Ab.seen [(m, ls.map Vl.loc)] (A ++ (B ++ [nc (M.inN G k)])) = true := seen_one (na.app (B := B ++ [nc (M.inN G k)])).top
      rcases spread_loop na g ks (B ++ [nc (M.inN G k)]) (some (iN k)) (some (.loc (ls.getD k 0))) (some (.loc (A ++ B).length)) x4 (fun q hq => hk q (by simp [hq])) with ⟨B', y1, y2, y3, y4, e, e'⟩ | ⟨B', h, a, c, d, r, e, e', e''⟩
      · left
        refine ⟨B', y1, y2, y3, y4, ?_, fun q hq => ?_⟩
        · simp only [List.map_cons, forL, put_t, puts_c, put_n, puts_n, List.set_cons_succ, List.set_cons_zero, hb, hseen, if_true]
          exact e
        · rcases List.mem_cons.mp hq with rfl | hq
          · omega
          · exact e' q hq
      · right
        refine ⟨B', h, a, c, d, r, by simp [e], e', ?_⟩
        simp only [List.map_cons, forL, put_t, puts_c, put_n, puts_n, List.set_cons_succ, List.set_cons_zero, hb, hseen, if_true]
        exact e''
theorem spread_in_ok : SpreadIn (mkFn 5 (c_spread_in R)) := fun A m n G ls na g => by
  have hn : ls.length = n := by rw [na.len, g.len]
  have en : cEn (cVar 0) ⟨A.length, [some (.loc m), none, none, none, none]⟩ A = .ok ((List.range n).map (eI ls), [(m, ls.map Vl.loc)]) A := by
    rw [cEn_loc (A1 := A) (by simp) na.top, enumL_range, hn]
  have lp := spread_loop (R := R) (b := A.length) na g (List.range n) [] none none none none (by simp)
  rw [List.append_nil] at lp
  simp only [mkFn, c_spread_in, List.map_cons, List.map_nil, List.length_cons, List.length_nil, Nat.zero_add, Nat.reduceAdd, Nat.reduceSub, List.replicate, List.cons_append, List.nil_append]
  rcases lp with ⟨B', y1, y2, y3, y4, e, e'⟩ | ⟨B', h, a, c, d, r, e, e', e''⟩
  · have hns : M.NoSpread G := fun v hv => e' v (by rw [List.mem_range, ← g.len]; exact hv)
    refine ⟨fun _ => ?_, fun z => absurd hns z⟩
    rw [seq_nx ((for_of en).trans e)]
    simp
    rw [gc_app (by simp)]
  · have hh : h < n := List.mem_range.mp e
    refine ⟨fun z => ?_, fun _ => ⟨h, a, c, d, r, hh, e', ?_⟩⟩
    · have := z h (by rw [g.len]; exact hh)
      rw [e'] at this
      simp at this
    · rw [seq_rt ((for_of en).trans e'')]
      simp only [fin_rt]
      rw [gc_app (by simp)]
end G

set_option Elab.async false
set_option linter.all false
set_option maxRecDepth 100000
set_option maxHeartbeats 1000000
set_option autoImplicit false
namespace G
open PySem PySem.Spec PyProof.Rows L2 Ab
variable {R : Nat → Fn}
def WayThrough (f : Fn) : Prop := ∀ A (m n : Nat) (G : List (List Nat)) (ls W : List Nat), NA A m G ls → GOk n G → M.wayOf G = some W → f [.loc m] A = .ok (.new .lst (W.map iN)) A
theorem iN_get {b l v : Nat} {A : AH} {xs : List Nat} {x : Nat} (h : A[l]? = some (.lst, xs.map iN)) (hx : xs[v]? = some x) : fIx b [.loc l, .int (v : Int)] A = .ok (iN x) A := fIx_loc h (atI_n (by rw [List.getElem?_map, hx]; rfl))
theorem iN_last {b l : Nat} {A : AH} {xs : List Nat} {x : Nat} (h : A[l]? = some (.lst, (xs ++ [x]).map iN)) : fIx b [.loc l, .int (-1)] A = .ok (iN x) A := by
  rw [List.map_append] at h
  exact fIx_loc h (atI_last _ _)
/-- the state of the way's walk -/
theorem way_loop {m n b : Nat} {A : AH} {G : List (List Nat)} {ls : List Nat} (na : NA A m G ls) (g : GOk n G) (hb : b ≤ A.length) {x2 : Option Vl} : ∀ (f : Nat) (F on W : List Nat) (C : AH) (j : Nat) (x5 x6 x7 : Option Vl), M.walkW G (M.inner G) f F on = some W → C[0]? = some (nc (M.inner G)) → C[2]? = some (nc F) → C[j]? = some (nc on) → 2 < j → (∀ x ∈ on, x < n) → F.length + f ≤ 1000 →
    ∃ (C' : AH) (j' : Nat) (y7 : Option Vl), whileL (cTst (cF2 (fEqD true) (cVar 4) (cLst cNil))) (c_way_through_b10 R) b f [some (.loc m), some (.loc A.length), x2, some (.loc (A.length + 2)), some (.loc (A.length + j)), x5, x6, x7] (A ++ C) = .nx [some (.loc m), some (.loc A.length), x2, some (.loc (A.length + 2)), some (.loc (A.length + j')), x5, x6, y7] (A ++ C') ∧ C'[2]? = some (nc W)
  | 0, F, on, W, C, j, x5, x6, x7, h, _, _, _, _, _, _ => by simp [M.walkW] at h
  | f + 1, F, on, W, C, j, x5, x6, x7, h, h0, h2, h4, hj, hon, hf => by
    have htest : cTst (cF2 (fEqD true) (cVar 4) (cLst cNil)) ⟨b, [some (.loc m), some (.loc A.length), x2, some (.loc (A.length + 2)), some (.loc (A.length + j)), x5, x6, x7]⟩ (A ++ C) = .ok (!decide (on = [])) (A ++ C) := by
      have := fEq_iN (neg := true) (b := b) (A := A ++ C) (l := A.length + j) (xs := on) (by rw [at_app]; exact h4)
      simp only [cTst_, cF2_, cVar_, List.getElem?_cons_succ, List.getElem?_cons_zero, bind_ok, cLst_, cNil_, List.length_nil, Nat.zero_le, if_true, this, asB_]
    match on, h, h4, hon, htest with
    | [], h, h4, hon, htest =>
      rw [M.walkW] at h
      cases h
      exact ⟨C, j, x7, while_end (by rw [htest]; simp), h2⟩
    | x :: r, h, h4, hon, htest =>
      rw [M.walkW] at h
      have hx := hon x (by simp)
      let C1 : AH := C.set 2 (nc (F ++ [x]))
      have l2 : 2 < C.length := (List.getElem?_eq_some_iff.mp h2).1
      have c2 : C1[2]? = some (nc (F ++ [x])) := List.getElem?_set_self l2
      have c0 : C1[0]? = some (nc (M.inner G)) := by simp only [C1]; rw [List.getElem?_set_ne (by omega)]; exact h0
      let C2 : AH := C1 ++ [nc (M.onOf G (M.inner G) (F ++ [x]) x)]
      have hlC : C1.length = C.length := by simp [C1]
      have e1 : cDrop (cM fAppend (cVar 3) (cCons (cF2 fIx (cVar 4) (cC (.int 0))) cNil)) ⟨b, [some (.loc m), some (.loc A.length), x2, some (.loc (A.length + 2)), some (.loc (A.length + j)), x5, x6, x7]⟩ (A ++ C) = .nx [some (.loc m), some (.loc A.length), x2, some (.loc (A.length + 2)), some (.loc (A.length + j)), x5, x6, x7] (A ++ C1) := by
        rw [cDrop_, cM_loc (l := A.length + 2) (xs := F.map iN) (A1 := A ++ C) (by simp) (by rw [at_app]; exact h2)]
        have i0 := iN_get (b := b) (A := A ++ C) (l := A.length + j) (v := 0) (xs := x :: r) (by rw [at_app]; exact h4) rfl
        simp only [Int.natCast_zero] at i0
        simp only [cCons_, cNil_, cF2_, cC_, cVar_, List.getElem?_cons_succ, List.getElem?_cons_zero, bind_ok, i0]
        rw [fAppend_ (xs := F.map iN) (by rw [at_app]; exact h2) rfl (by simp; omega) (Nat.le_trans hb (Nat.le_add_right _ _))]
        simp only [set_app]
        rw [show C1 = C.set 2 (Kd.lst, (F ++ [x]).map iN) from rfl, List.map_append]
        rfl
      have na1 : NA (A ++ C1) m G ls := na.app
      obtain ⟨l, k1, k2, k3⟩ := fIx_NA (b := b) na1 (v := x) (by rw [g.len]; exact hx)
      have hi : (A ++ C1)[A.length]? = some (.lst, (M.inner G).map iN) := by rw [at_app0]; exact c0
      have hF : (A ++ C1)[A.length + 2]? = some (.lst, (F ++ [x]).map iN) := by rw [at_app]; exact c2
      have e2 : cPut (.nm 4) (cLc (cIt (cF2 fIx (cVar 0) (cF2 fIx (cVar 3) (cF1 fNeg (cC (.int 1)))))) (.nm 7) (c_way_through_t9 R) (c_way_through_e8 R) [7]) ⟨b, [some (.loc m), some (.loc A.length), x2, some (.loc (A.length + 2)), some (.loc (A.length + j)), x5, x6, x7]⟩ (A ++ C1) = .nx [some (.loc m), some (.loc A.length), x2, some (.loc (A.length + 2)), some (.loc (A.length + C.length)), x5, x6, x7] (A ++ C2) := by
        have hit : cIt (cF2 fIx (cVar 0) (cF2 fIx (cVar 3) (cF1 fNeg (cC (.int 1))))) ⟨b, [some (.loc m), some (.loc A.length), x2, some (.loc (A.length + 2)), some (.loc (A.length + j)), x5, x6, x7]⟩ (A ++ C1) = .ok ((G.getD x []).map iN, [(l, (G.getD x []).map iN)]) (A ++ C1) := by
          refine cIt_loc ?_ k3
          simp only [cF2_, cF1_, cC_, cVar_, List.getElem?_cons_succ, List.getElem?_cons_zero, bind_ok, fNeg_, iN_last hF, k2]
        rw [put_nm (lc_filN (p := fun o => decide (o ∈ M.inner G) && !decide (o ∈ F ++ [x])) hit (by have := g.few x; omega) (seen_one k3) fun u hu => ⟨?_, ?_⟩)]
        · rw [box_new (plains_iN _)]
          simp only [List.set_cons_succ, List.set_cons_zero, List.length_append, hlC, C2, List.append_assoc]
          rfl
        · simp only [wipeS, List.set_cons_succ, List.set_cons_zero]
          unfold c_way_through_t9
          simp only [cAnd_, cTst_, cF2_, cVar_, List.getElem?_cons_succ, List.getElem?_cons_zero, bind_ok, fIn_iN hi, asB_, fIn_iN hF]
          by_cases hu2 : u ∈ M.inner G <;> simp [hu2]
        · simp [c_way_through_e8, wipeS]
      have hb10 : c_way_through_b10 R ⟨b, [some (.loc m), some (.loc A.length), x2, some (.loc (A.length + 2)), some (.loc (A.length + j)), x5, x6, x7]⟩ (A ++ C) = .nx [some (.loc m), some (.loc A.length), x2, some (.loc (A.length + 2)), some (.loc (A.length + C.length)), x5, x6, x7] (A ++ C2) := by
        unfold c_way_through_b10
        rw [seq_nx e1]
        exact e2
      obtain ⟨C', j', y7, e3, e4⟩ := way_loop na g hb (x2 := x2) f (F ++ [x]) _ W C2 C.length x5 x6 x7 h (by simp only [C2]; rw [List.getElem?_append_left (by omega)]; exact c0) (by simp only [C2]; rw [List.getElem?_append_left (by omega)]; exact c2) (by simp only [C2]; rw [List.getElem?_append_right (by omega)]; simp [hlC]) l2 (fun u hu => g.lt x hx u (by
        unfold M.onOf at hu
        exact (List.mem_filter.mp hu).1)) (by simp; omega)
      refine ⟨C', j', y7, ?_, e4⟩
      rw [while_go (by rw [htest]; simp) hb10]
      exact e3
theorem inner_code {m n : Nat} {A : AH} {G : List (List Nat)} {ls : List Nat} (na : NA A m G ls) (g : GOk n G) {b : Nat} {x1 x2 x3 x4 x5 x6 x7 : Option Vl} : cLc (cEn (cVar 0)) (.tp [.nm 5, .nm 6]) (c_way_through_t1 R) (c_way_through_e0 R) [5, 6] ⟨b, [some (.loc m), x1, x2, x3, x4, x5, x6, x7]⟩ A = .ok (nl (M.inner G)) A := by
  have hn : ls.length = n := by rw [na.len, g.len]
  unfold M.inner
  rw [g.len]
  refine cLc_fil (phi := eI ls) (psi := iN) (w := [(m, ls.map Vl.loc)]) (xs := List.range n) (p := M.isIn G) (by rw [cEn_loc (A1 := A) (by simp) na.top, enumL_range, hn]) (by have := g.n20; simp; omega) (seen_one na.top) fun k hk => ?_
  rw [List.mem_range] at hk
  have hls : ls[k]? = some (ls.getD k 0) := by
    rw [List.getD_eq_getElem?_getD, List.getElem?_eq_getElem (by rw [hn]; exact hk)]; rfl
  have hl := na.each k _ hls
  refine ⟨[some (.loc m), x1, x2, x3, x4, some (iN k), some (.loc (ls.getD k 0)), x7], by simp [wipeS], ?_, fun _ => by simp [c_way_through_e0]⟩
  unfold c_way_through_t1
  simp only [cTst_, cF2_, cF_, cCons_, cNil_, cC_, cVar_, List.getElem?_cons_succ, List.getElem?_cons_zero, bind_ok, fLen_loc hl, fGt_, asB_, List.length_map]
  congr 1
  unfold M.isIn
  by_cases h : 1 < (G.getD k []).length
  · rw [decide_eq_true h, decide_eq_true (by omega)]
  · rw [decide_eq_false h, decide_eq_false (by omega)]
theorem way_through_ok : WayThrough (mkFn 8 (c_way_through R)) := fun A m n G ls W na g hw => by
  simp only [mkFn, c_way_through, List.map_cons, List.map_nil, List.length_cons, List.length_nil, Nat.zero_add, Nat.reduceAdd, Nat.reduceSub, List.replicate, List.cons_append, List.nil_append]
  let I := M.inner G
  have hIl : I.length ≤ 20 := by
    have h1 : I.length ≤ (List.range G.length).length := List.length_filter_le _ _
    rw [List.length_range, g.len] at h1
    have := g.n20
    omega
  have hIn : ∀ v ∈ I, v < n := fun v hv => by
    have := (List.mem_filter.mp hv).1
    rw [List.mem_range, g.len] at this
    exact this
  rw [seq_nx (s := [some (.loc m), some (.loc A.length), none, none, none, none, none, none]) (A1 := A ++ [nc I]) (by
    rw [put_nm (inner_code na g), box_new (plains_iN _)]
    simp [I])]
  have hI1 : (A ++ [nc I])[A.length]? = some (.lst, I.map iN) := by rw [at_app0]; rfl
  have heq := fEq_iN (neg := false) (b := A.length) hI1
  unfold M.wayOf at hw
  by_cases hI : M.inner G = []
  · rw [if_pos hI] at hw
    cases hw
    rw [seq_rt (v := .new .lst [.int 0]) (A1 := A ++ [nc I]) (by
      simp only [cIf_, cTst_, cF2_, cVar_, List.getElem?_cons_succ, List.getElem?_cons_zero, bind_ok, cLst_, cNil_, List.length_nil, Nat.zero_le, if_true, heq, asB_]
      simp [I, hI])]
    simp only [fin_rt]
    rw [gc_new (by simp)]
    rfl
  · rw [if_neg hI] at hw
    rw [seq_nx (s := [some (.loc m), some (.loc A.length), none, none, none, none, none, none]) (A1 := A ++ [nc I]) (by
      simp only [cIf_, cTst_, cF2_, cVar_, List.getElem?_cons_succ, List.getElem?_cons_zero, bind_ok, cLst_, cNil_, List.length_nil, Nat.zero_le, if_true, heq, asB_]
      simp [I, hI])]
    -- the ends
    have na1 : NA (A ++ [nc I]) m G ls := na.app
    have fil : ∀ (B : AH) (v : Nat) (x2 x3 x4 x5 x6 x7 : Option Vl) (ce : CE), NA (A ++ B) m G ls → (A ++ B)[A.length]? = some (.lst, I.map iN) → v < n → ce ⟨A.length, [some (.loc m), some (.loc A.length), x2, x3, x4, x5, x6, x7]⟩ (A ++ B) = .ok (iN v) (A ++ B) →
        ∀ t e, (t = c_way_through_t3 R ∨ t = c_way_through_t7 R) → (e = c_way_through_e2 R ∨ e = c_way_through_e6 R) → cLc (cIt (cF2 fIx (cVar 0) ce)) (.nm 7) t e [7] ⟨A.length, [some (.loc m), some (.loc A.length), x2, x3, x4, x5, x6, x7]⟩ (A ++ B) = .ok (nl ((G.getD v []).filter fun o => decide (o ∈ M.inner G))) (A ++ B) := by
      intro B v x2 x3 x4 x5 x6 x7 ce hna hin hv hce t e ht he
      obtain ⟨l, k1, k2, k3⟩ := fIx_NA (b := A.length) hna (v := v) (by rw [g.len]; exact hv)
      refine lc_filN (w := [(l, (G.getD v []).map iN)]) (cIt_loc (by simp only [cF2_, cVar_, List.getElem?_cons_succ, List.getElem?_cons_zero, bind_ok, hce, k2]) k3) (by have := g.few v; omega) (seen_one k3) fun u hu => ⟨?_, ?_⟩
      · simp only [wipeS, List.set_cons_succ, List.set_cons_zero]
        rcases ht with rfl | rfl
        · unfold c_way_through_t3
          simp only [cTst_, cF2_, cVar_, List.getElem?_cons_succ, List.getElem?_cons_zero, bind_ok, fIn_iN hin, asB_]
          simp [I]
        · unfold c_way_through_t7
          simp only [cTst_, cF2_, cVar_, List.getElem?_cons_succ, List.getElem?_cons_zero, bind_ok, fIn_iN hin, asB_]
          simp [I]
      · rcases he with rfl | rfl
        · simp [c_way_through_e2, wipeS]
        · simp [c_way_through_e6, wipeS]
    have hends : cLc (cIt (cVar 1)) (.nm 5) (c_way_through_t5 R) (c_way_through_e4 R) [5] ⟨A.length, [some (.loc m), some (.loc A.length), none, none, none, none, none, none]⟩ (A ++ [nc I]) = .ok (nl (M.endsOf G)) (A ++ [nc I]) := by
      unfold M.endsOf
      refine lc_filN (w := [(A.length, I.map iN)]) (cIt_loc (by simp) hI1) (by show I.length ≤ 100000; omega) (seen_one hI1) fun v hv => ⟨?_, by simp [c_way_through_e4, wipeS]⟩
      simp only [wipeS, List.set_cons_succ, List.set_cons_zero]
      unfold c_way_through_t5
      simp only [cTst_, cF2_, cF_, cCons_, cNil_, cC_]
      rw [fil [nc I] v _ _ _ _ _ _ _ na1 hI1 (hIn v hv) (by simp) _ _ (.inl rfl) (.inl rfl)]
      simp only [bind_ok, fLen_new, fLt_, asB_, List.length_map]
      congr 1
      by_cases h : ((G.getD v []).filter fun o => decide (o ∈ M.inner G)).length < 2
      · rw [decide_eq_true h, decide_eq_true (by omega)]
      · rw [decide_eq_false h, decide_eq_false (by omega)]
    rw [seq_nx (s := [some (.loc m), some (.loc A.length), some (.loc (A.length + 1)), none, none, none, none, none]) (A1 := A ++ [nc I, nc (M.endsOf G)]) (by
      rw [put_nm hends, box_new (plains_iN _)]
      simp)]
    split at hw
    · cases hw
    · rename_i e r he
      have hen : e < n := hIn e (by
        have : e ∈ M.endsOf G := by rw [he]; simp
        unfold M.endsOf at this
        exact (List.mem_filter.mp this).1)
      rw [he]
      have hE : (A ++ [nc I, nc (e :: r)])[A.length + 1]? = some (.lst, (e :: r).map iN) := by rw [at_app]; rfl
      have i0 := iN_get (b := A.length) (v := 0) hE rfl
      simp only [Int.natCast_zero] at i0
      rw [seq_nx (s := [some (.loc m), some (.loc A.length), some (.loc (A.length + 1)), some (.loc (A.length + 2)), none, none, none, none]) (A1 := A ++ [nc I, nc (e :: r), nc [e]]) (by
        rw [put_nm (d := .new .lst [iN e]) (A1 := A ++ [nc I, nc (e :: r)]) (by
          simp only [cLst_, cCons_, cNil_, cF2_, cC_, cVar_, List.getElem?_cons_succ, List.getElem?_cons_zero, bind_ok, i0]
          simp), box_new (by simp)]
        simp)]
      have hE2 : (A ++ [nc I, nc (e :: r), nc [e]])[A.length + 1]? = some (.lst, (e :: r).map iN) := by rw [at_app]; rfl
      have i1 := iN_get (b := A.length) (v := 0) hE2 rfl
      simp only [Int.natCast_zero] at i1
      let on := (G.getD e []).filter fun o => decide (o ∈ M.inner G)
      rw [seq_nx (s := [some (.loc m), some (.loc A.length), some (.loc (A.length + 1)), some (.loc (A.length + 2)), some (.loc (A.length + 3)), none, none, none]) (A1 := A ++ [nc I, nc (e :: r), nc [e], nc on]) (by
        rw [put_nm (fil [nc I, nc (e :: r), nc [e]] e _ _ _ _ _ _ _ na.app (by rw [at_app0]; rfl) hen (by
          simp only [cF2_, cC_, cVar_, List.getElem?_cons_succ, List.getElem?_cons_zero, bind_ok, i1]) _ _ (.inr rfl) (.inr rfl)), box_new (plains_iN _)]
        simp [on])]
      obtain ⟨C', j', y7, e3, e4⟩ := way_loop (R := R) na g (b := A.length) (Nat.le_refl _) (x2 := some (.loc (A.length + 1))) 100 [e] on W [nc I, nc (e :: r), nc [e], nc on] 3 none none none hw rfl rfl rfl (by omega) (fun u hu => g.lt e hen u (List.mem_filter.mp hu).1) (by simp)
      rw [seq_nx e3]
      simp only [cRet_, cVar_, List.getElem?_cons_succ, List.getElem?_cons_zero, fin_rt]
      rw [gc_loc (k := .lst) (xs := W.map iN) (Nat.le_add_right _ _) (by rw [at_app]; exact e4) (plains_iN _)]
end G

set_option Elab.async false
set_option linter.all false
set_option maxRecDepth 100000
set_option maxHeartbeats 1000000
set_option autoImplicit false
namespace Ab
open PySem PySem.Spec PyProof.Rows L2
theorem mapO_scI (xs : List Int) : mapO sc (xs.map Vl.int) = some (xs.map V.int) := by
  induction xs with
  | nil => rfl
  | cons x r ih => simp [mapO, sc, ih]
theorem inV_int (o : Int) (xs : List Int) : inV (.int o) (xs.map V.int) = decide (o ∈ xs) := by
  unfold inV
  induction xs with
  | nil => simp
  | cons x r ih =>
    simp only [List.map_cons, List.any_cons, ih]
    have : eqV (V.int x) (V.int o) = decide (o = x) := by
      unfold eqV
      by_cases h : o = x
      · subst h; simp
      · have : ¬ (x = o) := fun z => h z.symm
        simp [h, this]
    rw [this]
    by_cases h : o = x <;> simp [h]
theorem fIn_int {neg : Bool} {b l : Nat} {A : AH} {o : Int} {xs : List Int} (h : LA A l xs) : fIn neg b [.int o, .loc l] A = .ok (.bl (if neg then !decide (o ∈ xs) else decide (o ∈ xs))) A := by
  simp only [fIn, seqA, seqL, h, sc, mapO_scI, inV_int]
theorem fIn_pair {neg : Bool} {b : Nat} {A : AH} {o x y : Int} : fIn neg b [.int o, .tup [.int x, .int y]] A = .ok (.bl (if neg then !decide (o ∈ [x, y]) else decide (o ∈ [x, y]))) A := by
  have := inV_int o [x, y]
  simp only [List.map_cons, List.map_nil] at this
  simp only [fIn, seqA, sc, mapO, this]
abbrev rD (r : Nat × Nat) : PyData := .tuple [.int (r.1 : Int), .int (r.2 : Int)]
theorem mapO_rv {A : AH} {f : Nat} : ∀ rs : List (Nat × Nat), mapO (toD A (f + 2)) (rs.map rv) = some (rs.map rD)
  | [] => rfl
  | r :: rs => by simp only [List.map_cons, mapO, toD_tup2, mapO_rv rs]
theorem toD_roads {A : AH} {f l : Nat} {rs : List (Nat × Nat)} (h : A[l]? = some (.lst, rs.map rv)) : toD A (f + 3) (.loc l) = some (.list (rs.map rD)) := by
  unfold toD
  simp only [seqL, h, mapO_rv]
theorem shaped_roads (rs : List (Nat × Nat)) : SeqAt.shaped (.list (rs.map rD)) = true := by
  have h1 : ∀ rs : List (Nat × Nat), PyData.canLayAll0 (rs.map rD) = true := by
    intro rs
    induction rs with
    | nil => simp [PyData.canLayAll0]
    | cons r rs ih => simp [PyData.canLayAll0, PyData.canLay0, ih]
  have h2 : ∀ rs : List (Nat × Nat), PyData.depthAll (rs.map rD) ≤ 1 := by
    intro rs
    induction rs with
    | nil => simp [PyData.depthAll]
    | cons r rs ih =>
      simp only [List.map_cons, PyData.depthAll, PyData.depth]
      omega
  have h3 := h2 rs
  unfold SeqAt.shaped
  rw [Bool.and_eq_true]
  exact ⟨by simp only [PyData.canLay0]; exact h1 rs, decide_eq_true (by simp only [PyData.depth]; omega)⟩
def inR (rs : List (Nat × Nat)) (a b : Int) : Bool := rs.any fun r => decide ((r.1 : Int) = a ∧ (r.2 : Int) = b)
def jn (rs : List (Nat × Nat)) (a b : Int) : Bool := inR rs a b || inR rs b a
theorem fIn_road {b l : Nat} {A : AH} {x y : Int} {rs : List (Nat × Nat)} (h : A[l]? = some (.lst, rs.map rv)) : fIn false b [.tup [.int x, .int y], .loc l] A = .ok (.bl (inR rs x y)) A := by
  have e1 : toD A 8 (.tup [.int x, .int y]) = some (.tuple [.int x, .int y]) := toD_tup2 (f := 6)
  have e2 : toD A 8 (.loc l) = some (.list (rs.map rD)) := toD_roads (f := 5) h
  simp only [fIn, seqA, seqL, h, sc, e1, e2, shaped_2, shaped_roads, and_self, if_true]
  rw [if_neg (by decide)]
  unfold inR
  rw [List.any_map]
  congr 3
  funext r
  simp only [Function.comp, PyData.eqv, PyData.eqvAll, Bool.and_true]
  by_cases h1 : (r.1 : Int) = x <;> by_cases h2 : (r.2 : Int) = y <;> simp [h1, h2]
/-! steps that leave the heap -/
section
variable {ρ : Ev} {A : AH} {a c : CT} {ca cb : CE} {k k2 : Bool} {x y : Vl} {F : FB} {s1 s2 : CS}
theorem or_ok (h1 : a ρ A = .ok k A) (h2 : k = false → c ρ A = .ok k2 A) : cOr a c ρ A = .ok (k || k2) A := by
  cases k with
  | true => simp [h1]
  | false => simp [h1, h2 rfl]
theorem and_ok (h1 : a ρ A = .ok k A) (h2 : k = true → c ρ A = .ok k2 A) : cAnd a c ρ A = .ok (k && k2) A := by
  cases k with
  | true => simp [h1, h2 rfl]
  | false => simp [h1]
theorem not_ok (h1 : a ρ A = .ok k A) : cNot a ρ A = .ok (!k) A := by simp [h1]
theorem tst_ok (h1 : ca ρ A = .ok (.bl k) A) : cTst ca ρ A = .ok k A := by simp [h1]
theorem orV_ok (h1 : ca ρ A = .ok (.bl k) A) (h2 : k = false → cb ρ A = .ok (.bl k2) A) : cOrV ca cb ρ A = .ok (.bl (k || k2)) A := by
  cases k with
  | true => simp [h1]
  | false => simp [h1, h2 rfl]
theorem andV_ok (h1 : ca ρ A = .ok (.bl k) A) (h2 : k = true → cb ρ A = .ok (.bl k2) A) : cAndV ca cb ρ A = .ok (.bl (k && k2)) A := by
  cases k with
  | true => simp [h1, h2 rfl]
  | false => simp [h1]
theorem notV_ok (h1 : ca ρ A = .ok (.bl k) A) : cNotV ca ρ A = .ok (.bl (!k)) A := by simp [h1]
theorem f2_ok (h1 : ca ρ A = .ok x A) (h2 : cb ρ A = .ok y A) : cF2 F ca cb ρ A = F ρ.b [x, y] A := by simp [h1, h2]
theorem f_one (h1 : ca ρ A = .ok x A) : cF F (cCons ca cNil) ρ A = F ρ.b [x] A := by simp [h1]
theorem if_t (h1 : a ρ A = .ok true A) : cIf a s1 s2 ρ A = s1 ρ A := by simp [h1]
theorem if_f (h1 : a ρ A = .ok false A) : cIf a s1 s2 ρ A = s2 ρ A := by simp [h1]
theorem ret_ok (h1 : ca ρ A = .ok x A) : cRet ca ρ A = .rt x A := by simp [h1]
theorem ch_ok2 {g g' : Int → Int → Bool} {cc : CE} {i j l : Int} (h1 : ca ρ A = .ok (.int i) A) (h2 : cb ρ A = .ok (.int j) A) (h3 : cc ρ A = .ok (.int l) A) : cCh g g' ca cb cc ρ A = .ok (.bl (g i j && g' j l)) A := by
  unfold cCh
  rw [h1]
  simp only [bind_ok, h2, h3]
  cases g i j <;> simp
end
theorem forL_all {α : Type} {i b : Nat} {body : CS} {w : Wch} {A : AH} {phi : α → Vl} {p : α → Bool} (hs : seen w A = true) : ∀ (xs : List α) (s : List (Option Vl)), (∀ x ∈ xs, ∀ y, body ⟨b, (s.set i y).set i (some (phi x))⟩ A = if p x = true then .nx ((s.set i y).set i (some (phi x))) A else .rt (.bl false) A) →
    (xs.all p = true → ∃ y, forL (.nm i) body w b (xs.map phi) s A = .nx (s.set i y) A ∨ (xs = [] ∧ forL (.nm i) body w b (xs.map phi) s A = .nx s A)) ∧ (xs.all p = false → forL (.nm i) body w b (xs.map phi) s A = .rt (.bl false) A)
  | [], s, _ => ⟨fun _ => ⟨none, .inr ⟨rfl, by simp [forL]⟩⟩, fun h => by simp at h⟩
  | x :: xs, s, h => by
    have hx := h x (by simp) (some (phi x))
    rw [List.set_set] at hx
    have ih := forL_all hs xs (s.set i (some (phi x))) (fun z hz y => by
      have := h z (by simp [hz]) y
      rw [List.set_set] at this ⊢
      rw [List.set_set]
      exact this)
    simp only [List.map_cons, forL, put_n, hx, List.all_cons]
    cases hp : p x with
    | false => simp
    | true =>
      simp only [if_true, hs, Bool.true_and]
      refine ⟨fun q => ?_, ih.2⟩
      obtain ⟨y, h1 | ⟨_, h1⟩⟩ := ih.1 q
      · exact ⟨y, .inl (by rw [h1, List.set_set])⟩
      · exact ⟨some (phi x), .inl h1⟩
/-! counted once -/
theorem dd_fold : ∀ (ns acc : List Int), acc.Nodup → ((ns.foldl step_dedup acc).length ≤ acc.length + ns.length) ∧ ((ns.foldl step_dedup acc).length = acc.length + ns.length ↔ (acc ++ ns).Nodup)
  | [], acc, h => by simp [h]
  | n :: ns, acc, h => by
    rw [List.foldl_cons]
    by_cases hm : n ∈ acc
    · have : acc.any (· == n) = true := List.any_eq_true.mpr ⟨n, hm, by simp⟩
      rw [show step_dedup acc n = acc from if_pos this]
      obtain ⟨h1, h2⟩ := dd_fold ns acc h
      refine ⟨by rw [List.length_cons]; omega, ⟨fun z => by rw [List.length_cons] at z; omega, fun z => ?_⟩⟩
      rw [List.nodup_append] at z
      exact absurd rfl (z.2.2 n hm n (by simp))
    · have : ¬ acc.any (· == n) = true := fun z => by
        obtain ⟨y, hy, e⟩ := List.any_eq_true.mp z
        exact hm (by rw [← beq_iff_eq.mp e]; exact hy)
      rw [show step_dedup acc n = acc ++ [n] from if_neg this]
      have hn : (acc ++ [n]).Nodup := by
        rw [List.nodup_append]
        exact ⟨h, by simp, fun a ha b hb e => hm (by simp at hb; subst hb; subst e; exact ha)⟩
      obtain ⟨h1, h2⟩ := dd_fold ns (acc ++ [n]) hn
      rw [List.length_append, List.length_singleton, List.append_assoc, List.singleton_append] at h2
      rw [List.length_append, List.length_singleton] at h1
      rw [List.length_cons]
      exact ⟨by omega, Iff.trans ⟨fun z => by omega, fun z => by omega⟩ h2⟩
theorem dd_lt (ns : List Int) : ((dd ns).length < ns.length) ↔ ¬ ns.Nodup := by
  have := dd_fold ns [] (by simp)
  simp only [List.length_nil, Nat.zero_add, List.nil_append] at this
  unfold dd
  rw [← this.2]
  omega
end Ab
namespace G
open PySem PySem.Spec PyProof.Rows L2 Ab
variable {R : Nat → Fn}
def IsBelow (f : Fn) : Prop := ∀ A (i n : Int), f [.int i, .int n] A = .ok (.bl (decide (0 ≤ i) && decide (i < n))) A
theorem is_below_ok (h0 : IsWhole (R 0)) : IsBelow (mkFn 2 (c_is_below R)) := fun A i n => by
  by_cases h : 0 ≤ i <;> simp [mkFn, c_is_below, h0 A i 0, h]
def AreJoined (f : Fn) : Prop := ∀ A (l : Nat) (a c : Int) (rs : List (Nat × Nat)), A[l]? = some (.lst, rs.map rv) → f [.loc l, .int a, .int c] A = .ok (.bl (jn rs a c)) A
theorem are_joined_ok : AreJoined (mkFn 3 (c_are_joined R)) := fun A l a c rs h => by
  unfold jn
  by_cases h1 : inR rs a c = true
  · simp [mkFn, c_are_joined, fIn_road h, h1]
  · have : inR rs a c = false := by simpa using h1
    simp [mkFn, c_are_joined, fIn_road h, this]
/-- what a Street shows -/
def shS (way : List Int) (n : Nat) (rs : List (Nat × Nat)) : Bool :=
  !(decide (way = []) || !(way.all fun h => decide (0 ≤ h) && decide (h < (n : Int))) || decide ((dd way).length < way.length)) &&
  ((way.zip (way.drop 1)).all fun p => jn rs p.1 p.2) && ((List.range n).all fun h => decide ((h : Int) ∈ way) || way.any fun o => jn rs h o)
def ShowsS (f : Fn) : Prop := ∀ A (s w n l : Nat) (way : List Int) (rs : List (Nat × Nat)), A[s]? = some (.obj 5, [.loc w]) → LA A w way → way.length ≤ 1000 → A[l]? = some (.lst, rs.map rv) → n ≤ 1000 → f [.loc s, .int (n : Int), .loc l] A = .ok (.bl (shS way n rs)) A
abbrev ip (p : Int × Int) : Vl := .tup [.int p.1, .int p.2]
theorem zip_code {w b : Nat} {A : AH} {way : List Int} (h : LA A w way) {s : List (Option Vl)} {k : Nat} (hk : s[k]? = some (some (.loc w))) : cZip (cVar k) (cSl (cVar k) (some (cC (.int 1))) none) ⟨b, s⟩ A = .ok ((way.zip (way.drop 1)).map ip, [(w, way.map Vl.int)]) A := by
  have e1 : cVar k ⟨b, s⟩ A = .ok (.loc w) A := by simp only [cVar_, hk]
  have e2 : cSl (cVar k) (some (cC (.int 1))) none ⟨b, s⟩ A = .ok (.new .lst ((way.drop 1).map Vl.int)) A := by
    simp only [cSl, e1, bind_ok, cPart, cC_, fCut, seqL, h]
    congr 2
    unfold cut
    rw [HT.sIx_none]
    have : HT.sIx (way.map Vl.int).length 0 (some (1 : Int)) = min 1 (way.map Vl.int).length := HT.sIx_nat _ _ 1
    rw [this, List.map_drop]
    cases way with
    | nil => simp
    | cons x r =>
      simp
      rw [List.take_of_length_le (by simp)]
  have ez : List.zipWith (fun x y => Vl.tup [x, y]) (way.map Vl.int) ((way.drop 1).map Vl.int) = (way.zip (way.drop 1)).map ip := by
    rw [List.zip, List.map_zipWith, List.zipWith_map]
  unfold cZip
  rw [e1]
  simp only [bind_ok, e2, walkL, h, boxs_plains _ A (plains_ints (way.drop 1)), ez]
  rfl
theorem obj_code {A : AH} {s c i : Nat} {xs : List Vl} {v : Vl} {ix : Nat → Option Nat} (h : A[s]? = some (.obj c, xs)) (hi : ix c = some i) (hv : xs[i]? = some v) {ρ : Ev} {co : CE} (hc : co ρ A = .ok (.loc s) A) : cFld ix co ρ A = .ok v A := by
  simp [cFld, hc, objL, h, hi, hv]
theorem lenset_code {A : AH} {l : Nat} {xs : List Int} {ρ : Ev} {co : CE} (hc : co ρ A = .ok (.loc l) A) (h : LA A l xs) (hl : xs.length ≤ 4000) : cLenSet co ρ A = .ok (.int (dd xs).length) A := by
  simp [cLenSet, hc, seqL, h, hl]
theorem street_shows_ok (h10 : IsBelow (R 10)) (h11 : AreJoined (R 11)) : ShowsS (mkFn 7 (c_Street_shows R)) := fun A s w n l way rs hs hw hwl hl hn => by
  simp only [mkFn, c_Street_shows, List.map_cons, List.map_nil, List.length_cons, List.length_nil, Nat.zero_add, Nat.reduceAdd, Nat.reduceSub, List.replicate, List.cons_append, List.nil_append]
  rw [seq_nx (s := [some (.loc s), some (.int (n : Int)), some (.loc l), some (.loc w), none, none, none]) (A1 := A) (by
    rw [put_nm (obj_code (i := 0) hs rfl rfl (by simp))]
    simp)]
  have e0 : cLc (cIt (cVar 3)) (.nm 4) cYes (c_Street_shows_e0 R) [4] ⟨A.length, [some (.loc s), some (.int (n : Int)), some (.loc l), some (.loc w), none, none, none]⟩ A = .ok (.new .lst (way.map fun h : Int => .bl (decide (0 ≤ h) && decide (h < (n : Int))))) A := by
    refine cLc_map (phi := Vl.int) (w := [(w, way.map Vl.int)]) (cIt_loc (by simp) hw) (by omega) (seen_one hw) fun x hx => ⟨_, put_n, ?_⟩
    simp only [wipeS, List.set_cons_succ, List.set_cons_zero]
    simp [c_Street_shows_e0, h10 A x n]
  have eq0 : fEqD false A.length [.loc w, .new .lst []] A = .ok (.bl (decide (way = []))) A := fEq_ints (neg := false) (ns := way) (ms := []) (toD_loc hw) (by rw [List.map_nil]; exact toD_2)
  have els := lenset_code (ρ := ⟨A.length, [some (.loc s), some (.int (n : Int)), some (.loc l), some (.loc w), none, none, none]⟩) (co := cVar 3) (by simp) hw (by omega)
  have hlt : decide (((dd way).length : Int) < (way.map Vl.int).length) = decide ((dd way).length < way.length) := by
    rw [List.length_map]
    by_cases h : (dd way).length < way.length
    · rw [decide_eq_true h, decide_eq_true (by omega)]
    · rw [decide_eq_false h, decide_eq_false (by omega)]
  have ht : cOr (cTst (cF2 (fEqD false) (cVar 3) (cLst cNil))) (cOr (cNot (cTst (cF fAll (cCons (cLc (cIt (cVar 3)) (.nm 4) cYes (c_Street_shows_e0 R) [4]) cNil)))) (cTst (cF2 fLt (cLenSet (cVar 3)) (cF fLen (cCons (cVar 3) cNil))))) ⟨A.length, [some (.loc s), some (.int (n : Int)), some (.loc l), some (.loc w), none, none, none]⟩ A = .ok (decide (way = []) || (!(way.all fun h => decide (0 ≤ h) && decide (h < (n : Int))) || decide ((dd way).length < way.length))) A :=
    or_ok (tst_ok ((f2_ok (by simp) (by simp)).trans eq0)) fun _ => or_ok (not_ok (tst_ok ((f_one e0).trans fAll_new))) fun _ => tst_ok ((f2_ok els ((f_one (by simp)).trans (fLen_loc hw))).trans (by rw [fLt_, hlt]))
  unfold shS
  rw [Bool.or_assoc]
  cases hbad : (decide (way = []) || (!(way.all fun h => decide (0 ≤ h) && decide (h < (n : Int))) || decide ((dd way).length < way.length))) with
  | true =>
    rw [hbad] at ht
    rw [seq_rt (v := .bl false) (A1 := A) (by rw [if_t ht]; rfl)]
    simp
  | false =>
    rw [hbad] at ht
    rw [seq_nx (s := [some (.loc s), some (.int (n : Int)), some (.loc l), some (.loc w), none, none, none]) (A1 := A) (by rw [if_f ht]; rfl)]
    have e1 : cLc (cZip (cVar 3) (cSl (cVar 3) (some (cC (.int 1))) none)) (.tp [.nm 5, .nm 6]) cYes (c_Street_shows_e1 R) [5, 6] ⟨A.length, [some (.loc s), some (.int (n : Int)), some (.loc l), some (.loc w), none, none, none]⟩ A = .ok (.new .lst ((way.zip (way.drop 1)).map fun p => .bl (jn rs p.1 p.2))) A := by
      refine cLc_map (phi := ip) (w := [(w, way.map Vl.int)]) (zip_code hw rfl) (by rw [List.length_zip]; omega) (seen_one hw) fun p hp => ⟨[some (.loc s), some (.int (n : Int)), some (.loc l), some (.loc w), none, some (.int p.1), some (.int p.2)], by simp [wipeS], ?_⟩
      simp [c_Street_shows_e1, h11 A l p.1 p.2 rs hl]
    cases hz : ((way.zip (way.drop 1)).all fun p => jn rs p.1 p.2) with
    | false =>
      rw [seq_rt (v := .bl false) (A1 := A) (by
        simp only [cIf_, cNot_, cTst_, cF_, cCons_, cNil_]
        rw [e1]
        simp only [bind_ok, fAll_new, asB_, hz, Bool.not_false, cRet_, cC_])]
      simp
    | true =>
      rw [seq_nx (s := [some (.loc s), some (.int (n : Int)), some (.loc l), some (.loc w), none, none, none]) (A1 := A) (by
        simp only [cIf_, cNot_, cTst_, cF_, cCons_, cNil_]
        rw [e1]
        simp only [bind_ok, fAll_new, asB_, hz, Bool.not_true, cNx_])]
      have hbody : ∀ h ∈ List.range n, ∀ y, c_Street_shows_b3 R ⟨A.length, ([some (.loc s), some (.int (n : Int)), some (.loc l), some (.loc w), none, none, none].set 4 y).set 4 (some (iN h))⟩ A = if (decide ((h : Int) ∈ way) || way.any fun o => jn rs h o) = true then .nx (([some (.loc s), some (.int (n : Int)), some (.loc l), some (.loc w), none, none, none].set 4 y).set 4 (some (iN h))) A else .rt (.bl false) A := by
        intro h _ y
        simp only [List.set_cons_succ, List.set_cons_zero]
        have e2 : cLc (cIt (cVar 3)) (.nm 6) cYes (c_Street_shows_e2 R) [6] ⟨A.length, [some (.loc s), some (.int (n : Int)), some (.loc l), some (.loc w), some (iN h), none, none]⟩ A = .ok (.new .lst (way.map fun o => .bl (jn rs h o))) A := by
          refine cLc_map (phi := Vl.int) (w := [(w, way.map Vl.int)]) (cIt_loc (by simp) hw) (by omega) (seen_one hw) fun x hx => ⟨_, put_n, ?_⟩
          simp only [wipeS, List.set_cons_succ, List.set_cons_zero]
          simp [c_Street_shows_e2, h11 A l h x rs hl]
        unfold c_Street_shows_b3
        simp only [cIf_, cAnd_, cNot_, cTst_, cF2_, cF_, cCons_, cNil_, cVar_, List.getElem?_cons_succ, List.getElem?_cons_zero, bind_ok, fIn_int hw, asB_]
        rw [e2]
        simp only [bind_ok, fAny_new, asB_]
        cases h1 : decide ((h : Int) ∈ way) <;> cases h2 : (way.any fun o => jn rs h o) <;> simp
      have lp := forL_all (i := 4) (b := A.length) (body := c_Street_shows_b3 R) (w := []) (A := A) (phi := iN) (p := fun h : Nat => decide ((h : Int) ∈ way) || way.any fun o => jn rs h o) rfl (List.range n) [some (.loc s), some (.int (n : Int)), some (.loc l), some (.loc w), none, none, none] hbody
      have ef := for_of (t := .nm 4) (body := c_Street_shows_b3 R) (cRg1_n (c := cVar 1) (ρ := ⟨A.length, [some (.loc s), some (.int (n : Int)), some (.loc l), some (.loc w), none, none, none]⟩) (A := A) (A1 := A) (n := n) (by simp) (by omega))
      cases hh : ((List.range n).all fun h : Nat => decide ((h : Int) ∈ way) || way.any fun o => jn rs h o) with
      | false =>
        rw [seq_rt (ef.trans (lp.2 hh))]
        simp
      | true =>
        obtain ⟨y, h1 | ⟨_, h1⟩⟩ := lp.1 hh
        · rw [seq_nx (ef.trans h1)]
          simp
        · rw [seq_nx (ef.trans h1)]
          simp
end G

set_option Elab.async false
set_option linter.all false
set_option maxRecDepth 100000
set_option maxHeartbeats 1000000
set_option autoImplicit false
namespace Ab
open PySem PySem.Spec PyProof.Rows L2
theorem cIt_nw {c : CE} {ρ : Ev} {A A1 : AH} {xs : List Vl} (h : c ρ A = .ok (.new .lst xs) A1) (hp : plains xs = true) : cIt c ρ A = .ok (xs, []) A1 := by
  unfold cIt
  rw [h]
  simp only [bind_ok, walkA, walkL, boxs_plains xs A1 hp]
theorem unb_obj {n f m m2 : Nat} {A : AH} {k k2 : Kd} {xs : List Vl} (hm : n ≤ m) (hm2 : n ≤ m2) (hne : m2 ≠ m) (e : A[m]? = some (k, [.loc m2])) (e2 : A[m2]? = some (k2, xs)) (h : plains xs = true) : unb n A (f + 2) (.loc m) [] = some (.new k [.new k2 xs], [m2, m]) := by
  have i : unb n A (f + 1) (.loc m2) [m] = some (.new k2 xs, [m2, m]) := by
    rw [unb]
    have : ([m] : List Nat).contains m2 = false := by simp [hne]
    simp [Nat.not_lt.mpr hm2, e2, mapV_plains h, hne]
  rw [unb]
  simp [Nat.not_lt.mpr hm, e, mapV, i]
theorem gc_obj {A B : AH} {m m2 : Nat} {k k2 : Kd} {xs : List Vl} (hm : A.length ≤ m) (hm2 : A.length ≤ m2) (hne : m2 ≠ m) (e : (A ++ B)[m]? = some (k, [.loc m2])) (e2 : (A ++ B)[m2]? = some (k2, xs)) (h : plains xs = true) : gc A.length (.loc m) (A ++ B) = .ok (.new k [.new k2 xs]) A := by
  unfold gc
  split
  · rename_i hl
    have := (List.getElem?_eq_some_iff.mp e).1
    omega
  · rw [unb_obj hm hm2 hne e e2 h]; simp
end Ab
namespace G
open PySem PySem.Spec PyProof.Rows L2 Ab
variable {R : Nat → Fn}
def MkStreet (f : Fn) : Prop := ∀ A xs, plains xs = true → mkObj 5 f [.new .lst xs] A = .ok (.new (.obj 5) [.new .lst xs]) A ∧ ∀ l, A[l]? = some (.lst, xs) → mkObj 5 f [.loc l] A = .ok (.new (.obj 5) [.new .lst xs]) A
theorem mk_street_ok : MkStreet (mkIn 2 (c_Street___init__ R)) := fun A xs hp => by
  constructor
  · unfold mkObj
    have hb : boxs [.new .lst xs] A = ([.loc A.length], A ++ [(.lst, xs)]) := by simp [box_new hp]
    rw [hb]
    have e : mkIn 2 (c_Street___init__ R) [.int (A.length : Int), .loc (A ++ [(Kd.lst, xs)]).length, .loc A.length] (A ++ [(.lst, xs)] ++ [(.obj 5, [])]) = .ok .non (A ++ [(.lst, xs), (.obj 5, [.loc (A.length + 2)]), (.lst, xs)]) := by
      have hfl : fList A.length [.loc A.length] (A ++ [(.lst, xs), (.obj 5, [])]) = .ok (.new .lst xs) (A ++ [(.lst, xs), (.obj 5, [])]) := by simp [fList, seqA, seqL]
      have hpf : fPutF ix_way A.length [.new .lst xs, .loc (A.length + 1)] (A ++ [(.lst, xs), (.obj 5, [])]) = .ok .non (A ++ [(.lst, xs), (.obj 5, [.loc (A.length + 2)]), (.lst, xs)]) := by
        simp only [fPutF, box_new hp]
        rw [show (A ++ [(Kd.lst, xs), (Kd.obj 5, [])] ++ [(Kd.lst, xs)]) = A ++ [(Kd.lst, xs), (Kd.obj 5, []), (Kd.lst, xs)] by simp]
        simp [ix_way, mayPut]
      simp [mkIn, c_Street___init__, cSetF, hfl, hpf, fin0]
    simp only [e]
    rw [show (A ++ [(Kd.lst, xs)]).length = A.length + 1 by simp]
    exact gc_obj (m := A.length + 1) (m2 := A.length + 2) (by omega) (by omega) (by omega) (by rw [at_app]; rfl) (by rw [at_app]; rfl) hp
  · intro l hl
    have lt : l < A.length := (List.getElem?_eq_some_iff.mp hl).1
    unfold mkObj
    have hb : boxs [.loc l] A = ([.loc l], A) := by simp
    rw [hb]
    have e : mkIn 2 (c_Street___init__ R) [.int (A.length : Int), .loc A.length, .loc l] (A ++ [(.obj 5, [])]) = .ok .non (A ++ [(.obj 5, [.loc (A.length + 1)]), (.lst, xs)]) := by
      have hfl : fList A.length [.loc l] (A ++ [(.obj 5, [])]) = .ok (.new .lst xs) (A ++ [(.obj 5, [])]) := by
        simp [fList, seqA, seqL, List.getElem?_append_left lt, hl]
      have hpf : fPutF ix_way A.length [.new .lst xs, .loc A.length] (A ++ [(.obj 5, [])]) = .ok .non (A ++ [(.obj 5, [.loc (A.length + 1)]), (.lst, xs)]) := by
        simp only [fPutF, box_new hp]
        rw [show (A ++ [(Kd.obj 5, [])] ++ [(Kd.lst, xs)]) = A ++ [(Kd.obj 5, []), (Kd.lst, xs)] by simp]
        simp [ix_way, mayPut]
      simp [mkIn, c_Street___init__, cSetF, hfl, hpf, fin0]
    simp only [e]
    exact gc_obj (m := A.length) (m2 := A.length + 1) (by omega) (by omega) (by omega) (by rw [at_app0]; rfl) (by rw [at_app]; rfl) hp
def MkSpread (f : Fn) : Prop := ∀ A (a c d e : Int), mkObj 6 f [.int a, .int c, .int d, .int e] A = .ok (.new (.obj 6) [.int a, .int c, .int d, .int e]) A
theorem mk_spread_ok : MkSpread (mkIn 5 (c_Spread___init__ R)) := fun A a c d e => by
  unfold mkObj
  have st : ∀ (ix : Nat → Option Nat) (xs : List Vl) (v : Int), ix 6 = some xs.length → fPutF ix A.length [.int v, .loc A.length] (A ++ [(.obj 6, xs)]) = .ok .non (A ++ [(.obj 6, xs ++ [.int v])]) := by
    intro ix xs v h
    simp [fPutF, h, mayPut]
  have s1 := st ix_house [] a rfl
  have s2 := st ix_first [.int a] c rfl
  have s3 := st ix_second [.int a, .int c] d rfl
  have s4 := st ix_third [.int a, .int c, .int d] e rfl
  simp only [List.nil_append, List.cons_append] at s1 s2 s3 s4
  have ee : mkIn 5 (c_Spread___init__ R) [.int (A.length : Int), .loc A.length, .int a, .int c, .int d, .int e] (A ++ [(.obj 6, [])]) = .ok .non (A ++ [(.obj 6, [.int a, .int c, .int d, .int e])]) := by
    simp [mkIn, c_Spread___init__, cSetF, cSeq, s1, s2, s3, s4, fin0]
  simp only [boxs_cons, boxs_nil, box_int, ee]
  exact gc_loc (Nat.le_refl _) (by simp) (by simp)
/-- what a Spread shows -/
def shP (h a c d : Int) (n : Nat) (rs : List (Nat × Nat)) : Bool :=
  !(!([a, c, d, h].all fun x => decide (0 ≤ x) && decide (x < (n : Int))) || decide ((dd [a, c, d]).length < 3)) &&
  ([a, c, d].all fun x => jn rs h x) && ([a, c, d].all fun x => decide (1 < (rs.filter fun r => decide (x = (r.1 : Int)) || decide (x = (r.2 : Int))).length))
def ShowsP (f : Fn) : Prop := ∀ A (s n l : Nat) (h a c d : Int) (rs : List (Nat × Nat)), A[s]? = some (.obj 6, [.int h, .int a, .int c, .int d]) → A[l]? = some (.lst, rs.map rv) → rs.length ≤ 1000 → f [.loc s, .int (n : Int), .loc l] A = .ok (.bl (shP h a c d n rs)) A
theorem spread_shows_ok (h10 : IsBelow (R 10)) (h11 : AreJoined (R 11)) : ShowsP (mkFn 6 (c_Spread_shows R)) := fun A s n l h a c d rs hs hl hrl => by
  let A1 : AH := A ++ [(.lst, [.int a, .int c, .int d])]
  have lts : s < A.length := (List.getElem?_eq_some_iff.mp hs).1
  have ltl : l < A.length := (List.getElem?_eq_some_iff.mp hl).1
  have hs1 : A1[s]? = some (.obj 6, [.int h, .int a, .int c, .int d]) := by simp only [A1]; rw [List.getElem?_append_left lts]; exact hs
  have hl1 : A1[l]? = some (.lst, rs.map rv) := by simp only [A1]; rw [List.getElem?_append_left ltl]; exact hl
  have hw : LA A1 A.length [a, c, d] := by simp [LA, A1]
  let s0 : List (Option Vl) := [some (.loc s), some (.int (n : Int)), some (.loc l), some (.loc A.length), none, none]
  simp only [mkFn, c_Spread_shows, List.map_cons, List.map_nil, List.length_cons, List.length_nil, Nat.zero_add, Nat.reduceAdd, Nat.reduceSub, List.replicate, List.cons_append, List.nil_append]
  rw [seq_nx (s := s0) (A1 := A1) (by
    have e1 := obj_code (ix := ix_first) (i := 1) (v := .int a) hs rfl rfl (ρ := ⟨A.length, [some (.loc s), some (.int (n : Int)), some (.loc l), none, none, none]⟩) (co := cVar 0) (by simp)
    have e2 := obj_code (ix := ix_second) (i := 2) (v := .int c) hs rfl rfl (ρ := ⟨A.length, [some (.loc s), some (.int (n : Int)), some (.loc l), none, none, none]⟩) (co := cVar 0) (by simp)
    have e3 := obj_code (ix := ix_third) (i := 3) (v := .int d) hs rfl rfl (ρ := ⟨A.length, [some (.loc s), some (.int (n : Int)), some (.loc l), none, none, none]⟩) (co := cVar 0) (by simp)
    rw [put_nm (d := .new .lst [.int a, .int c, .int d]) (A1 := A) (by
      simp only [cLst_, cCons_, cNil_, e1, bind_ok, e2, e3]
      simp), box_new (by simp)]
    simp [s0, A1])]
  have eh := obj_code (ix := ix_house) (i := 0) (v := .int h) hs1 rfl rfl (ρ := ⟨A.length, s0⟩) (co := cVar 0) (by simp [s0])
  have e0 : cLc (cIt (cF2 fAdd (cVar 3) (cLst (cCons (cFld ix_house (cVar 0)) cNil)))) (.nm 4) cYes (c_Spread_shows_e0 R) [4] ⟨A.length, s0⟩ A1 = .ok (.new .lst ([a, c, d, h].map fun x : Int => .bl (decide (0 ≤ x) && decide (x < (n : Int))))) A1 := by
    have hadd : cF2 fAdd (cVar 3) (cLst (cCons (cFld ix_house (cVar 0)) cNil)) ⟨A.length, s0⟩ A1 = .ok (.new .lst ([a, c, d, h].map Vl.int)) A1 := by
      have : fAdd A.length [.loc A.length, .new .lst [.int h]] A1 = .ok (.new .lst ([a, c, d, h].map Vl.int)) A1 := by
        simp only [fAdd, mutL, hw]
        simp
      exact (f2_ok (x := .loc A.length) (y := .new .lst [.int h]) (by simp [s0]) (by simp only [cLst_, cCons_, cNil_, eh, bind_ok]; simp)).trans this
    refine cLc_map (phi := Vl.int) (w := []) (xs := [a, c, d, h]) (cIt_nw hadd (by simp)) (by simp) rfl fun x hx => ⟨_, put_n, ?_⟩
    simp only [s0, wipeS, List.set_cons_succ, List.set_cons_zero]
    simp [c_Spread_shows_e0, h10 A1 x n]
  have els := lenset_code (ρ := ⟨A.length, s0⟩) (co := cVar 3) (by simp [s0]) hw (by simp)
  have hlt : decide (((dd [a, c, d]).length : Int) < 3) = decide ((dd [a, c, d]).length < 3) := by
    by_cases h : (dd [a, c, d]).length < 3
    · rw [decide_eq_true h, decide_eq_true (by omega)]
    · rw [decide_eq_false h, decide_eq_false (by omega)]
  have ht : cOr (cNot (cTst (cF fAll (cCons (cLc (cIt (cF2 fAdd (cVar 3) (cLst (cCons (cFld ix_house (cVar 0)) cNil)))) (.nm 4) cYes (c_Spread_shows_e0 R) [4]) cNil)))) (cTst (cF2 fLt (cLenSet (cVar 3)) (cC (.int 3)))) ⟨A.length, s0⟩ A1 = .ok (!([a, c, d, h].all fun x => decide (0 ≤ x) && decide (x < (n : Int))) || decide ((dd [a, c, d]).length < 3)) A1 :=
    or_ok (not_ok (tst_ok ((f_one e0).trans fAll_new))) fun _ => tst_ok ((f2_ok els rfl).trans (by rw [fLt_, hlt]))
  have gcb : ∀ k : Bool, gc A.length (.bl k) A1 = .ok (.bl k) A := fun k => gc_app rfl
  unfold shP
  cases hbad : (!([a, c, d, h].all fun x => decide (0 ≤ x) && decide (x < (n : Int))) || decide ((dd [a, c, d]).length < 3)) with
  | true =>
    rw [hbad] at ht
    rw [seq_rt (v := .bl false) (A1 := A1) (by rw [if_t ht]; rfl)]
    simp [gcb]
  | false =>
    rw [hbad] at ht
    rw [seq_nx (s := s0) (A1 := A1) (by rw [if_f ht]; rfl)]
    have e1 : cLc (cIt (cVar 3)) (.nm 4) cYes (c_Spread_shows_e1 R) [4] ⟨A.length, s0⟩ A1 = .ok (.new .lst ([a, c, d].map fun x : Int => .bl (jn rs h x))) A1 := by
      refine cLc_map (phi := Vl.int) (w := [(A.length, [a, c, d].map Vl.int)]) (xs := [a, c, d]) (cIt_loc (by simp [s0]) hw) (by simp) (seen_one hw) fun x hx => ⟨_, put_n, ?_⟩
      simp only [s0, wipeS, List.set_cons_succ, List.set_cons_zero]
      have eh2 := obj_code (ix := ix_house) (i := 0) (v := .int h) hs1 rfl rfl (ρ := ⟨A.length, [some (.loc s), some (.int (n : Int)), some (.loc l), some (.loc A.length), some (.int x), none]⟩) (co := cVar 0) (by simp)
      simp [c_Spread_shows_e1, eh2, h11 A1 l h x rs hl1]
    cases hj : ([a, c, d].all fun x => jn rs h x) with
    | false =>
      rw [seq_rt (v := .bl false) (A1 := A1) (by rw [if_t (not_ok (k := false) (tst_ok ((f_one (F := fAll) e1).trans (by rw [fAll_new, hj]))))]; rfl)]
      simp [gcb]
    | true =>
      rw [seq_nx (s := s0) (A1 := A1) (by rw [if_f (not_ok (k := true) (tst_ok ((f_one (F := fAll) e1).trans (by rw [fAll_new, hj]))))]; rfl)]
      have e4 : cLc (cIt (cVar 3)) (.nm 4) cYes (c_Spread_shows_e4 R) [4] ⟨A.length, s0⟩ A1 = .ok (.new .lst ([a, c, d].map fun x : Int => .bl (decide (1 < (rs.filter fun r => decide (x = (r.1 : Int)) || decide (x = (r.2 : Int))).length)))) A1 := by
        refine cLc_map (phi := Vl.int) (w := [(A.length, [a, c, d].map Vl.int)]) (xs := [a, c, d]) (cIt_loc (by simp [s0]) hw) (by simp) (seen_one hw) fun x hx => ⟨_, put_n, ?_⟩
        simp only [s0, wipeS, List.set_cons_succ, List.set_cons_zero]
        have e5 : cLc (cIt (cVar 2)) (.nm 5) (c_Spread_shows_t3 R) (c_Spread_shows_e2 R) [5] ⟨A.length, [some (.loc s), some (.int (n : Int)), some (.loc l), some (.loc A.length), some (.int x), none]⟩ A1 = .ok (.new .lst ((rs.filter fun r => decide (x = (r.1 : Int)) || decide (x = (r.2 : Int))).map rv)) A1 := by
          refine cLc_fil (phi := rv) (w := [(l, rs.map rv)]) (cIt_loc (by simp) hl1) (by omega) (seen_one hl1) fun r hr => ⟨_, put_n, ?_, fun _ => ?_⟩
          · simp only [wipeS, List.set_cons_succ, List.set_cons_zero]
            unfold c_Spread_shows_t3
            refine tst_ok ((f2_ok (x := .int x) (y := rv r) (by simp) (by simp)).trans ?_)
            rw [fIn_pair]
            simp
          · simp [c_Spread_shows_e2, wipeS]
        unfold c_Spread_shows_e4
        refine (f2_ok ((f_one e5).trans fLen_new) rfl).trans ?_
        rw [fGt_, List.length_map]
        congr 2
        by_cases hq : 1 < (rs.filter fun r => decide (x = (r.1 : Int)) || decide (x = (r.2 : Int))).length
        · rw [decide_eq_true hq, decide_eq_true (by omega)]
        · rw [decide_eq_false hq, decide_eq_false (by omega)]
      rw [ret_ok ((f_one e4).trans fAll_new)]
      simp only [fin_rt, gcb]
      simp
def StreetIn (f : Fn) : Prop := ∀ A (n l : Nat) (rs : List (Nat × Nat)), A[l]? = some (.lst, rs.map rv) → M.TreeOk n rs →
  (M.NoSpread (M.grf n fun v => srt (M.nbrs rs v)) → ∃ W, M.Way n rs (M.grf n fun v => srt (M.nbrs rs v)) W ∧ f [.int (n : Int), .loc l] A = .ok (.new (.obj 5) [nl W]) A) ∧
  (¬ M.NoSpread (M.grf n fun v => srt (M.nbrs rs v)) → ∃ h a c d r, h < n ∧ M.inN (M.grf n fun v => srt (M.nbrs rs v)) h = a :: c :: d :: r ∧ f [.int (n : Int), .loc l] A = .ok (.new (.obj 6) [iN h, iN a, iN c, iN d]) A)
theorem street_in_ok (h19 : MkStreet (R 19)) (h21 : MkSpread (R 21)) (h23 : NearOf (R 23)) (h25 : CkTree (R 25)) (h26 : WayThrough (R 26)) (h27 : SpreadIn (R 27)) : StreetIn (mkFn 4 (c_street_in R)) := fun A n l rs hl t => by
  have n20 := t.n20
  have hlen := t.len
  let G := M.grf n fun v => srt (M.nbrs rs v)
  have g : M.Gr n rs G := M.gr_of t fun v => srt_perm _
  have gk := gOk_of t g
  have hGl : G.length = n := M.grf_len
  have near := h23 A n l rs hl (fun r hr => by have := t.ok r hr; omega) (by omega) (by omega)
  have ck := h25 A n l rs hl t
  let A1 := nLay A G
  have na := nLay_na A G
  rw [hGl] at na
  have hA1 : ∃ B, A1 = A ++ B := ⟨_, rfl⟩
  obtain ⟨B, hB⟩ := hA1
  have sp := h27 A1 (A.length + n) n G _ na gk
  simp only [mkFn, c_street_in, List.map_cons, List.map_nil, List.length_cons, List.length_nil, Nat.zero_add, Nat.reduceAdd, Nat.reduceSub, List.replicate, List.cons_append, List.nil_append]
  rw [seq_nx (s := [some (.int (n : Int)), some (.loc l), none, none]) (A1 := A) (by simp [ck])]
  rw [seq_nx (s := [some (.int (n : Int)), some (.loc l), some (.loc (A.length + n)), none]) (A1 := A1) (by
    rw [put_nm (d := .new .lst (G.map nl)) (A1 := A) (by simp [near]; rfl), box_nl, hGl]
    simp [A1])]
  refine ⟨fun hns => ?_, fun hns => ?_⟩
  · have e := sp.1 hns
    obtain ⟨W, hw1, hw2⟩ := M.way_ok t g hns
    have ew := h26 A1 (A.length + n) n G _ W na gk hw1
    refine ⟨W, hw2, ?_⟩
    rw [seq_nx (s := [some (.int (n : Int)), some (.loc l), some (.loc (A.length + n)), some (.tup [])]) (A1 := A1) (by
      rw [put_nm (d := .tup []) (A1 := A1) (by simp [e]), box_tup plains_nil]
      simp)]
    have q1 : fEqD true A.length [.tup [], .tup []] A1 = .ok (.bl false) A1 := by rfl
    rw [seq_nx (s := [some (.int (n : Int)), some (.loc l), some (.loc (A.length + n)), some (.tup [])]) (A1 := A1) (by
      rw [if_f (tst_ok ((f2_ok (x := .tup []) (y := .tup []) (by simp) (by simp)).trans q1))]
      rfl)]
    have mk := (h19 A1 (W.map iN) (plains_iN W)).1
    have em : cMake 5 (R 19) (cCons (cCall (R 26) (cCons (cVar 2) cNil)) cNil) ⟨A.length, [some (.int (n : Int)), some (.loc l), some (.loc (A.length + n)), some (.tup [])]⟩ A1 = .ok (.new (.obj 5) [nl W]) A1 := by
      unfold cMake
      simp only [cCons_, cNil_, cCall_, callF_, cVar_, List.getElem?_cons_succ, List.getElem?_cons_zero, bind_ok, boxs_cons, boxs_nil, box_loc, ew, back_ok, gc_len, mk]
    rw [ret_ok em]
    simp only [fin_rt]
    rw [hB]
    have e5 : ∀ vis, unb A.length (A ++ B) 4 (nl W) vis = some (nl W, vis) := fun vis => by
      rw [unb]
      simp [mapV_plains (plains_iN W)]
    unfold gc
    split
    · rename_i hh
      have hz : B = [] := List.length_eq_zero_iff.mp (by rw [List.length_append] at hh; omega)
      simp [hz]
    · rw [unb]
      simp [mapV, e5]
  · obtain ⟨h, a, c, d, r, hh, hi, e⟩ := sp.2 hns
    refine ⟨h, a, c, d, r, hh, hi, ?_⟩
    rw [seq_nx (s := [some (.int (n : Int)), some (.loc l), some (.loc (A.length + n)), some (.tup [iN h, iN a, iN c, iN d])]) (A1 := A1) (by
      rw [put_nm (d := .tup [iN h, iN a, iN c, iN d]) (A1 := A1) (by simp [e]), box_tup (by simp)]
      simp)]
    have q1 : fEqD true A.length [.tup [iN h, iN a, iN c, iN d], .tup []] A1 = .ok (.bl true) A1 := by
      rw [fEq_tuple (l := [.int h, .int a, .int c, .int d]) (e := .tuple []) (by simp [toD, mapO]) (by simp [toD, mapO]) (by simp [SeqAt.shaped, PyData.canLay0, PyData.canLayAll0, PyData.depth, PyData.depthAll]) (by rfl)]
      simp [PyData.eqv, PyData.eqvAll]
    rw [seq_rt (v := .new (.obj 6) [iN h, iN a, iN c, iN d]) (A1 := A1) (by
      rw [if_t (tst_ok ((f2_ok (x := .tup [iN h, iN a, iN c, iN d]) (y := .tup []) (by simp) (by simp)).trans q1))]
      have i0 : fIx A.length [.tup [iN h, iN a, iN c, iN d], .int 2] A1 = .ok (iN d) A1 → False ∨ True := fun _ => .inr trivial
      have j0 : fIx A.length [.tup [iN h, iN a, iN c, iN d], .int 0] A1 = .ok (iN h) A1 := fIx_n (n := 0) rfl
      have j1 : fIx A.length [.tup [iN h, iN a, iN c, iN d], .int 1] A1 = .ok (iN a) A1 := fIx_n (n := 1) rfl
      have j2 : fIx A.length [.tup [iN h, iN a, iN c, iN d], .int 2] A1 = .ok (iN c) A1 := fIx_n (n := 2) rfl
      have j3 : fIx A.length [.tup [iN h, iN a, iN c, iN d], .int 3] A1 = .ok (iN d) A1 := fIx_n (n := 3) rfl
      refine ret_ok ?_
      unfold cMake
      simp only [cCons_, cNil_, cF2_, cC_, cVar_, List.getElem?_cons_succ, List.getElem?_cons_zero, bind_ok, j0, j1, j2, j3, h21 A1]) ]
    simp only [fin_rt]
    rw [hB, gc_new (by simp)]
end G

set_option Elab.async false
set_option linter.all false
set_option maxRecDepth 100000
set_option maxHeartbeats 1000000
set_option autoImplicit false
namespace Ab
open PySem PySem.Spec PyProof.Rows L2
/-- one's own lists of numbers, by their places -/
theorem mapV_locs {n f : Nat} {A : AH} : ∀ (ls : List (Nat × List Nat)) (vis : List Nat), (∀ p ∈ ls, n ≤ p.1 ∧ A[p.1]? = some (.lst, p.2.map iN)) → (ls.map Prod.fst).Nodup → (∀ p ∈ ls, p.1 ∉ vis) → ∃ v, mapV (unb n A (f + 1)) (ls.map fun p => Vl.loc p.1) vis = some (ls.map fun p => nl p.2, v)
  | [], vis, _, _, _ => ⟨vis, rfl⟩
  | p :: ls, vis, h, nd, nv => by
    obtain ⟨h1, h2⟩ := h p (by simp)
    rw [List.map_cons, List.nodup_cons] at nd
    have e : unb n A (f + 1) (.loc p.1) vis = some (nl p.2, p.1 :: vis) := by
      rw [unb]
      have : vis.contains p.1 = false := by simpa using nv p (by simp)
      simp only [plain_loc, if_neg (Nat.not_lt.mpr h1), this, h2, mapV_plains (plains_iN p.2)]
      simp
    obtain ⟨v, ih⟩ := mapV_locs (n := n) (f := f) (A := A) ls (p.1 :: vis) (fun q hq => h q (by simp [hq])) nd.2 (fun q hq => by
      rw [List.mem_cons]
      rintro (z | z)
      · exact nd.1 (List.mem_map.mpr ⟨q, hq, z⟩)
      · exact nv q (by simp [hq]) z)
    exact ⟨v, by simp only [List.map_cons, mapV, e, ih]⟩
theorem gc_near {A : AH} {G : List (List Nat)} : gc A.length (.loc (A.length + G.length)) (nLay A G) = .ok (.new .lst (G.map nl)) A := by
  have na := nLay_na A G
  have hll := nLay_len A G
  let ls : List (Nat × List Nat) := (List.range G.length).map fun i => (A.length + i, G.getD i [])
  have e1 : (ls.map fun p => Vl.loc p.1) = (List.range G.length).map fun i => Vl.loc (A.length + i) := by simp [ls, Function.comp_def]
  have e2 : (ls.map fun p => nl p.2) = G.map nl := by
    have : (ls.map fun p => p.2) = G := by
      simp only [ls, List.map_map, Function.comp_def]
      apply List.ext_getElem (by simp)
      intro i h1 h2
      simp [List.getD_eq_getElem?_getD, List.getElem?_eq_getElem h2]
    have h2 : (ls.map fun p => nl p.2) = (ls.map fun p => p.2).map nl := (List.map_map (f := fun p : Nat × List Nat => p.2) (g := nl) (l := ls)).symm
    rw [h2, this]
  obtain ⟨v, e⟩ := mapV_locs (n := A.length) (f := 3) (A := nLay A G) ls [A.length + G.length] (fun p hp => by
    obtain ⟨i, hi, rfl⟩ := List.mem_map.mp hp
    rw [List.mem_range] at hi
    exact ⟨by simp, na.each i _ (by simp [hi])⟩) (by
      simp only [ls, List.map_map, Function.comp_def]
      rw [List.Nodup, List.pairwise_map]
      exact List.Pairwise.imp (fun hab z => hab (by omega)) List.nodup_range) (fun p hp => by
      obtain ⟨i, hi, rfl⟩ := List.mem_map.mp hp
      rw [List.mem_range] at hi
      simp
      omega)
  unfold gc
  rw [if_neg (by omega), unb]
  have ht := na.top
  rw [List.map_map] at ht
  simp only [plain_loc, if_neg (show ¬ A.length + G.length < A.length by omega)]
  rw [show (List.contains ([] : List Nat) (A.length + G.length)) = false from rfl, ht]
  rw [e1, e2] at e
  have e' : mapV (unb A.length (nLay A G) 4) (List.map (Vl.loc ∘ fun i => A.length + i) (List.range G.length)) [A.length + G.length] = some (G.map nl, v) := e
  simp only [e']
  simp [nLay]
end Ab
namespace G
open PySem PySem.Spec PyProof.Rows L2 Ab
variable {R : Nat → Fn}
def LawNear (f : Fn) : Prop := ∀ A (n l : Nat) (rs : List (Nat × Nat)), A[l]? = some (.lst, rs.map rv) → (∀ r ∈ rs, r.1 < n ∧ r.2 < n) → n ≤ 1000 → rs.length ≤ 1000 → f [.int (n : Int), .loc l] A = .ok (.new .lst ((M.grf n (M.nbrs rs)).map nl)) A
theorem law_near_ok : LawNear (mkFn 6 (c__law_near R)) := fun A n l rs hl hr hn hrl => by
  have e0 : cLc (cRg1 (cVar 0)) (.nm 5) cYes (c__law_near_e0 R) [5] ⟨A.length, [some (.int (n : Int)), some (.loc l), none, none, none, none]⟩ A = .ok (.new .lst ((List.replicate n []).map nl)) A := by
    have := cLc_map (t := .nm 5) (elt := c__law_near_e0 R) (vs := [5]) (ρ := ⟨A.length, [some (.int (n : Int)), some (.loc l), none, none, none, none]⟩) (phi := fun i : Nat => Vl.int (i : Int)) (psi := fun _ => nl []) (w := []) (xs := List.range n) (cRg1_n (c := cVar 0) (ρ := ⟨A.length, [some (.int (n : Int)), some (.loc l), none, none, none, none]⟩) (A := A) (A1 := A) (n := n) (by simp) (by omega)) (by simp; omega) rfl (fun i hi => ⟨_, put_n, by simp [c__law_near_e0]⟩)
    rw [this, List.map_const', List.length_range, List.map_replicate]
  have lt : l < A.length := (List.getElem?_eq_some_iff.mp hl).1
  obtain ⟨y3, y4, e1⟩ := near_loop (R := R) (b := A.length) (l := l) (n := n) hl (Nat.le_refl _) (x0 := some (.int (n : Int))) rs (List.replicate n []) none none [none] (by simp) hr (fun g hg => by
    have := List.eq_of_mem_replicate hg
    subst this
    simp
    omega)
  simp only [mkFn, c__law_near, List.map_cons, List.map_nil, List.length_cons, List.length_nil, Nat.zero_add, Nat.reduceAdd, Nat.reduceSub, List.replicate, List.cons_append, List.nil_append]
  rw [seq_nx (s := [some (.int (n : Int)), some (.loc l), some (.loc (A.length + n)), none, none, none]) (A1 := nLay A (List.replicate n [])) (by
    rw [put_nm e0, box_nl]
    simp)]
  have hl2 : (nLay A (List.replicate n []))[l]? = some (.lst, rs.map rv) := by unfold nLay; rw [List.getElem?_append_left lt]; exact hl
  rw [seq_nx ((for_of (cIt_loc (A1 := nLay A (List.replicate n [])) (l := l) (by simp) hl2)).trans e1)]
  rw [M.nearF_eq hr]
  rw [ret_ok (x := .loc (A.length + n)) (by simp)]
  have hg := gc_near (A := A) (G := M.grf n (M.nbrs rs))
  rw [M.grf_len] at hg
  simp only [fin_rt]
  exact hg
def LawSays (f : Fn) : Prop := ∀ A (i j : Bool), f [.bl i, .bl j] A = .ok (.bl (decide (i = j))) A
theorem law_says_ok : LawSays (mkFn 2 (c__law_says R)) := fun A i j => by
  simp [mkFn, c__law_says, isiB]
def spr (rs : List (Nat × Nat)) (n : Nat) : Bool := (List.range n).any fun v => decide (2 < ((M.nbrs rs v).filter fun o => decide (1 < (M.nbrs rs o).length)).length)
def LawSpreads (f : Fn) : Prop := ∀ A (n l : Nat) (rs : List (Nat × Nat)), A[l]? = some (.lst, rs.map rv) → M.TreeOk n rs → f [.int (n : Int), .loc l] A = .ok (.bl (spr rs n)) A
theorem law_spreads_ok (h41 : LawNear (R 41)) : LawSpreads (mkFn 5 (c__law_spreads R)) := fun A n l rs hl t => by
  have n20 := t.n20
  have hlen := t.len
  let G := M.grf n (M.nbrs rs)
  have hGl : G.length = n := M.grf_len
  have near := h41 A n l rs hl (fun r hr => by have := t.ok r hr; omega) (by omega) (by omega)
  let A1 := nLay A G
  have na := nLay_na A G
  rw [hGl] at na
  have hA1 : ∃ B, A1 = A ++ B := ⟨_, rfl⟩
  obtain ⟨B, hB⟩ := hA1
  let s0 : List (Option Vl) := [some (.int (n : Int)), some (.loc l), some (.loc (A.length + n)), none, none]
  simp only [mkFn, c__law_spreads, List.map_cons, List.map_nil, List.length_cons, List.length_nil, Nat.zero_add, Nat.reduceAdd, Nat.reduceSub, List.replicate, List.cons_append, List.nil_append]
  rw [seq_nx (s := s0) (A1 := A1) (by
    rw [put_nm (d := .new .lst (G.map nl)) (A1 := A) (by simp [near]; rfl), box_nl, hGl]
    simp [A1, s0])]
  have ht := na.top
  rw [List.map_map] at ht
  have hGv : ∀ v, v < n → G.getD v [] = M.nbrs rs v := fun v hv => M.grf_get (f := M.nbrs rs) hv
  have e2 : cLc (cIt (cVar 2)) (.nm 3) cYes (c__law_spreads_e2 R) [3] ⟨A.length, s0⟩ A1 = .ok (.new .lst ((List.range n).map fun v => .bl (decide (2 < ((M.nbrs rs v).filter fun o => decide (1 < (M.nbrs rs o).length)).length)))) A1 := by
    refine cLc_map (phi := fun i => Vl.loc (A.length + i)) (xs := List.range n) (cIt_loc (l := A.length + n) (by simp [s0]) ht) (by simp; omega) (seen_one ht) fun v hv => ⟨_, put_n, ?_⟩
    rw [List.mem_range] at hv
    have h3 := na.each v (A.length + v) (by simp [hv])
    rw [hGv v hv] at h3
    simp only [s0, wipeS, List.set_cons_succ, List.set_cons_zero]
    have e3 : cLc (cIt (cVar 3)) (.nm 4) (c__law_spreads_t1 R) (c__law_spreads_e0 R) [4] ⟨A.length, [some (.int (n : Int)), some (.loc l), some (.loc (A.length + n)), some (.loc (A.length + v)), none]⟩ A1 = .ok (.new .lst (((M.nbrs rs v).filter fun o => decide (1 < (M.nbrs rs o).length)).map iN)) A1 := by
      refine cLc_fil (phi := iN) (w := [(A.length + v, (M.nbrs rs v).map iN)]) (cIt_loc (by simp) h3) (by
        have := M.len_nbrs (v := v) (rs := rs) (fun r hr => (t.ok r hr).1)
        have h5 := List.length_filter_le (fun r : Nat × Nat => decide (v = r.1) || decide (v = r.2)) rs
        omega) (seen_one h3) fun o ho => ⟨_, put_n, ?_, fun _ => by simp [c__law_spreads_e0, wipeS]⟩
      have ho2 := t.lt (M.mem_nbrs.mp ho)
      simp only [wipeS, List.set_cons_succ, List.set_cons_zero]
      unfold c__law_spreads_t1
      obtain ⟨l2, _, k2, k3⟩ := fIx_NA (b := A.length) na (v := o) (by omega)
      rw [hGv o ho2.1] at k3
      refine tst_ok ((f2_ok (x := .int ((M.nbrs rs o).length : Int)) (y := .int 1) ((f_one (x := .loc l2) ((f2_ok (x := .loc (A.length + n)) (y := iN o) (by simp) (by simp)).trans k2)).trans (by rw [fLen_loc k3, List.length_map])) rfl).trans ?_)
      rw [fGt_]
      congr 2
      by_cases hq : 1 < (M.nbrs rs o).length
      · rw [decide_eq_true hq, decide_eq_true (by omega)]
      · rw [decide_eq_false hq, decide_eq_false (by omega)]
    unfold c__law_spreads_e2
    refine (f2_ok ((f_one e3).trans fLen_new) rfl).trans ?_
    rw [fGt_, List.length_map]
    congr 2
    by_cases hq : 2 < ((M.nbrs rs v).filter fun o => decide (1 < (M.nbrs rs o).length)).length
    · rw [decide_eq_true hq, decide_eq_true (by omega)]
    · rw [decide_eq_false hq, decide_eq_false (by omega)]
  rw [ret_ok ((f_one e2).trans fAny_new)]
  simp only [fin_rt]
  rw [hB, gc_app rfl]
  rfl
theorem spr_iff {rs : List (Nat × Nat)} {n : Nat} (t : M.TreeOk n rs) : spr rs n = false ↔ M.NoSpread (M.grf n fun v => srt (M.nbrs rs v)) := by
  have hf : ∀ v, v < n → (M.grf n fun v => srt (M.nbrs rs v)).getD v [] = srt (M.nbrs rs v) := fun v hv => M.grf_get (f := fun v => srt (M.nbrs rs v)) hv
  have hi : ∀ v, v < n → M.isIn (M.grf n fun v => srt (M.nbrs rs v)) v = decide (1 < (M.nbrs rs v).length) := fun v hv => by
    unfold M.isIn
    rw [hf v hv, (srt_perm _).length_eq]
  have hn : ∀ v, v < n → (M.inN (M.grf n fun v => srt (M.nbrs rs v)) v).length = ((M.nbrs rs v).filter fun o => decide (1 < (M.nbrs rs o).length)).length := fun v hv => by
    unfold M.inN
    rw [hf v hv]
    rw [List.filter_congr (q := fun o => decide (1 < (M.nbrs rs o).length)) (fun o ho => hi o (t.lt (M.mem_nbrs.mp ((srt_perm _).mem_iff.mp ho))).1)]
    exact ((srt_perm _).filter _).length_eq
  unfold spr M.NoSpread
  rw [M.grf_len, List.any_eq_false]
  constructor
  · intro h v hv
    rw [hn v hv]
    have := h v (List.mem_range.mpr hv)
    simp only [decide_eq_true_eq] at this
    omega
  · intro h v hv
    have hv := List.mem_range.mp hv
    have := h v hv
    rw [hn v hv] at this
    simp only [decide_eq_true_eq]
    omega
end G

set_option Elab.async false
set_option linter.all false
set_option maxRecDepth 100000
set_option maxHeartbeats 1000000
set_option autoImplicit false
namespace Ab
open PySem PySem.Spec PyProof.Rows L2
theorem inR_iff {rs : List (Nat × Nat)} {a c : Int} : inR rs a c = true ↔ ∃ r ∈ rs, (r.1 : Int) = a ∧ (r.2 : Int) = c := by
  unfold inR
  simp
theorem jn_iff {rs : List (Nat × Nat)} {x : Nat} {o : Int} : jn rs (x : Int) o = true ↔ ∃ u : Nat, o = (u : Int) ∧ M.Adj rs u x := by
  unfold jn
  rw [Bool.or_eq_true, inR_iff, inR_iff]
  constructor
  · rintro (⟨⟨r1, r2⟩, hr, h1, h2⟩ | ⟨⟨r1, r2⟩, hr, h1, h2⟩)
    · simp only at h1 h2
      have : r1 = x := by omega
      subst this
      exact ⟨r2, h2.symm, .inr hr⟩
    · simp only at h1 h2
      have : r2 = x := by omega
      subst this
      exact ⟨r1, h1.symm, .inl hr⟩
  · rintro ⟨u, rfl, h | h⟩
    · exact .inr ⟨_, h, rfl, rfl⟩
    · exact .inl ⟨_, h, rfl, rfl⟩
theorem jn_adj {rs : List (Nat × Nat)} {x u : Nat} : jn rs (x : Int) (u : Int) = true ↔ M.Adj rs u x := by
  rw [jn_iff]
  exact ⟨fun ⟨v, h, k⟩ => by have : u = v := by omega
                             rw [this]; exact k, fun h => ⟨u, rfl, h⟩⟩
theorem mem_ci {xs : List Nat} {o : Int} : o ∈ ci xs ↔ ∃ u : Nat, o = (u : Int) ∧ u ∈ xs := by
  simp only [ci, List.mem_map]
  exact ⟨fun ⟨u, h, k⟩ => ⟨u, k.symm, h⟩, fun ⟨u, h, k⟩ => ⟨u, k, h.symm⟩⟩
theorem ci_jn {rs : List (Nat × Nat)} {x : Nat} {o : Int} : decide (o ∈ ci (M.nbrs rs x)) = jn rs (x : Int) o := by
  rw [Bool.eq_iff_iff, decide_eq_true_iff, jn_iff, mem_ci]
  exact ⟨fun ⟨u, h, k⟩ => ⟨u, h, M.mem_nbrs.mp k⟩, fun ⟨u, h, k⟩ => ⟨u, h, M.mem_nbrs.mpr k⟩⟩
theorem any_jn {rs : List (Nat × Nat)} {x : Nat} {way : List Int} : ((M.nbrs rs x).any fun u : Nat => decide ((u : Int) ∈ way)) = way.any fun o => jn rs (x : Int) o := by
  rw [Bool.eq_iff_iff, List.any_eq_true, List.any_eq_true]
  constructor
  · rintro ⟨u, h, k⟩
    exact ⟨u, of_decide_eq_true k, jn_adj.mpr (M.mem_nbrs.mp h)⟩
  · rintro ⟨o, h, k⟩
    obtain ⟨u, rfl, q⟩ := jn_iff.mp k
    exact ⟨u, M.mem_nbrs.mpr q, decide_eq_true h⟩
theorem deg_eq {n : Nat} {rs : List (Nat × Nat)} (t : M.TreeOk n rs) (x : Nat) : (rs.filter fun r => decide ((x : Int) = (r.1 : Int)) || decide ((x : Int) = (r.2 : Int))).length = (M.nbrs rs x).length := by
  rw [M.len_nbrs fun r hr => (t.ok r hr).1]
  congr 1
  apply List.filter_congr
  intro r _
  congr 1
  · rw [decide_eq_decide]; omega
  · rw [decide_eq_decide]; omega
end Ab
namespace G
open PySem PySem.Spec PyProof.Rows L2 Ab
variable {R : Nat → Fn}
structure LawShown (f : Fn) : Prop where
  st : ∀ A (s w n l : Nat) (way : List Int) (rs : List (Nat × Nat)), A[s]? = some (.obj 5, [.loc w]) → LA A w way → way.length ≤ 1000 → A[l]? = some (.lst, rs.map rv) → M.TreeOk n rs → f [.int (n : Int), .loc l, .loc s] A = .ok (.bl (shS way n rs)) A
  sp : ∀ A (s n l : Nat) (h a c d : Int) (rs : List (Nat × Nat)), A[s]? = some (.obj 6, [.int h, .int a, .int c, .int d]) → A[l]? = some (.lst, rs.map rv) → M.TreeOk n rs → f [.int (n : Int), .loc l, .loc s] A = .ok (.bl (shP h a c d n rs)) A
theorem near_ix {A : AH} {n : Nat} {rs : List (Nat × Nat)} {o : Int} {b : Nat} (h0 : 0 ≤ o) (h1 : o < n) : ∃ l2, fIx b [.loc (A.length + n), .int o] (nLay A (M.grf n (M.nbrs rs))) = .ok (.loc l2) (nLay A (M.grf n (M.nbrs rs))) ∧ (nLay A (M.grf n (M.nbrs rs)))[l2]? = some (.lst, (M.nbrs rs o.toNat).map iN) := by
  have na := nLay_na A (M.grf n (M.nbrs rs))
  rw [M.grf_len] at na
  obtain ⟨l2, _, k2, k3⟩ := fIx_NA (b := b) na (v := o.toNat) (by rw [M.grf_len]; omega)
  rw [M.grf_get (f := M.nbrs rs) (by omega)] at k3
  rw [Int.toNat_of_nonneg h0] at k2
  exact ⟨l2, k2, k3⟩
theorem law_shown_ok (h41 : LawNear (R 41)) : LawShown (mkFn 9 (c__law_shown R)) := by
  constructor
  · intro A s w n l way rs hs hw hwl hl t
    have n20 := t.n20
    have hlen := t.len
    have near := h41 A n l rs hl (fun r hr => by have := t.ok r hr; omega) (by omega) (by omega)
    have hB : ∃ B, nLay A (M.grf n (M.nbrs rs)) = A ++ B := ⟨_, rfl⟩
    have hix : ∀ (b : Nat) (o : Int), 0 ≤ o → o < n → _ := fun b o h0 h1 => near_ix (A := A) (n := n) (rs := rs) (o := o) (b := b) h0 h1
    have hgl : (M.grf n (M.nbrs rs)).length = n := M.grf_len
    have hbx := box_nl (M.grf n (M.nbrs rs)) A
    rw [hgl] at hbx
    generalize hA1 : nLay A (M.grf n (M.nbrs rs)) = A1 at hB hix hbx
    obtain ⟨B, hB⟩ := hB
    have ltl : l < A.length := (List.getElem?_eq_some_iff.mp hl).1
    have lts : s < A.length := (List.getElem?_eq_some_iff.mp hs).1
    have hs1 : A1[s]? = some (.obj 5, [.loc w]) := by rw [hB, List.getElem?_append_left lts]; exact hs
    have hw1 : LA A1 w way := by rw [hB]; exact LA.app hw
    let s0 : List (Option Vl) := [some (.int (n : Int)), some (.loc l), some (.loc s), some (.loc (A.length + n)), none, none, none, none, none]
    let s1 : List (Option Vl) := [some (.int (n : Int)), some (.loc l), some (.loc s), some (.loc (A.length + n)), some (.loc w), none, none, none, none]
    simp only [mkFn, c__law_shown, List.map_cons, List.map_nil, List.length_cons, List.length_nil, Nat.zero_add, Nat.reduceAdd, Nat.reduceSub, List.replicate, List.cons_append, List.nil_append]
    rw [seq_nx (s := s0) (A1 := A1) (by
      rw [put_nm (d := .new .lst ((M.grf n (M.nbrs rs)).map nl)) (A1 := A) (by simp [near]), hbx]
      simp [s0])]
    have his : cIsO is_Street (cVar 2) ⟨A.length, s0⟩ A1 = .ok (.bl true) A1 := by simp [cIsO, s0, objL, hs1, is_Street]
    have gcb : ∀ k : Bool, gc A.length (.bl k) A1 = .ok (.bl k) A := fun k => by rw [hB]; exact gc_app rfl
    have e0 : cLc (cIt (cVar 4)) (.nm 6) cYes (c__law_shown_e0 R) [6] ⟨A.length, s1⟩ A1 = .ok (.new .lst (way.map fun h : Int => .bl (decide (0 ≤ h) && decide (h < (n : Int))))) A1 := by
      refine cLc_map (phi := Vl.int) (w := [(w, way.map Vl.int)]) (cIt_loc (by simp [s1]) hw1) (by omega) (seen_one hw1) fun x hx => ⟨_, put_n, ?_⟩
      simp only [s1, wipeS, List.set_cons_succ, List.set_cons_zero]
      unfold c__law_shown_e0
      exact ch_ok2 rfl (by simp) (by simp)
    have eq0 : fEqD false A.length [.loc w, .new .lst []] A1 = .ok (.bl (decide (way = []))) A1 := fEq_ints (neg := false) (ns := way) (ms := []) (toD_loc hw1) (by rw [List.map_nil]; exact toD_2)
    have els := lenset_code (ρ := ⟨A.length, s1⟩) (co := cVar 4) (by simp [s1]) hw1 (by omega)
    have hlt : decide (((dd way).length : Int) < (way.map Vl.int).length) = decide ((dd way).length < way.length) := by
      rw [List.length_map]
      by_cases h : (dd way).length < way.length
      · rw [decide_eq_true h, decide_eq_true (by omega)]
      · rw [decide_eq_false h, decide_eq_false (by omega)]
    have ht : cOr (cTst (cF2 (fEqD false) (cVar 4) (cLst cNil))) (cOr (cNot (cTst (cF fAll (cCons (cLc (cIt (cVar 4)) (.nm 6) cYes (c__law_shown_e0 R) [6]) cNil)))) (cTst (cF2 fLt (cLenSet (cVar 4)) (cF fLen (cCons (cVar 4) cNil))))) ⟨A.length, s1⟩ A1 = .ok (decide (way = []) || (!(way.all fun h => decide (0 ≤ h) && decide (h < (n : Int))) || decide ((dd way).length < way.length))) A1 :=
      or_ok (tst_ok ((f2_ok (by simp [s1]) (by simp)).trans eq0)) fun _ => or_ok (not_ok (tst_ok ((f_one e0).trans fAll_new))) fun _ => tst_ok ((f2_ok els ((f_one (by simp [s1])).trans (fLen_loc hw1))).trans (by rw [fLt_, hlt]))
    suffices hh : (cSeq (cPut (.nm 4) (cFld ix_way (cVar 2)))
      (cSeq (cIf (cOr (cTst (cF2 (fEqD false) (cVar 4) (cLst cNil))) (cOr (cNot (cTst (cF fAll (cCons (cLc (cIt (cVar 4)) (.nm 6) cYes (c__law_shown_e0 R) [6]) cNil)))) (cTst (cF2 fLt (cLenSet (cVar 4)) (cF fLen (cCons (cVar 4) cNil)))))) (cRet (cC (.bl false))) cNx)
      (cSeq (cIf (cNot (cTst (cF fAll (cCons (cLc (cZip (cVar 4) (cSl (cVar 4) (some (cC (.int 1))) none)) (.tp [(.nm 7), (.nm 8)]) cYes (c__law_shown_e1 R) [7, 8]) cNil)))) (cRet (cC (.bl false))) cNx)
      (cRet (cF fAll (cCons (cLc (cRg1 (cVar 0)) (.nm 6) cYes (c__law_shown_e3 R) [6]) cNil)))))) ⟨A.length, s0⟩ A1 = .rt (.bl (shS way n rs)) A1 by
      rw [seq_rt ((if_t (tst_ok his)).trans hh)]
      simp [gcb]
    rw [seq_nx (s := s1) (A1 := A1) (by
      rw [put_nm (obj_code (i := 0) hs1 rfl rfl (by simp [s0]))]
      simp [s0, s1])]
    unfold shS
    rw [Bool.or_assoc]
    cases hbad : (decide (way = []) || (!(way.all fun h => decide (0 ≤ h) && decide (h < (n : Int))) || decide ((dd way).length < way.length))) with
    | true =>
      rw [hbad] at ht
      rw [seq_rt (v := .bl false) (A1 := A1) (by rw [if_t ht]; rfl)]
      simp
    | false =>
      rw [hbad] at ht
      rw [seq_nx (s := s1) (A1 := A1) (by rw [if_f ht]; rfl)]
      have hok : ∀ x ∈ way, 0 ≤ x ∧ x < (n : Int) := by
        simp only [Bool.or_eq_false_iff, Bool.not_eq_false'] at hbad
        intro x hx
        have := List.all_eq_true.mp hbad.2.1 x hx
        simpa using this
      have e1 : cLc (cZip (cVar 4) (cSl (cVar 4) (some (cC (.int 1))) none)) (.tp [.nm 7, .nm 8]) cYes (c__law_shown_e1 R) [7, 8] ⟨A.length, s1⟩ A1 = .ok (.new .lst ((way.zip (way.drop 1)).map fun p => .bl (jn rs p.1 p.2))) A1 := by
        refine cLc_map (phi := ip) (w := [(w, way.map Vl.int)]) (zip_code hw1 rfl) (by rw [List.length_zip]; omega) (seen_one hw1) fun p hp => ⟨[some (.int (n : Int)), some (.loc l), some (.loc s), some (.loc (A.length + n)), some (.loc w), none, none, some (.int p.1), some (.int p.2)], by simp [wipeS, s1], ?_⟩
        have hp1 := hok p.1 (List.of_mem_zip hp).1
        obtain ⟨l2, k2, k3⟩ := hix A.length p.1 hp1.1 hp1.2
        unfold c__law_shown_e1
        refine (f2_ok (x := .int p.2) (y := .loc l2) (by simp) ((f2_ok (x := .loc (A.length + n)) (y := .int p.1) (by simp) (by simp)).trans k2)).trans ?_
        rw [map_iN] at k3
        rw [fIn_int k3, if_neg (by decide), ci_jn, Int.toNat_of_nonneg hp1.1]
      cases hz : ((way.zip (way.drop 1)).all fun p => jn rs p.1 p.2) with
      | false =>
        rw [seq_rt (v := .bl false) (A1 := A1) (by rw [if_t (not_ok (k := false) (tst_ok ((f_one (F := fAll) e1).trans (by rw [fAll_new, hz]))))]; rfl)]
        simp
      | true =>
        rw [seq_nx (s := s1) (A1 := A1) (by rw [if_f (not_ok (k := true) (tst_ok ((f_one (F := fAll) e1).trans (by rw [fAll_new, hz]))))]; rfl)]
        have e3 : cLc (cRg1 (cVar 0)) (.nm 6) cYes (c__law_shown_e3 R) [6] ⟨A.length, s1⟩ A1 = .ok (.new .lst ((List.range n).map fun h : Nat => .bl (decide ((h : Int) ∈ way) || way.any fun o => jn rs h o))) A1 := by
          refine cLc_map (phi := iN) (w := []) (xs := List.range n) (cRg1_n (by simp [s1]) (by omega)) (by simp; omega) rfl fun h hh => ⟨_, put_n, ?_⟩
          rw [List.mem_range] at hh
          simp only [s1, wipeS, List.set_cons_succ, List.set_cons_zero]
          obtain ⟨l2, k2, k3⟩ := hix A.length (h : Int) (by omega) (by omega)
          rw [Int.toNat_natCast] at k3
          unfold c__law_shown_e3
          refine orV_ok ((f2_ok (x := iN h) (y := .loc w) (by simp) (by simp)).trans (by rw [fIn_int hw1, if_neg (by decide)])) fun _ => ?_
          have e4 : cLc (cIt (cF2 fIx (cVar 3) (cVar 6))) (.nm 8) cYes (c__law_shown_e2 R) [8] ⟨A.length, [some (.int (n : Int)), some (.loc l), some (.loc s), some (.loc (A.length + n)), some (.loc w), none, some (iN h), none, none]⟩ A1 = .ok (.new .lst ((M.nbrs rs h).map fun u : Nat => .bl (decide ((u : Int) ∈ way)))) A1 := by
            refine cLc_map (phi := iN) (w := [(l2, (M.nbrs rs h).map iN)]) (cIt_loc (l := l2) ((f2_ok (x := .loc (A.length + n)) (y := iN h) (by simp) (by simp)).trans k2) k3) (by
              have := M.len_nbrs (v := h) (rs := rs) (fun r hr => (t.ok r hr).1)
              have h5 := List.length_filter_le (fun r : Nat × Nat => decide (h = r.1) || decide (h = r.2)) rs
              omega) (seen_one k3) fun u hu => ⟨_, put_n, ?_⟩
            simp only [wipeS, List.set_cons_succ, List.set_cons_zero]
            unfold c__law_shown_e2
            refine (f2_ok (x := iN u) (y := .loc w) (by simp) (by simp)).trans ?_
            rw [fIn_int hw1, if_neg (by decide)]
          rw [f_one e4, fAny_new, any_jn]
        rw [ret_ok ((f_one e3).trans fAll_new)]
        simp
  · intro A s n l h a c d rs hs hl t
    have n20 := t.n20
    have hlen := t.len
    have near := h41 A n l rs hl (fun r hr => by have := t.ok r hr; omega) (by omega) (by omega)
    have hB : ∃ B, nLay A (M.grf n (M.nbrs rs)) = A ++ B := ⟨_, rfl⟩
    have hix : ∀ (b : Nat) (o : Int), 0 ≤ o → o < n → _ := fun b o h0 h1 => near_ix (A := A) (n := n) (rs := rs) (o := o) (b := b) h0 h1
    have hgl : (M.grf n (M.nbrs rs)).length = n := M.grf_len
    have hbx := box_nl (M.grf n (M.nbrs rs)) A
    rw [hgl] at hbx
    generalize hA1 : nLay A (M.grf n (M.nbrs rs)) = A1 at hB hix hbx
    obtain ⟨B, hB⟩ := hB
    have ltl : l < A.length := (List.getElem?_eq_some_iff.mp hl).1
    have lts : s < A.length := (List.getElem?_eq_some_iff.mp hs).1
    have hs1 : A1[s]? = some (.obj 6, [.int h, .int a, .int c, .int d]) := by rw [hB, List.getElem?_append_left lts]; exact hs
    let A2 : AH := A1 ++ [(.lst, [.int a, .int c, .int d])]
    have lts1 : s < A1.length := (List.getElem?_eq_some_iff.mp hs1).1
    have hs2 : A2[s]? = some (.obj 6, [.int h, .int a, .int c, .int d]) := by simp only [A2]; rw [List.getElem?_append_left lts1]; exact hs1
    have hw : LA A2 A1.length [a, c, d] := by simp [LA, A2]
    have hix2 : ∀ (o : Int), 0 ≤ o → o < n → ∃ l2, fIx A.length [.loc (A.length + n), .int o] A2 = .ok (.loc l2) A2 ∧ A2[l2]? = some (.lst, (M.nbrs rs o.toNat).map iN) := by
      intro o h0 h1
      have na := (nLay_na A (M.grf n (M.nbrs rs))).app (B := [(.lst, [.int a, .int c, .int d])])
      rw [M.grf_len, hA1] at na
      obtain ⟨l2, _, k2, k3⟩ := fIx_NA (b := A.length) na (v := o.toNat) (by rw [M.grf_len]; omega)
      rw [M.grf_get (f := M.nbrs rs) (by omega)] at k3
      rw [Int.toNat_of_nonneg h0] at k2
      exact ⟨l2, k2, k3⟩
    let s0 : List (Option Vl) := [some (.int (n : Int)), some (.loc l), some (.loc s), some (.loc (A.length + n)), none, none, none, none, none]
    let s1 : List (Option Vl) := [some (.int (n : Int)), some (.loc l), some (.loc s), some (.loc (A.length + n)), none, some (.loc A1.length), none, none, none]
    simp only [mkFn, c__law_shown, List.map_cons, List.map_nil, List.length_cons, List.length_nil, Nat.zero_add, Nat.reduceAdd, Nat.reduceSub, List.replicate, List.cons_append, List.nil_append]
    rw [seq_nx (s := s0) (A1 := A1) (by
      rw [put_nm (d := .new .lst ((M.grf n (M.nbrs rs)).map nl)) (A1 := A) (by simp [near]), hbx]
      simp [s0])]
    have his : cIsO is_Street (cVar 2) ⟨A.length, s0⟩ A1 = .ok (.bl false) A1 := by simp [cIsO, s0, objL, hs1, is_Street]
    have gcb : ∀ k : Bool, gc A.length (.bl k) A2 = .ok (.bl k) A := fun k => by simp only [A2]; rw [hB, List.append_assoc]; exact gc_app rfl
    rw [seq_nx (s := s0) (A1 := A1) (by rw [if_f (tst_ok his)]; rfl)]
    rw [seq_nx (s := s1) (A1 := A2) (by
      have e1 := obj_code (ix := ix_first) (i := 1) (v := .int a) hs1 rfl rfl (ρ := ⟨A.length, s0⟩) (co := cVar 2) (by simp [s0])
      have e2 := obj_code (ix := ix_second) (i := 2) (v := .int c) hs1 rfl rfl (ρ := ⟨A.length, s0⟩) (co := cVar 2) (by simp [s0])
      have e3 := obj_code (ix := ix_third) (i := 3) (v := .int d) hs1 rfl rfl (ρ := ⟨A.length, s0⟩) (co := cVar 2) (by simp [s0])
      rw [put_nm (d := .new .lst [.int a, .int c, .int d]) (A1 := A1) (by
        simp only [cLst_, cCons_, cNil_, e1, bind_ok, e2, e3]
        simp), box_new (by simp)]
      simp [s0, s1, A2])]
    have eh := obj_code (ix := ix_house) (i := 0) (v := .int h) hs2 rfl rfl (ρ := ⟨A.length, s1⟩) (co := cVar 2) (by simp [s1])
    have e0 : cLc (cIt (cF2 fAdd (cVar 5) (cLst (cCons (cFld ix_house (cVar 2)) cNil)))) (.nm 7) cYes (c__law_shown_e4 R) [7] ⟨A.length, s1⟩ A2 = .ok (.new .lst ([a, c, d, h].map fun x : Int => .bl (decide (0 ≤ x) && decide (x < (n : Int))))) A2 := by
      have hadd : cF2 fAdd (cVar 5) (cLst (cCons (cFld ix_house (cVar 2)) cNil)) ⟨A.length, s1⟩ A2 = .ok (.new .lst ([a, c, d, h].map Vl.int)) A2 := by
        have : fAdd A.length [.loc A1.length, .new .lst [.int h]] A2 = .ok (.new .lst ([a, c, d, h].map Vl.int)) A2 := by
          simp only [fAdd, mutL, hw]
          simp
        exact (f2_ok (x := .loc A1.length) (y := .new .lst [.int h]) (by simp [s1]) (by simp only [cLst_, cCons_, cNil_, eh, bind_ok]; simp)).trans this
      refine cLc_map (phi := Vl.int) (w := []) (xs := [a, c, d, h]) (cIt_nw hadd (by simp)) (by simp) rfl fun x hx => ⟨_, put_n, ?_⟩
      simp only [s1, wipeS, List.set_cons_succ, List.set_cons_zero]
      unfold c__law_shown_e4
      exact ch_ok2 rfl (by simp) (by simp)
    have els := lenset_code (ρ := ⟨A.length, s1⟩) (co := cVar 5) (by simp [s1]) hw (by simp)
    have hlt : decide (((dd [a, c, d]).length : Int) < 3) = decide ((dd [a, c, d]).length < 3) := by
      by_cases h : (dd [a, c, d]).length < 3
      · rw [decide_eq_true h, decide_eq_true (by omega)]
      · rw [decide_eq_false h, decide_eq_false (by omega)]
    have ht : cOr (cNot (cTst (cF fAll (cCons (cLc (cIt (cF2 fAdd (cVar 5) (cLst (cCons (cFld ix_house (cVar 2)) cNil)))) (.nm 7) cYes (c__law_shown_e4 R) [7]) cNil)))) (cTst (cF2 fLt (cLenSet (cVar 5)) (cC (.int 3)))) ⟨A.length, s1⟩ A2 = .ok (!([a, c, d, h].all fun x => decide (0 ≤ x) && decide (x < (n : Int))) || decide ((dd [a, c, d]).length < 3)) A2 :=
      or_ok (not_ok (tst_ok ((f_one e0).trans fAll_new))) fun _ => tst_ok ((f2_ok els rfl).trans (by rw [fLt_, hlt]))
    unfold shP
    cases hbad : (!([a, c, d, h].all fun x => decide (0 ≤ x) && decide (x < (n : Int))) || decide ((dd [a, c, d]).length < 3)) with
    | true =>
      rw [hbad] at ht
      rw [seq_rt (v := .bl false) (A1 := A2) (by rw [if_t ht]; rfl)]
      simp [gcb]
    | false =>
      rw [hbad] at ht
      rw [seq_nx (s := s1) (A1 := A2) (by rw [if_f ht]; rfl)]
      have hok : ∀ x ∈ [a, c, d, h], 0 ≤ x ∧ x < (n : Int) := by
        rw [Bool.or_eq_false_iff, Bool.not_eq_false'] at hbad
        intro x hx
        have := List.all_eq_true.mp hbad.1 x hx
        simpa using this
      have hh := hok h (by simp)
      have e5 : cLc (cIt (cVar 5)) (.nm 7) cYes (c__law_shown_e5 R) [7] ⟨A.length, s1⟩ A2 = .ok (.new .lst ([a, c, d].map fun x : Int => .bl (jn rs h x && decide (1 < (rs.filter fun r => decide (x = (r.1 : Int)) || decide (x = (r.2 : Int))).length)))) A2 := by
        refine cLc_map (phi := Vl.int) (w := [(A1.length, [a, c, d].map Vl.int)]) (xs := [a, c, d]) (cIt_loc (by simp [s1]) hw) (by simp) (seen_one hw) fun x hx => ⟨_, put_n, ?_⟩
        have hx0 := hok x (by simp at hx ⊢; rcases hx with h | h | h <;> simp [h])
        simp only [s1, wipeS, List.set_cons_succ, List.set_cons_zero]
        obtain ⟨l2, k2, k3⟩ := hix2 h hh.1 hh.2
        obtain ⟨l4, k4, k5⟩ := hix2 x hx0.1 hx0.2
        have eh2 := obj_code (ix := ix_house) (i := 0) (v := .int h) hs2 rfl rfl (ρ := ⟨A.length, [some (.int (n : Int)), some (.loc l), some (.loc s), some (.loc (A.length + n)), none, some (.loc A1.length), none, some (.int x), none]⟩) (co := cVar 2) (by simp)
        unfold c__law_shown_e5
        rw [map_iN] at k3
        refine andV_ok ((f2_ok (x := .int x) (y := .loc l2) (by simp) ((f2_ok (x := .loc (A.length + n)) (by simp) eh2).trans k2)).trans (by rw [fIn_int k3, if_neg (by decide), ci_jn, Int.toNat_of_nonneg hh.1])) fun _ => ?_
        refine (f2_ok (x := .int ((M.nbrs rs x.toNat).length : Int)) (y := .int 1) ((f_one (x := .loc l4) ((f2_ok (x := .loc (A.length + n)) (y := .int x) (by simp) (by simp)).trans k4)).trans (by rw [fLen_loc k5, List.length_map])) rfl).trans ?_
        have := deg_eq t x.toNat
        rw [Int.toNat_of_nonneg hx0.1] at this
        rw [fGt_, this]
        congr 2
        by_cases hq : 1 < (M.nbrs rs x.toNat).length
        · rw [decide_eq_true hq, decide_eq_true (by omega)]
        · rw [decide_eq_false hq, decide_eq_false (by omega)]
      rw [ret_ok ((f_one e5).trans fAll_new)]
      simp only [fin_rt, gcb]
      congr 2
      simp only [List.all_cons, List.all_nil, Bool.and_true, Bool.not_false, Bool.true_and]
      cases jn rs h a <;> cases jn rs h c <;> cases jn rs h d <;> simp
end G

set_option autoImplicit false
namespace M
/-- a road between two houses of the line, the smaller first -/
def nm (L : List Nat) (r : Nat × Nat) : Nat × Nat := (if L.getD r.2 0 < L.getD r.1 0 then L.getD r.2 0 else L.getD r.1 0, if L.getD r.2 0 > L.getD r.1 0 then L.getD r.2 0 else L.getD r.1 0)
theorem tree_perm {n : Nat} {rs rs' : List (Nat × Nat)} (t : TreeOk n rs) (p : rs'.Perm rs) : TreeOk n rs' := by
  have ha : ∀ a b, Adj rs' a b ↔ Adj rs a b := fun a b => by unfold Adj; rw [p.mem_iff, p.mem_iff]
  obtain ⟨o, h1, h2, h3⟩ := t.ord
  refine { t with len := by rw [p.length_eq]; exact t.len, ok := fun r hr => t.ok r (p.mem_iff.mp hr), nd := p.nodup_iff.mpr t.nd, ord := ⟨o, h1, fun v hv h0 => ?_, fun v a b ka kb => ?_⟩ }
  · obtain ⟨u, k, q⟩ := h2 v hv h0
    exact ⟨u, (ha u v).mpr k, q⟩
  · exact h3 v a b ((ha a v).mp ka) ((ha b v).mp kb)
structure Line (n : Nat) (L : List Nat) : Prop where
  len : L.length = n
  nd : L.Nodup
  lt : ∀ x ∈ L, x < n
theorem Line.at {n : Nat} {L : List Nat} (h : Line n L) {i : Nat} (hi : i < n) : L.getD i 0 < n ∧ L.idxOf (L.getD i 0) = i := by
  have hl : i < L.length := by rw [h.len]; exact hi
  rw [List.getD_eq_getElem?_getD, List.getElem?_eq_getElem hl]
  exact ⟨h.lt _ (List.getElem_mem hl), h.nd.idxOf_getElem i hl⟩
theorem Line.all {n : Nat} {L : List Nat} (h : Line n L) {v : Nat} (hv : v < n) : L.idxOf v < n ∧ L.getD (L.idxOf v) 0 = v := by
  have hm : v ∈ L := Decidable.by_contra fun k => by
    have := nodup_len (n := n) (M := v :: L) (List.nodup_cons.mpr ⟨k, h.nd⟩) (fun x hx => by
      rcases List.mem_cons.mp hx with rfl | q
      · exact hv
      · exact h.lt _ q)
    have := h.len
    simp at *
    omega
  have hl : L.idxOf v < L.length := List.idxOf_lt_length_iff.mpr hm
  refine ⟨by rw [← h.len]; exact hl, ?_⟩
  rw [List.getD_eq_getElem?_getD, List.getElem?_eq_getElem hl]
  exact List.getElem_idxOf hl
theorem tree_of {n : Nat} {L : List Nat} {rd : List (Nat × Nat)} (h1 : 1 ≤ n) (h20 : n ≤ 20) (hL : Line n L) (hlen : rd.length + 1 = n) (hrd : ∀ (i : Nat) (r : Nat × Nat), rd[i]? = some r → r.2 = i + 1 ∧ r.1 ≤ i) : TreeOk n (rd.map (nm L)) := by
  have hlt : ∀ (i : Nat) (r : Nat × Nat), rd[i]? = some r → r.1 < n ∧ r.2 < n ∧ r.1 < r.2 := fun i r e => by
    have := (List.getElem?_eq_some_iff.mp e).1
    have := hrd i r e
    omega
  have inj : ∀ i j, i < n → j < n → L.getD i 0 = L.getD j 0 → i = j := fun i j hi hj e => by
    rw [← (hL.at hi).2, ← (hL.at hj).2, e]
  have hmem : ∀ r, r ∈ rd → ∃ i, rd[i]? = some r := fun r hr => List.mem_iff_getElem?.mp hr
  have adj : ∀ u v, Adj (rd.map (nm L)) u v ↔ ∃ r ∈ rd, (u = L.getD r.1 0 ∧ v = L.getD r.2 0) ∨ (v = L.getD r.1 0 ∧ u = L.getD r.2 0) := by
    intro u v
    unfold Adj
    rw [List.mem_map, List.mem_map]
    constructor
    · rintro (⟨r, hr, e⟩ | ⟨r, hr, e⟩)
      · refine ⟨r, hr, ?_⟩
        unfold nm at e
        rw [Prod.mk.injEq] at e
        obtain ⟨e1, e2⟩ := e
        split at e1 <;> split at e2 <;> omega
      · refine ⟨r, hr, ?_⟩
        unfold nm at e
        rw [Prod.mk.injEq] at e
        obtain ⟨e1, e2⟩ := e
        split at e1 <;> split at e2 <;> omega
    · rintro ⟨r, hr, ⟨rfl, rfl⟩ | ⟨rfl, rfl⟩⟩
      · by_cases h : L.getD r.2 0 < L.getD r.1 0
        · exact .inr ⟨r, hr, by unfold nm; rw [if_pos h, if_neg (by omega)]⟩
        · refine .inl ⟨r, hr, ?_⟩
          unfold nm
          rw [if_neg h]
          by_cases h2 : L.getD r.2 0 > L.getD r.1 0
          · rw [if_pos h2]
          · rw [if_neg h2]
            have : L.getD r.1 0 = L.getD r.2 0 := by omega
            rw [this]
      · by_cases h : L.getD r.2 0 < L.getD r.1 0
        · exact .inl ⟨r, hr, by unfold nm; rw [if_pos h, if_neg (by omega)]⟩
        · refine .inr ⟨r, hr, ?_⟩
          unfold nm
          rw [if_neg h]
          by_cases h2 : L.getD r.2 0 > L.getD r.1 0
          · rw [if_pos h2]
          · rw [if_neg h2]
            have : L.getD r.1 0 = L.getD r.2 0 := by omega
            rw [this]
  have ord3 : ∀ v a, Adj (rd.map (nm L)) a v → L.idxOf a < L.idxOf v → ∃ r, rd[L.idxOf v - 1]? = some r ∧ a = L.getD r.1 0 := by
    intro v a h k
    obtain ⟨r, hr, ⟨rfl, rfl⟩ | ⟨rfl, rfl⟩⟩ := (adj a v).mp h
    · obtain ⟨i, e⟩ := hmem r hr
      have q := hlt i r e
      have q2 := hrd i r e
      rw [(hL.at q.2.1).2]
      refine ⟨r, ?_, rfl⟩
      rw [q2.1]
      exact e
    · obtain ⟨i, e⟩ := hmem r hr
      have q := hlt i r e
      rw [(hL.at q.2.1).2, (hL.at q.1).2] at k
      omega
  exact {
    n1 := h1
    n20 := h20
    len := by rw [List.length_map]; exact hlen
    ok := fun r hr => by
      obtain ⟨r, hr0, rfl⟩ := List.mem_map.mp hr
      obtain ⟨i, e⟩ := hmem r hr0
      have q := hlt i r e
      have a1 := (hL.at q.1).1
      have a2 := (hL.at q.2.1).1
      have ne : L.getD r.1 0 ≠ L.getD r.2 0 := fun z => by
        have := inj _ _ q.1 q.2.1 z
        omega
      unfold nm
      simp only
      split <;> split <;> omega
    nd := by
      rw [List.Nodup, List.pairwise_map, List.pairwise_iff_getElem]
      intro i j hi hj hij e
      have q := hlt i _ (List.getElem?_eq_getElem hi)
      have q2 := hlt j _ (List.getElem?_eq_getElem hj)
      have w := hrd i _ (List.getElem?_eq_getElem hi)
      have w2 := hrd j _ (List.getElem?_eq_getElem hj)
      have key : L.getD (rd[j]).2 0 = L.getD (rd[i]).1 0 ∨ L.getD (rd[j]).2 0 = L.getD (rd[i]).2 0 := by
        unfold nm at e
        rw [Prod.mk.injEq] at e
        obtain ⟨e1, e2⟩ := e
        split at e1 <;> split at e1 <;> split at e2 <;> split at e2 <;> omega
      rcases key with k | k
      · have := inj _ _ q2.2.1 q.1 k
        omega
      · have := inj _ _ q2.2.1 q.2.1 k
        omega
    ord := by
      refine ⟨fun v => L.idxOf v, fun u v hu hv e => ?_, fun v hv h0 => ?_, fun v a b ha hb ka kb => ?_⟩
      · rw [← (hL.all hu).2, ← (hL.all hv).2]
        simp only at e
        rw [e]
      · have hv2 := hL.all hv
        have hi : L.idxOf v - 1 < rd.length := by simp only at h0; omega
        have e := List.getElem?_eq_getElem hi
        have q := hlt _ _ e
        have w := hrd _ _ e
        refine ⟨L.getD (rd[L.idxOf v - 1]).1 0, (adj _ _).mpr ⟨_, List.getElem_mem hi, .inl ⟨rfl, ?_⟩⟩, ?_⟩
        · rw [w.1, Nat.sub_add_cancel (by simp only at h0; omega), hv2.2]
        · simp only at h0 ⊢
          rw [(hL.at q.1).2]
          omega
      · obtain ⟨r, e, k⟩ := ord3 v a ha ka
        obtain ⟨r', e', k'⟩ := ord3 v b hb kb
        rw [e] at e'
        cases e'
        rw [k, k'] }
theorem tree_1 : TreeOk 1 [] := tree_of (L := [0]) (rd := []) (by decide) (by decide) ⟨rfl, by decide, by decide⟩ rfl (by simp)
theorem tree_2 : TreeOk 2 [(0, 1)] := tree_of (L := [0, 1]) (rd := [(0, 1)]) (by decide) (by decide) ⟨rfl, by decide, by decide⟩ rfl (fun i r e => by
  match i with
  | 0 => cases e; decide
  | i + 1 => simp at e)
theorem tree_7 : TreeOk 7 [(0, 3), (3, 6), (3, 5), (1, 6), (2, 5), (0, 4)] := tree_of (L := [3, 0, 6, 5, 1, 2, 4]) (rd := [(0, 1), (0, 2), (0, 3), (2, 4), (3, 5), (1, 6)]) (by decide) (by decide) ⟨rfl, by decide, by decide⟩ rfl (fun i r e => by
  match i with
  | 0 => cases e; decide
  | 1 => cases e; decide
  | 2 => cases e; decide
  | 3 => cases e; decide
  | 4 => cases e; decide
  | 5 => cases e; decide
  | i + 6 => simp at e)
/-- one more put into a line -/
theorem Line.ins {k : Nat} {L : List Nat} (h : Line k L) (i : Nat) : Line (k + 1) (L.take i ++ [k] ++ L.drop i) := by
  have p : (L.take i ++ [k] ++ L.drop i).Perm (k :: L) := by
    rw [List.append_assoc]
    refine (List.perm_middle (a := k) (l₁ := L.take i) (l₂ := L.drop i)).trans ?_
    rw [List.take_append_drop]
  refine ⟨by rw [p.length_eq, List.length_cons, h.len], p.nodup_iff.mpr (List.nodup_cons.mpr ⟨fun z => Nat.lt_irrefl _ (h.lt _ z), h.nd⟩), fun x hx => ?_⟩
  rcases List.mem_cons.mp (p.mem_iff.mp hx) with rfl | q
  · omega
  · have := h.lt x q
    omega
end M

set_option Elab.async false
set_option linter.all false
set_option maxRecDepth 100000
set_option maxHeartbeats 1000000
set_option autoImplicit false
namespace Ab
open PySem PySem.Spec PyProof.Rows L2
theorem cut_from {α : Type} {xs : List α} {j : Nat} : cut xs (some (j : Int)) none = xs.drop j := by
  unfold cut
  rw [HT.sIx_none, HT.sIx_nat]
  rw [List.take_of_length_le (by simp)]
  by_cases h : j ≤ xs.length
  · rw [Nat.min_eq_left h]
  · rw [Nat.min_eq_right (by omega), List.drop_of_length_le (Nat.le_refl _), List.drop_of_length_le (by omega)]
theorem cut_to {α : Type} {xs : List α} {j : Nat} : cut xs none (some (j : Int)) = xs.take j := by
  unfold cut
  rw [HT.sIx_none, HT.sIx_nat]
  rw [List.drop_zero, Nat.sub_zero]
  by_cases h : j ≤ xs.length
  · rw [Nat.min_eq_left h]
  · rw [Nat.min_eq_right (by omega), List.take_of_length_le (Nat.le_refl _), List.take_of_length_le (by omega)]
theorem fInsert_ {b l i : Nat} {A : AH} {xs : List Vl} {y : Vl} (h : A[l]? = some (.lst, xs)) (hp : plain y = true) (hl : xs.length < 100000) (hi : i ≤ 100000) (hm : b ≤ l) : fInsert b [.loc l, .int (i : Int), y] A = .ok .non (A.set l (.lst, xs.take i ++ [y] ++ xs.drop i)) := by
  have hb : box y A = (y, A) := by
    have := boxs_plains [y] A (by simp [hp])
    rw [boxs_cons, boxs_nil] at this
    simp at this
    exact Prod.ext this.1 this.2
  have hm2 : mayPut b l y = true := by simp [mayPut, hm]
  simp only [fInsert, hb, h, Int.toNat_natCast]
  rw [if_pos ⟨hl, by omega, by omega, hm2⟩]
/-- a tuple with a list of pairs in it -/
theorem gc_tree {A B : AH} {i : Int} {xs : List Vl} (h : plains xs = true) : gc A.length (.tup [.int i, .new .lst xs]) (A ++ B) = .ok (.tup [.int i, .new .lst xs]) A := by
  unfold gc
  split
  · rename_i hl
    have : B = [] := List.length_eq_zero_iff.mp (by rw [List.length_append] at hl; omega)
    simp [this]
  · have e1 : ∀ vis, unb A.length (A ++ B) 4 (.int i) vis = some (.int i, vis) := fun vis => by rw [unb] <;> simp
    have e2 : ∀ vis, unb A.length (A ++ B) 4 (.new .lst xs) vis = some (.new .lst xs, vis) := fun vis => by
      rw [unb]
      simp [mapV_plains h]
    rw [unb]
    simp [mapV, e1, e2]
end Ab
namespace G
open PySem PySem.Spec PyProof.Rows L2 Ab
variable {R : Nat → Fn}
def cellt (ns : List Int) : List Int := if ns = [] then [5] else ns.take 63
theorem cellt_ok {ns : List Int} (h : ∀ z ∈ ns, Builtin.Int.intBits z ≤ 1048576) : cellt ns ≠ [] ∧ (cellt ns).length ≤ 63 ∧ ∀ z ∈ cellt ns, lg z ≤ 1048576 := by
  unfold cellt
  split
  · refine ⟨by simp, by simp, fun z hz => ?_⟩
    simp at hz
    subst hz
    exact lg_small 1048576 (Nat.lt_of_lt_of_le (show (5 : Int).natAbs < 2 ^ 3 by decide) (Nat.pow_le_pow_right (by decide) (by decide)))
  · rename_i hne
    exact ⟨fun z => hne (by simpa using z), by simp; omega, fun z hz => lg_bits (h z (List.mem_of_mem_take hz))⟩
structure RdOk (k : Nat) (rd : List (Nat × Nat)) : Prop where
  len : rd.length = k - 1
  each : ∀ (i : Nat) (r : Nat × Nat), rd[i]? = some r → r.2 = i + 1 ∧ r.1 ≤ i
theorem tree_to {b : Nat} {H : AH} {k n kd : Nat} {q w : Int} {x0 x1 x2 x6 x7 x10 : Option Vl} (hk : 0 < k) (hkd : kd < 5) (D : CS) : ∃ t : Nat, t < k ∧
    (cSeq (cPut (.nm 10) (cF2 fIx (cTup (cCons (cF2 fSub (cVar 8) (cC (.int 1))) (cCons (cC (.int 0)) (cCons (cF2 fSub (cVar 8) (cF2 fMod (cVar 8) (cC (.int 3)))) (cCons (cF fMax (cCons (cC (.int 0)) (cCons (cF2 fSub (cVar 8) (cC (.int 3))) cNil))) (cCons (cF2 fMod (cF2 fDiv (cVar 9) (cC (.int 21))) (cVar 8)) cNil)))))) (cVar 5)))
    (cSeq (cIf (cTst (cF2 (fEqD false) (cVar 5) (cC (.int 2)))) (cPut (.nm 10) (cIfE (cTst (cF2 (fEqD false) (cF2 fMod (cVar 8) (cC (.int 3))) (cC (.int 0)))) (cF2 fSub (cVar 8) (cC (.int 3))) (cF2 fSub (cVar 8) (cF2 fMod (cVar 8) (cC (.int 3)))))) cNx) D))
    ⟨b, [x0, x1, x2, some (.int w), some (.int (n : Int)), some (.int (kd : Int)), x6, x7, some (.int (k : Int)), some (.int q), x10, none, none, none]⟩ H
    = D ⟨b, [x0, x1, x2, some (.int w), some (.int (n : Int)), some (.int (kd : Int)), x6, x7, some (.int (k : Int)), some (.int q), some (.int (t : Int)), none, none, none]⟩ H := by
  let ts : List Int := [(k : Int) - 1, 0, (k : Int) - (k : Int) % 3, if (k : Int) - 3 > 0 then (k : Int) - 3 else 0, q / 21 % (k : Int)]
  obtain ⟨t0, ht0⟩ : ∃ t0, ts[kd]? = some t0 := ⟨_, List.getElem?_eq_getElem (by simpa [ts] using hkd)⟩
  have hk' : (0 : Int) < k := by omega
  have eE : cF2 fIx (cTup (cCons (cF2 fSub (cVar 8) (cC (.int 1))) (cCons (cC (.int 0)) (cCons (cF2 fSub (cVar 8) (cF2 fMod (cVar 8) (cC (.int 3)))) (cCons (cF fMax (cCons (cC (.int 0)) (cCons (cF2 fSub (cVar 8) (cC (.int 3))) cNil))) (cCons (cF2 fMod (cF2 fDiv (cVar 9) (cC (.int 21))) (cVar 8)) cNil)))))) (cVar 5) ⟨b, [x0, x1, x2, some (.int w), some (.int (n : Int)), some (.int (kd : Int)), x6, x7, some (.int (k : Int)), some (.int q), x10, none, none, none]⟩ H = .ok (.int t0) H := by
    simp only [cF2_, cTup_, cCons_, cNil_, cVar_, cF_, List.getElem?_cons_succ, List.getElem?_cons_zero, bind_ok, cC_, fSub_, fMax_, fMod_ (show (0 : Int) < 3 by decide), fMod_ hk', fDiv_ (show (0 : Int) < 21 ∧ (21 : Int) < 1073741824 by decide), List.length_cons, List.length_nil]
    rw [if_pos (by decide)]
    simp only [bind_ok]
    exact fIx_n (n := kd) (xs := ts.map Vl.int) (by rw [List.getElem?_map, ht0]; rfl)
  rw [seq_nx (s := [x0, x1, x2, some (.int w), some (.int (n : Int)), some (.int (kd : Int)), x6, x7, some (.int (k : Int)), some (.int q), some (.int t0), none, none, none]) (A1 := H) (by rw [put_nm eE]; simp)]
  by_cases h2 : kd = 2
  · subst h2
    refine ⟨((if (k : Int) % 3 = 0 then (k : Int) - 3 else (k : Int) - (k : Int) % 3)).toNat, ?_, ?_⟩
    · split <;> omega
    · rw [seq_nx (s := [x0, x1, x2, some (.int w), some (.int (n : Int)), some (.int ((2 : Nat) : Int)), x6, x7, some (.int (k : Int)), some (.int q), some (.int (if (k : Int) % 3 = 0 then (k : Int) - 3 else (k : Int) - (k : Int) % 3)), none, none, none]) (A1 := H) (by
        rw [if_t (tst_ok ((f2_ok (x := .int ((2 : Nat) : Int)) (y := .int 2) (by simp) (by simp)).trans (by rw [fEq_]; rfl)))]
        rw [put_nm (d := .int (if (k : Int) % 3 = 0 then (k : Int) - 3 else (k : Int) - (k : Int) % 3)) (A1 := H) (by
          simp only [cIfE_, cTst_, cF2_, cVar_, List.getElem?_cons_succ, List.getElem?_cons_zero, bind_ok, cC_, fSub_, fMod_ (show (0 : Int) < 3 by decide), fEq_, asB_]
          by_cases h3 : (k : Int) % 3 = 0
          · simp [h3]
          · simp [h3])]
        simp)]
      rw [Int.toNat_of_nonneg (by split <;> omega)]
  · have ht : 0 ≤ t0 ∧ t0 < (k : Int) := by
      match kd, hkd, h2 with
      | 0, _, _ => simp [ts] at ht0; omega
      | 1, _, _ => simp [ts] at ht0; omega
      | 2, _, h => exact absurd rfl h
      | 3, _, _ => simp [ts] at ht0; split at ht0 <;> omega
      | 4, _, _ =>
        simp [ts] at ht0
        have h1 := Int.emod_nonneg (q / 21) (b := (k : Int)) (by omega)
        have h2 := Int.emod_lt_of_pos (q / 21) hk'
        omega
    refine ⟨t0.toNat, by omega, ?_⟩
    rw [seq_nx (s := [x0, x1, x2, some (.int w), some (.int (n : Int)), some (.int (kd : Int)), x6, x7, some (.int (k : Int)), some (.int q), some (.int t0), none, none, none]) (A1 := H) (by
      rw [if_f (tst_ok ((f2_ok (x := .int (kd : Int)) (y := .int 2) (by simp) (by simp)).trans (by rw [fEq_, decide_eq_false (by omega)])))]
      rfl)]
    rw [Int.toNat_of_nonneg ht.1]
abbrev tH (A : AH) (cs : List Int) (L : List Nat) (rd : List (Nat × Nat)) : AH := A ++ [(.lst, cs.map Vl.int), (.lst, L.map iN), (.lst, rd.map rv)]
theorem tree_loop (h34 : LawNumber (R 34)) {A : AH} {cs : List Int} {n kd : Nat} {bb w : Int} {x0 : Option Vl} (n20 : n ≤ 20) (hkd : kd < 5) (c1 : cs ≠ []) (c2 : cs.length ≤ 63) (c3 : ∀ z ∈ cs, lg z ≤ 1048576) (b0 : 0 ≤ bb) (b1 : bb ≤ 10) (hw : lg w ≤ 2000000) : ∀ (m k : Nat) (L : List Nat) (rd : List (Nat × Nat)) (x8 x9 x10 : Option Vl), k + m = n → M.Line k L → RdOk k rd →
    ∃ L' rd' y8 y9 y10, M.Line n L' ∧ RdOk n rd' ∧ forL (.nm 8) (c__law_tree_b0 R) [] A.length ((List.range' k m).map iN) [x0, some (.int bb), some (.loc A.length), some (.int w), some (.int (n : Int)), some (.int (kd : Int)), some (.loc (A.length + 1)), some (.loc (A.length + 2)), x8, x9, x10, none, none, none] (tH A cs L rd)
      = .nx [x0, some (.int bb), some (.loc A.length), some (.int w), some (.int (n : Int)), some (.int (kd : Int)), some (.loc (A.length + 1)), some (.loc (A.length + 2)), y8, y9, y10, none, none, none] (tH A cs L' rd')
  | 0, k, L, rd, x8, x9, x10, hk, hL, hr => by
    have : k = n := by omega
    subst this
    exact ⟨L, rd, x8, x9, x10, hL, hr, by simp [forL]⟩
  | m + 1, k, L, rd, x8, x9, x10, hk, hL, hr => by
    have kl : 0 < cs.length := by
      cases h : cs with
      | nil => exact absurd h c1
      | cons _ _ => simp
    have hA : ∀ L rd, LA (tH A cs L rd) A.length cs := fun L rd => by unfold LA tH; rw [at_app0]; rfl
    have hx0 : 0 ≤ ((k : Int) + bb) % cs.length := Int.emod_nonneg _ (by omega)
    have hx1 : ((k : Int) + bb) % cs.length < cs.length := Int.emod_lt_of_pos _ (by omega)
    have hlt : (((k : Int) + bb) % cs.length).toNat < cs.length := by omega
    have hget : cs[(((k : Int) + bb) % cs.length).toNat]? = some (cs.getD (((k : Int) + bb) % cs.length).toNat 0) := by
      rw [List.getD_eq_getElem?_getD, List.getElem?_eq_getElem hlt]; rfl
    have hix : atI (cs.map Vl.int) (((k : Int) + bb) % cs.length) = some (.int (cs.getD (((k : Int) + bb) % cs.length).toNat 0)) := by
      have := atI_n (xs := cs.map Vl.int) (n := (((k : Int) + bb) % cs.length).toNat) (d := .int (cs.getD (((k : Int) + bb) % cs.length).toNat 0)) (by rw [List.getElem?_map, hget]; rfl)
      rwa [Int.toNat_of_nonneg hx0] at this
    have hlc : lg (cs.getD (((k : Int) + bb) % cs.length).toNat 0) ≤ 2000000 := Nat.le_trans (c3 _ (List.mem_of_getElem? hget)) (by decide)
    have hn := h34 (tH A cs L rd) (cs.getD (((k : Int) + bb) % cs.length).toNat 0) ((k : Int) + bb) w hlc hw (by omega) (by omega)
    have hkl : (0 : Int) < (cs.map Vl.int).length := by simp; omega
    let q : Int := lnum (cs.getD (((k : Int) + bb) % cs.length).toNat 0) ((k : Int) + bb) w / 3
    let i : Nat := (q % ((k : Int) + 1)).toNat
    have hi0 : 0 ≤ q % ((k : Int) + 1) := Int.emod_nonneg _ (by omega)
    have hi1 : q % ((k : Int) + 1) < (k : Int) + 1 := Int.emod_lt_of_pos _ (by omega)
    have hiq : q % ((k : Int) + 1) = (i : Int) := (Int.toNat_of_nonneg hi0).symm
    have hL1 : M.Line (k + 1) (L.take i ++ [k] ++ L.drop i) := hL.ins i
    let sA : Option Vl → Option Vl → List (Option Vl) := fun y9 y10 => [x0, some (.int bb), some (.loc A.length), some (.int w), some (.int (n : Int)), some (.int (kd : Int)), some (.loc (A.length + 1)), some (.loc (A.length + 2)), some (iN k), y9, y10, none, none, none]
    have eb : ∃ rd1 y10, RdOk (k + 1) rd1 ∧ c__law_tree_b0 R ⟨A.length, sA x9 x10⟩ (tH A cs L rd) = .nx (sA (some (.int q)) y10) (tH A cs (L.take i ++ [k] ++ L.drop i) rd1) := by
      have s1 : cPut (.nm 9) (cF2 fDiv (cCall (R 34) (cCons (cF2 fIx (cVar 2) (cF2 fMod (cF2 fAdd (cVar 8) (cVar 1)) (cF fLen (cCons (cVar 2) cNil)))) (cCons (cF2 fAdd (cVar 8) (cVar 1)) (cCons (cVar 3) cNil)))) (cC (.int 3))) ⟨A.length, sA x9 x10⟩ (tH A cs L rd) = .nx (sA (some (.int q)) x10) (tH A cs L rd) := by
        rw [put_nm (d := .int q) (A1 := tH A cs L rd) (by
          simp only [sA, cF2_, cCall_, cCons_, cNil_, cF_, cVar_, List.getElem?_cons_succ, List.getElem?_cons_zero, bind_ok, cC_, fAdd_, fLen_loc (hA L rd), fMod_ hkl, callF_, boxs_cons, boxs_nil, box_int]
          rw [List.length_map, fIx_loc (hA L rd) hix]
          simp only [bind_ok, boxs_cons, boxs_nil, box_int, hn, back_ok, gc_len, fDiv_ (show (0 : Int) < 3 ∧ (3 : Int) < 1073741824 by decide)]
          rfl)]
        simp [sA]
      have hl1 : (tH A cs L rd)[A.length + 1]? = some (.lst, L.map iN) := by unfold tH; rw [at_app]; rfl
      have s2 : cDrop (cM fInsert (cVar 6) (cCons (cF2 fMod (cVar 9) (cF2 fAdd (cVar 8) (cC (.int 1)))) (cCons (cVar 8) cNil))) ⟨A.length, sA (some (.int q)) x10⟩ (tH A cs L rd) = .nx (sA (some (.int q)) x10) (tH A cs (L.take i ++ [k] ++ L.drop i) rd) := by
        rw [cDrop_, cM_loc (l := A.length + 1) (xs := L.map iN) (A1 := tH A cs L rd) (by simp [sA]) hl1]
        have e : cCons (cF2 fMod (cVar 9) (cF2 fAdd (cVar 8) (cC (.int 1)))) (cCons (cVar 8) cNil) ⟨A.length, sA (some (.int q)) x10⟩ (tH A cs L rd) = .ok [.int (i : Int), iN k] (tH A cs L rd) := by
          simp only [sA, cF2_, cCons_, cNil_, cVar_, List.getElem?_cons_succ, List.getElem?_cons_zero, bind_ok, cC_, fAdd_, fMod_ (show (0 : Int) < (k : Int) + 1 by omega), hiq]
        rw [e]
        simp only [bind_ok]
        rw [fInsert_ hl1 rfl (by simp [hL.len]; omega) (by omega) (by omega)]
        simp only
        congr 1
        unfold tH
        rw [set_app]
        simp [List.map_take, List.map_drop]
      unfold c__law_tree_b0
      rw [seq_nx s1, seq_nx s2]
      by_cases h0 : k = 0
      · subst h0
        refine ⟨rd, x10, ⟨by rw [hr.len], hr.each⟩, ?_⟩
        rw [if_f (tst_ok ((f2_ok (x := iN 0) (y := .int 0) (by simp [sA]) (by simp)).trans (by rw [fGt_]; rfl)))]
        rfl
      · rw [if_t (tst_ok ((f2_ok (x := iN k) (y := .int 0) (by simp [sA]) (by simp)).trans (by rw [fGt_, decide_eq_true (by omega)])))]
        obtain ⟨t, ht, e⟩ := tree_to (b := A.length) (H := tH A cs (L.take i ++ [k] ++ L.drop i) rd) (k := k) (n := n) (kd := kd) (q := q) (w := w) (x0 := x0) (x1 := some (.int bb)) (x2 := some (.loc A.length)) (x6 := some (.loc (A.length + 1))) (x7 := some (.loc (A.length + 2))) (x10 := x10) (by omega) hkd (cDrop (cM fAppend (cVar 7) (cCons (cTup (cCons (cVar 10) (cCons (cVar 8) cNil))) cNil)))
        refine ⟨rd ++ [(t, k)], some (.int (t : Int)), ⟨by rw [List.length_append, hr.len]; simp; omega, fun j r ej => ?_⟩, ?_⟩
        · by_cases hj : j < rd.length
          · rw [List.getElem?_append_left hj] at ej
            exact hr.each j r ej
          · have hl := (List.getElem?_eq_some_iff.mp ej).1
            rw [List.length_append, List.length_singleton] at hl
            have hrl := hr.len
            have hj2 : j = rd.length := by omega
            subst hj2
            rw [List.getElem?_append_right (Nat.le_refl _), Nat.sub_self] at ej
            cases ej
            simp only
            omega
        · refine e.trans ?_
          have hl2 : (tH A cs (L.take i ++ [k] ++ L.drop i) rd)[A.length + 2]? = some (.lst, rd.map rv) := by unfold tH; rw [at_app]; rfl
          rw [cDrop_, cM_loc (l := A.length + 2) (xs := rd.map rv) (A1 := tH A cs (L.take i ++ [k] ++ L.drop i) rd) (by simp) hl2]
          have e3 : cCons (cTup (cCons (cVar 10) (cCons (cVar 8) cNil))) cNil ⟨A.length, [x0, some (.int bb), some (.loc A.length), some (.int w), some (.int (n : Int)), some (.int (kd : Int)), some (.loc (A.length + 1)), some (.loc (A.length + 2)), some (.int (k : Int)), some (.int q), some (.int (t : Int)), none, none, none]⟩ (tH A cs (L.take i ++ [k] ++ L.drop i) rd) = .ok [rv (t, k)] (tH A cs (L.take i ++ [k] ++ L.drop i) rd) := by simp
          rw [e3]
          simp only [bind_ok]
          have hrl := hr.len
          rw [fAppend_ hl2 (by simp) (by simp; omega) (by omega)]
          simp only
          congr 1
          unfold tH
          rw [set_app]
          simp
    obtain ⟨rd1, y10, hr1, eb⟩ := eb
    obtain ⟨L', rd', z8, z9, z10, g1, g2, g3⟩ := tree_loop h34 (A := A) (cs := cs) (n := n) (kd := kd) (bb := bb) (w := w) (x0 := x0) n20 hkd c1 c2 c3 b0 b1 hw m (k + 1) _ rd1 (some (iN k)) (some (.int q)) y10 (by omega) hL1 hr1
    refine ⟨L', rd', z8, z9, z10, g1, g2, ?_⟩
    simp only [sA] at eb
    simp only [List.range'_succ, List.map_cons, forL, put_n, List.set_cons_succ, List.set_cons_zero, eb, seen_n, if_true]
    exact g3
end G

set_option Elab.async false
set_option linter.all false
set_option maxRecDepth 100000
set_option maxHeartbeats 4000000
set_option autoImplicit false
namespace Ab
open PySem PySem.Spec PyProof.Rows L2
theorem par_of2 {i j : Nat} {cs : CA} {ρ : Ev} {A A1 A2 : AH} {ds : List Vl} {x y : Vl} (h : cs ρ A = .ok ds A1) (hb : boxs ds A1 = ([x, y], A2)) : cPar i j cs ρ A = .nx ((ρ.s.set i (some x)).set j (some y)) A2 := by
  simp [cPar, h, hb]
end Ab
namespace G
open PySem PySem.Spec PyProof.Rows L2 Ab
def restC (R : Nat → Fn) : CS :=
  (cSeq (cPut (.nm 10) (cCall (R 29) (cCons (cVar 5) (cCons (cF fList (cCons (cVar 6) cNil)) cNil))))
  (cSeq (cDrop (cM fAppend (cVar 3) (cCons (cTup (cCons (cC (.fn 1000)) (cCons (cVar 8) (cCons (cVar 9) cNil)))) cNil)))
  (cSeq (cDrop (cM fAppend (cVar 4) (cCons (cTup (cCons (cC (.fn 1001)) (cCons (cC (.fn 1002)) (cCons (cVar 6) (cCons (cVar 7) cNil))))) cNil)))
  (cSeq (cDrop (cM fAppend (cVar 3) (cCons (cTup (cCons (cC (.fn 1003)) (cCons (cVar 6) (cCons (cVar 7) cNil)))) cNil)))
  (cSeq (cDrop (cM fAppend (cVar 3) (cCons (cTup (cCons (cC (.fn 1004)) (cCons (cVar 10) (cCons (cRgL1 (cVar 5)) cNil)))) cNil)))
  (cSeq (cPut (.nm 11) (cC (.fn 1005)))
  (cSeq (cDrop (cM fAppend (cVar 4) (cCons (cTup (cCons (cC (.fn 1006)) (cCons (cVar 11) (cCons (cLst (cCons (cVar 6) (cCons (cVar 10) cNil))) (cCons (cLst (cCons (cVar 6) (cCons (cF2 fMul (cLst (cCons (cC (.int 0)) cNil)) (cVar 5)) cNil))) cNil))))) cNil)))
  (cSeq (cDrop (cM fAppend (cVar 4) (cCons (cTup (cCons (cC (.fn 1007)) (cCons (cVar 11) (cCons (cLst (cCons (cVar 6) (cCons (cRgL1 (cVar 5)) cNil))) (cCons (cLst (cCons (cVar 7) (cCons (cF2 fMul (cLst (cCons (cF1 fNeg (cC (.int 1))) cNil)) (cVar 5)) cNil))) cNil))))) cNil)))
  (cSeq (cPar 12 13 (cCons (cLst (cCons (cTup (cCons (cC (.int 0)) (cCons (cC (.int 1)) cNil))) (cCons (cTup (cCons (cC (.int 0)) (cCons (cC (.int 2)) cNil))) (cCons (cTup (cCons (cC (.int 0)) (cCons (cC (.int 3)) cNil))) (cCons (cTup (cCons (cC (.int 1)) (cCons (cC (.int 4)) cNil))) (cCons (cTup (cCons (cC (.int 2)) (cCons (cC (.int 5)) cNil))) (cCons (cTup (cCons (cC (.int 3)) (cCons (cC (.int 6)) cNil))) cNil))))))) (cCons (cLc (cRg1 (cC (.int 6))) (.nm 14) cYes (c_law_e4 R) [14]) cNil)))
  (cSeq (cDrop (cM fAppend (cVar 4) (cCons (cTup (cCons (cC (.fn 1008)) (cCons (cC (.fn 1009)) (cCons (cVar 12) (cCons (cVar 13) cNil))))) cNil)))
  (cSeq (cIf (cNot (cTst (cF fAll (cCons (cLcG (enL L66) (cIt (cVar 3)) (.tp [(.nm 15), (.nm 16), (.nm 17)]) cYes (c_law_e5 R) [15, 16, 17]) cNil))))
  (cRet (cC (.bl false)))
  cNx)
  (cRet (cF fAll (cCons (cLcG (enL L66) (cIt (cVar 4)) (.tp [(.nm 15), (.nm 18), (.nm 16), (.nm 17)]) cYes (c_law_e6 R) [15, 18, 16, 17]) cNil))))))))))))))
def setupC (R : Nat → Fn) : CS :=
  (cSeq (cPut (.nm 10) (cCall (R 29) (cCons (cVar 5) (cCons (cF fList (cCons (cVar 6) cNil)) cNil))))
  (cSeq (cDrop (cM fAppend (cVar 3) (cCons (cTup (cCons (cC (.fn 1000)) (cCons (cVar 8) (cCons (cVar 9) cNil)))) cNil)))
  (cSeq (cDrop (cM fAppend (cVar 4) (cCons (cTup (cCons (cC (.fn 1001)) (cCons (cC (.fn 1002)) (cCons (cVar 6) (cCons (cVar 7) cNil))))) cNil)))
  (cSeq (cDrop (cM fAppend (cVar 3) (cCons (cTup (cCons (cC (.fn 1003)) (cCons (cVar 6) (cCons (cVar 7) cNil)))) cNil)))
  (cSeq (cDrop (cM fAppend (cVar 3) (cCons (cTup (cCons (cC (.fn 1004)) (cCons (cVar 10) (cCons (cRgL1 (cVar 5)) cNil)))) cNil)))
  (cSeq (cPut (.nm 11) (cC (.fn 1005)))
  (cSeq (cDrop (cM fAppend (cVar 4) (cCons (cTup (cCons (cC (.fn 1006)) (cCons (cVar 11) (cCons (cLst (cCons (cVar 6) (cCons (cVar 10) cNil))) (cCons (cLst (cCons (cVar 6) (cCons (cF2 fMul (cLst (cCons (cC (.int 0)) cNil)) (cVar 5)) cNil))) cNil))))) cNil)))
  (cSeq (cDrop (cM fAppend (cVar 4) (cCons (cTup (cCons (cC (.fn 1007)) (cCons (cVar 11) (cCons (cLst (cCons (cVar 6) (cCons (cRgL1 (cVar 5)) cNil))) (cCons (cLst (cCons (cVar 7) (cCons (cF2 fMul (cLst (cCons (cF1 fNeg (cC (.int 1))) cNil)) (cVar 5)) cNil))) cNil))))) cNil)))
  (cSeq (cPar 12 13 (cCons (cLst (cCons (cTup (cCons (cC (.int 0)) (cCons (cC (.int 1)) cNil))) (cCons (cTup (cCons (cC (.int 0)) (cCons (cC (.int 2)) cNil))) (cCons (cTup (cCons (cC (.int 0)) (cCons (cC (.int 3)) cNil))) (cCons (cTup (cCons (cC (.int 1)) (cCons (cC (.int 4)) cNil))) (cCons (cTup (cCons (cC (.int 2)) (cCons (cC (.int 5)) cNil))) (cCons (cTup (cCons (cC (.int 3)) (cCons (cC (.int 6)) cNil))) cNil))))))) (cCons (cLc (cRg1 (cC (.int 6))) (.nm 14) cYes (c_law_e4 R) [14]) cNil)))
  (cSeq (cDrop (cM fAppend (cVar 4) (cCons (cTup (cCons (cC (.fn 1008)) (cCons (cC (.fn 1009)) (cCons (cVar 12) (cCons (cVar 13) cNil))))) cNil)))
  cNx))))))))))
def tailC (R : Nat → Fn) : CS :=
  (cSeq (cIf (cNot (cTst (cF fAll (cCons (cLcG (enL L66) (cIt (cVar 3)) (.tp [(.nm 15), (.nm 16), (.nm 17)]) cYes (c_law_e5 R) [15, 16, 17]) cNil))))
  (cRet (cC (.bl false)))
  cNx)
  (cRet (cF fAll (cCons (cLcG (enL L66) (cIt (cVar 4)) (.tp [(.nm 15), (.nm 18), (.nm 16), (.nm 17)]) cYes (c_law_e6 R) [15, 18, 16, 17]) cNil))))
def isTS : SR → Bool
  | .rt (.bl true) _ => true
  | _ => false
theorem isTS_eq {r : SR} (h : isTS r = true) : ∃ A, r = .rt (.bl true) A := by
  unfold isTS at h
  split at h
  · exact ⟨_, rfl⟩
  · cases h
abbrev lineL (m : Nat) : List Vl := (List.range (m - 1)).map fun i => .tup [.int (i : Nat), .int ((i : Nat) + 1)]
abbrev starL (m : Nat) : List Vl := (List.range (m - 1)).map fun i => .tup [.int 0, .int (1 + (i : Nat))]
abbrev strL (m : Nat) : List Vl := (List.range m).map fun i => .int (1 + ((i : Nat) : Int) % 3)
abbrev latL (m : Nat) (r : Int) : List Vl := (List.range m).map fun i => .int (2 + (((i : Nat) : Int) * r) % 4)
abbrev st0 (ns : List Int) (more : Int) : List (Option Vl) := [some (.rol (ns.map Vl.int)), some (.loc 0), some (.int more), none, none, none, none, none, none, none, none, none, none, none, none, none, none, none, none]
abbrev st1 (ns : List Int) (more : Int) (m : Nat) : List (Option Vl) := [some (.rol (ns.map Vl.int)), some (.loc 0), some (.int more), some (.loc 1), some (.loc 2), some (.int (m : Nat)), none, none, none, none, none, none, none, none, none, none, none, none, none]
abbrev st2 (ns : List Int) (more : Int) (m : Nat) : List (Option Vl) := [some (.rol (ns.map Vl.int)), some (.loc 0), some (.int more), some (.loc 1), some (.loc 2), some (.int (m : Nat)), some (.loc 3), some (.loc 4), none, none, none, none, none, none, none, none, none, none, none]
abbrev st3 (ns : List Int) (more : Int) (m : Nat) : List (Option Vl) := [some (.rol (ns.map Vl.int)), some (.loc 0), some (.int more), some (.loc 1), some (.loc 2), some (.int (m : Nat)), some (.loc 3), some (.loc 4), some (.loc 5), some (.loc 6), none, none, none, none, none, none, none, none, none]
abbrev hp1 (C : List Vl) : AH := [(.lst, C), (.lst, []), (.lst, [])]
abbrev hp2 (C : List Vl) (m : Nat) : AH := [(.lst, C), (.lst, []), (.lst, []), (.lst, lineL m), (.lst, starL m)]
abbrev hp3 (C : List Vl) (m : Nat) (r : Int) : AH := [(.lst, C), (.lst, []), (.lst, []), (.lst, lineL m), (.lst, starL m), (.lst, strL m), (.lst, latL m r)]
theorem cSeq_assoc (a b c : CS) : cSeq (cSeq a b) c = cSeq a (cSeq b c) := by
  funext ρ A
  simp only [cSeq]
  cases a ρ A <;> rfl
theorem cSeq_cNx (c : CS) : cSeq cNx c = c := by
  funext ρ A
  rfl
theorem rest_eq (R : Nat → Fn) : restC R = cSeq (setupC R) (tailC R) := by
  simp only [setupC, restC, tailC, cSeq_assoc, cSeq_cNx]
abbrev hp3Z (C : List Vl) (m : Nat) (Z : List Vl) : AH := [(.lst, C), (.lst, []), (.lst, []), (.lst, lineL m), (.lst, starL m), (.lst, strL m), (.lst, Z)]
abbrev stF (ns : List Int) (more : Int) (m : Nat) : List (Option Vl) := [some (.rol (ns.map Vl.int)), some (.loc 0), some (.int more), some (.loc 1), some (.loc 2), some (.int (m : Nat)), some (.loc 3), some (.loc 4), some (.loc 5), some (.loc 6), some (.loc 7), some (.fn 1005), some (.loc 16), some (.loc 17), none, none, none, none, none]
abbrev asksL : List Vl := [.tup [.fn 1000, .loc 5, .loc 6], .tup [.fn 1003, .loc 3, .loc 4], .tup [.fn 1004, .loc 7, .loc 8]]
abbrev freesL : List Vl := [.tup [.fn 1001, .fn 1002, .loc 3, .loc 4], .tup [.fn 1006, .fn 1005, .loc 9, .loc 11], .tup [.fn 1007, .fn 1005, .loc 13, .loc 15], .tup [.fn 1008, .fn 1009, .loc 16, .loc 17]]
abbrev ee (m : Int) : Vl := .tup [.tup [.int 1000], .tup [.int 1001, .int m], .tup [.int 1002, .int m], .tup [.int 1003, .int m], .tup [.int 1004], .tup [.int 1005, .int m], .tup [.int 1006, .int m], .tup [.int 1007, .int m], .tup [.int 1008], .tup [.int 1009]]
theorem tail_ok {R : Nat → Fn} {A : AH} {ns : List Int} {more : Int} {m : Nat} (h1 : A[1]? = some (.lst, asksL)) (h2 : A[2]? = some (.lst, freesL))
    (d0 : R 63 [.fn 1000, .loc 5, .loc 6, ee m] A = .ok (.bl true) A) (d1 : R 63 [.fn 1003, .loc 3, .loc 4, ee m] A = .ok (.bl true) A) (d2 : R 63 [.fn 1004, .loc 7, .loc 8, ee m] A = .ok (.bl true) A)
    (f0 : R 65 [.fn 1001, .fn 1002, .loc 3, .loc 4, ee m] A = .ok (.bl true) A) (f1 : R 65 [.fn 1006, .fn 1005, .loc 9, .loc 11, ee m] A = .ok (.bl true) A) (f2 : R 65 [.fn 1007, .fn 1005, .loc 13, .loc 15, ee m] A = .ok (.bl true) A) (f3 : R 65 [.fn 1008, .fn 1009, .loc 16, .loc 17, ee m] A = .ok (.bl true) A) :
    tailC R ⟨0, stF ns more m⟩ A = .rt (.bl true) A := by
  have c1 : cLcG (enL L66) (cIt (cVar 3)) (.tp [(.nm 15), (.nm 16), (.nm 17)]) cYes (c_law_e5 R) [15, 16, 17] ⟨0, stF ns more m⟩ A = .ok (.new .lst (([(1000, 5, 6), (1003, 3, 4), (1004, 7, 8)] : List (Nat × Nat × Nat)).map fun _ => .bl true)) A := by
    show cLc (cIt (cVar 3)) (.tp [(.nm 15), (.nm 16), (.nm 17)]) cYes (c_law_e5 R (ee m)) [15, 16, 17] ⟨0, stF ns more m⟩ A = _
    refine cLc_map (phi := fun x : Nat × Nat × Nat => .tup [.fn x.1, .loc x.2.1, .loc x.2.2]) (w := [(1, asksL)]) (cIt_loc rfl h1) (by decide) (seen_one h1) fun x hx => ?_
    simp only [List.mem_cons, List.not_mem_nil, or_false] at hx
    rcases hx with rfl | rfl | rfl
    · refine ⟨_, rfl, ?_⟩
      show back A.length (R 63 [.fn 1000, .loc 5, .loc 6, ee m] A) = _
      rw [d0, back_ok, gc_len]
    · refine ⟨_, rfl, ?_⟩
      show back A.length (R 63 [.fn 1003, .loc 3, .loc 4, ee m] A) = _
      rw [d1, back_ok, gc_len]
    · refine ⟨_, rfl, ?_⟩
      show back A.length (R 63 [.fn 1004, .loc 7, .loc 8, ee m] A) = _
      rw [d2, back_ok, gc_len]
  have c2 : cLcG (enL L66) (cIt (cVar 4)) (.tp [(.nm 15), (.nm 18), (.nm 16), (.nm 17)]) cYes (c_law_e6 R) [15, 18, 16, 17] ⟨0, stF ns more m⟩ A = .ok (.new .lst (([(1001, 1002, 3, 4), (1006, 1005, 9, 11), (1007, 1005, 13, 15), (1008, 1009, 16, 17)] : List (Nat × Nat × Nat × Nat)).map fun _ => .bl true)) A := by
    show cLc (cIt (cVar 4)) (.tp [(.nm 15), (.nm 18), (.nm 16), (.nm 17)]) cYes (c_law_e6 R (ee m)) [15, 18, 16, 17] ⟨0, stF ns more m⟩ A = _
    refine cLc_map (phi := fun x : Nat × Nat × Nat × Nat => .tup [.fn x.1, .fn x.2.1, .loc x.2.2.1, .loc x.2.2.2]) (w := [(2, freesL)]) (cIt_loc rfl h2) (by decide) (seen_one h2) fun x hx => ?_
    simp only [List.mem_cons, List.not_mem_nil, or_false] at hx
    rcases hx with rfl | rfl | rfl | rfl
    · refine ⟨_, rfl, ?_⟩
      show back A.length (R 65 [.fn 1001, .fn 1002, .loc 3, .loc 4, ee m] A) = _
      rw [f0, back_ok, gc_len]
    · refine ⟨_, rfl, ?_⟩
      show back A.length (R 65 [.fn 1006, .fn 1005, .loc 9, .loc 11, ee m] A) = _
      rw [f1, back_ok, gc_len]
    · refine ⟨_, rfl, ?_⟩
      show back A.length (R 65 [.fn 1007, .fn 1005, .loc 13, .loc 15, ee m] A) = _
      rw [f2, back_ok, gc_len]
    · refine ⟨_, rfl, ?_⟩
      show back A.length (R 65 [.fn 1008, .fn 1009, .loc 16, .loc 17, ee m] A) = _
      rw [f3, back_ok, gc_len]
  unfold tailC
  rw [seq_nx (s := stF ns more m) (A1 := A)]
  · rw [cRet_, cF_, cCons_, c2]
    rfl
  · rw [cIf_, cNot_, cTst_, cF_, cCons_, c1]
    rfl
theorem step5 (ns : List Int) (more : Int) (C : List Vl) (m : Nat) (h2 : 2 ≤ m) (h10 : m ≤ 10) : cPar 6 7 (cCons (cLc (cRg1 (cF2 fSub (cVar 5) (cC (.int 1)))) (.nm 14) cYes (c_law_e1 (run 9)) [14]) (cCons (cLc (cRg2 (cC (.int 1)) (cVar 5)) (.nm 14) cYes (c_law_e0 (run 9)) [14]) cNil)) ⟨0, st1 ns more m⟩ (hp1 C) = .nx (st2 ns more m) (hp2 C m) := by
  obtain rfl | rfl | rfl | rfl | rfl | rfl | rfl | rfl | rfl : m = 2 ∨ m = 3 ∨ m = 4 ∨ m = 5 ∨ m = 6 ∨ m = 7 ∨ m = 8 ∨ m = 9 ∨ m = 10 := by omega
  all_goals kernel_rfl
theorem lg_sum {B : Nat} : ∀ l : List Int, (∀ z ∈ l, lg z ≤ B) → l.sum.natAbs ≤ l.length * 2 ^ (B + 1)
  | [], _ => by simp
  | x :: r, h => by
    have h1 := lt_lg x
    have h2 : 2 ^ (lg x + 1) ≤ 2 ^ (B + 1) := Nat.pow_le_pow_right (by decide) (by have := h x (by simp); omega)
    have h3 := lg_sum r fun z hz => h z (by simp [hz])
    have h4 : (x + r.sum).natAbs ≤ x.natAbs + r.sum.natAbs := Int.natAbs_add_le _ _
    rw [List.sum_cons, List.length_cons, Nat.succ_mul]
    omega
theorem lg_sum63 {B : Nat} (l : List Int) (h : ∀ z ∈ l, lg z ≤ B) (hl : l.length ≤ 63) : lg l.sum ≤ B + 7 := by
  have h1 := lg_sum l h
  refine lg_lt ?_
  have h2 : l.length * 2 ^ (B + 1) ≤ 63 * 2 ^ (B + 1) := Nat.mul_le_mul_right _ hl
  have h3 : 2 ^ (B + 7) = 64 * 2 ^ (B + 1) := by rw [show B + 7 = 6 + (B + 1) by omega, Nat.pow_add]
  have h4 : 0 < 2 ^ (B + 1) := Nat.pow_pos (by decide)
  omega
theorem step6 (ns : List Int) (more : Int) (C : List Vl) (m : Nat) (h2 : 2 ≤ m) (h10 : m ≤ 10) (hb : lg more ≤ 1048600) : cPar 8 9 (cCons (cLc (cRg1 (cVar 5)) (.nm 14) cYes (c_law_e3 (run 9)) [14]) (cCons (cLc (cRg1 (cVar 5)) (.nm 14) cYes (c_law_e2 (run 9)) [14]) cNil)) ⟨0, st2 ns more m⟩ (hp2 C m) = .nx (st3 ns more m) (hp3 C m (more % 4)) := by
  have e1 : cLc (cRg1 (cVar 5)) (.nm 14) cYes (c_law_e3 (run 9)) [14] ⟨0, st2 ns more m⟩ (hp2 C m) = .ok (.new .lst (strL m)) (hp2 C m) := by
    refine cLc_map (phi := fun i : Nat => Vl.int (i : Int)) (w := []) (cRg1_n (n := m) rfl (by omega)) (by simp; omega) rfl fun x hx => ⟨_, put_n, ?_⟩
    simp only [c_law_e3, wipeS, List.set_cons_succ, List.set_cons_zero, cF2_, cC_, cVar_, List.getElem?_cons_succ, List.getElem?_cons_zero, bind_ok, fMod_ (show (0 : Int) < 3 by decide), fAdd_]
  have e2 : cLc (cRg1 (cVar 5)) (.nm 14) cYes (c_law_e2 (run 9)) [14] ⟨0, st2 ns more m⟩ (hp2 C m) = .ok (.new .lst (latL m (more % 4))) (hp2 C m) := by
    refine cLc_map (phi := fun i : Nat => Vl.int (i : Int)) (w := []) (cRg1_n (n := m) rfl (by omega)) (by simp; omega) rfl fun x hx => ⟨_, put_n, ?_⟩
    have hx : x < 10 := by have := List.mem_range.mp hx; omega
    have hl : lg (x : Int) ≤ 4 := lg_lt (show ((x : Int)).natAbs < 2 ^ 4 by simp; omega)
    have hm : fMul 0 [.int (x : Int), .int more] (hp2 C m) = .ok (.int ((x : Int) * more)) (hp2 C m) := by
      have : (x : Int).natAbs.log2 + more.natAbs.log2 < 100000000 := by
        have h1 : (x : Int).natAbs.log2 ≤ 4 := hl
        have h2 : more.natAbs.log2 ≤ 1048600 := hb
        omega
      have e : ((x : Int)).natAbs = x := Int.natAbs_natCast x
      rw [e] at this
      simp [fMul, this]
    simp only [c_law_e2, wipeS, List.set_cons_succ, List.set_cons_zero, cF2_, cC_, cVar_, List.getElem?_cons_succ, List.getElem?_cons_zero, bind_ok, hm, fMod_ (show (0 : Int) < 4 by decide), fAdd_]
    rw [Int.mul_emod (x : Int) more 4, Int.mul_emod (x : Int) (more % 4) 4, Int.emod_emod]
  refine (par_of2 (ds := [.new .lst (strL m), .new .lst (latL m (more % 4))]) (A1 := hp2 C m) (x := .loc 5) (y := .loc 6) (A2 := hp3 C m (more % 4)) ?_ ?_).trans rfl
  · rw [cCons_, e1, bind_ok, cCons_, e2]
    rfl
  · have p1 : plains (strL m) = true := plains_of fun x hx => by
      obtain ⟨i, _, rfl⟩ := List.mem_map.mp hx
      rfl
    have p2 : plains (latL m (more % 4)) = true := plains_of fun x hx => by
      obtain ⟨i, _, rfl⟩ := List.mem_map.mp hx
      rfl
    rw [boxs_cons, box_new p1, boxs_cons, box_new p2]
    rfl
end G

set_option Elab.async false
set_option linter.all false
set_option maxRecDepth 100000
set_option maxHeartbeats 4000000
set_option autoImplicit false
namespace G
open PySem PySem.Spec PyProof.Rows L2 Ab
theorem f3all (a0 a1 a2 a3 a4 a5 a6 a7 a8 a9 a10 a11 a12 a13 a14 a15 : Kd × List Vl) (m : Int) : run 9 65 [.fn 1008, .fn 1009, .loc 16, .loc 17, ee m] [a0, a1, a2, a3, a4, a5, a6, a7, a8, a9, a10, a11, a12, a13, a14, a15, (.lst, [.tup [.int 0, .int 1], .tup [.int 0, .int 2], .tup [.int 0, .int 3], .tup [.int 1, .int 4], .tup [.int 2, .int 5], .tup [.int 3, .int 6]]), (.lst, [.tup [.int 0, .int 1], .tup [.int 1, .int 2], .tup [.int 2, .int 3], .tup [.int 3, .int 4], .tup [.int 4, .int 5], .tup [.int 5, .int 6]])] = .ok (.bl true) [a0, a1, a2, a3, a4, a5, a6, a7, a8, a9, a10, a11, a12, a13, a14, a15, (.lst, [.tup [.int 0, .int 1], .tup [.int 0, .int 2], .tup [.int 0, .int 3], .tup [.int 1, .int 4], .tup [.int 2, .int 5], .tup [.int 3, .int 6]]), (.lst, [.tup [.int 0, .int 1], .tup [.int 1, .int 2], .tup [.int 2, .int 3], .tup [.int 3, .int 4], .tup [.int 4, .int 5], .tup [.int 5, .int 6]])] := by kernel_rfl
abbrev hpF2 (C Z : List Vl) : AH := [(.lst, C), (.lst, asksL), (.lst, freesL), (.lst, [.tup [.int 0, .int 1]]), (.lst, [.tup [.int 0, .int 1]]), (.lst, [.int 1, .int 2]), (.lst, Z), (.lst, [.int 0, .int 1]), (.lst, [.int 0, .int 1]), (.lst, [.loc 3, .loc 7]), (.lst, [.int 0, .int 0]), (.lst, [.loc 3, .loc 10]), (.lst, [.int 0, .int 1]), (.lst, [.loc 3, .loc 12]), (.lst, [.int (-1), .int (-1)]), (.lst, [.loc 4, .loc 14]), (.lst, [.tup [.int 0, .int 1], .tup [.int 0, .int 2], .tup [.int 0, .int 3], .tup [.int 1, .int 4], .tup [.int 2, .int 5], .tup [.int 3, .int 6]]), (.lst, [.tup [.int 0, .int 1], .tup [.int 1, .int 2], .tup [.int 2, .int 3], .tup [.int 3, .int 4], .tup [.int 4, .int 5], .tup [.int 5, .int 6]])]
theorem set2 (ns : List Int) (more : Int) (C Z : List Vl) : setupC (run 9) ⟨0, st3 ns more 2⟩ (hp3Z C 2 Z) = .nx (stF ns more 2) (hpF2 C Z) := by kernel_rfl
theorem d0_2_0 (C : List Vl) : run 9 63 [.fn 1000, .loc 5, .loc 6, ee 2] (hpF2 C [.int 2, .int 2]) = .ok (.bl true) (hpF2 C [.int 2, .int 2]) := by kernel_rfl
theorem d0_2_1 (C : List Vl) : run 9 63 [.fn 1000, .loc 5, .loc 6, ee 2] (hpF2 C [.int 2, .int 3]) = .ok (.bl true) (hpF2 C [.int 2, .int 3]) := by kernel_rfl
theorem d0_2_2 (C : List Vl) : run 9 63 [.fn 1000, .loc 5, .loc 6, ee 2] (hpF2 C [.int 2, .int 4]) = .ok (.bl true) (hpF2 C [.int 2, .int 4]) := by kernel_rfl
theorem d0_2_3 (C : List Vl) : run 9 63 [.fn 1000, .loc 5, .loc 6, ee 2] (hpF2 C [.int 2, .int 5]) = .ok (.bl true) (hpF2 C [.int 2, .int 5]) := by kernel_rfl
theorem d1_2 (C Z : List Vl) : run 9 63 [.fn 1003, .loc 3, .loc 4, ee 2] (hpF2 C Z) = .ok (.bl true) (hpF2 C Z) := by kernel_rfl
theorem d2_2 (C Z : List Vl) : run 9 63 [.fn 1004, .loc 7, .loc 8, ee 2] (hpF2 C Z) = .ok (.bl true) (hpF2 C Z) := by kernel_rfl
theorem f0_2 (C Z : List Vl) : run 9 65 [.fn 1001, .fn 1002, .loc 3, .loc 4, ee 2] (hpF2 C Z) = .ok (.bl true) (hpF2 C Z) := by kernel_rfl
theorem f1_2 (C Z : List Vl) : run 9 65 [.fn 1006, .fn 1005, .loc 9, .loc 11, ee 2] (hpF2 C Z) = .ok (.bl true) (hpF2 C Z) := by kernel_rfl
theorem f2_2 (C Z : List Vl) : run 9 65 [.fn 1007, .fn 1005, .loc 13, .loc 15, ee 2] (hpF2 C Z) = .ok (.bl true) (hpF2 C Z) := by kernel_rfl
theorem all_2 (ns : List Int) (more : Int) (C : List Vl) (r : Int) (r0 : 0 ≤ r) (r3 : r ≤ 3) : ∃ A, restC (run 9) ⟨0, st3 ns more 2⟩ (hp3 C 2 r) = .rt (.bl true) A := by
  rw [rest_eq, seq_nx (set2 ns more C (latL 2 r))]
  obtain rfl | rfl | rfl | rfl : r = 0 ∨ r = 1 ∨ r = 2 ∨ r = 3 := by omega
  · exact ⟨_, tail_ok (m := 2) rfl rfl (d0_2_0 C) (d1_2 C _) (d2_2 C _) (f0_2 C _) (f1_2 C _) (f2_2 C _) (f3all _ _ _ _ _ _ _ _ _ _ _ _ _ _ _ _ _)⟩
  · exact ⟨_, tail_ok (m := 2) rfl rfl (d0_2_1 C) (d1_2 C _) (d2_2 C _) (f0_2 C _) (f1_2 C _) (f2_2 C _) (f3all _ _ _ _ _ _ _ _ _ _ _ _ _ _ _ _ _)⟩
  · exact ⟨_, tail_ok (m := 2) rfl rfl (d0_2_2 C) (d1_2 C _) (d2_2 C _) (f0_2 C _) (f1_2 C _) (f2_2 C _) (f3all _ _ _ _ _ _ _ _ _ _ _ _ _ _ _ _ _)⟩
  · exact ⟨_, tail_ok (m := 2) rfl rfl (d0_2_3 C) (d1_2 C _) (d2_2 C _) (f0_2 C _) (f1_2 C _) (f2_2 C _) (f3all _ _ _ _ _ _ _ _ _ _ _ _ _ _ _ _ _)⟩
abbrev hpF3 (C Z : List Vl) : AH := [(.lst, C), (.lst, asksL), (.lst, freesL), (.lst, [.tup [.int 0, .int 1], .tup [.int 1, .int 2]]), (.lst, [.tup [.int 0, .int 1], .tup [.int 0, .int 2]]), (.lst, [.int 1, .int 2, .int 3]), (.lst, Z), (.lst, [.int 2, .int 0, .int 1]), (.lst, [.int 0, .int 1, .int 2]), (.lst, [.loc 3, .loc 7]), (.lst, [.int 0, .int 0, .int 0]), (.lst, [.loc 3, .loc 10]), (.lst, [.int 0, .int 1, .int 2]), (.lst, [.loc 3, .loc 12]), (.lst, [.int (-1), .int (-1), .int (-1)]), (.lst, [.loc 4, .loc 14]), (.lst, [.tup [.int 0, .int 1], .tup [.int 0, .int 2], .tup [.int 0, .int 3], .tup [.int 1, .int 4], .tup [.int 2, .int 5], .tup [.int 3, .int 6]]), (.lst, [.tup [.int 0, .int 1], .tup [.int 1, .int 2], .tup [.int 2, .int 3], .tup [.int 3, .int 4], .tup [.int 4, .int 5], .tup [.int 5, .int 6]])]
theorem set3 (ns : List Int) (more : Int) (C Z : List Vl) : setupC (run 9) ⟨0, st3 ns more 3⟩ (hp3Z C 3 Z) = .nx (stF ns more 3) (hpF3 C Z) := by kernel_rfl
theorem d0_3_0 (C : List Vl) : run 9 63 [.fn 1000, .loc 5, .loc 6, ee 3] (hpF3 C [.int 2, .int 2, .int 2]) = .ok (.bl true) (hpF3 C [.int 2, .int 2, .int 2]) := by kernel_rfl
theorem d0_3_1 (C : List Vl) : run 9 63 [.fn 1000, .loc 5, .loc 6, ee 3] (hpF3 C [.int 2, .int 3, .int 4]) = .ok (.bl true) (hpF3 C [.int 2, .int 3, .int 4]) := by kernel_rfl
theorem d0_3_2 (C : List Vl) : run 9 63 [.fn 1000, .loc 5, .loc 6, ee 3] (hpF3 C [.int 2, .int 4, .int 2]) = .ok (.bl true) (hpF3 C [.int 2, .int 4, .int 2]) := by kernel_rfl
theorem d0_3_3 (C : List Vl) : run 9 63 [.fn 1000, .loc 5, .loc 6, ee 3] (hpF3 C [.int 2, .int 5, .int 4]) = .ok (.bl true) (hpF3 C [.int 2, .int 5, .int 4]) := by kernel_rfl
theorem d1_3 (C Z : List Vl) : run 9 63 [.fn 1003, .loc 3, .loc 4, ee 3] (hpF3 C Z) = .ok (.bl true) (hpF3 C Z) := by kernel_rfl
theorem d2_3 (C Z : List Vl) : run 9 63 [.fn 1004, .loc 7, .loc 8, ee 3] (hpF3 C Z) = .ok (.bl true) (hpF3 C Z) := by kernel_rfl
theorem f0_3 (C Z : List Vl) : run 9 65 [.fn 1001, .fn 1002, .loc 3, .loc 4, ee 3] (hpF3 C Z) = .ok (.bl true) (hpF3 C Z) := by kernel_rfl
theorem f1_3 (C Z : List Vl) : run 9 65 [.fn 1006, .fn 1005, .loc 9, .loc 11, ee 3] (hpF3 C Z) = .ok (.bl true) (hpF3 C Z) := by kernel_rfl
theorem f2_3 (C Z : List Vl) : run 9 65 [.fn 1007, .fn 1005, .loc 13, .loc 15, ee 3] (hpF3 C Z) = .ok (.bl true) (hpF3 C Z) := by kernel_rfl
theorem all_3 (ns : List Int) (more : Int) (C : List Vl) (r : Int) (r0 : 0 ≤ r) (r3 : r ≤ 3) : ∃ A, restC (run 9) ⟨0, st3 ns more 3⟩ (hp3 C 3 r) = .rt (.bl true) A := by
  rw [rest_eq, seq_nx (set3 ns more C (latL 3 r))]
  obtain rfl | rfl | rfl | rfl : r = 0 ∨ r = 1 ∨ r = 2 ∨ r = 3 := by omega
  · exact ⟨_, tail_ok (m := 3) rfl rfl (d0_3_0 C) (d1_3 C _) (d2_3 C _) (f0_3 C _) (f1_3 C _) (f2_3 C _) (f3all _ _ _ _ _ _ _ _ _ _ _ _ _ _ _ _ _)⟩
  · exact ⟨_, tail_ok (m := 3) rfl rfl (d0_3_1 C) (d1_3 C _) (d2_3 C _) (f0_3 C _) (f1_3 C _) (f2_3 C _) (f3all _ _ _ _ _ _ _ _ _ _ _ _ _ _ _ _ _)⟩
  · exact ⟨_, tail_ok (m := 3) rfl rfl (d0_3_2 C) (d1_3 C _) (d2_3 C _) (f0_3 C _) (f1_3 C _) (f2_3 C _) (f3all _ _ _ _ _ _ _ _ _ _ _ _ _ _ _ _ _)⟩
  · exact ⟨_, tail_ok (m := 3) rfl rfl (d0_3_3 C) (d1_3 C _) (d2_3 C _) (f0_3 C _) (f1_3 C _) (f2_3 C _) (f3all _ _ _ _ _ _ _ _ _ _ _ _ _ _ _ _ _)⟩
abbrev hpF4 (C Z : List Vl) : AH := [(.lst, C), (.lst, asksL), (.lst, freesL), (.lst, [.tup [.int 0, .int 1], .tup [.int 1, .int 2], .tup [.int 2, .int 3]]), (.lst, [.tup [.int 0, .int 1], .tup [.int 0, .int 2], .tup [.int 0, .int 3]]), (.lst, [.int 1, .int 2, .int 3, .int 1]), (.lst, Z), (.lst, [.int 3, .int 0, .int 2, .int 1]), (.lst, [.int 0, .int 1, .int 2, .int 3]), (.lst, [.loc 3, .loc 7]), (.lst, [.int 0, .int 0, .int 0, .int 0]), (.lst, [.loc 3, .loc 10]), (.lst, [.int 0, .int 1, .int 2, .int 3]), (.lst, [.loc 3, .loc 12]), (.lst, [.int (-1), .int (-1), .int (-1), .int (-1)]), (.lst, [.loc 4, .loc 14]), (.lst, [.tup [.int 0, .int 1], .tup [.int 0, .int 2], .tup [.int 0, .int 3], .tup [.int 1, .int 4], .tup [.int 2, .int 5], .tup [.int 3, .int 6]]), (.lst, [.tup [.int 0, .int 1], .tup [.int 1, .int 2], .tup [.int 2, .int 3], .tup [.int 3, .int 4], .tup [.int 4, .int 5], .tup [.int 5, .int 6]])]
theorem set4 (ns : List Int) (more : Int) (C Z : List Vl) : setupC (run 9) ⟨0, st3 ns more 4⟩ (hp3Z C 4 Z) = .nx (stF ns more 4) (hpF4 C Z) := by kernel_rfl
theorem d0_4_0 (C : List Vl) : run 9 63 [.fn 1000, .loc 5, .loc 6, ee 4] (hpF4 C [.int 2, .int 2, .int 2, .int 2]) = .ok (.bl true) (hpF4 C [.int 2, .int 2, .int 2, .int 2]) := by kernel_rfl
theorem d0_4_1 (C : List Vl) : run 9 63 [.fn 1000, .loc 5, .loc 6, ee 4] (hpF4 C [.int 2, .int 3, .int 4, .int 5]) = .ok (.bl true) (hpF4 C [.int 2, .int 3, .int 4, .int 5]) := by kernel_rfl
theorem d0_4_2 (C : List Vl) : run 9 63 [.fn 1000, .loc 5, .loc 6, ee 4] (hpF4 C [.int 2, .int 4, .int 2, .int 4]) = .ok (.bl true) (hpF4 C [.int 2, .int 4, .int 2, .int 4]) := by kernel_rfl
theorem d0_4_3 (C : List Vl) : run 9 63 [.fn 1000, .loc 5, .loc 6, ee 4] (hpF4 C [.int 2, .int 5, .int 4, .int 3]) = .ok (.bl true) (hpF4 C [.int 2, .int 5, .int 4, .int 3]) := by kernel_rfl
theorem d1_4 (C Z : List Vl) : run 9 63 [.fn 1003, .loc 3, .loc 4, ee 4] (hpF4 C Z) = .ok (.bl true) (hpF4 C Z) := by kernel_rfl
theorem d2_4 (C Z : List Vl) : run 9 63 [.fn 1004, .loc 7, .loc 8, ee 4] (hpF4 C Z) = .ok (.bl true) (hpF4 C Z) := by kernel_rfl
theorem f0_4 (C Z : List Vl) : run 9 65 [.fn 1001, .fn 1002, .loc 3, .loc 4, ee 4] (hpF4 C Z) = .ok (.bl true) (hpF4 C Z) := by kernel_rfl
theorem f1_4 (C Z : List Vl) : run 9 65 [.fn 1006, .fn 1005, .loc 9, .loc 11, ee 4] (hpF4 C Z) = .ok (.bl true) (hpF4 C Z) := by kernel_rfl
theorem f2_4 (C Z : List Vl) : run 9 65 [.fn 1007, .fn 1005, .loc 13, .loc 15, ee 4] (hpF4 C Z) = .ok (.bl true) (hpF4 C Z) := by kernel_rfl
theorem all_4 (ns : List Int) (more : Int) (C : List Vl) (r : Int) (r0 : 0 ≤ r) (r3 : r ≤ 3) : ∃ A, restC (run 9) ⟨0, st3 ns more 4⟩ (hp3 C 4 r) = .rt (.bl true) A := by
  rw [rest_eq, seq_nx (set4 ns more C (latL 4 r))]
  obtain rfl | rfl | rfl | rfl : r = 0 ∨ r = 1 ∨ r = 2 ∨ r = 3 := by omega
  · exact ⟨_, tail_ok (m := 4) rfl rfl (d0_4_0 C) (d1_4 C _) (d2_4 C _) (f0_4 C _) (f1_4 C _) (f2_4 C _) (f3all _ _ _ _ _ _ _ _ _ _ _ _ _ _ _ _ _)⟩
  · exact ⟨_, tail_ok (m := 4) rfl rfl (d0_4_1 C) (d1_4 C _) (d2_4 C _) (f0_4 C _) (f1_4 C _) (f2_4 C _) (f3all _ _ _ _ _ _ _ _ _ _ _ _ _ _ _ _ _)⟩
  · exact ⟨_, tail_ok (m := 4) rfl rfl (d0_4_2 C) (d1_4 C _) (d2_4 C _) (f0_4 C _) (f1_4 C _) (f2_4 C _) (f3all _ _ _ _ _ _ _ _ _ _ _ _ _ _ _ _ _)⟩
  · exact ⟨_, tail_ok (m := 4) rfl rfl (d0_4_3 C) (d1_4 C _) (d2_4 C _) (f0_4 C _) (f1_4 C _) (f2_4 C _) (f3all _ _ _ _ _ _ _ _ _ _ _ _ _ _ _ _ _)⟩
abbrev hpF5 (C Z : List Vl) : AH := [(.lst, C), (.lst, asksL), (.lst, freesL), (.lst, [.tup [.int 0, .int 1], .tup [.int 1, .int 2], .tup [.int 2, .int 3], .tup [.int 3, .int 4]]), (.lst, [.tup [.int 0, .int 1], .tup [.int 0, .int 2], .tup [.int 0, .int 3], .tup [.int 0, .int 4]]), (.lst, [.int 1, .int 2, .int 3, .int 1, .int 2]), (.lst, Z), (.lst, [.int 4, .int 0, .int 3, .int 1, .int 2]), (.lst, [.int 0, .int 1, .int 2, .int 3, .int 4]), (.lst, [.loc 3, .loc 7]), (.lst, [.int 0, .int 0, .int 0, .int 0, .int 0]), (.lst, [.loc 3, .loc 10]), (.lst, [.int 0, .int 1, .int 2, .int 3, .int 4]), (.lst, [.loc 3, .loc 12]), (.lst, [.int (-1), .int (-1), .int (-1), .int (-1), .int (-1)]), (.lst, [.loc 4, .loc 14]), (.lst, [.tup [.int 0, .int 1], .tup [.int 0, .int 2], .tup [.int 0, .int 3], .tup [.int 1, .int 4], .tup [.int 2, .int 5], .tup [.int 3, .int 6]]), (.lst, [.tup [.int 0, .int 1], .tup [.int 1, .int 2], .tup [.int 2, .int 3], .tup [.int 3, .int 4], .tup [.int 4, .int 5], .tup [.int 5, .int 6]])]
theorem set5 (ns : List Int) (more : Int) (C Z : List Vl) : setupC (run 9) ⟨0, st3 ns more 5⟩ (hp3Z C 5 Z) = .nx (stF ns more 5) (hpF5 C Z) := by kernel_rfl
theorem d0_5_0 (C : List Vl) : run 9 63 [.fn 1000, .loc 5, .loc 6, ee 5] (hpF5 C [.int 2, .int 2, .int 2, .int 2, .int 2]) = .ok (.bl true) (hpF5 C [.int 2, .int 2, .int 2, .int 2, .int 2]) := by kernel_rfl
theorem d0_5_1 (C : List Vl) : run 9 63 [.fn 1000, .loc 5, .loc 6, ee 5] (hpF5 C [.int 2, .int 3, .int 4, .int 5, .int 2]) = .ok (.bl true) (hpF5 C [.int 2, .int 3, .int 4, .int 5, .int 2]) := by kernel_rfl
theorem d0_5_2 (C : List Vl) : run 9 63 [.fn 1000, .loc 5, .loc 6, ee 5] (hpF5 C [.int 2, .int 4, .int 2, .int 4, .int 2]) = .ok (.bl true) (hpF5 C [.int 2, .int 4, .int 2, .int 4, .int 2]) := by kernel_rfl
theorem d0_5_3 (C : List Vl) : run 9 63 [.fn 1000, .loc 5, .loc 6, ee 5] (hpF5 C [.int 2, .int 5, .int 4, .int 3, .int 2]) = .ok (.bl true) (hpF5 C [.int 2, .int 5, .int 4, .int 3, .int 2]) := by kernel_rfl
theorem d1_5 (C Z : List Vl) : run 9 63 [.fn 1003, .loc 3, .loc 4, ee 5] (hpF5 C Z) = .ok (.bl true) (hpF5 C Z) := by kernel_rfl
theorem d2_5 (C Z : List Vl) : run 9 63 [.fn 1004, .loc 7, .loc 8, ee 5] (hpF5 C Z) = .ok (.bl true) (hpF5 C Z) := by kernel_rfl
theorem f0_5 (C Z : List Vl) : run 9 65 [.fn 1001, .fn 1002, .loc 3, .loc 4, ee 5] (hpF5 C Z) = .ok (.bl true) (hpF5 C Z) := by kernel_rfl
theorem f1_5 (C Z : List Vl) : run 9 65 [.fn 1006, .fn 1005, .loc 9, .loc 11, ee 5] (hpF5 C Z) = .ok (.bl true) (hpF5 C Z) := by kernel_rfl
theorem f2_5 (C Z : List Vl) : run 9 65 [.fn 1007, .fn 1005, .loc 13, .loc 15, ee 5] (hpF5 C Z) = .ok (.bl true) (hpF5 C Z) := by kernel_rfl
theorem all_5 (ns : List Int) (more : Int) (C : List Vl) (r : Int) (r0 : 0 ≤ r) (r3 : r ≤ 3) : ∃ A, restC (run 9) ⟨0, st3 ns more 5⟩ (hp3 C 5 r) = .rt (.bl true) A := by
  rw [rest_eq, seq_nx (set5 ns more C (latL 5 r))]
  obtain rfl | rfl | rfl | rfl : r = 0 ∨ r = 1 ∨ r = 2 ∨ r = 3 := by omega
  · exact ⟨_, tail_ok (m := 5) rfl rfl (d0_5_0 C) (d1_5 C _) (d2_5 C _) (f0_5 C _) (f1_5 C _) (f2_5 C _) (f3all _ _ _ _ _ _ _ _ _ _ _ _ _ _ _ _ _)⟩
  · exact ⟨_, tail_ok (m := 5) rfl rfl (d0_5_1 C) (d1_5 C _) (d2_5 C _) (f0_5 C _) (f1_5 C _) (f2_5 C _) (f3all _ _ _ _ _ _ _ _ _ _ _ _ _ _ _ _ _)⟩
  · exact ⟨_, tail_ok (m := 5) rfl rfl (d0_5_2 C) (d1_5 C _) (d2_5 C _) (f0_5 C _) (f1_5 C _) (f2_5 C _) (f3all _ _ _ _ _ _ _ _ _ _ _ _ _ _ _ _ _)⟩
  · exact ⟨_, tail_ok (m := 5) rfl rfl (d0_5_3 C) (d1_5 C _) (d2_5 C _) (f0_5 C _) (f1_5 C _) (f2_5 C _) (f3all _ _ _ _ _ _ _ _ _ _ _ _ _ _ _ _ _)⟩
end G

set_option Elab.async false
set_option linter.all false
set_option maxRecDepth 100000
set_option maxHeartbeats 4000000
set_option autoImplicit false
namespace G
open PySem PySem.Spec PyProof.Rows L2 Ab
abbrev hpF6 (C Z : List Vl) : AH := [(.lst, C), (.lst, asksL), (.lst, freesL), (.lst, [.tup [.int 0, .int 1], .tup [.int 1, .int 2], .tup [.int 2, .int 3], .tup [.int 3, .int 4], .tup [.int 4, .int 5]]), (.lst, [.tup [.int 0, .int 1], .tup [.int 0, .int 2], .tup [.int 0, .int 3], .tup [.int 0, .int 4], .tup [.int 0, .int 5]]), (.lst, [.int 1, .int 2, .int 3, .int 1, .int 2, .int 3]), (.lst, Z), (.lst, [.int 5, .int 0, .int 4, .int 1, .int 3, .int 2]), (.lst, [.int 0, .int 1, .int 2, .int 3, .int 4, .int 5]), (.lst, [.loc 3, .loc 7]), (.lst, [.int 0, .int 0, .int 0, .int 0, .int 0, .int 0]), (.lst, [.loc 3, .loc 10]), (.lst, [.int 0, .int 1, .int 2, .int 3, .int 4, .int 5]), (.lst, [.loc 3, .loc 12]), (.lst, [.int (-1), .int (-1), .int (-1), .int (-1), .int (-1), .int (-1)]), (.lst, [.loc 4, .loc 14]), (.lst, [.tup [.int 0, .int 1], .tup [.int 0, .int 2], .tup [.int 0, .int 3], .tup [.int 1, .int 4], .tup [.int 2, .int 5], .tup [.int 3, .int 6]]), (.lst, [.tup [.int 0, .int 1], .tup [.int 1, .int 2], .tup [.int 2, .int 3], .tup [.int 3, .int 4], .tup [.int 4, .int 5], .tup [.int 5, .int 6]])]
theorem set6 (ns : List Int) (more : Int) (C Z : List Vl) : setupC (run 9) ⟨0, st3 ns more 6⟩ (hp3Z C 6 Z) = .nx (stF ns more 6) (hpF6 C Z) := by kernel_rfl
theorem d0_6_0 (C : List Vl) : run 9 63 [.fn 1000, .loc 5, .loc 6, ee 6] (hpF6 C [.int 2, .int 2, .int 2, .int 2, .int 2, .int 2]) = .ok (.bl true) (hpF6 C [.int 2, .int 2, .int 2, .int 2, .int 2, .int 2]) := by kernel_rfl
theorem d0_6_1 (C : List Vl) : run 9 63 [.fn 1000, .loc 5, .loc 6, ee 6] (hpF6 C [.int 2, .int 3, .int 4, .int 5, .int 2, .int 3]) = .ok (.bl true) (hpF6 C [.int 2, .int 3, .int 4, .int 5, .int 2, .int 3]) := by kernel_rfl
theorem d0_6_2 (C : List Vl) : run 9 63 [.fn 1000, .loc 5, .loc 6, ee 6] (hpF6 C [.int 2, .int 4, .int 2, .int 4, .int 2, .int 4]) = .ok (.bl true) (hpF6 C [.int 2, .int 4, .int 2, .int 4, .int 2, .int 4]) := by kernel_rfl
theorem d0_6_3 (C : List Vl) : run 9 63 [.fn 1000, .loc 5, .loc 6, ee 6] (hpF6 C [.int 2, .int 5, .int 4, .int 3, .int 2, .int 5]) = .ok (.bl true) (hpF6 C [.int 2, .int 5, .int 4, .int 3, .int 2, .int 5]) := by kernel_rfl
theorem d1_6 (C Z : List Vl) : run 9 63 [.fn 1003, .loc 3, .loc 4, ee 6] (hpF6 C Z) = .ok (.bl true) (hpF6 C Z) := by kernel_rfl
theorem d2_6 (C Z : List Vl) : run 9 63 [.fn 1004, .loc 7, .loc 8, ee 6] (hpF6 C Z) = .ok (.bl true) (hpF6 C Z) := by kernel_rfl
theorem f0_6 (C Z : List Vl) : run 9 65 [.fn 1001, .fn 1002, .loc 3, .loc 4, ee 6] (hpF6 C Z) = .ok (.bl true) (hpF6 C Z) := by kernel_rfl
theorem f1_6 (C Z : List Vl) : run 9 65 [.fn 1006, .fn 1005, .loc 9, .loc 11, ee 6] (hpF6 C Z) = .ok (.bl true) (hpF6 C Z) := by kernel_rfl
theorem f2_6 (C Z : List Vl) : run 9 65 [.fn 1007, .fn 1005, .loc 13, .loc 15, ee 6] (hpF6 C Z) = .ok (.bl true) (hpF6 C Z) := by kernel_rfl
theorem all_6 (ns : List Int) (more : Int) (C : List Vl) (r : Int) (r0 : 0 ≤ r) (r3 : r ≤ 3) : ∃ A, restC (run 9) ⟨0, st3 ns more 6⟩ (hp3 C 6 r) = .rt (.bl true) A := by
  rw [rest_eq, seq_nx (set6 ns more C (latL 6 r))]
  obtain rfl | rfl | rfl | rfl : r = 0 ∨ r = 1 ∨ r = 2 ∨ r = 3 := by omega
  · exact ⟨_, tail_ok (m := 6) rfl rfl (d0_6_0 C) (d1_6 C _) (d2_6 C _) (f0_6 C _) (f1_6 C _) (f2_6 C _) (f3all _ _ _ _ _ _ _ _ _ _ _ _ _ _ _ _ _)⟩
  · exact ⟨_, tail_ok (m := 6) rfl rfl (d0_6_1 C) (d1_6 C _) (d2_6 C _) (f0_6 C _) (f1_6 C _) (f2_6 C _) (f3all _ _ _ _ _ _ _ _ _ _ _ _ _ _ _ _ _)⟩
  · exact ⟨_, tail_ok (m := 6) rfl rfl (d0_6_2 C) (d1_6 C _) (d2_6 C _) (f0_6 C _) (f1_6 C _) (f2_6 C _) (f3all _ _ _ _ _ _ _ _ _ _ _ _ _ _ _ _ _)⟩
  · exact ⟨_, tail_ok (m := 6) rfl rfl (d0_6_3 C) (d1_6 C _) (d2_6 C _) (f0_6 C _) (f1_6 C _) (f2_6 C _) (f3all _ _ _ _ _ _ _ _ _ _ _ _ _ _ _ _ _)⟩
abbrev hpF7 (C Z : List Vl) : AH := [(.lst, C), (.lst, asksL), (.lst, freesL), (.lst, [.tup [.int 0, .int 1], .tup [.int 1, .int 2], .tup [.int 2, .int 3], .tup [.int 3, .int 4], .tup [.int 4, .int 5], .tup [.int 5, .int 6]]), (.lst, [.tup [.int 0, .int 1], .tup [.int 0, .int 2], .tup [.int 0, .int 3], .tup [.int 0, .int 4], .tup [.int 0, .int 5], .tup [.int 0, .int 6]]), (.lst, [.int 1, .int 2, .int 3, .int 1, .int 2, .int 3, .int 1]), (.lst, Z), (.lst, [.int 6, .int 0, .int 5, .int 1, .int 4, .int 2, .int 3]), (.lst, [.int 0, .int 1, .int 2, .int 3, .int 4, .int 5, .int 6]), (.lst, [.loc 3, .loc 7]), (.lst, [.int 0, .int 0, .int 0, .int 0, .int 0, .int 0, .int 0]), (.lst, [.loc 3, .loc 10]), (.lst, [.int 0, .int 1, .int 2, .int 3, .int 4, .int 5, .int 6]), (.lst, [.loc 3, .loc 12]), (.lst, [.int (-1), .int (-1), .int (-1), .int (-1), .int (-1), .int (-1), .int (-1)]), (.lst, [.loc 4, .loc 14]), (.lst, [.tup [.int 0, .int 1], .tup [.int 0, .int 2], .tup [.int 0, .int 3], .tup [.int 1, .int 4], .tup [.int 2, .int 5], .tup [.int 3, .int 6]]), (.lst, [.tup [.int 0, .int 1], .tup [.int 1, .int 2], .tup [.int 2, .int 3], .tup [.int 3, .int 4], .tup [.int 4, .int 5], .tup [.int 5, .int 6]])]
theorem set7 (ns : List Int) (more : Int) (C Z : List Vl) : setupC (run 9) ⟨0, st3 ns more 7⟩ (hp3Z C 7 Z) = .nx (stF ns more 7) (hpF7 C Z) := by kernel_rfl
theorem d0_7_0 (C : List Vl) : run 9 63 [.fn 1000, .loc 5, .loc 6, ee 7] (hpF7 C [.int 2, .int 2, .int 2, .int 2, .int 2, .int 2, .int 2]) = .ok (.bl true) (hpF7 C [.int 2, .int 2, .int 2, .int 2, .int 2, .int 2, .int 2]) := by kernel_rfl
theorem d0_7_1 (C : List Vl) : run 9 63 [.fn 1000, .loc 5, .loc 6, ee 7] (hpF7 C [.int 2, .int 3, .int 4, .int 5, .int 2, .int 3, .int 4]) = .ok (.bl true) (hpF7 C [.int 2, .int 3, .int 4, .int 5, .int 2, .int 3, .int 4]) := by kernel_rfl
theorem d0_7_2 (C : List Vl) : run 9 63 [.fn 1000, .loc 5, .loc 6, ee 7] (hpF7 C [.int 2, .int 4, .int 2, .int 4, .int 2, .int 4, .int 2]) = .ok (.bl true) (hpF7 C [.int 2, .int 4, .int 2, .int 4, .int 2, .int 4, .int 2]) := by kernel_rfl
theorem d0_7_3 (C : List Vl) : run 9 63 [.fn 1000, .loc 5, .loc 6, ee 7] (hpF7 C [.int 2, .int 5, .int 4, .int 3, .int 2, .int 5, .int 4]) = .ok (.bl true) (hpF7 C [.int 2, .int 5, .int 4, .int 3, .int 2, .int 5, .int 4]) := by kernel_rfl
theorem d1_7 (C Z : List Vl) : run 9 63 [.fn 1003, .loc 3, .loc 4, ee 7] (hpF7 C Z) = .ok (.bl true) (hpF7 C Z) := by kernel_rfl
theorem d2_7 (C Z : List Vl) : run 9 63 [.fn 1004, .loc 7, .loc 8, ee 7] (hpF7 C Z) = .ok (.bl true) (hpF7 C Z) := by kernel_rfl
theorem f0_7 (C Z : List Vl) : run 9 65 [.fn 1001, .fn 1002, .loc 3, .loc 4, ee 7] (hpF7 C Z) = .ok (.bl true) (hpF7 C Z) := by kernel_rfl
theorem f1_7 (C Z : List Vl) : run 9 65 [.fn 1006, .fn 1005, .loc 9, .loc 11, ee 7] (hpF7 C Z) = .ok (.bl true) (hpF7 C Z) := by kernel_rfl
theorem f2_7 (C Z : List Vl) : run 9 65 [.fn 1007, .fn 1005, .loc 13, .loc 15, ee 7] (hpF7 C Z) = .ok (.bl true) (hpF7 C Z) := by kernel_rfl
theorem all_7 (ns : List Int) (more : Int) (C : List Vl) (r : Int) (r0 : 0 ≤ r) (r3 : r ≤ 3) : ∃ A, restC (run 9) ⟨0, st3 ns more 7⟩ (hp3 C 7 r) = .rt (.bl true) A := by
  rw [rest_eq, seq_nx (set7 ns more C (latL 7 r))]
  obtain rfl | rfl | rfl | rfl : r = 0 ∨ r = 1 ∨ r = 2 ∨ r = 3 := by omega
  · exact ⟨_, tail_ok (m := 7) rfl rfl (d0_7_0 C) (d1_7 C _) (d2_7 C _) (f0_7 C _) (f1_7 C _) (f2_7 C _) (f3all _ _ _ _ _ _ _ _ _ _ _ _ _ _ _ _ _)⟩
  · exact ⟨_, tail_ok (m := 7) rfl rfl (d0_7_1 C) (d1_7 C _) (d2_7 C _) (f0_7 C _) (f1_7 C _) (f2_7 C _) (f3all _ _ _ _ _ _ _ _ _ _ _ _ _ _ _ _ _)⟩
  · exact ⟨_, tail_ok (m := 7) rfl rfl (d0_7_2 C) (d1_7 C _) (d2_7 C _) (f0_7 C _) (f1_7 C _) (f2_7 C _) (f3all _ _ _ _ _ _ _ _ _ _ _ _ _ _ _ _ _)⟩
  · exact ⟨_, tail_ok (m := 7) rfl rfl (d0_7_3 C) (d1_7 C _) (d2_7 C _) (f0_7 C _) (f1_7 C _) (f2_7 C _) (f3all _ _ _ _ _ _ _ _ _ _ _ _ _ _ _ _ _)⟩
end G

set_option Elab.async false
set_option linter.all false
set_option maxRecDepth 100000
set_option maxHeartbeats 4000000
set_option autoImplicit false
namespace G
open PySem PySem.Spec PyProof.Rows L2 Ab
abbrev hpF8 (C Z : List Vl) : AH := [(.lst, C), (.lst, asksL), (.lst, freesL), (.lst, [.tup [.int 0, .int 1], .tup [.int 1, .int 2], .tup [.int 2, .int 3], .tup [.int 3, .int 4], .tup [.int 4, .int 5], .tup [.int 5, .int 6], .tup [.int 6, .int 7]]), (.lst, [.tup [.int 0, .int 1], .tup [.int 0, .int 2], .tup [.int 0, .int 3], .tup [.int 0, .int 4], .tup [.int 0, .int 5], .tup [.int 0, .int 6], .tup [.int 0, .int 7]]), (.lst, [.int 1, .int 2, .int 3, .int 1, .int 2, .int 3, .int 1, .int 2]), (.lst, Z), (.lst, [.int 7, .int 0, .int 6, .int 1, .int 5, .int 2, .int 4, .int 3]), (.lst, [.int 0, .int 1, .int 2, .int 3, .int 4, .int 5, .int 6, .int 7]), (.lst, [.loc 3, .loc 7]), (.lst, [.int 0, .int 0, .int 0, .int 0, .int 0, .int 0, .int 0, .int 0]), (.lst, [.loc 3, .loc 10]), (.lst, [.int 0, .int 1, .int 2, .int 3, .int 4, .int 5, .int 6, .int 7]), (.lst, [.loc 3, .loc 12]), (.lst, [.int (-1), .int (-1), .int (-1), .int (-1), .int (-1), .int (-1), .int (-1), .int (-1)]), (.lst, [.loc 4, .loc 14]), (.lst, [.tup [.int 0, .int 1], .tup [.int 0, .int 2], .tup [.int 0, .int 3], .tup [.int 1, .int 4], .tup [.int 2, .int 5], .tup [.int 3, .int 6]]), (.lst, [.tup [.int 0, .int 1], .tup [.int 1, .int 2], .tup [.int 2, .int 3], .tup [.int 3, .int 4], .tup [.int 4, .int 5], .tup [.int 5, .int 6]])]
theorem set8 (ns : List Int) (more : Int) (C Z : List Vl) : setupC (run 9) ⟨0, st3 ns more 8⟩ (hp3Z C 8 Z) = .nx (stF ns more 8) (hpF8 C Z) := by kernel_rfl
theorem d0_8_0 (C : List Vl) : run 9 63 [.fn 1000, .loc 5, .loc 6, ee 8] (hpF8 C [.int 2, .int 2, .int 2, .int 2, .int 2, .int 2, .int 2, .int 2]) = .ok (.bl true) (hpF8 C [.int 2, .int 2, .int 2, .int 2, .int 2, .int 2, .int 2, .int 2]) := by kernel_rfl
theorem d0_8_1 (C : List Vl) : run 9 63 [.fn 1000, .loc 5, .loc 6, ee 8] (hpF8 C [.int 2, .int 3, .int 4, .int 5, .int 2, .int 3, .int 4, .int 5]) = .ok (.bl true) (hpF8 C [.int 2, .int 3, .int 4, .int 5, .int 2, .int 3, .int 4, .int 5]) := by kernel_rfl
theorem d0_8_2 (C : List Vl) : run 9 63 [.fn 1000, .loc 5, .loc 6, ee 8] (hpF8 C [.int 2, .int 4, .int 2, .int 4, .int 2, .int 4, .int 2, .int 4]) = .ok (.bl true) (hpF8 C [.int 2, .int 4, .int 2, .int 4, .int 2, .int 4, .int 2, .int 4]) := by kernel_rfl
theorem d0_8_3 (C : List Vl) : run 9 63 [.fn 1000, .loc 5, .loc 6, ee 8] (hpF8 C [.int 2, .int 5, .int 4, .int 3, .int 2, .int 5, .int 4, .int 3]) = .ok (.bl true) (hpF8 C [.int 2, .int 5, .int 4, .int 3, .int 2, .int 5, .int 4, .int 3]) := by kernel_rfl
theorem d1_8 (C Z : List Vl) : run 9 63 [.fn 1003, .loc 3, .loc 4, ee 8] (hpF8 C Z) = .ok (.bl true) (hpF8 C Z) := by kernel_rfl
theorem d2_8 (C Z : List Vl) : run 9 63 [.fn 1004, .loc 7, .loc 8, ee 8] (hpF8 C Z) = .ok (.bl true) (hpF8 C Z) := by kernel_rfl
theorem f0_8 (C Z : List Vl) : run 9 65 [.fn 1001, .fn 1002, .loc 3, .loc 4, ee 8] (hpF8 C Z) = .ok (.bl true) (hpF8 C Z) := by kernel_rfl
theorem f1_8 (C Z : List Vl) : run 9 65 [.fn 1006, .fn 1005, .loc 9, .loc 11, ee 8] (hpF8 C Z) = .ok (.bl true) (hpF8 C Z) := by kernel_rfl
theorem f2_8 (C Z : List Vl) : run 9 65 [.fn 1007, .fn 1005, .loc 13, .loc 15, ee 8] (hpF8 C Z) = .ok (.bl true) (hpF8 C Z) := by kernel_rfl
theorem all_8 (ns : List Int) (more : Int) (C : List Vl) (r : Int) (r0 : 0 ≤ r) (r3 : r ≤ 3) : ∃ A, restC (run 9) ⟨0, st3 ns more 8⟩ (hp3 C 8 r) = .rt (.bl true) A := by
  rw [rest_eq, seq_nx (set8 ns more C (latL 8 r))]
  obtain rfl | rfl | rfl | rfl : r = 0 ∨ r = 1 ∨ r = 2 ∨ r = 3 := by omega
  · exact ⟨_, tail_ok (m := 8) rfl rfl (d0_8_0 C) (d1_8 C _) (d2_8 C _) (f0_8 C _) (f1_8 C _) (f2_8 C _) (f3all _ _ _ _ _ _ _ _ _ _ _ _ _ _ _ _ _)⟩
  · exact ⟨_, tail_ok (m := 8) rfl rfl (d0_8_1 C) (d1_8 C _) (d2_8 C _) (f0_8 C _) (f1_8 C _) (f2_8 C _) (f3all _ _ _ _ _ _ _ _ _ _ _ _ _ _ _ _ _)⟩
  · exact ⟨_, tail_ok (m := 8) rfl rfl (d0_8_2 C) (d1_8 C _) (d2_8 C _) (f0_8 C _) (f1_8 C _) (f2_8 C _) (f3all _ _ _ _ _ _ _ _ _ _ _ _ _ _ _ _ _)⟩
  · exact ⟨_, tail_ok (m := 8) rfl rfl (d0_8_3 C) (d1_8 C _) (d2_8 C _) (f0_8 C _) (f1_8 C _) (f2_8 C _) (f3all _ _ _ _ _ _ _ _ _ _ _ _ _ _ _ _ _)⟩
abbrev hpF9 (C Z : List Vl) : AH := [(.lst, C), (.lst, asksL), (.lst, freesL), (.lst, [.tup [.int 0, .int 1], .tup [.int 1, .int 2], .tup [.int 2, .int 3], .tup [.int 3, .int 4], .tup [.int 4, .int 5], .tup [.int 5, .int 6], .tup [.int 6, .int 7], .tup [.int 7, .int 8]]), (.lst, [.tup [.int 0, .int 1], .tup [.int 0, .int 2], .tup [.int 0, .int 3], .tup [.int 0, .int 4], .tup [.int 0, .int 5], .tup [.int 0, .int 6], .tup [.int 0, .int 7], .tup [.int 0, .int 8]]), (.lst, [.int 1, .int 2, .int 3, .int 1, .int 2, .int 3, .int 1, .int 2, .int 3]), (.lst, Z), (.lst, [.int 8, .int 0, .int 7, .int 1, .int 6, .int 2, .int 5, .int 3, .int 4]), (.lst, [.int 0, .int 1, .int 2, .int 3, .int 4, .int 5, .int 6, .int 7, .int 8]), (.lst, [.loc 3, .loc 7]), (.lst, [.int 0, .int 0, .int 0, .int 0, .int 0, .int 0, .int 0, .int 0, .int 0]), (.lst, [.loc 3, .loc 10]), (.lst, [.int 0, .int 1, .int 2, .int 3, .int 4, .int 5, .int 6, .int 7, .int 8]), (.lst, [.loc 3, .loc 12]), (.lst, [.int (-1), .int (-1), .int (-1), .int (-1), .int (-1), .int (-1), .int (-1), .int (-1), .int (-1)]), (.lst, [.loc 4, .loc 14]), (.lst, [.tup [.int 0, .int 1], .tup [.int 0, .int 2], .tup [.int 0, .int 3], .tup [.int 1, .int 4], .tup [.int 2, .int 5], .tup [.int 3, .int 6]]), (.lst, [.tup [.int 0, .int 1], .tup [.int 1, .int 2], .tup [.int 2, .int 3], .tup [.int 3, .int 4], .tup [.int 4, .int 5], .tup [.int 5, .int 6]])]
theorem set9 (ns : List Int) (more : Int) (C Z : List Vl) : setupC (run 9) ⟨0, st3 ns more 9⟩ (hp3Z C 9 Z) = .nx (stF ns more 9) (hpF9 C Z) := by kernel_rfl
theorem d0_9_0 (C : List Vl) : run 9 63 [.fn 1000, .loc 5, .loc 6, ee 9] (hpF9 C [.int 2, .int 2, .int 2, .int 2, .int 2, .int 2, .int 2, .int 2, .int 2]) = .ok (.bl true) (hpF9 C [.int 2, .int 2, .int 2, .int 2, .int 2, .int 2, .int 2, .int 2, .int 2]) := by kernel_rfl
theorem d0_9_1 (C : List Vl) : run 9 63 [.fn 1000, .loc 5, .loc 6, ee 9] (hpF9 C [.int 2, .int 3, .int 4, .int 5, .int 2, .int 3, .int 4, .int 5, .int 2]) = .ok (.bl true) (hpF9 C [.int 2, .int 3, .int 4, .int 5, .int 2, .int 3, .int 4, .int 5, .int 2]) := by kernel_rfl
theorem d0_9_2 (C : List Vl) : run 9 63 [.fn 1000, .loc 5, .loc 6, ee 9] (hpF9 C [.int 2, .int 4, .int 2, .int 4, .int 2, .int 4, .int 2, .int 4, .int 2]) = .ok (.bl true) (hpF9 C [.int 2, .int 4, .int 2, .int 4, .int 2, .int 4, .int 2, .int 4, .int 2]) := by kernel_rfl
theorem d0_9_3 (C : List Vl) : run 9 63 [.fn 1000, .loc 5, .loc 6, ee 9] (hpF9 C [.int 2, .int 5, .int 4, .int 3, .int 2, .int 5, .int 4, .int 3, .int 2]) = .ok (.bl true) (hpF9 C [.int 2, .int 5, .int 4, .int 3, .int 2, .int 5, .int 4, .int 3, .int 2]) := by kernel_rfl
theorem d1_9 (C Z : List Vl) : run 9 63 [.fn 1003, .loc 3, .loc 4, ee 9] (hpF9 C Z) = .ok (.bl true) (hpF9 C Z) := by kernel_rfl
theorem d2_9 (C Z : List Vl) : run 9 63 [.fn 1004, .loc 7, .loc 8, ee 9] (hpF9 C Z) = .ok (.bl true) (hpF9 C Z) := by kernel_rfl
theorem f0_9 (C Z : List Vl) : run 9 65 [.fn 1001, .fn 1002, .loc 3, .loc 4, ee 9] (hpF9 C Z) = .ok (.bl true) (hpF9 C Z) := by kernel_rfl
theorem f1_9 (C Z : List Vl) : run 9 65 [.fn 1006, .fn 1005, .loc 9, .loc 11, ee 9] (hpF9 C Z) = .ok (.bl true) (hpF9 C Z) := by kernel_rfl
theorem f2_9 (C Z : List Vl) : run 9 65 [.fn 1007, .fn 1005, .loc 13, .loc 15, ee 9] (hpF9 C Z) = .ok (.bl true) (hpF9 C Z) := by kernel_rfl
theorem all_9 (ns : List Int) (more : Int) (C : List Vl) (r : Int) (r0 : 0 ≤ r) (r3 : r ≤ 3) : ∃ A, restC (run 9) ⟨0, st3 ns more 9⟩ (hp3 C 9 r) = .rt (.bl true) A := by
  rw [rest_eq, seq_nx (set9 ns more C (latL 9 r))]
  obtain rfl | rfl | rfl | rfl : r = 0 ∨ r = 1 ∨ r = 2 ∨ r = 3 := by omega
  · exact ⟨_, tail_ok (m := 9) rfl rfl (d0_9_0 C) (d1_9 C _) (d2_9 C _) (f0_9 C _) (f1_9 C _) (f2_9 C _) (f3all _ _ _ _ _ _ _ _ _ _ _ _ _ _ _ _ _)⟩
  · exact ⟨_, tail_ok (m := 9) rfl rfl (d0_9_1 C) (d1_9 C _) (d2_9 C _) (f0_9 C _) (f1_9 C _) (f2_9 C _) (f3all _ _ _ _ _ _ _ _ _ _ _ _ _ _ _ _ _)⟩
  · exact ⟨_, tail_ok (m := 9) rfl rfl (d0_9_2 C) (d1_9 C _) (d2_9 C _) (f0_9 C _) (f1_9 C _) (f2_9 C _) (f3all _ _ _ _ _ _ _ _ _ _ _ _ _ _ _ _ _)⟩
  · exact ⟨_, tail_ok (m := 9) rfl rfl (d0_9_3 C) (d1_9 C _) (d2_9 C _) (f0_9 C _) (f1_9 C _) (f2_9 C _) (f3all _ _ _ _ _ _ _ _ _ _ _ _ _ _ _ _ _)⟩
end G

set_option Elab.async false
set_option linter.all false
set_option maxRecDepth 100000
set_option maxHeartbeats 4000000
set_option autoImplicit false
namespace G
open PySem PySem.Spec PyProof.Rows L2 Ab
abbrev hpF10 (C Z : List Vl) : AH := [(.lst, C), (.lst, asksL), (.lst, freesL), (.lst, [.tup [.int 0, .int 1], .tup [.int 1, .int 2], .tup [.int 2, .int 3], .tup [.int 3, .int 4], .tup [.int 4, .int 5], .tup [.int 5, .int 6], .tup [.int 6, .int 7], .tup [.int 7, .int 8], .tup [.int 8, .int 9]]), (.lst, [.tup [.int 0, .int 1], .tup [.int 0, .int 2], .tup [.int 0, .int 3], .tup [.int 0, .int 4], .tup [.int 0, .int 5], .tup [.int 0, .int 6], .tup [.int 0, .int 7], .tup [.int 0, .int 8], .tup [.int 0, .int 9]]), (.lst, [.int 1, .int 2, .int 3, .int 1, .int 2, .int 3, .int 1, .int 2, .int 3, .int 1]), (.lst, Z), (.lst, [.int 9, .int 0, .int 8, .int 1, .int 7, .int 2, .int 6, .int 3, .int 5, .int 4]), (.lst, [.int 0, .int 1, .int 2, .int 3, .int 4, .int 5, .int 6, .int 7, .int 8, .int 9]), (.lst, [.loc 3, .loc 7]), (.lst, [.int 0, .int 0, .int 0, .int 0, .int 0, .int 0, .int 0, .int 0, .int 0, .int 0]), (.lst, [.loc 3, .loc 10]), (.lst, [.int 0, .int 1, .int 2, .int 3, .int 4, .int 5, .int 6, .int 7, .int 8, .int 9]), (.lst, [.loc 3, .loc 12]), (.lst, [.int (-1), .int (-1), .int (-1), .int (-1), .int (-1), .int (-1), .int (-1), .int (-1), .int (-1), .int (-1)]), (.lst, [.loc 4, .loc 14]), (.lst, [.tup [.int 0, .int 1], .tup [.int 0, .int 2], .tup [.int 0, .int 3], .tup [.int 1, .int 4], .tup [.int 2, .int 5], .tup [.int 3, .int 6]]), (.lst, [.tup [.int 0, .int 1], .tup [.int 1, .int 2], .tup [.int 2, .int 3], .tup [.int 3, .int 4], .tup [.int 4, .int 5], .tup [.int 5, .int 6]])]
theorem set10 (ns : List Int) (more : Int) (C Z : List Vl) : setupC (run 9) ⟨0, st3 ns more 10⟩ (hp3Z C 10 Z) = .nx (stF ns more 10) (hpF10 C Z) := by kernel_rfl
theorem d0_10_0 (C : List Vl) : run 9 63 [.fn 1000, .loc 5, .loc 6, ee 10] (hpF10 C [.int 2, .int 2, .int 2, .int 2, .int 2, .int 2, .int 2, .int 2, .int 2, .int 2]) = .ok (.bl true) (hpF10 C [.int 2, .int 2, .int 2, .int 2, .int 2, .int 2, .int 2, .int 2, .int 2, .int 2]) := by kernel_rfl
theorem d0_10_1 (C : List Vl) : run 9 63 [.fn 1000, .loc 5, .loc 6, ee 10] (hpF10 C [.int 2, .int 3, .int 4, .int 5, .int 2, .int 3, .int 4, .int 5, .int 2, .int 3]) = .ok (.bl true) (hpF10 C [.int 2, .int 3, .int 4, .int 5, .int 2, .int 3, .int 4, .int 5, .int 2, .int 3]) := by kernel_rfl
theorem d0_10_2 (C : List Vl) : run 9 63 [.fn 1000, .loc 5, .loc 6, ee 10] (hpF10 C [.int 2, .int 4, .int 2, .int 4, .int 2, .int 4, .int 2, .int 4, .int 2, .int 4]) = .ok (.bl true) (hpF10 C [.int 2, .int 4, .int 2, .int 4, .int 2, .int 4, .int 2, .int 4, .int 2, .int 4]) := by kernel_rfl
theorem d0_10_3 (C : List Vl) : run 9 63 [.fn 1000, .loc 5, .loc 6, ee 10] (hpF10 C [.int 2, .int 5, .int 4, .int 3, .int 2, .int 5, .int 4, .int 3, .int 2, .int 5]) = .ok (.bl true) (hpF10 C [.int 2, .int 5, .int 4, .int 3, .int 2, .int 5, .int 4, .int 3, .int 2, .int 5]) := by kernel_rfl
theorem d1_10 (C Z : List Vl) : run 9 63 [.fn 1003, .loc 3, .loc 4, ee 10] (hpF10 C Z) = .ok (.bl true) (hpF10 C Z) := by kernel_rfl
theorem d2_10 (C Z : List Vl) : run 9 63 [.fn 1004, .loc 7, .loc 8, ee 10] (hpF10 C Z) = .ok (.bl true) (hpF10 C Z) := by kernel_rfl
theorem f0_10 (C Z : List Vl) : run 9 65 [.fn 1001, .fn 1002, .loc 3, .loc 4, ee 10] (hpF10 C Z) = .ok (.bl true) (hpF10 C Z) := by kernel_rfl
theorem f1_10 (C Z : List Vl) : run 9 65 [.fn 1006, .fn 1005, .loc 9, .loc 11, ee 10] (hpF10 C Z) = .ok (.bl true) (hpF10 C Z) := by kernel_rfl
theorem f2_10 (C Z : List Vl) : run 9 65 [.fn 1007, .fn 1005, .loc 13, .loc 15, ee 10] (hpF10 C Z) = .ok (.bl true) (hpF10 C Z) := by kernel_rfl
theorem all_10 (ns : List Int) (more : Int) (C : List Vl) (r : Int) (r0 : 0 ≤ r) (r3 : r ≤ 3) : ∃ A, restC (run 9) ⟨0, st3 ns more 10⟩ (hp3 C 10 r) = .rt (.bl true) A := by
  rw [rest_eq, seq_nx (set10 ns more C (latL 10 r))]
  obtain rfl | rfl | rfl | rfl : r = 0 ∨ r = 1 ∨ r = 2 ∨ r = 3 := by omega
  · exact ⟨_, tail_ok (m := 10) rfl rfl (d0_10_0 C) (d1_10 C _) (d2_10 C _) (f0_10 C _) (f1_10 C _) (f2_10 C _) (f3all _ _ _ _ _ _ _ _ _ _ _ _ _ _ _ _ _)⟩
  · exact ⟨_, tail_ok (m := 10) rfl rfl (d0_10_1 C) (d1_10 C _) (d2_10 C _) (f0_10 C _) (f1_10 C _) (f2_10 C _) (f3all _ _ _ _ _ _ _ _ _ _ _ _ _ _ _ _ _)⟩
  · exact ⟨_, tail_ok (m := 10) rfl rfl (d0_10_2 C) (d1_10 C _) (d2_10 C _) (f0_10 C _) (f1_10 C _) (f2_10 C _) (f3all _ _ _ _ _ _ _ _ _ _ _ _ _ _ _ _ _)⟩
  · exact ⟨_, tail_ok (m := 10) rfl rfl (d0_10_3 C) (d1_10 C _) (d2_10 C _) (f0_10 C _) (f1_10 C _) (f2_10 C _) (f3all _ _ _ _ _ _ _ _ _ _ _ _ _ _ _ _ _)⟩
end G

set_option Elab.async false
set_option linter.all false
set_option maxRecDepth 100000
set_option maxHeartbeats 4000000
set_option autoImplicit false
namespace G
open PySem PySem.Spec PyProof.Rows L2 Ab
theorem all_m (ns : List Int) (more : Int) (C : List Vl) (m : Nat) (r : Int) (h2 : 2 ≤ m) (h10 : m ≤ 10) (r0 : 0 ≤ r) (r3 : r ≤ 3) : ∃ A, restC (run 9) ⟨0, st3 ns more m⟩ (hp3 C m r) = .rt (.bl true) A := by
  obtain rfl | rfl | rfl | rfl | rfl | rfl | rfl | rfl | rfl : m = 2 ∨ m = 3 ∨ m = 4 ∨ m = 5 ∨ m = 6 ∨ m = 7 ∨ m = 8 ∨ m = 9 ∨ m = 10 := by omega
  · exact all_2 ns more C r r0 r3
  · exact all_3 ns more C r r0 r3
  · exact all_4 ns more C r r0 r3
  · exact all_5 ns more C r r0 r3
  · exact all_6 ns more C r r0 r3
  · exact all_7 ns more C r r0 r3
  · exact all_8 ns more C r r0 r3
  · exact all_9 ns more C r r0 r3
  · exact all_10 ns more C r r0 r3
theorem law_true (ns : List Int) (hl : ns.length ≤ 63) (hb : ∀ z ∈ ns, Builtin.Int.intBits z ≤ 1048576) : ∃ A, run 10 66 [.rol (ns.map Vl.int)] [] = .ok (.bl true) A := by
  obtain ⟨k1, k2, k3⟩ := cellt_ok hb
  let more : Int := if (cellt ns).sum < 0 then -(cellt ns).sum else (cellt ns).sum
  let m : Nat := (2 + more % 9).toNat
  have h9 : 0 ≤ more % 9 ∧ more % 9 < 9 := ⟨Int.emod_nonneg _ (by decide), Int.emod_lt_of_pos _ (by decide)⟩
  have hm : ((m : Nat) : Int) = 2 + more % 9 := Int.toNat_of_nonneg (by omega)
  have hm2 : 2 ≤ m := by omega
  have hm10 : m ≤ 10 := by omega
  have hlg : lg more ≤ 1048600 := by
    have hs := lg_sum63 (cellt ns) k3 k2
    have ha : more.natAbs = (cellt ns).sum.natAbs := by
      simp only [more]
      split
      · rw [Int.natAbs_neg]
      · rfl
    unfold lg at hs ⊢
    rw [ha]
    omega
  have st : c_law (run 9) ⟨0, [some (.rol (ns.map Vl.int)), none, none, none, none, none, none, none, none, none, none, none, none, none, none, none, none, none, none]⟩ [] = restC (run 9) ⟨0, st3 ns more m⟩ (hp3 ((cellt ns).map Vl.int) m (more % 4)) := by
    have q1 : cPut (.nm 1) (cIfE (cTst (cF2 (fEqD true) (cVar 0) (cLst cNil))) (cSl (cVar 0) none (some (cC (.int 63)))) (cLst (cCons (cC (.int 5)) cNil))) ⟨0, [some (.rol (ns.map Vl.int)), none, none, none, none, none, none, none, none, none, none, none, none, none, none, none, none, none, none]⟩ [] = .nx [some (.rol (ns.map Vl.int)), some (.loc 0), none, none, none, none, none, none, none, none, none, none, none, none, none, none, none, none, none] [(.lst, (cellt ns).map Vl.int)] := by
      rw [put_nm (d := .new .lst ((cellt ns).map Vl.int)) (A1 := [])]
      · rw [box_new (by simp)]; rfl
      · have eq : fEqD true 0 [.rol (ns.map Vl.int), .new .lst []] [] = .ok (.bl (!decide (ns = []))) [] := fEq_ints (neg := true) (ns := ns) (ms := []) toD_rol (by rw [List.map_nil]; exact toD_2)
        simp only [cIfE_, cTst_, cF2_, cVar_, List.getElem?_cons_zero, bind_ok, cLst_, cNil_, List.length_nil, Nat.zero_le, if_true, eq, asB_]
        unfold cellt
        by_cases h0 : ns = []
        · subst h0; simp
        · simp only [h0, decide_false, Bool.not_false, if_true, if_false]
          rw [cSl_rol (A1 := []) (A2 := []) (s := 63) (xs := ns.map Vl.int) (by simp) (by simp) (by decide)]
          simp [List.map_take]
    have q2 : cPut (.nm 2) (cF fAbs (cCons (cF fSum (cCons (cVar 1) cNil)) cNil)) ⟨0, [some (.rol (ns.map Vl.int)), some (.loc 0), none, none, none, none, none, none, none, none, none, none, none, none, none, none, none, none, none]⟩ [(.lst, (cellt ns).map Vl.int)] = .nx (st0 ns more) [(.lst, (cellt ns).map Vl.int)] := by
      rw [put_nm (d := .int more) (A1 := [(.lst, (cellt ns).map Vl.int)])]
      · rfl
      · rw [cF_, cCons_, cF_, cCons_]
        simp only [cVar_, List.getElem?_cons_succ, List.getElem?_cons_zero, bind_ok, cNil_]
        rw [fSum_loc (xs := cellt ns) rfl]
        rfl
    have q4 : cPut (.nm 5) (cF2 fAdd (cC (.int 2)) (cF2 fMod (cVar 2) (cC (.int 9)))) ⟨0, [some (.rol (ns.map Vl.int)), some (.loc 0), some (.int more), some (.loc 1), some (.loc 2), none, none, none, none, none, none, none, none, none, none, none, none, none, none]⟩ (hp1 ((cellt ns).map Vl.int)) = .nx (st1 ns more m) (hp1 ((cellt ns).map Vl.int)) := by
      rw [put_nm (d := .int (m : Nat)) (A1 := hp1 ((cellt ns).map Vl.int))]
      · rfl
      · simp only [cF2_, cC_, cVar_, List.getElem?_cons_succ, List.getElem?_cons_zero, bind_ok, fMod_ (show (0 : Int) < 9 by decide), fAdd_, hm]
    unfold c_law
    rw [seq_nx q1, seq_nx q2, seq_nx (s := [some (.rol (ns.map Vl.int)), some (.loc 0), some (.int more), some (.loc 1), some (.loc 2), none, none, none, none, none, none, none, none, none, none, none, none, none, none]) (A1 := hp1 ((cellt ns).map Vl.int)) rfl, seq_nx q4, seq_nx (step5 ns more _ m hm2 hm10), seq_nx (step6 ns more _ m hm2 hm10 hlg)]
    rfl
  obtain ⟨A, eA⟩ := all_m ns more ((cellt ns).map Vl.int) m (more % 4) hm2 hm10 (Int.emod_nonneg _ (by decide)) (by have := Int.emod_lt_of_pos more (b := 4) (by decide); omega)
  refine ⟨[], ?_⟩
  show chkL (fin 0 (c_law (run 9) ⟨0, [some (.rol (ns.map Vl.int)), none, none, none, none, none, none, none, none, none, none, none, none, none, none, none, none, none, none]⟩ [])) = _
  rw [st, eA, fin_rt, gc_plain rfl]
  rfl
end G

set_option maxHeartbeats 4000000
set_option maxRecDepth 100000
namespace G
open PySem PySem.Spec PyProof.Rows L2 Ab
theorem all_mk {l : PySem.W.OpenLaw} {w : World} {K : PySem.W.Frag} {h : Heap} {mg : Str → Option Value} {fa : Addr} (X : K.In h) (G : h.Ns mainGlobals mg) (hfa : mg "law" = some (.ref fa))
    {C0 : Addr}
    (aC0 : PySem.W.nsIn K mainGlobals "Answer" = some (some (.ref C0)))
    (pg0 : PySem.W.plainGet K C0 Str.empty = true)
    (hd0 : PySem.W.hasDictIn K C0 = true)
    (po0 : PySem.W.plainOver K C0 = true)
    (sa0 : PySem.W.findIn K (.ref C0) "__setattr__" = some (some (.builtin "object.__setattr__")))
    (mk0 : PySem.W.makesIn K C0 = true)
    (kc0 : PySem.W.keepIn K (.ref C0) = true)
    (ha0 : PySem.W.findIn K (.ref C0) "__class__" = some (some (.builtin "object.__class__")))
    (hm0 : PySem.W.mroIn K C0 (.type "object") = some true)
    (in0 : PySem.W.findIn K (.ref C0) "__init__" = some (some (.builtin "object.__init__")))
    {C1 : Addr}
    (aC1 : PySem.W.nsIn K mainGlobals "Good" = some (some (.ref C1)))
    (pg1 : PySem.W.plainGet K C1 Str.empty = true)
    (hd1 : PySem.W.hasDictIn K C1 = true)
    (po1 : PySem.W.plainOver K C1 = true)
    (sa1 : PySem.W.findIn K (.ref C1) "__setattr__" = some (some (.builtin "object.__setattr__")))
    (mk1 : PySem.W.makesIn K C1 = true)
    (kc1 : PySem.W.keepIn K (.ref C1) = true)
    (ha1 : PySem.W.findIn K (.ref C1) "__class__" = some (some (.builtin "object.__class__")))
    (hm1 : PySem.W.mroIn K C1 (.type "object") = some true)
    (in1 : PySem.W.findIn K (.ref C1) "__init__" = some (some (.builtin "object.__init__")))
    {C2 : Addr}
    (aC2 : PySem.W.nsIn K mainGlobals "Beyond" = some (some (.ref C2)))
    (pg2 : PySem.W.plainGet K C2 Str.empty = true)
    (hd2 : PySem.W.hasDictIn K C2 = true)
    (po2 : PySem.W.plainOver K C2 = true)
    (sa2 : PySem.W.findIn K (.ref C2) "__setattr__" = some (some (.builtin "object.__setattr__")))
    (mk2 : PySem.W.makesIn K C2 = true)
    (kc2 : PySem.W.keepIn K (.ref C2) = true)
    (ha2 : PySem.W.findIn K (.ref C2) "__class__" = some (some (.builtin "object.__class__")))
    (hm2 : PySem.W.mroIn K C2 (.type "object") = some true)
    (na2_house : PySem.W.findIn K (.ref C2) "house" = some none)
    {C3 : Addr}
    (aC3 : PySem.W.nsIn K mainGlobals "Alike" = some (some (.ref C3)))
    (pg3 : PySem.W.plainGet K C3 Str.empty = true)
    (hd3 : PySem.W.hasDictIn K C3 = true)
    (po3 : PySem.W.plainOver K C3 = true)
    (sa3 : PySem.W.findIn K (.ref C3) "__setattr__" = some (some (.builtin "object.__setattr__")))
    (mk3 : PySem.W.makesIn K C3 = true)
    (kc3 : PySem.W.keepIn K (.ref C3) = true)
    (ha3 : PySem.W.findIn K (.ref C3) "__class__" = some (some (.builtin "object.__class__")))
    (hm3 : PySem.W.mroIn K C3 (.type "object") = some true)
    (na3_one : PySem.W.findIn K (.ref C3) "one" = some none)
    (na3_other : PySem.W.findIn K (.ref C3) "other" = some none)
    {C4 : Addr}
    (aC4 : PySem.W.nsIn K mainGlobals "Same" = some (some (.ref C4)))
    (pg4 : PySem.W.plainGet K C4 Str.empty = true)
    (hd4 : PySem.W.hasDictIn K C4 = true)
    (po4 : PySem.W.plainOver K C4 = true)
    (sa4 : PySem.W.findIn K (.ref C4) "__setattr__" = some (some (.builtin "object.__setattr__")))
    (mk4 : PySem.W.makesIn K C4 = true)
    (kc4 : PySem.W.keepIn K (.ref C4) = true)
    (ha4 : PySem.W.findIn K (.ref C4) "__class__" = some (some (.builtin "object.__class__")))
    (hm4 : PySem.W.mroIn K C4 (.type "object") = some true)
    (na4_one : PySem.W.findIn K (.ref C4) "one" = some none)
    (na4_other : PySem.W.findIn K (.ref C4) "other" = some none)
    {C5 : Addr}
    (aC5 : PySem.W.nsIn K mainGlobals "Street" = some (some (.ref C5)))
    (pg5 : PySem.W.plainGet K C5 Str.empty = true)
    (hd5 : PySem.W.hasDictIn K C5 = true)
    (po5 : PySem.W.plainOver K C5 = true)
    (sa5 : PySem.W.findIn K (.ref C5) "__setattr__" = some (some (.builtin "object.__setattr__")))
    (mk5 : PySem.W.makesIn K C5 = true)
    (kc5 : PySem.W.keepIn K (.ref C5) = true)
    (ha5 : PySem.W.findIn K (.ref C5) "__class__" = some (some (.builtin "object.__class__")))
    (hm5 : PySem.W.mroIn K C5 (.type "object") = some true)
    (na5_way : PySem.W.findIn K (.ref C5) "way" = some none)
    {C6 : Addr}
    (aC6 : PySem.W.nsIn K mainGlobals "Spread" = some (some (.ref C6)))
    (pg6 : PySem.W.plainGet K C6 Str.empty = true)
    (hd6 : PySem.W.hasDictIn K C6 = true)
    (po6 : PySem.W.plainOver K C6 = true)
    (sa6 : PySem.W.findIn K (.ref C6) "__setattr__" = some (some (.builtin "object.__setattr__")))
    (mk6 : PySem.W.makesIn K C6 = true)
    (kc6 : PySem.W.keepIn K (.ref C6) = true)
    (ha6 : PySem.W.findIn K (.ref C6) "__class__" = some (some (.builtin "object.__class__")))
    (hm6 : PySem.W.mroIn K C6 (.type "object") = some true)
    (na6_house : PySem.W.findIn K (.ref C6) "house" = some none)
    (na6_first : PySem.W.findIn K (.ref C6) "first" = some none)
    (na6_second : PySem.W.findIn K (.ref C6) "second" = some none)
    (na6_third : PySem.W.findIn K (.ref C6) "third" = some none)
    (ic0 : PySem.W.isClsIn K C0 = true)
    (tc0 : PySem.W.typeIn K (.ref C0) = some (.type "type"))
    (ic1 : PySem.W.isClsIn K C1 = true)
    (tc1 : PySem.W.typeIn K (.ref C1) = some (.type "type"))
    (ic2 : PySem.W.isClsIn K C2 = true)
    (tc2 : PySem.W.typeIn K (.ref C2) = some (.type "type"))
    (ic3 : PySem.W.isClsIn K C3 = true)
    (tc3 : PySem.W.typeIn K (.ref C3) = some (.type "type"))
    (ic4 : PySem.W.isClsIn K C4 = true)
    (tc4 : PySem.W.typeIn K (.ref C4) = some (.type "type"))
    (ic5 : PySem.W.isClsIn K C5 = true)
    (tc5 : PySem.W.typeIn K (.ref C5) = some (.type "type"))
    (ic6 : PySem.W.isClsIn K C6 = true)
    (tc6 : PySem.W.typeIn K (.ref C6) = some (.type "type"))
    (thn : PySem.W.specialIn K (.builtin "object.__class__") "__get__" = some (some (.builtin "getset_descriptor.__get__")))
    (thk : PySem.W.takesIn K (.builtin "object.__class__") = some true)
    (s1_Street : PySem.W.subIn K (.ref C1) (.ref C5) = some false)
    (ne1_Street : C1 ≠ C5)
    (s2_Street : PySem.W.subIn K (.ref C2) (.ref C5) = some false)
    (ne2_Street : C2 ≠ C5)
    (s3_Street : PySem.W.subIn K (.ref C3) (.ref C5) = some false)
    (ne3_Street : C3 ≠ C5)
    (s4_Street : PySem.W.subIn K (.ref C4) (.ref C5) = some false)
    (ne4_Street : C4 ≠ C5)
    (s5_Street : PySem.W.subIn K (.ref C5) (.ref C5) = some true)
    (s6_Street : PySem.W.subIn K (.ref C6) (.ref C5) = some false)
    (ne6_Street : C6 ≠ C5)
    {f0 : Addr} {od0 an0 : Option Addr} {sl0 : Array (Option Value)} {oc0 kV0 dc0 pm0 cd0 ct0 : Value}
    (a0 : PySem.W.nsIn K mainGlobals "is_whole" = some (some (.ref f0)))
    (l0 : K.lookup f0 = some ⟨oc0, od0, .func (PySem.W.fnOf "is_whole" "is_whole" (defArgs s0) (defBody s0) (defScope s0) .none kV0 dc0 pm0 an0 cd0 ct0), sl0⟩)
    (c0 : PySem.W.codeIn K cd0 "is_whole" = true)
    (k0 : PySem.W.keepIn K (.ref f0) = true)
    {f1 : Addr} {od1 an1 : Option Addr} {sl1 : Array (Option Value)} {oc1 kV1 dc1 pm1 cd1 ct1 : Value}
    (a1 : PySem.W.nsIn K mainGlobals "check_street" = some (some (.ref f1)))
    (l1 : K.lookup f1 = some ⟨oc1, od1, .func (PySem.W.fnOf "check_street" "check_street" (defArgs s1) (defBody s1) (defScope s1) .none kV1 dc1 pm1 an1 cd1 ct1), sl1⟩)
    (c1 : PySem.W.codeIn K cd1 "check_street" = true)
    (k1 : PySem.W.keepIn K (.ref f1) = true)
    {f2 : Addr} {od2 an2 : Option Addr} {sl2 : Array (Option Value)} {oc2 kV2 dc2 pm2 cd2 ct2 : Value}
    (a2 : PySem.W.nsIn K mainGlobals "many_of" = some (some (.ref f2)))
    (l2 : K.lookup f2 = some ⟨oc2, od2, .func (PySem.W.fnOf "many_of" "many_of" (defArgs s2) (defBody s2) (defScope s2) .none kV2 dc2 pm2 an2 cd2 ct2), sl2⟩)
    (c2 : PySem.W.codeIn K cd2 "many_of" = true)
    (k2 : PySem.W.keepIn K (.ref f2) = true)
    {f3 : Addr} {od3 an3 : Option Addr} {sl3 : Array (Option Value)} {oc3 kV3 dc3 pm3 cd3 ct3 : Value}
    (a3 : PySem.W.nsIn K mainGlobals "ahead_of" = some (some (.ref f3)))
    (l3 : K.lookup f3 = some ⟨oc3, od3, .func (PySem.W.fnOf "ahead_of" "ahead_of" (defArgs s3) (defBody s3) (defScope s3) .none kV3 dc3 pm3 an3 cd3 ct3), sl3⟩)
    (c3 : PySem.W.codeIn K cd3 "ahead_of" = true)
    (k3 : PySem.W.keepIn K (.ref f3) = true)
    {f4 : Addr} {od4 an4 : Option Addr} {sl4 : Array (Option Value)} {oc4 kV4 dc4 pm4 cd4 ct4 : Value}
    (a4 : PySem.W.nsIn K mainGlobals "number_at" = some (some (.ref f4)))
    (l4 : K.lookup f4 = some ⟨oc4, od4, .func (PySem.W.fnOf "number_at" "number_at" (defArgs s4) (defBody s4) (defScope s4) .none kV4 dc4 pm4 an4 cd4 ct4), sl4⟩)
    (c4 : PySem.W.codeIn K cd4 "number_at" = true)
    (k4 : PySem.W.keepIn K (.ref f4) = true)
    {f5 : Addr} {od5 an5 : Option Addr} {sl5 : Array (Option Value)} {oc5 kV5 dc5 pm5 cd5 ct5 : Value}
    (a5 : PySem.W.nsIn K mainGlobals "houses_of" = some (some (.ref f5)))
    (l5 : K.lookup f5 = some ⟨oc5, od5, .func (PySem.W.fnOf "houses_of" "houses_of" (defArgs s5) (defBody s5) (defScope s5) .none kV5 dc5 pm5 an5 cd5 ct5), sl5⟩)
    (c5 : PySem.W.codeIn K cd5 "houses_of" = true)
    (k5 : PySem.W.keepIn K (.ref f5) = true)
    {f6 : Addr} {od6 an6 : Option Addr} {sl6 : Array (Option Value)} {oc6 kV6 dc6 pm6 cd6 ct6 : Value}
    (a6 : PySem.W.nsIn K mainGlobals "number_of" = some (some (.ref f6)))
    (l6 : K.lookup f6 = some ⟨oc6, od6, .func (PySem.W.fnOf "number_of" "number_of" (defArgs s6) (defBody s6) (defScope s6) .none kV6 dc6 pm6 an6 cd6 ct6), sl6⟩)
    (c6 : PySem.W.codeIn K cd6 "number_of" = true)
    (k6 : PySem.W.keepIn K (.ref f6) = true)
    {f7 : Addr} {od7 an7 : Option Addr} {sl7 : Array (Option Value)} {oc7 kV7 dc7 pm7 cd7 ct7 : Value}
    (a7 : PySem.W.nsIn K mainGlobals "house_of" = some (some (.ref f7)))
    (l7 : K.lookup f7 = some ⟨oc7, od7, .func (PySem.W.fnOf "house_of" "house_of" (defArgs s7) (defBody s7) (defScope s7) .none kV7 dc7 pm7 an7 cd7 ct7), sl7⟩)
    (c7 : PySem.W.codeIn K cd7 "house_of" = true)
    (k7 : PySem.W.keepIn K (.ref f7) = true)
    {f8 : Addr} {od8 an8 : Option Addr} {sl8 : Array (Option Value)} {oc8 kV8 dc8 pm8 cd8 ct8 : Value}
    (a8 : PySem.W.nsIn K mainGlobals "road_of" = some (some (.ref f8)))
    (l8 : K.lookup f8 = some ⟨oc8, od8, .func (PySem.W.fnOf "road_of" "road_of" (defArgs s8) (defBody s8) (defScope s8) .none kV8 dc8 pm8 an8 cd8 ct8), sl8⟩)
    (c8 : PySem.W.codeIn K cd8 "road_of" = true)
    (k8 : PySem.W.keepIn K (.ref f8) = true)
    {f9 : Addr} {od9 an9 : Option Addr} {sl9 : Array (Option Value)} {oc9 kV9 dc9 pm9 cd9 ct9 : Value}
    (a9 : PySem.W.nsIn K mainGlobals "gap_of" = some (some (.ref f9)))
    (l9 : K.lookup f9 = some ⟨oc9, od9, .func (PySem.W.fnOf "gap_of" "gap_of" (defArgs s9) (defBody s9) (defScope s9) .none kV9 dc9 pm9 an9 cd9 ct9), sl9⟩)
    (c9 : PySem.W.codeIn K cd9 "gap_of" = true)
    (k9 : PySem.W.keepIn K (.ref f9) = true)
    {f10 : Addr} {od10 an10 : Option Addr} {sl10 : Array (Option Value)} {oc10 kV10 dc10 pm10 cd10 ct10 : Value}
    (a10 : PySem.W.nsIn K mainGlobals "is_below" = some (some (.ref f10)))
    (l10 : K.lookup f10 = some ⟨oc10, od10, .func (PySem.W.fnOf "is_below" "is_below" (defArgs s10) (defBody s10) (defScope s10) .none kV10 dc10 pm10 an10 cd10 ct10), sl10⟩)
    (c10 : PySem.W.codeIn K cd10 "is_below" = true)
    (k10 : PySem.W.keepIn K (.ref f10) = true)
    {f12 : Addr} {od12 an12 : Option Addr} {sl12 : Array (Option Value)} {oc12 kV12 dc12 pm12 cd12 ct12 : Value}
    (a12 : PySem.W.findIn K (.ref C1) "shows" = some (some (.ref f12)))
    (i12 : PySem.W.isFn K (.ref f12) = true)
    (l12 : K.lookup f12 = some ⟨oc12, od12, .func (PySem.W.fnOf "shows" "Good.shows" (defArgs s12) (defBody s12) (defScope s12) .none kV12 dc12 pm12 an12 cd12 ct12), sl12⟩)
    (c12 : PySem.W.codeIn K cd12 "Good.shows" = true)
    (k12 : PySem.W.keepIn K (.ref f12) = true)
    {f13 : Addr} {od13 an13 : Option Addr} {sl13 : Array (Option Value)} {oc13 kV13 dc13 pm13 cd13 ct13 : Value}
    (a13 : PySem.W.findIn K (.ref C2) "__init__" = some (some (.ref f13)))
    (i13 : PySem.W.isFn K (.ref f13) = true)
    (l13 : K.lookup f13 = some ⟨oc13, od13, .func (PySem.W.fnOf "__init__" "Beyond.__init__" (defArgs s13) (defBody s13) (defScope s13) .none kV13 dc13 pm13 an13 cd13 ct13), sl13⟩)
    (c13 : PySem.W.codeIn K cd13 "Beyond.__init__" = true)
    (k13 : PySem.W.keepIn K (.ref f13) = true)
    {f14 : Addr} {od14 an14 : Option Addr} {sl14 : Array (Option Value)} {oc14 kV14 dc14 pm14 cd14 ct14 : Value}
    (a14 : PySem.W.findIn K (.ref C2) "shows" = some (some (.ref f14)))
    (i14 : PySem.W.isFn K (.ref f14) = true)
    (l14 : K.lookup f14 = some ⟨oc14, od14, .func (PySem.W.fnOf "shows" "Beyond.shows" (defArgs s14) (defBody s14) (defScope s14) .none kV14 dc14 pm14 an14 cd14 ct14), sl14⟩)
    (c14 : PySem.W.codeIn K cd14 "Beyond.shows" = true)
    (k14 : PySem.W.keepIn K (.ref f14) = true)
    {f15 : Addr} {od15 an15 : Option Addr} {sl15 : Array (Option Value)} {oc15 kV15 dc15 pm15 cd15 ct15 : Value}
    (a15 : PySem.W.findIn K (.ref C3) "__init__" = some (some (.ref f15)))
    (i15 : PySem.W.isFn K (.ref f15) = true)
    (l15 : K.lookup f15 = some ⟨oc15, od15, .func (PySem.W.fnOf "__init__" "Alike.__init__" (defArgs s15) (defBody s15) (defScope s15) .none kV15 dc15 pm15 an15 cd15 ct15), sl15⟩)
    (c15 : PySem.W.codeIn K cd15 "Alike.__init__" = true)
    (k15 : PySem.W.keepIn K (.ref f15) = true)
    {f16 : Addr} {od16 an16 : Option Addr} {sl16 : Array (Option Value)} {oc16 kV16 dc16 pm16 cd16 ct16 : Value}
    (a16 : PySem.W.findIn K (.ref C3) "shows" = some (some (.ref f16)))
    (i16 : PySem.W.isFn K (.ref f16) = true)
    (l16 : K.lookup f16 = some ⟨oc16, od16, .func (PySem.W.fnOf "shows" "Alike.shows" (defArgs s16) (defBody s16) (defScope s16) .none kV16 dc16 pm16 an16 cd16 ct16), sl16⟩)
    (c16 : PySem.W.codeIn K cd16 "Alike.shows" = true)
    (k16 : PySem.W.keepIn K (.ref f16) = true)
    {f17 : Addr} {od17 an17 : Option Addr} {sl17 : Array (Option Value)} {oc17 kV17 dc17 pm17 cd17 ct17 : Value}
    (a17 : PySem.W.findIn K (.ref C4) "__init__" = some (some (.ref f17)))
    (i17 : PySem.W.isFn K (.ref f17) = true)
    (l17 : K.lookup f17 = some ⟨oc17, od17, .func (PySem.W.fnOf "__init__" "Same.__init__" (defArgs s17) (defBody s17) (defScope s17) .none kV17 dc17 pm17 an17 cd17 ct17), sl17⟩)
    (c17 : PySem.W.codeIn K cd17 "Same.__init__" = true)
    (k17 : PySem.W.keepIn K (.ref f17) = true)
    {f18 : Addr} {od18 an18 : Option Addr} {sl18 : Array (Option Value)} {oc18 kV18 dc18 pm18 cd18 ct18 : Value}
    (a18 : PySem.W.findIn K (.ref C4) "shows" = some (some (.ref f18)))
    (i18 : PySem.W.isFn K (.ref f18) = true)
    (l18 : K.lookup f18 = some ⟨oc18, od18, .func (PySem.W.fnOf "shows" "Same.shows" (defArgs s18) (defBody s18) (defScope s18) .none kV18 dc18 pm18 an18 cd18 ct18), sl18⟩)
    (c18 : PySem.W.codeIn K cd18 "Same.shows" = true)
    (k18 : PySem.W.keepIn K (.ref f18) = true)
    {f11 : Addr} {od11 an11 : Option Addr} {sl11 : Array (Option Value)} {oc11 kV11 dc11 pm11 cd11 ct11 : Value}
    (a11 : PySem.W.nsIn K mainGlobals "are_joined" = some (some (.ref f11)))
    (l11 : K.lookup f11 = some ⟨oc11, od11, .func (PySem.W.fnOf "are_joined" "are_joined" (defArgs s11) (defBody s11) (defScope s11) .none kV11 dc11 pm11 an11 cd11 ct11), sl11⟩)
    (c11 : PySem.W.codeIn K cd11 "are_joined" = true)
    (k11 : PySem.W.keepIn K (.ref f11) = true)
    {f19 : Addr} {od19 an19 : Option Addr} {sl19 : Array (Option Value)} {oc19 kV19 dc19 pm19 cd19 ct19 : Value}
    (a19 : PySem.W.findIn K (.ref C5) "__init__" = some (some (.ref f19)))
    (i19 : PySem.W.isFn K (.ref f19) = true)
    (l19 : K.lookup f19 = some ⟨oc19, od19, .func (PySem.W.fnOf "__init__" "Street.__init__" (defArgs s19) (defBody s19) (defScope s19) .none kV19 dc19 pm19 an19 cd19 ct19), sl19⟩)
    (c19 : PySem.W.codeIn K cd19 "Street.__init__" = true)
    (k19 : PySem.W.keepIn K (.ref f19) = true)
    {f20 : Addr} {od20 an20 : Option Addr} {sl20 : Array (Option Value)} {oc20 kV20 dc20 pm20 cd20 ct20 : Value}
    (a20 : PySem.W.findIn K (.ref C5) "shows" = some (some (.ref f20)))
    (i20 : PySem.W.isFn K (.ref f20) = true)
    (l20 : K.lookup f20 = some ⟨oc20, od20, .func (PySem.W.fnOf "shows" "Street.shows" (defArgs s20) (defBody s20) (defScope s20) .none kV20 dc20 pm20 an20 cd20 ct20), sl20⟩)
    (c20 : PySem.W.codeIn K cd20 "Street.shows" = true)
    (k20 : PySem.W.keepIn K (.ref f20) = true)
    {f21 : Addr} {od21 an21 : Option Addr} {sl21 : Array (Option Value)} {oc21 kV21 dc21 pm21 cd21 ct21 : Value}
    (a21 : PySem.W.findIn K (.ref C6) "__init__" = some (some (.ref f21)))
    (i21 : PySem.W.isFn K (.ref f21) = true)
    (l21 : K.lookup f21 = some ⟨oc21, od21, .func (PySem.W.fnOf "__init__" "Spread.__init__" (defArgs s21) (defBody s21) (defScope s21) .none kV21 dc21 pm21 an21 cd21 ct21), sl21⟩)
    (c21 : PySem.W.codeIn K cd21 "Spread.__init__" = true)
    (k21 : PySem.W.keepIn K (.ref f21) = true)
    {f22 : Addr} {od22 an22 : Option Addr} {sl22 : Array (Option Value)} {oc22 kV22 dc22 pm22 cd22 ct22 : Value}
    (a22 : PySem.W.findIn K (.ref C6) "shows" = some (some (.ref f22)))
    (i22 : PySem.W.isFn K (.ref f22) = true)
    (l22 : K.lookup f22 = some ⟨oc22, od22, .func (PySem.W.fnOf "shows" "Spread.shows" (defArgs s22) (defBody s22) (defScope s22) .none kV22 dc22 pm22 an22 cd22 ct22), sl22⟩)
    (c22 : PySem.W.codeIn K cd22 "Spread.shows" = true)
    (k22 : PySem.W.keepIn K (.ref f22) = true)
    {f23 : Addr} {od23 an23 : Option Addr} {sl23 : Array (Option Value)} {oc23 kV23 dc23 pm23 cd23 ct23 : Value}
    (a23 : PySem.W.nsIn K mainGlobals "near_of" = some (some (.ref f23)))
    (l23 : K.lookup f23 = some ⟨oc23, od23, .func (PySem.W.fnOf "near_of" "near_of" (defArgs s23) (defBody s23) (defScope s23) .none kV23 dc23 pm23 an23 cd23 ct23), sl23⟩)
    (c23 : PySem.W.codeIn K cd23 "near_of" = true)
    (k23 : PySem.W.keepIn K (.ref f23) = true)
    {f24 : Addr} {od24 an24 : Option Addr} {sl24 : Array (Option Value)} {oc24 kV24 dc24 pm24 cd24 ct24 : Value}
    (a24 : PySem.W.nsIn K mainGlobals "is_road" = some (some (.ref f24)))
    (l24 : K.lookup f24 = some ⟨oc24, od24, .func (PySem.W.fnOf "is_road" "is_road" (defArgs s24) (defBody s24) (defScope s24) .none kV24 dc24 pm24 an24 cd24 ct24), sl24⟩)
    (c24 : PySem.W.codeIn K cd24 "is_road" = true)
    (k24 : PySem.W.keepIn K (.ref f24) = true)
    {f25 : Addr} {od25 an25 : Option Addr} {sl25 : Array (Option Value)} {oc25 kV25 dc25 pm25 cd25 ct25 : Value}
    (a25 : PySem.W.nsIn K mainGlobals "check_tree" = some (some (.ref f25)))
    (l25 : K.lookup f25 = some ⟨oc25, od25, .func (PySem.W.fnOf "check_tree" "check_tree" (defArgs s25) (defBody s25) (defScope s25) .none kV25 dc25 pm25 an25 cd25 ct25), sl25⟩)
    (c25 : PySem.W.codeIn K cd25 "check_tree" = true)
    (k25 : PySem.W.keepIn K (.ref f25) = true)
    {f26 : Addr} {od26 an26 : Option Addr} {sl26 : Array (Option Value)} {oc26 kV26 dc26 pm26 cd26 ct26 : Value}
    (a26 : PySem.W.nsIn K mainGlobals "way_through" = some (some (.ref f26)))
    (l26 : K.lookup f26 = some ⟨oc26, od26, .func (PySem.W.fnOf "way_through" "way_through" (defArgs s26) (defBody s26) (defScope s26) .none kV26 dc26 pm26 an26 cd26 ct26), sl26⟩)
    (c26 : PySem.W.codeIn K cd26 "way_through" = true)
    (k26 : PySem.W.keepIn K (.ref f26) = true)
    {f27 : Addr} {od27 an27 : Option Addr} {sl27 : Array (Option Value)} {oc27 kV27 dc27 pm27 cd27 ct27 : Value}
    (a27 : PySem.W.nsIn K mainGlobals "spread_in" = some (some (.ref f27)))
    (l27 : K.lookup f27 = some ⟨oc27, od27, .func (PySem.W.fnOf "spread_in" "spread_in" (defArgs s27) (defBody s27) (defScope s27) .none kV27 dc27 pm27 an27 cd27 ct27), sl27⟩)
    (c27 : PySem.W.codeIn K cd27 "spread_in" = true)
    (k27 : PySem.W.keepIn K (.ref f27) = true)
    {f28 : Addr} {od28 an28 : Option Addr} {sl28 : Array (Option Value)} {oc28 kV28 dc28 pm28 cd28 ct28 : Value}
    (a28 : PySem.W.nsIn K mainGlobals "street_in" = some (some (.ref f28)))
    (l28 : K.lookup f28 = some ⟨oc28, od28, .func (PySem.W.fnOf "street_in" "street_in" (defArgs s28) (defBody s28) (defScope s28) .none kV28 dc28 pm28 an28 cd28 ct28), sl28⟩)
    (c28 : PySem.W.codeIn K cd28 "street_in" = true)
    (k28 : PySem.W.keepIn K (.ref f28) = true)
    {f29 : Addr} {od29 an29 : Option Addr} {sl29 : Array (Option Value)} {oc29 kV29 dc29 pm29 cd29 ct29 : Value}
    (a29 : PySem.W.nsIn K mainGlobals "numbered" = some (some (.ref f29)))
    (l29 : K.lookup f29 = some ⟨oc29, od29, .func (PySem.W.fnOf "numbered" "numbered" (defArgs s29) (defBody s29) (defScope s29) .none kV29 dc29 pm29 an29 cd29 ct29), sl29⟩)
    (c29 : PySem.W.codeIn K cd29 "numbered" = true)
    (k29 : PySem.W.keepIn K (.ref f29) = true)
    {f30 : Addr} {od30 an30 : Option Addr} {sl30 : Array (Option Value)} {oc30 kV30 dc30 pm30 cd30 ct30 : Value}
    (a30 : PySem.W.nsIn K mainGlobals "is_number" = some (some (.ref f30)))
    (l30 : K.lookup f30 = some ⟨oc30, od30, .func (PySem.W.fnOf "is_number" "is_number" (defArgs s30) (defBody s30) (defScope s30) .none kV30 dc30 pm30 an30 cd30 ct30), sl30⟩)
    (c30 : PySem.W.codeIn K cd30 "is_number" = true)
    (k30 : PySem.W.keepIn K (.ref f30) = true)
    {f31 : Addr} {od31 an31 : Option Addr} {sl31 : Array (Option Value)} {oc31 kV31 dc31 pm31 cd31 ct31 : Value}
    (a31 : PySem.W.nsIn K mainGlobals "first_twice" = some (some (.ref f31)))
    (l31 : K.lookup f31 = some ⟨oc31, od31, .func (PySem.W.fnOf "first_twice" "first_twice" (defArgs s31) (defBody s31) (defScope s31) .none kV31 dc31 pm31 an31 cd31 ct31), sl31⟩)
    (c31 : PySem.W.codeIn K cd31 "first_twice" = true)
    (k31 : PySem.W.keepIn K (.ref f31) = true)
    {f32 : Addr} {od32 an32 : Option Addr} {sl32 : Array (Option Value)} {oc32 kV32 dc32 pm32 cd32 ct32 : Value}
    (a32 : PySem.W.nsIn K mainGlobals "judged" = some (some (.ref f32)))
    (l32 : K.lookup f32 = some ⟨oc32, od32, .func (PySem.W.fnOf "judged" "judged" (defArgs s32) (defBody s32) (defScope s32) .none kV32 dc32 pm32 an32 cd32 ct32), sl32⟩)
    (c32 : PySem.W.codeIn K cd32 "judged" = true)
    (k32 : PySem.W.keepIn K (.ref f32) = true)
    {f33 : Addr} {od33 an33 : Option Addr} {sl33 : Array (Option Value)} {oc33 kV33 dc33 pm33 cd33 ct33 : Value}
    (a33 : PySem.W.nsIn K mainGlobals "upended" = some (some (.ref f33)))
    (l33 : K.lookup f33 = some ⟨oc33, od33, .func (PySem.W.fnOf "upended" "upended" (defArgs s33) (defBody s33) (defScope s33) .none kV33 dc33 pm33 an33 cd33 ct33), sl33⟩)
    (c33 : PySem.W.codeIn K cd33 "upended" = true)
    (k33 : PySem.W.keepIn K (.ref f33) = true)
    {f60 : Addr} {od60 an60 : Option Addr} {sl60 : Array (Option Value)} {oc60 kV60 dc60 pm60 cd60 ct60 : Value}
    (a60 : PySem.W.nsIn K mainGlobals "_law_copied" = some (some (.ref f60)))
    (l60 : K.lookup f60 = some ⟨oc60, od60, .func (PySem.W.fnOf "_law_copied" "_law_copied" (defArgs s60) (defBody s60) (defScope s60) .none kV60 dc60 pm60 an60 cd60 ct60), sl60⟩)
    (c60 : PySem.W.codeIn K cd60 "_law_copied" = true)
    (k60 : PySem.W.keepIn K (.ref f60) = true)
    {f61 : Addr} {od61 an61 : Option Addr} {sl61 : Array (Option Value)} {oc61 kV61 dc61 pm61 cd61 ct61 : Value}
    (a61 : PySem.W.nsIn K mainGlobals "_law_spoiled" = some (some (.ref f61)))
    (l61 : K.lookup f61 = some ⟨oc61, od61, .func (PySem.W.fnOf "_law_spoiled" "_law_spoiled" (defArgs s61) (defBody s61) (defScope s61) .none kV61 dc61 pm61 an61 cd61 ct61), sl61⟩)
    (c61 : PySem.W.codeIn K cd61 "_law_spoiled" = true)
    (k61 : PySem.W.keepIn K (.ref f61) = true)
    {f62 : Addr} {od62 an62 : Option Addr} {sl62 : Array (Option Value)} {oc62 kV62 dc62 pm62 cd62 ct62 : Value}
    (a62 : PySem.W.nsIn K mainGlobals "_law_laid" = some (some (.ref f62)))
    (l62 : K.lookup f62 = some ⟨oc62, od62, .func (PySem.W.fnOf "_law_laid" "_law_laid" (defArgs s62) (defBody s62) (defScope s62) .none kV62 dc62 pm62 an62 cd62 ct62), sl62⟩)
    (c62 : PySem.W.codeIn K cd62 "_law_laid" = true)
    (k62 : PySem.W.keepIn K (.ref f62) = true)
    {f63 : Addr} {od63 an63 : Option Addr} {sl63 : Array (Option Value)} {oc63 kV63 dc63 pm63 cd63 ct63 : Value}
    (a63 : PySem.W.nsIn K mainGlobals "_law_door_right" = some (some (.ref f63)))
    (l63 : K.lookup f63 = some ⟨oc63, od63, .func (PySem.W.fnOf "_law_door_right" "_law_door_right" (defArgs s63) (defBody s63) (defScope s63) .none kV63 dc63 pm63 an63 cd63 ct63), sl63⟩)
    (c63 : PySem.W.codeIn K cd63 "_law_door_right" = true)
    (k63 : PySem.W.keepIn K (.ref f63) = true)
    {f64 : Addr} {od64 an64 : Option Addr} {sl64 : Array (Option Value)} {oc64 kV64 dc64 pm64 cd64 ct64 : Value}
    (a64 : PySem.W.nsIn K mainGlobals "_law_told" = some (some (.ref f64)))
    (l64 : K.lookup f64 = some ⟨oc64, od64, .func (PySem.W.fnOf "_law_told" "_law_told" (defArgs s64) (defBody s64) (defScope s64) .none kV64 dc64 pm64 an64 cd64 ct64), sl64⟩)
    (c64 : PySem.W.codeIn K cd64 "_law_told" = true)
    (k64 : PySem.W.keepIn K (.ref f64) = true)
    {f65 : Addr} {od65 an65 : Option Addr} {sl65 : Array (Option Value)} {oc65 kV65 dc65 pm65 cd65 ct65 : Value}
    (a65 : PySem.W.nsIn K mainGlobals "_law_free_right" = some (some (.ref f65)))
    (l65 : K.lookup f65 = some ⟨oc65, od65, .func (PySem.W.fnOf "_law_free_right" "_law_free_right" (defArgs s65) (defBody s65) (defScope s65) .none kV65 dc65 pm65 an65 cd65 ct65), sl65⟩)
    (c65 : PySem.W.codeIn K cd65 "_law_free_right" = true)
    (k65 : PySem.W.keepIn K (.ref f65) = true)
    {f66 : Addr} {od66 an66 : Option Addr} {sl66 : Array (Option Value)} {oc66 kV66 dc66 pm66 ct66 : Value} {c_66 : Addr}
    (a66 : PySem.W.nsIn K mainGlobals "law" = some (some (.ref f66)))
    (l66 : K.lookup f66 = some ⟨oc66, od66, .func (PySem.W.fnOf "law" "law" (defArgs s66) (defBody s66) (defScope s66) .none kV66 dc66 pm66 an66 (.ref c_66) ct66), sl66⟩)
    (c66 : PySem.W.codeIn K (.ref c_66) "law" = true)
    (k66 : PySem.W.keepIn K (.ref f66) = true)
    (z_abs : PySem.W.nsIn K mainGlobals "abs" = some none)
    (z_all : PySem.W.nsIn K mainGlobals "all" = some none)
    (z_any : PySem.W.nsIn K mainGlobals "any" = some none)
    (z_bool : PySem.W.nsIn K mainGlobals "bool" = some none)
    (z_enumerate : PySem.W.nsIn K mainGlobals "enumerate" = some none)
    (z_int : PySem.W.nsIn K mainGlobals "int" = some none)
    (z_isinstance : PySem.W.nsIn K mainGlobals "isinstance" = some none)
    (z_len : PySem.W.nsIn K mainGlobals "len" = some none)
    (z_list : PySem.W.nsIn K mainGlobals "list" = some none)
    (z_max : PySem.W.nsIn K mainGlobals "max" = some none)
    (z_range : PySem.W.nsIn K mainGlobals "range" = some none)
    (z_set : PySem.W.nsIn K mainGlobals "set" = some none)
    (z_sorted : PySem.W.nsIn K mainGlobals "sorted" = some none)
    (z_sum : PySem.W.nsIn K mainGlobals "sum" = some none)
    (z_tuple : PySem.W.nsIn K mainGlobals "tuple" = some none)
    (z_zip : PySem.W.nsIn K mainGlobals "zip" = some none)
    {t_MOST : Tok}
    (m_MOST : PySem.W.nsIn K mainGlobals "MOST" = some (some (.int 60 t_MOST)))
    {t_MOST_HOUSES : Tok}
    (m_MOST_HOUSES : PySem.W.nsIn K mainGlobals "MOST_HOUSES" = some (some (.int 20 t_MOST_HOUSES)))
    {P_66 : Addr} {oe66 : Value} {oo66 : Option Addr} {sb66 : Array (Option Value)} {vs66 : Array Value}
    (q_66 : K.lookup c_66 = some ⟨oe66, oo66, .fields vs66, sb66⟩)
    (v_66 : vs66[11]? = some (.ref P_66))
    (n_66 : K.lookup P_66 = none)
    (d_66 : PySem.W.codeHdIn K c_66 P_66 = true)
    (g_66 : h.get? P_66 = some (PySem.W.tabObj #[]))
    : LamX.LawAtS l w K CX0 10 63 "_law_script" mg fa h := by
  have e := hfa.symm.trans (PySem.W.mg_of X G a66)
  cases e
  have F0 := fun_mk (st := s0) l0 c0 k0
  have b0 := F0.binds (ps := p0) fun _ _ _ _ _ _ us hl => match us, hl with | [_, _], _ => rfl
  have F1 := fun_mk (st := s1) l1 c1 k1
  have b1 := F1.binds (ps := p1) fun _ _ _ _ _ _ us hl => match us, hl with | [_], _ => rfl
  have F2 := fun_mk (st := s2) l2 c2 k2
  have b2 := F2.binds (ps := p2) fun _ _ _ _ _ _ us hl => match us, hl with | [_], _ => rfl
  have F3 := fun_mk (st := s3) l3 c3 k3
  have b3 := F3.binds (ps := p3) fun _ _ _ _ _ _ us hl => match us, hl with | [_, _], _ => rfl
  have F4 := fun_mk (st := s4) l4 c4 k4
  have b4 := F4.binds (ps := p4) fun _ _ _ _ _ _ us hl => match us, hl with | [_, _, _], _ => rfl
  have F5 := fun_mk (st := s5) l5 c5 k5
  have b5 := F5.binds (ps := p5) fun _ _ _ _ _ _ us hl => match us, hl with | [_], _ => rfl
  have F6 := fun_mk (st := s6) l6 c6 k6
  have b6 := F6.binds (ps := p6) fun _ _ _ _ _ _ us hl => match us, hl with | [_, _], _ => rfl
  have F7 := fun_mk (st := s7) l7 c7 k7
  have b7 := F7.binds (ps := p7) fun _ _ _ _ _ _ us hl => match us, hl with | [_, _], _ => rfl
  have F8 := fun_mk (st := s8) l8 c8 k8
  have b8 := F8.binds (ps := p8) fun _ _ _ _ _ _ us hl => match us, hl with | [_, _], _ => rfl
  have F9 := fun_mk (st := s9) l9 c9 k9
  have b9 := F9.binds (ps := p9) fun _ _ _ _ _ _ us hl => match us, hl with | [_, _], _ => rfl
  have F10 := fun_mk (st := s10) l10 c10 k10
  have b10 := F10.binds (ps := p10) fun _ _ _ _ _ _ us hl => match us, hl with | [_, _], _ => rfl
  have F12 := fun_mk (st := s12) l12 c12 k12
  have b12 := F12.binds (ps := p12) fun _ _ _ _ _ _ us hl => match us, hl with | [_, _, _, _], _ => rfl
  have F13 := fun_mk (st := s13) l13 c13 k13
  have b13 := F13.binds (ps := p13) fun _ _ _ _ _ _ us hl => match us, hl with | [_, _], _ => rfl
  have F14 := fun_mk (st := s14) l14 c14 k14
  have b14 := F14.binds (ps := p14) fun _ _ _ _ _ _ us hl => match us, hl with | [_, _, _, _], _ => rfl
  have F15 := fun_mk (st := s15) l15 c15 k15
  have b15 := F15.binds (ps := p15) fun _ _ _ _ _ _ us hl => match us, hl with | [_, _, _], _ => rfl
  have F16 := fun_mk (st := s16) l16 c16 k16
  have b16 := F16.binds (ps := p16) fun _ _ _ _ _ _ us hl => match us, hl with | [_, _, _, _], _ => rfl
  have F17 := fun_mk (st := s17) l17 c17 k17
  have b17 := F17.binds (ps := p17) fun _ _ _ _ _ _ us hl => match us, hl with | [_, _, _], _ => rfl
  have F18 := fun_mk (st := s18) l18 c18 k18
  have b18 := F18.binds (ps := p18) fun _ _ _ _ _ _ us hl => match us, hl with | [_, _, _, _], _ => rfl
  have F11 := fun_mk (st := s11) l11 c11 k11
  have b11 := F11.binds (ps := p11) fun _ _ _ _ _ _ us hl => match us, hl with | [_, _, _], _ => rfl
  have F19 := fun_mk (st := s19) l19 c19 k19
  have b19 := F19.binds (ps := p19) fun _ _ _ _ _ _ us hl => match us, hl with | [_, _], _ => rfl
  have F20 := fun_mk (st := s20) l20 c20 k20
  have b20 := F20.binds (ps := p20) fun _ _ _ _ _ _ us hl => match us, hl with | [_, _, _], _ => rfl
  have F21 := fun_mk (st := s21) l21 c21 k21
  have b21 := F21.binds (ps := p21) fun _ _ _ _ _ _ us hl => match us, hl with | [_, _, _, _, _], _ => rfl
  have F22 := fun_mk (st := s22) l22 c22 k22
  have b22 := F22.binds (ps := p22) fun _ _ _ _ _ _ us hl => match us, hl with | [_, _, _], _ => rfl
  have F23 := fun_mk (st := s23) l23 c23 k23
  have b23 := F23.binds (ps := p23) fun _ _ _ _ _ _ us hl => match us, hl with | [_, _], _ => rfl
  have F24 := fun_mk (st := s24) l24 c24 k24
  have b24 := F24.binds (ps := p24) fun _ _ _ _ _ _ us hl => match us, hl with | [_, _], _ => rfl
  have F25 := fun_mk (st := s25) l25 c25 k25
  have b25 := F25.binds (ps := p25) fun _ _ _ _ _ _ us hl => match us, hl with | [_, _], _ => rfl
  have F26 := fun_mk (st := s26) l26 c26 k26
  have b26 := F26.binds (ps := p26) fun _ _ _ _ _ _ us hl => match us, hl with | [_], _ => rfl
  have F27 := fun_mk (st := s27) l27 c27 k27
  have b27 := F27.binds (ps := p27) fun _ _ _ _ _ _ us hl => match us, hl with | [_], _ => rfl
  have F28 := fun_mk (st := s28) l28 c28 k28
  have b28 := F28.binds (ps := p28) fun _ _ _ _ _ _ us hl => match us, hl with | [_, _], _ => rfl
  have F29 := fun_mk (st := s29) l29 c29 k29
  have b29 := F29.binds (ps := p29) fun _ _ _ _ _ _ us hl => match us, hl with | [_, _], _ => rfl
  have F30 := fun_mk (st := s30) l30 c30 k30
  have b30 := F30.binds (ps := p30) fun _ _ _ _ _ _ us hl => match us, hl with | [_], _ => rfl
  have F31 := fun_mk (st := s31) l31 c31 k31
  have b31 := F31.binds (ps := p31) fun _ _ _ _ _ _ us hl => match us, hl with | [_], _ => rfl
  have F32 := fun_mk (st := s32) l32 c32 k32
  have b32 := F32.binds (ps := p32) fun _ _ _ _ _ _ us hl => match us, hl with | [_, _, _], _ => rfl
  have F33 := fun_mk (st := s33) l33 c33 k33
  have b33 := F33.binds (ps := p33) fun _ _ _ _ _ _ us hl => match us, hl with | [_], _ => rfl
  have F60 := fun_mk (st := s60) l60 c60 k60
  have b60 := F60.binds (ps := p60) fun _ _ _ _ _ _ us hl => match us, hl with | [_], _ => rfl
  have F61 := fun_mk (st := s61) l61 c61 k61
  have b61 := F61.binds (ps := p61) fun _ _ _ _ _ _ us hl => match us, hl with | [_], _ => rfl
  have F62 := fun_mk (st := s62) l62 c62 k62
  have b62 := F62.binds (ps := p62) fun _ _ _ _ _ _ us hl => match us, hl with | [_, _], _ => rfl
  have F63 := fun_mk (st := s63) l63 c63 k63
  have b63 := F63.binds (ps := p63) fun _ _ _ _ _ _ us hl => match us, hl with | [_, _, _], _ => rfl
  have F64 := fun_mk (st := s64) l64 c64 k64
  have b64 := F64.binds (ps := p64) fun _ _ _ _ _ _ us hl => match us, hl with | [_], _ => rfl
  have F65 := fun_mk (st := s65) l65 c65 k65
  have b65 := F65.binds (ps := p65) fun _ _ _ _ _ _ us hl => match us, hl with | [_, _, _, _], _ => rfl
  have F66 := fun_mk (st := s66) l66 c66 k66
  have b66 := F66.binds (ps := p66) fun _ _ _ _ _ _ us hl => match us, hl with | [_], _ => rfl
  let d0 : FuncData := (PySem.W.fnOf "is_whole" "is_whole" (defArgs s0) (defBody s0) (defScope s0) .none kV0 dc0 pm0 an0 cd0 ct0)
  let Cs : Nat → Addr := fun i => ([C0, C1, C2, C3, C4, C5, C6] : List Addr).getD i 0
  let fs : Nat → Addr := fun i => ([f0, f1, f2, f3, f4, f5, f6, f7, f8, f9, f10, f11, f12, f13, f14, f15, f16, f17, f18, f19, f20, f21, f22, f23, f24, f25, f26, f27, f28, f29, f30, f31, f32, f33, 0, 0, 0, 0, 0, 0, 0, 0, 0, 0, 0, 0, 0, 0, 0, 0, 0, 0, 0, 0, 0, 0, 0, 0, 0, 0, f60, f61, f62, f63, f64, f65, fa] : List Addr).getD i 0
  let fd : Nat → FuncData := fun i => ([(PySem.W.fnOf "is_whole" "is_whole" (defArgs s0) (defBody s0) (defScope s0) .none kV0 dc0 pm0 an0 cd0 ct0), (PySem.W.fnOf "check_street" "check_street" (defArgs s1) (defBody s1) (defScope s1) .none kV1 dc1 pm1 an1 cd1 ct1), (PySem.W.fnOf "many_of" "many_of" (defArgs s2) (defBody s2) (defScope s2) .none kV2 dc2 pm2 an2 cd2 ct2), (PySem.W.fnOf "ahead_of" "ahead_of" (defArgs s3) (defBody s3) (defScope s3) .none kV3 dc3 pm3 an3 cd3 ct3), (PySem.W.fnOf "number_at" "number_at" (defArgs s4) (defBody s4) (defScope s4) .none kV4 dc4 pm4 an4 cd4 ct4), (PySem.W.fnOf "houses_of" "houses_of" (defArgs s5) (defBody s5) (defScope s5) .none kV5 dc5 pm5 an5 cd5 ct5), (PySem.W.fnOf "number_of" "number_of" (defArgs s6) (defBody s6) (defScope s6) .none kV6 dc6 pm6 an6 cd6 ct6), (PySem.W.fnOf "house_of" "house_of" (defArgs s7) (defBody s7) (defScope s7) .none kV7 dc7 pm7 an7 cd7 ct7), (PySem.W.fnOf "road_of" "road_of" (defArgs s8) (defBody s8) (defScope s8) .none kV8 dc8 pm8 an8 cd8 ct8), (PySem.W.fnOf "gap_of" "gap_of" (defArgs s9) (defBody s9) (defScope s9) .none kV9 dc9 pm9 an9 cd9 ct9), (PySem.W.fnOf "is_below" "is_below" (defArgs s10) (defBody s10) (defScope s10) .none kV10 dc10 pm10 an10 cd10 ct10), (PySem.W.fnOf "are_joined" "are_joined" (defArgs s11) (defBody s11) (defScope s11) .none kV11 dc11 pm11 an11 cd11 ct11), (PySem.W.fnOf "shows" "Good.shows" (defArgs s12) (defBody s12) (defScope s12) .none kV12 dc12 pm12 an12 cd12 ct12), (PySem.W.fnOf "__init__" "Beyond.__init__" (defArgs s13) (defBody s13) (defScope s13) .none kV13 dc13 pm13 an13 cd13 ct13), (PySem.W.fnOf "shows" "Beyond.shows" (defArgs s14) (defBody s14) (defScope s14) .none kV14 dc14 pm14 an14 cd14 ct14), (PySem.W.fnOf "__init__" "Alike.__init__" (defArgs s15) (defBody s15) (defScope s15) .none kV15 dc15 pm15 an15 cd15 ct15), (PySem.W.fnOf "shows" "Alike.shows" (defArgs s16) (defBody s16) (defScope s16) .none kV16 dc16 pm16 an16 cd16 ct16), (PySem.W.fnOf "__init__" "Same.__init__" (defArgs s17) (defBody s17) (defScope s17) .none kV17 dc17 pm17 an17 cd17 ct17), (PySem.W.fnOf "shows" "Same.shows" (defArgs s18) (defBody s18) (defScope s18) .none kV18 dc18 pm18 an18 cd18 ct18), (PySem.W.fnOf "__init__" "Street.__init__" (defArgs s19) (defBody s19) (defScope s19) .none kV19 dc19 pm19 an19 cd19 ct19), (PySem.W.fnOf "shows" "Street.shows" (defArgs s20) (defBody s20) (defScope s20) .none kV20 dc20 pm20 an20 cd20 ct20), (PySem.W.fnOf "__init__" "Spread.__init__" (defArgs s21) (defBody s21) (defScope s21) .none kV21 dc21 pm21 an21 cd21 ct21), (PySem.W.fnOf "shows" "Spread.shows" (defArgs s22) (defBody s22) (defScope s22) .none kV22 dc22 pm22 an22 cd22 ct22), (PySem.W.fnOf "near_of" "near_of" (defArgs s23) (defBody s23) (defScope s23) .none kV23 dc23 pm23 an23 cd23 ct23), (PySem.W.fnOf "is_road" "is_road" (defArgs s24) (defBody s24) (defScope s24) .none kV24 dc24 pm24 an24 cd24 ct24), (PySem.W.fnOf "check_tree" "check_tree" (defArgs s25) (defBody s25) (defScope s25) .none kV25 dc25 pm25 an25 cd25 ct25), (PySem.W.fnOf "way_through" "way_through" (defArgs s26) (defBody s26) (defScope s26) .none kV26 dc26 pm26 an26 cd26 ct26), (PySem.W.fnOf "spread_in" "spread_in" (defArgs s27) (defBody s27) (defScope s27) .none kV27 dc27 pm27 an27 cd27 ct27), (PySem.W.fnOf "street_in" "street_in" (defArgs s28) (defBody s28) (defScope s28) .none kV28 dc28 pm28 an28 cd28 ct28), (PySem.W.fnOf "numbered" "numbered" (defArgs s29) (defBody s29) (defScope s29) .none kV29 dc29 pm29 an29 cd29 ct29), (PySem.W.fnOf "is_number" "is_number" (defArgs s30) (defBody s30) (defScope s30) .none kV30 dc30 pm30 an30 cd30 ct30), (PySem.W.fnOf "first_twice" "first_twice" (defArgs s31) (defBody s31) (defScope s31) .none kV31 dc31 pm31 an31 cd31 ct31), (PySem.W.fnOf "judged" "judged" (defArgs s32) (defBody s32) (defScope s32) .none kV32 dc32 pm32 an32 cd32 ct32), (PySem.W.fnOf "upended" "upended" (defArgs s33) (defBody s33) (defScope s33) .none kV33 dc33 pm33 an33 cd33 ct33), d0, d0, d0, d0, d0, d0, d0, d0, d0, d0, d0, d0, d0, d0, d0, d0, d0, d0, d0, d0, d0, d0, d0, d0, d0, d0, (PySem.W.fnOf "_law_copied" "_law_copied" (defArgs s60) (defBody s60) (defScope s60) .none kV60 dc60 pm60 an60 cd60 ct60), (PySem.W.fnOf "_law_spoiled" "_law_spoiled" (defArgs s61) (defBody s61) (defScope s61) .none kV61 dc61 pm61 an61 cd61 ct61), (PySem.W.fnOf "_law_laid" "_law_laid" (defArgs s62) (defBody s62) (defScope s62) .none kV62 dc62 pm62 an62 cd62 ct62), (PySem.W.fnOf "_law_door_right" "_law_door_right" (defArgs s63) (defBody s63) (defScope s63) .none kV63 dc63 pm63 an63 cd63 ct63), (PySem.W.fnOf "_law_told" "_law_told" (defArgs s64) (defBody s64) (defScope s64) .none kV64 dc64 pm64 an64 cd64 ct64), (PySem.W.fnOf "_law_free_right" "_law_free_right" (defArgs s65) (defBody s65) (defScope s65) .none kV65 dc65 pm65 an65 cd65 ct65), (PySem.W.fnOf "law" "law" (defArgs s66) (defBody s66) (defScope s66) .none kV66 dc66 pm66 an66 (.ref c_66) ct66)] : List FuncData).getD i d0
  let cc : Nat → Addr := fun i => ([0, 0, 0, 0, 0, 0, 0, 0, 0, 0, 0, 0, 0, 0, 0, 0, 0, 0, 0, 0, 0, 0, 0, 0, 0, 0, 0, 0, 0, 0, 0, 0, 0, 0, 0, 0, 0, 0, 0, 0, 0, 0, 0, 0, 0, 0, 0, 0, 0, 0, 0, 0, 0, 0, 0, 0, 0, 0, 0, 0, 0, 0, 0, 0, 0, 0, c_66] : List Addr).getD i 0
  let pp : Nat → Addr := fun i => ([0, 0, 0, 0, 0, 0, 0, 0, 0, 0, 0, 0, 0, 0, 0, 0, 0, 0, 0, 0, 0, 0, 0, 0, 0, 0, 0, 0, 0, 0, 0, 0, 0, 0, 0, 0, 0, 0, 0, 0, 0, 0, 0, 0, 0, 0, 0, 0, 0, 0, 0, 0, 0, 0, 0, 0, 0, 0, 0, 0, 0, 0, 0, 0, 0, 0, P_66] : List Addr).getD i 0
  have FX : Fx K mg Cs fs cc pp fd := ⟨⟨F0, b0, PySem.W.mg_of X G a0⟩, ⟨F1, b1, PySem.W.mg_of X G a1⟩, ⟨F2, b2, PySem.W.mg_of X G a2⟩, ⟨F3, b3, PySem.W.mg_of X G a3⟩, ⟨F4, b4, PySem.W.mg_of X G a4⟩, ⟨F5, b5, PySem.W.mg_of X G a5⟩, ⟨F6, b6, PySem.W.mg_of X G a6⟩, ⟨F7, b7, PySem.W.mg_of X G a7⟩, ⟨F8, b8, PySem.W.mg_of X G a8⟩, ⟨F9, b9, PySem.W.mg_of X G a9⟩, ⟨F10, b10, PySem.W.mg_of X G a10⟩, ⟨F12, b12, ⟨a12, i12, k12⟩⟩, ⟨F13, b13, ⟨a13, i13, k13⟩⟩, ⟨mk2, a13, i13, kc2⟩, ⟨F14, b14, ⟨a14, i14, k14⟩⟩, ⟨F15, b15, ⟨a15, i15, k15⟩⟩, ⟨mk3, a15, i15, kc3⟩, ⟨F16, b16, ⟨a16, i16, k16⟩⟩, ⟨F17, b17, ⟨a17, i17, k17⟩⟩, ⟨mk4, a17, i17, kc4⟩, ⟨F18, b18, ⟨a18, i18, k18⟩⟩, ⟨F11, b11, PySem.W.mg_of X G a11⟩, ⟨F19, b19, ⟨a19, i19, k19⟩⟩, ⟨mk5, a19, i19, kc5⟩, ⟨F20, b20, ⟨a20, i20, k20⟩⟩, ⟨F21, b21, ⟨a21, i21, k21⟩⟩, ⟨mk6, a21, i21, kc6⟩, ⟨F22, b22, ⟨a22, i22, k22⟩⟩, ⟨F23, b23, PySem.W.mg_of X G a23⟩, ⟨F24, b24, PySem.W.mg_of X G a24⟩, ⟨F25, b25, PySem.W.mg_of X G a25⟩, ⟨F26, b26, PySem.W.mg_of X G a26⟩, ⟨F27, b27, PySem.W.mg_of X G a27⟩, ⟨F28, b28, PySem.W.mg_of X G a28⟩, ⟨F29, b29, PySem.W.mg_of X G a29⟩, ⟨F30, b30, PySem.W.mg_of X G a30⟩, ⟨F31, b31, PySem.W.mg_of X G a31⟩, ⟨F32, b32, PySem.W.mg_of X G a32⟩, ⟨F33, b33, PySem.W.mg_of X G a33⟩, ⟨F60, b60, PySem.W.mg_of X G a60⟩, ⟨F61, b61, PySem.W.mg_of X G a61⟩, ⟨F62, b62, PySem.W.mg_of X G a62⟩, ⟨F63, b63, PySem.W.mg_of X G a63⟩, ⟨F64, b64, PySem.W.mg_of X G a64⟩, ⟨F65, b65, PySem.W.mg_of X G a65⟩, ⟨F66, b66, PySem.W.mg_of X G a66⟩, ⟨⟨pg0, hd0, po0, sa0⟩, ⟨⟨pg0, hd0, po0, sa0⟩, ha0, thn, thk, hm0⟩, mk0, kc0, PySem.W.mg_of X G aC0⟩, in0, ⟨⟨pg1, hd1, po1, sa1⟩, ⟨⟨pg1, hd1, po1, sa1⟩, ha1, thn, thk, hm1⟩, mk1, kc1, PySem.W.mg_of X G aC1⟩, in1, ⟨⟨pg2, hd2, po2, sa2⟩, ⟨⟨pg2, hd2, po2, sa2⟩, ha2, thn, thk, hm2⟩, mk2, kc2, PySem.W.mg_of X G aC2⟩, na2_house, ⟨⟨pg3, hd3, po3, sa3⟩, ⟨⟨pg3, hd3, po3, sa3⟩, ha3, thn, thk, hm3⟩, mk3, kc3, PySem.W.mg_of X G aC3⟩, na3_one, na3_other, ⟨⟨pg4, hd4, po4, sa4⟩, ⟨⟨pg4, hd4, po4, sa4⟩, ha4, thn, thk, hm4⟩, mk4, kc4, PySem.W.mg_of X G aC4⟩, na4_one, na4_other, ⟨⟨pg5, hd5, po5, sa5⟩, ⟨⟨pg5, hd5, po5, sa5⟩, ha5, thn, thk, hm5⟩, mk5, kc5, PySem.W.mg_of X G aC5⟩, na5_way, ⟨⟨pg6, hd6, po6, sa6⟩, ⟨⟨pg6, hd6, po6, sa6⟩, ha6, thn, thk, hm6⟩, mk6, kc6, PySem.W.mg_of X G aC6⟩, na6_house, na6_first, na6_second, na6_third, kit_own ic5 tc5 s1_Street (fun _ => ne1_Street), kit_own ic5 tc5 s2_Street (fun _ => ne2_Street), kit_own ic5 tc5 s3_Street (fun _ => ne3_Street), kit_own ic5 tc5 s4_Street (fun _ => ne4_Street), kit_own ic5 tc5 s5_Street (fun z => by cases z), kit_own ic5 tc5 s6_Street (fun _ => ne6_Street), PySem.W.mg_none_of X G z_abs, PySem.W.mg_none_of X G z_all, PySem.W.mg_none_of X G z_any, PySem.W.mg_none_of X G z_bool, PySem.W.mg_none_of X G z_enumerate, PySem.W.mg_none_of X G z_int, PySem.W.mg_none_of X G z_isinstance, PySem.W.mg_none_of X G z_len, PySem.W.mg_none_of X G z_list, PySem.W.mg_none_of X G z_max, PySem.W.mg_none_of X G z_range, PySem.W.mg_none_of X G z_set, PySem.W.mg_none_of X G z_sorted, PySem.W.mg_none_of X G z_sum, PySem.W.mg_none_of X G z_tuple, PySem.W.mg_none_of X G z_zip, ⟨_, PySem.W.mg_of X G m_MOST⟩, ⟨_, PySem.W.mg_of X G m_MOST_HOUSES⟩, rfl, List.forall_mem_cons.mpr ⟨List.forall_mem_cons.mpr ⟨fun _ => rfl, fun _ h => nomatch h⟩, fun _ h => nomatch h⟩⟩
  refine ⟨fd 66, [(c_66, P_66)], spLaw K [(c_66, P_66)] 63, List.forall_mem_cons.mpr ⟨g_66, fun _ h => nomatch h⟩, List.forall_mem_cons.mpr ⟨n_66, fun _ h => nomatch h⟩, List.forall_mem_cons.mpr ⟨PySem.W.codeHd_of_K X d_66, fun _ h => nomatch h⟩, fun s v => .of_eq rfl, fun H a ns h1 h2 h3 h4 => ⟨a, ns, rfl, h1, h2, h3, h4, fun _ => rfl⟩, fun base _ _ TB => ?_⟩
  have TX : Tx base mg cc pp := ⟨TB (c_66, P_66) (List.mem_of_getElem? (i := 0) rfl)⟩
  exact law_fn (T := TU K Cs fs pp (fun _ => none) []) rfl rfl (List.forall_mem_cons.mpr ⟨⟨(c_66, P_66), List.mem_of_getElem? (i := 0) rfl, rfl⟩, fun _ h => nomatch h⟩) ((lv FX TX 10 (fun _ => none) []).g66 (fun _ _ => rfl)) law_true
end G
open PySem PySem.W PyProof.Rows
set_option maxRecDepth 100000 in
set_option maxHeartbeats 0 in
theorem PySem.Challenge.cw_unlikeroads_k10_handed_stays_holds : PySem.Challenge.rw_unlikeroads_k10_handed_stays.Holds := by
  w_on; o_law; k_head; (case hw => w_witness2)
  k_fill
  refine LamX.walk_ofTs (l := PySem.Challenge.rw_unlikeroads_k10_handed_stays) (n := 63) (k := 10) (x := "_law_script") (CX := fun _ => L2.CX0) rfl (by decide) rfl ⟨rfl, by decide, by decide⟩ (fun w h Y => PySem.W.km_in_of Y) ?F (fun _ _ _ _ _ z => z)
  case F =>
    intro w mg fa h Y KX GN hmg
    refine' G.all_mk KX GN hmg ?aC0 ?pg0 ?hd0 ?po0 ?sa0 ?mk0 ?kc0 ?ha0 ?hm0 ?in0 ?aC1 ?pg1 ?hd1 ?po1 ?sa1 ?mk1 ?kc1 ?ha1 ?hm1 ?in1 ?aC2 ?pg2 ?hd2 ?po2 ?sa2 ?mk2 ?kc2 ?ha2 ?hm2 ?na2_house ?aC3 ?pg3 ?hd3 ?po3 ?sa3 ?mk3 ?kc3 ?ha3 ?hm3 ?na3_one ?na3_other ?aC4 ?pg4 ?hd4 ?po4 ?sa4 ?mk4 ?kc4 ?ha4 ?hm4 ?na4_one ?na4_other ?aC5 ?pg5 ?hd5 ?po5 ?sa5 ?mk5 ?kc5 ?ha5 ?hm5 ?na5_way ?aC6 ?pg6 ?hd6 ?po6 ?sa6 ?mk6 ?kc6 ?ha6 ?hm6 ?na6_house ?na6_first ?na6_second ?na6_third ?ic0 ?tc0 ?ic1 ?tc1 ?ic2 ?tc2 ?ic3 ?tc3 ?ic4 ?tc4 ?ic5 ?tc5 ?ic6 ?tc6 ?thn ?thk ?s1_Street ?ne1_Street ?s2_Street ?ne2_Street ?s3_Street ?ne3_Street ?s4_Street ?ne4_Street ?s5_Street ?s6_Street ?ne6_Street ?a0 ?l0 ?c0 ?k0 ?a1 ?l1 ?c1 ?k1 ?a2 ?l2 ?c2 ?k2 ?a3 ?l3 ?c3 ?k3 ?a4 ?l4 ?c4 ?k4 ?a5 ?l5 ?c5 ?k5 ?a6 ?l6 ?c6 ?k6 ?a7 ?l7 ?c7 ?k7 ?a8 ?l8 ?c8 ?k8 ?a9 ?l9 ?c9 ?k9 ?a10 ?l10 ?c10 ?k10 ?a12 ?i12 ?l12 ?c12 ?k12 ?a13 ?i13 ?l13 ?c13 ?k13 ?a14 ?i14 ?l14 ?c14 ?k14 ?a15 ?i15 ?l15 ?c15 ?k15 ?a16 ?i16 ?l16 ?c16 ?k16 ?a17 ?i17 ?l17 ?c17 ?k17 ?a18 ?i18 ?l18 ?c18 ?k18 ?a11 ?l11 ?c11 ?k11 ?a19 ?i19 ?l19 ?c19 ?k19 ?a20 ?i20 ?l20 ?c20 ?k20 ?a21 ?i21 ?l21 ?c21 ?k21 ?a22 ?i22 ?l22 ?c22 ?k22 ?a23 ?l23 ?c23 ?k23 ?a24 ?l24 ?c24 ?k24 ?a25 ?l25 ?c25 ?k25 ?a26 ?l26 ?c26 ?k26 ?a27 ?l27 ?c27 ?k27 ?a28 ?l28 ?c28 ?k28 ?a29 ?l29 ?c29 ?k29 ?a30 ?l30 ?c30 ?k30 ?a31 ?l31 ?c31 ?k31 ?a32 ?l32 ?c32 ?k32 ?a33 ?l33 ?c33 ?k33 ?a60 ?l60 ?c60 ?k60 ?a61 ?l61 ?c61 ?k61 ?a62 ?l62 ?c62 ?k62 ?a63 ?l63 ?c63 ?k63 ?a64 ?l64 ?c64 ?k64 ?a65 ?l65 ?c65 ?k65 ?a66 ?l66 ?c66 ?k66 ?z_abs ?z_all ?z_any ?z_bool ?z_enumerate ?z_int ?z_isinstance ?z_len ?z_list ?z_max ?z_range ?z_set ?z_sorted ?z_sum ?z_tuple ?z_zip ?m_MOST ?m_MOST_HOUSES ?q_66 ?v_66 ?n_66 ?d_66 ?g_66
    (case aC0 => k_is)
    (case pg0 => k_is)
    (case hd0 => k_is)
    (case po0 => k_is)
    (case sa0 => k_is)
    (case mk0 => k_is)
    (case kc0 => k_is)
    (case ha0 => k_is)
    (case hm0 => k_is)
    (case in0 => k_is)
    (case aC1 => k_is)
    (case pg1 => k_is)
    (case hd1 => k_is)
    (case po1 => k_is)
    (case sa1 => k_is)
    (case mk1 => k_is)
    (case kc1 => k_is)
    (case ha1 => k_is)
    (case hm1 => k_is)
    (case in1 => k_is)
    (case aC2 => k_is)
    (case pg2 => k_is)
    (case hd2 => k_is)
    (case po2 => k_is)
    (case sa2 => k_is)
    (case mk2 => k_is)
    (case kc2 => k_is)
    (case ha2 => k_is)
    (case hm2 => k_is)
    (case na2_house => k_is)
    (case aC3 => k_is)
    (case pg3 => k_is)
    (case hd3 => k_is)
    (case po3 => k_is)
    (case sa3 => k_is)
    (case mk3 => k_is)
    (case kc3 => k_is)
    (case ha3 => k_is)
    (case hm3 => k_is)
    (case na3_one => k_is)
    (case na3_other => k_is)
    (case aC4 => k_is)
    (case pg4 => k_is)
    (case hd4 => k_is)
    (case po4 => k_is)
    (case sa4 => k_is)
    (case mk4 => k_is)
    (case kc4 => k_is)
    (case ha4 => k_is)
    (case hm4 => k_is)
    (case na4_one => k_is)
    (case na4_other => k_is)
    (case aC5 => k_is)
    (case pg5 => k_is)
    (case hd5 => k_is)
    (case po5 => k_is)
    (case sa5 => k_is)
    (case mk5 => k_is)
    (case kc5 => k_is)
    (case ha5 => k_is)
    (case hm5 => k_is)
    (case na5_way => k_is)
    (case aC6 => k_is)
    (case pg6 => k_is)
    (case hd6 => k_is)
    (case po6 => k_is)
    (case sa6 => k_is)
    (case mk6 => k_is)
    (case kc6 => k_is)
    (case ha6 => k_is)
    (case hm6 => k_is)
    (case na6_house => k_is)
    (case na6_first => k_is)
    (case na6_second => k_is)
    (case na6_third => k_is)
    (case ic0 => k_is)
    (case tc0 => k_is)
    (case ic1 => k_is)
    (case tc1 => k_is)
    (case ic2 => k_is)
    (case tc2 => k_is)
    (case ic3 => k_is)
    (case tc3 => k_is)
    (case ic4 => k_is)
    (case tc4 => k_is)
    (case ic5 => k_is)
    (case tc5 => k_is)
    (case ic6 => k_is)
    (case tc6 => k_is)
    (case thn => k_is)
    (case thk => k_is)
    (case s1_Street => k_is)
    (case ne1_Street => decide)
    (case s2_Street => k_is)
    (case ne2_Street => decide)
    (case s3_Street => k_is)
    (case ne3_Street => decide)
    (case s4_Street => k_is)
    (case ne4_Street => decide)
    (case s5_Street => k_is)
    (case s6_Street => k_is)
    (case ne6_Street => decide)
    (case a0 => k_is)
    (case l0 => k_is)
    (case c0 => k_is)
    (case k0 => k_is)
    (case a1 => k_is)
    (case l1 => k_is)
    (case c1 => k_is)
    (case k1 => k_is)
    (case a2 => k_is)
    (case l2 => k_is)
    (case c2 => k_is)
    (case k2 => k_is)
    (case a3 => k_is)
    (case l3 => k_is)
    (case c3 => k_is)
    (case k3 => k_is)
    (case a4 => k_is)
    (case l4 => k_is)
    (case c4 => k_is)
    (case k4 => k_is)
    (case a5 => k_is)
    (case l5 => k_is)
    (case c5 => k_is)
    (case k5 => k_is)
    (case a6 => k_is)
    (case l6 => k_is)
    (case c6 => k_is)
    (case k6 => k_is)
    (case a7 => k_is)
    (case l7 => k_is)
    (case c7 => k_is)
    (case k7 => k_is)
    (case a8 => k_is)
    (case l8 => k_is)
    (case c8 => k_is)
    (case k8 => k_is)
    (case a9 => k_is)
    (case l9 => k_is)
    (case c9 => k_is)
    (case k9 => k_is)
    (case a10 => k_is)
    (case l10 => k_is)
    (case c10 => k_is)
    (case k10 => k_is)
    (case a12 => k_is)
    (case i12 => k_is)
    (case l12 => k_is)
    (case c12 => k_is)
    (case k12 => k_is)
    (case a13 => k_is)
    (case i13 => k_is)
    (case l13 => k_is)
    (case c13 => k_is)
    (case k13 => k_is)
    (case a14 => k_is)
    (case i14 => k_is)
    (case l14 => k_is)
    (case c14 => k_is)
    (case k14 => k_is)
    (case a15 => k_is)
    (case i15 => k_is)
    (case l15 => k_is)
    (case c15 => k_is)
    (case k15 => k_is)
    (case a16 => k_is)
    (case i16 => k_is)
    (case l16 => k_is)
    (case c16 => k_is)
    (case k16 => k_is)
    (case a17 => k_is)
    (case i17 => k_is)
    (case l17 => k_is)
    (case c17 => k_is)
    (case k17 => k_is)
    (case a18 => k_is)
    (case i18 => k_is)
    (case l18 => k_is)
    (case c18 => k_is)
    (case k18 => k_is)
    (case a11 => k_is)
    (case l11 => k_is)
    (case c11 => k_is)
    (case k11 => k_is)
    (case a19 => k_is)
    (case i19 => k_is)
    (case l19 => k_is)
    (case c19 => k_is)
    (case k19 => k_is)
    (case a20 => k_is)
    (case i20 => k_is)
    (case l20 => k_is)
    (case c20 => k_is)
    (case k20 => k_is)
    (case a21 => k_is)
    (case i21 => k_is)
    (case l21 => k_is)
    (case c21 => k_is)
    (case k21 => k_is)
    (case a22 => k_is)
    (case i22 => k_is)
    (case l22 => k_is)
    (case c22 => k_is)
    (case k22 => k_is)
    (case a23 => k_is)
    (case l23 => k_is)
    (case c23 => k_is)
    (case k23 => k_is)
    (case a24 => k_is)
    (case l24 => k_is)
    (case c24 => k_is)
    (case k24 => k_is)
    (case a25 => k_is)
    (case l25 => k_is)
    (case c25 => k_is)
    (case k25 => k_is)
    (case a26 => k_is)
    (case l26 => k_is)
    (case c26 => k_is)
    (case k26 => k_is)
    (case a27 => k_is)
    (case l27 => k_is)
    (case c27 => k_is)
    (case k27 => k_is)
    (case a28 => k_is)
    (case l28 => k_is)
    (case c28 => k_is)
    (case k28 => k_is)
    (case a29 => k_is)
    (case l29 => k_is)
    (case c29 => k_is)
    (case k29 => k_is)
    (case a30 => k_is)
    (case l30 => k_is)
    (case c30 => k_is)
    (case k30 => k_is)
    (case a31 => k_is)
    (case l31 => k_is)
    (case c31 => k_is)
    (case k31 => k_is)
    (case a32 => k_is)
    (case l32 => k_is)
    (case c32 => k_is)
    (case k32 => k_is)
    (case a33 => k_is)
    (case l33 => k_is)
    (case c33 => k_is)
    (case k33 => k_is)
    (case a60 => k_is)
    (case l60 => k_is)
    (case c60 => k_is)
    (case k60 => k_is)
    (case a61 => k_is)
    (case l61 => k_is)
    (case c61 => k_is)
    (case k61 => k_is)
    (case a62 => k_is)
    (case l62 => k_is)
    (case c62 => k_is)
    (case k62 => k_is)
    (case a63 => k_is)
    (case l63 => k_is)
    (case c63 => k_is)
    (case k63 => k_is)
    (case a64 => k_is)
    (case l64 => k_is)
    (case c64 => k_is)
    (case k64 => k_is)
    (case a65 => k_is)
    (case l65 => k_is)
    (case c65 => k_is)
    (case k65 => k_is)
    (case a66 => k_is)
    (case l66 => k_is)
    (case c66 => k_is)
    (case k66 => k_is)
    (case z_abs => k_is)
    (case z_all => k_is)
    (case z_any => k_is)
    (case z_bool => k_is)
    (case z_enumerate => k_is)
    (case z_int => k_is)
    (case z_isinstance => k_is)
    (case z_len => k_is)
    (case z_list => k_is)
    (case z_max => k_is)
    (case z_range => k_is)
    (case z_set => k_is)
    (case z_sorted => k_is)
    (case z_sum => k_is)
    (case z_tuple => k_is)
    (case z_zip => k_is)
    (case m_MOST => k_is)
    (case m_MOST_HOUSES => k_is)
    (case q_66 => k_is)
    (case v_66 => rfl)
    (case n_66 => kernel_rfl)
    (case d_66 => kernel_rfl)
    (case g_66 => exact PySem.W.km_tabs_of Y _ (by decide))


