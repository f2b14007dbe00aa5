import PyProof.Rows.All
import Wide.All
import OpenK.AllK
import Wide.FinOn
import HandS.ForMost
import HandS.TupAny
import HandS.Wide
import HandS.Gcd
import HandS.SortInts
import HandS.IsInst
import HandS.WideBits
import HandS.Style
import HandS.TupMul
import HandS.EndBits
import KE.IntBitsLaws
import PySem.Challenge.RW_roundline_k93_whole_gears_as_services
set_option Elab.async false
set_option linter.all false
set_option maxRecDepth 100000
set_option maxHeartbeats 4000000
namespace M3
open PySem PySem.Spec PyProof.Rows L2

abbrev D := PyData
abbrev St := L2.St
/-- what a name holds: frozen data, or the j-th cell (a list that may change) -/
inductive Sl where
  | im (d : D)
  | rf (j : Nat)
/-- the plain memory: b cells come from the caller, s the names' contents, m the cells' -/
structure Ct where
  b : Nat
  s : List (Option Sl)
  m : List (List D)
/-- the entry: frozen part, heap, the caller's cells -/
structure Bs where
  I : Hp
  H : Hp
  ps : List Addr

def VS (K : PySem.W.Frag) (I : Hp) (as : List Addr) (v : V) : Sl → Prop
  | .im d => Dp K I v d
  | .rf j => ∃ a, as[j]? = some a ∧ v = .ref a

structure Ge (K : PySem.W.Frag) (B : Bs) (c : Ct) (σ : St) (H I : Hp) (as : List Addr) : Prop where
  ext : Same B.I I
  sub : Same I H
  new : ∀ a o, I a = some o → B.I a = none → B.H a = none
  frm : ∀ a o, a ∉ B.ps → B.H a = some o → H a = some o
  bl : c.b = B.ps.length
  pre : as.take c.b = B.ps
  nd : as.Nodup
  cell : ∀ (j : Nat) a, as[j]? = some a → I a = none ∧ (a ∈ B.ps ∨ B.H a = none)
  len : as.length = c.m.length
  con : ∀ (j : Nat) a ds, as[j]? = some a → c.m[j]? = some ds → ∃ xs, H a = some (.lst xs) ∧ DpAll K I xs ds
  slen : σ.length = c.s.length
  slot : ∀ (i : Nat) sl, c.s[i]? = some (some sl) → ∃ v, σ[i]? = some (some v) ∧ VS K I as v sl

/-! ### frozen data stays -/
end M3
namespace L2
open PySem PySem.Spec PyProof.Rows
theorem Same.seqT {K : PySem.W.Frag} {H H' : Hp} {a : Addr} {xs : List V} (e : Same H H') (h : SqT K H a xs) : SqT K H' a xs := by
  rcases h with (h | ⟨o, h⟩) | h
  · exact .inl (.inl (e _ _ h))
  · exact .inl (.inr ⟨o, e _ _ h⟩)
  · exact .inr h
theorem DpAll.len {K : PySem.W.Frag} {I : Hp} : ∀ {vs : List V} {ds : List PyData}, DpAll K I vs ds → vs.length = ds.length
  | _, _, .nil => rfl
  | _, _, .cons _ a => by rw [List.length_cons, List.length_cons, DpAll.len a]
theorem DpAll.get {K : PySem.W.Frag} {I : Hp} : ∀ {vs : List V} {ds : List PyData} {i : Nat} {d : PyData}, DpAll K I vs ds → ds[i]? = some d → ∃ v, vs[i]? = some v ∧ Dp K I v d
  | _, _, _, _, .nil, e => by simp at e
  | _, _, 0, _, .cons h _, e => by simp at e; subst e; exact ⟨_, rfl, h⟩
  | _, _, i + 1, d, .cons _ a, e => by
    obtain ⟨v, h1, h2⟩ := DpAll.get (i := i) (d := d) a (by simpa using e)
    exact ⟨v, by simpa using h1, h2⟩
theorem DpAll.getV {K : PySem.W.Frag} {I : Hp} : ∀ {vs : List V} {ds : List PyData} {i : Nat} {v : V}, DpAll K I vs ds → vs[i]? = some v → ∃ d, ds[i]? = some d ∧ Dp K I v d
  | _, _, _, _, .nil, e => by simp at e
  | _, _, 0, _, .cons h _, e => by simp at e; subst e; exact ⟨_, rfl, h⟩
  | _, _, i + 1, d, .cons _ a, e => by
    obtain ⟨v, h1, h2⟩ := DpAll.getV (i := i) (v := d) a (by simpa using e)
    exact ⟨v, by simpa using h1, h2⟩
theorem DpAll.app {K : PySem.W.Frag} {I : Hp} : ∀ {vs ws : List V} {ds es : List PyData}, DpAll K I vs ds → DpAll K I ws es → DpAll K I (vs ++ ws) (ds ++ es)
  | _, _, _, _, .nil, h => h
  | _, _, _, _, .cons h a, k => .cons h (DpAll.app a k)
theorem DpAll.take {K : PySem.W.Frag} {I : Hp} : ∀ (n : Nat) {vs : List V} {ds : List PyData}, DpAll K I vs ds → DpAll K I (vs.take n) (ds.take n)
  | 0, _, _, _ => .nil
  | _ + 1, _, _, .nil => .nil
  | n + 1, _, _, .cons h a => .cons h (DpAll.take n a)
theorem DpAll.drop {K : PySem.W.Frag} {I : Hp} : ∀ (n : Nat) {vs : List V} {ds : List PyData}, DpAll K I vs ds → DpAll K I (vs.drop n) (ds.drop n)
  | 0, _, _, h => h
  | _ + 1, _, _, .nil => .nil
  | n + 1, _, _, .cons _ a => DpAll.drop n a
theorem DpAll.set {K : PySem.W.Frag} {I : Hp} {v : V} {d : PyData} (h : Dp K I v d) : ∀ (n : Nat) {vs : List V} {ds : List PyData}, DpAll K I vs ds → DpAll K I (vs.set n v) (ds.set n d)
  | _, _, _, .nil => .nil
  | 0, _, _, .cons _ a => .cons h a
  | n + 1, _, _, .cons k a => .cons k (DpAll.set h n a)
theorem DpAll.erase {K : PySem.W.Frag} {I : Hp} : ∀ (n : Nat) {vs : List V} {ds : List PyData}, DpAll K I vs ds → DpAll K I (vs.eraseIdx n) (ds.eraseIdx n)
  | _, _, _, .nil => .nil
  | 0, _, _, .cons _ a => a
  | n + 1, _, _, .cons k a => .cons k (DpAll.erase n a)
theorem DpAll.rev {K : PySem.W.Frag} {I : Hp} : ∀ {vs : List V} {ds : List PyData}, DpAll K I vs ds → DpAll K I vs.reverse ds.reverse
  | _, _, .nil => .nil
  | _, _, .cons h a => by
    rw [List.reverse_cons, List.reverse_cons]
    exact (DpAll.rev a).app (.cons h .nil)
theorem DpAll.nil_iff {K : PySem.W.Frag} {I : Hp} {vs : List V} {ds : List PyData} (h : DpAll K I vs ds) : vs = [] ↔ ds = [] := by
  have := h.len
  cases vs <;> cases ds <;> simp_all
theorem DpAll.flat {K : PySem.W.Frag} {I : Hp} {vs : List V} {ds : List PyData} (h : DpAll K I vs ds) : ∀ k : Nat, DpAll K I (List.replicate k vs).flatten (List.replicate k ds).flatten
  | 0 => .nil
  | k + 1 => by
    rw [List.replicate_succ, List.replicate_succ, List.flatten_cons, List.flatten_cons]
    exact h.app (DpAll.flat h k)
end L2
namespace M3
open PySem PySem.Spec PyProof.Rows L2
mutual
theorem dp_mono {K : PySem.W.Frag} {I I' : Hp} (e : Same I I') : ∀ {v : V} {d : D}, Dp K I v d → Dp K I' v d
  | _, _, .non => .non
  | _, _, .bl b => .bl b
  | _, _, .int i => .int i
  | _, _, .str x => .str x
  | _, _, .lst h a => .lst (e.seq h) (dpAll_mono e a)
  | _, _, .tup h a => .tup (e.seqT h) (dpAll_mono e a)
theorem dpAll_mono {K : PySem.W.Frag} {I I' : Hp} (e : Same I I') : ∀ {vs : List V} {ds : List D}, DpAll K I vs ds → DpAll K I' vs ds
  | _, _, .nil => .nil
  | _, _, .cons h a => .cons (dp_mono e h) (dpAll_mono e a)
end
theorem VS.mono {K : PySem.W.Frag} {I I' : Hp} {as as' : List Addr} (e : Same I I') (p : as <+: as') {v : V} : ∀ {sl : Sl}, VS K I as v sl → VS K I' as' v sl
  | .im _, h => dp_mono e h
  | .rf j, ⟨a, h, q⟩ => by
    obtain ⟨r, rfl⟩ := p
    exact ⟨a, by rw [List.getElem?_append_left (List.getElem?_eq_some_iff.mp h).1]; exact h, q⟩

section
variable {K : PySem.W.Frag} {B : Bs} {c : Ct} {σ : St} {H I : Hp} {as : List Addr}
theorem Ge.free (g : Ge K B c σ H I as) {p : Addr} (h : H p = none) : I p = none := g.sub.free h
theorem Ge.psmem (g : Ge K B c σ H I as) {p : Addr} (h : p ∈ B.ps) : ∃ j, j < c.b ∧ as[j]? = some p := by
  rw [← g.pre] at h
  obtain ⟨j, e⟩ := List.mem_iff_getElem?.mp h
  rw [List.getElem?_take] at e
  split at e
  · exact ⟨j, by assumption, e⟩
  · cases e
theorem Ge.there (g : Ge K B c σ H I as) {j : Nat} {p : Addr} (h : as[j]? = some p) : ∃ ds xs, c.m[j]? = some ds ∧ H p = some (.lst xs) ∧ DpAll K I xs ds := by
  have hj := (List.getElem?_eq_some_iff.mp h).1
  rw [g.len] at hj
  obtain ⟨xs, h1, h2⟩ := g.con j p _ h (List.getElem?_eq_getElem hj)
  exact ⟨_, xs, List.getElem?_eq_getElem hj, h1, h2⟩
theorem Ge.at_ (g : Ge K B c σ H I as) {j : Nat} {ds : List D} (h : c.m[j]? = some ds) : ∃ p xs, as[j]? = some p ∧ H p = some (.lst xs) ∧ DpAll K I xs ds := by
  have hj := (List.getElem?_eq_some_iff.mp h).1
  rw [← g.len] at hj
  obtain ⟨xs, h1, h2⟩ := g.con j _ ds (List.getElem?_eq_getElem hj) h
  exact ⟨_, xs, List.getElem?_eq_getElem hj, h1, h2⟩
theorem Ge.freeB (g : Ge K B c σ H I as) {p : Addr} (h : H p = none) : B.H p = none := by
  cases e : B.H p with
  | none => rfl
  | some o =>
    by_cases hp : p ∈ B.ps
    · obtain ⟨j, _, hj⟩ := g.psmem hp
      obtain ⟨_, xs, _, q, _⟩ := g.there hj
      rw [h] at q; cases q
    · rw [g.frm p o hp e] at h; cases h
theorem Ge.freeA (g : Ge K B c σ H I as) {p : Addr} (h : H p = none) : p ∉ as := fun m => by
  obtain ⟨j, e⟩ := List.mem_iff_getElem?.mp m
  obtain ⟨_, xs, _, q, _⟩ := g.there e
  rw [h] at q; cases q
theorem same_upd {H : Hp} {p : Addr} {o : HO} (h : H p = none) : Same H (upd H p o) := fun b x e => by
  rw [upd_ne (ne_of_none e h)]; exact e
theorem upd_sub {I H : Hp} {p : Addr} {o : HO} (h : Same I H) : Same (upd I p o) (upd H p o) := fun b x e => by
  by_cases hb : b = p
  · subst hb; rw [upd_same] at e ⊢; exact e
  · rw [upd_ne hb] at e ⊢; exact h b x e
/-- a new object is laid and frozen -/
theorem Ge.lay (g : Ge K B c σ H I as) {p : Addr} (o : HO) (h : H p = none) : Ge K B c σ (upd H p o) (upd I p o) as := by
  have hI := g.free h
  have na := g.freeA h
  have nep : ∀ j a, as[j]? = some a → a ≠ p := fun j a e z => na (z ▸ List.mem_of_getElem? e)
  refine ⟨g.ext.trans (same_upd hI), upd_sub g.sub, fun a o' e b => ?_, fun a o' n e => ?_, g.bl, g.pre, g.nd, fun j a e => ?_, g.len, fun j a ds e f => ?_, g.slen, fun i sl e => ?_⟩
  · by_cases hb : a = p
    · subst hb; exact g.freeB h
    · rw [upd_ne hb] at e; exact g.new a o' e b
  · exact same_upd h a o' (g.frm a o' n e)
  · rw [upd_ne (nep j a e)]; exact g.cell j a e
  · obtain ⟨xs, h1, h2⟩ := g.con j a ds e f
    exact ⟨xs, by rw [upd_ne (nep j a e)]; exact h1, dpAll_mono (same_upd hI) h2⟩
  · obtain ⟨v, h1, h2⟩ := g.slot i sl e
    exact ⟨v, h1, VS.mono (same_upd hI) (List.prefix_refl _) h2⟩
def Ct.ad (c : Ct) (ds : List D) : Ct := { c with m := c.m ++ [ds] }
/-- a new list is laid as a cell -/
theorem Ge.layC (g : Ge K B c σ H I as) {p : Addr} {xs : List V} {ds : List D} (h : H p = none) (q : DpAll K I xs ds) : Ge K B (c.ad ds) σ (upd H p (.lst xs)) I (as ++ [p]) := by
  have hI := g.free h
  have na := g.freeA h
  have nep : ∀ j a, as[j]? = some a → a ≠ p := fun j a e z => na (z ▸ List.mem_of_getElem? e)
  have lt : c.b ≤ as.length := by
    have := congrArg List.length g.pre
    rw [List.length_take, ← g.bl] at this; omega
  have cs : ∀ (j : Nat) a, (as ++ [p])[j]? = some a → as[j]? = some a ∨ (j = as.length ∧ a = p) := fun j a e => by
    by_cases hj : j < as.length
    · rw [List.getElem?_append_left hj] at e; exact .inl e
    · rw [List.getElem?_append_right (by omega)] at e
      cases hz : j - as.length with
      | zero => rw [hz] at e; exact .inr ⟨by omega, by simpa using e.symm⟩
      | succ k => rw [hz] at e; simp at e
  refine ⟨g.ext, fun a o e => ?_, g.new, fun a o' n e => same_upd h a o' (g.frm a o' n e), g.bl, ?_, ?_, fun j a e => ?_, ?_, fun j a es e f => ?_, g.slen, fun i sl e => ?_⟩
  · exact same_upd h a o (g.sub a o e)
  · show (as ++ [p]).take c.b = B.ps
    rw [List.take_append_of_le_length lt]; exact g.pre
  · exact List.nodup_append.mpr ⟨g.nd, by simp, fun a ha b hb => by rw [List.mem_singleton.mp hb]; exact fun z => na (z ▸ ha)⟩
  · rcases cs j a e with e | ⟨_, rfl⟩
    · exact g.cell j a e
    · exact ⟨hI, .inr (g.freeB h)⟩
  · show (as ++ [p]).length = (c.m ++ [ds]).length
    rw [List.length_append, List.length_append, g.len]; rfl
  · have f' : (c.m ++ [ds])[j]? = some es := f
    rcases cs j a e with e | ⟨rfl, rfl⟩
    · have hj := (List.getElem?_eq_some_iff.mp e).1
      rw [g.len] at hj
      rw [List.getElem?_append_left hj] at f'
      obtain ⟨ys, h1, h2⟩ := g.con j a es e f'
      exact ⟨ys, by rw [upd_ne (nep j a e)]; exact h1, h2⟩
    · rw [g.len, List.getElem?_append_right (Nat.le_refl _), Nat.sub_self] at f'
      have e2 : ds = es := by simpa using f'
      exact ⟨xs, upd_same, e2 ▸ q⟩
  · obtain ⟨v, h1, h2⟩ := g.slot i sl e
    exact ⟨v, h1, VS.mono (Same.refl _) (List.prefix_append _ _) h2⟩
def Ct.mu (c : Ct) (j : Nat) (ds : List D) : Ct := { c with m := c.m.set j ds }
/-- a cell changes -/
theorem Ge.mut (g : Ge K B c σ H I as) {j : Nat} {p : Addr} {xs : List V} {ds : List D} (hp : as[j]? = some p) (q : DpAll K I xs ds) : Ge K B (c.mu j ds) σ (upd H p (.lst xs)) I as := by
  have hI := (g.cell j p hp).1
  have sep : ∀ (k : Nat) a, as[k]? = some a → k ≠ j → a ≠ p := fun k a e n z => by
    subst z
    obtain ⟨h1, e1⟩ := List.getElem?_eq_some_iff.mp e
    obtain ⟨h2, e2⟩ := List.getElem?_eq_some_iff.mp hp
    exact n ((List.getElem_inj g.nd).mp (e1.trans e2.symm))
  refine ⟨g.ext, fun a o e => ?_, g.new, fun a o' n e => ?_, g.bl, g.pre, g.nd, g.cell, by show _ = (c.m.set j ds).length; rw [List.length_set]; exact g.len, fun k a es e f => ?_, g.slen, g.slot⟩
  · rw [upd_ne (fun z => by subst z; rw [hI] at e; cases e)]; exact g.sub a o e
  · have ne : a ≠ p := fun z => by
      subst z
      rcases (g.cell j a hp).2 with h | h
      · exact n h
      · rw [h] at e; cases e
    rw [upd_ne ne]; exact g.frm a o' n e
  · have f' : (c.m.set j ds)[k]? = some es := f
    by_cases hk : k = j
    · subst hk
      rw [hp] at e; cases e
      have hj := (List.getElem?_eq_some_iff.mp hp).1
      rw [g.len] at hj
      rw [List.getElem?_set_self hj] at f'
      have e2 : ds = es := Option.some.inj f'
      exact ⟨xs, upd_same, e2 ▸ q⟩
    · rw [List.getElem?_set_ne (Ne.symm hk)] at f'
      obtain ⟨ys, h1, h2⟩ := g.con k a es e f'
      exact ⟨ys, by rw [upd_ne (sep k a e hk)]; exact h1, h2⟩
def Ct.st (c : Ct) (i : Nat) (sl : Sl) : Ct := { c with s := c.s.set i (some sl) }
/-- a name is stored -/
theorem Ge.sto (g : Ge K B c σ H I as) {i : Nat} {v : V} {sl : Sl} (q : VS K I as v sl) : Ge K B (c.st i sl) (σ.set i (some v)) H I as := by
  refine ⟨g.ext, g.sub, g.new, g.frm, g.bl, g.pre, g.nd, g.cell, g.len, g.con, ?_, fun k sl' e => ?_⟩
  · show (σ.set i (some v)).length = (c.s.set i (some sl)).length
    rw [List.length_set, List.length_set]; exact g.slen
  · have e' : (c.s.set i (some sl))[k]? = some (some sl') := e
    by_cases hk : i = k
    · subst hk
      have hi : i < c.s.length := by
        have := (List.getElem?_eq_some_iff.mp e').1
        rw [List.length_set] at this; exact this
      rw [List.getElem?_set_self hi] at e'
      have e2 : sl = sl' := Option.some.inj (Option.some.inj e')
      refine ⟨v, by rw [List.getElem?_set_self (by rw [g.slen]; exact hi)], e2 ▸ q⟩
    · rw [List.getElem?_set_ne hk] at e'
      rw [List.getElem?_set_ne hk]
      exact g.slot k sl' e'
end

/-! ### behind an expression -/
def After (K : PySem.W.Frag) (B : Bs) (σ : St) (I : Hp) (as : List Addr) (c' : Ct) (sl : Sl) (v : V) (H' : Hp) : Prop :=
  ∃ I' as', Ge K B c' σ H' I' as' ∧ Same I I' ∧ as <+: as' ∧ VS K I' as' v sl
def AfterL (K : PySem.W.Frag) (B : Bs) (σ : St) (I : Hp) (as : List Addr) (c' : Ct) (sls : List Sl) (vs : List V) (H' : Hp) : Prop :=
  ∃ I' as', Ge K B c' σ H' I' as' ∧ Same I I' ∧ as <+: as' ∧ Paired (VS K I' as') vs sls
def tM {α : Type} (K : PySem.W.Frag) (B : Bs) (c : Ct) (m : Option α) (r : α → Sl) (c' : α → Ct) : TE := fun σ H Q =>
  ∃ I as a, Ge K B c σ H I as ∧ m = some a ∧ ∀ v H', After K B σ I as (c' a) (r a) v H' → Q v H'
def tMT {α : Type} (K : PySem.W.Frag) (B : Bs) (c : Ct) (m : Option α) (r : α → Bool) (c' : α → Ct) : TT := fun σ H Q =>
  ∃ I as a, Ge K B c σ H I as ∧ m = some a ∧ ∀ H' I' as', Ge K B (c' a) σ H' I' as' → Same I I' → as <+: as' → Q (r a) H'
def tMA {α : Type} (K : PySem.W.Frag) (B : Bs) (c : Ct) (m : Option α) (r : α → List Sl) (c' : α → Ct) : TA := fun σ H Q =>
  ∃ I as a, Ge K B c σ H I as ∧ m = some a ∧ ∀ vs H', AfterL K B σ I as (c' a) (r a) vs H' → Q vs H'

abbrev ME {α : Type} (X : Cx) (B : Bs) (c : Ct) (e : Expr) (m : Option α) (r : α → Sl) (c' : α → Ct) : Prop := PE X e (tM X.K B c m r c')
abbrev MT {α : Type} (X : Cx) (B : Bs) (c : Ct) (e : Expr) (m : Option α) (r : α → Bool) (c' : α → Ct) : Prop := PT X e (tMT X.K B c m r c')
abbrev MA {α : Type} (X : Cx) (B : Bs) (c : Ct) (es : List Expr) (m : Option α) (r : α → List Sl) (c' : α → Ct) : Prop := PA X es (tMA X.K B c m r c')
/-- total, the memory as it was -/
abbrev MV (X : Cx) (B : Bs) (c : Ct) (e : Expr) (sl : Sl) : Prop := ME (α := Unit) X B c e (some ()) (fun _ => sl) (fun _ => c)
abbrev MTV (X : Cx) (B : Bs) (c : Ct) (e : Expr) (b : Bool) : Prop := MT (α := Unit) X B c e (some ()) (fun _ => b) (fun _ => c)
abbrev MAV (X : Cx) (B : Bs) (c : Ct) (es : List Expr) (r : List Sl) : Prop := MA (α := Unit) X B c es (some ()) (fun _ => r) (fun _ => c)

section
variable {X : Cx} {B : Bs} {e : Expr} {es : List Expr}
theorem pe_mono {t t' : TE} (h : PE X e t) (w : ∀ σ H Q, t' σ H Q → t σ H Q) : PE X e t' := ⟨fun pins s σ H Q I q => h.run pins s σ H Q I (w _ _ _ q)⟩
theorem pt_mono {t t' : TT} (h : PT X e t) (w : ∀ σ H Q, t' σ H Q → t σ H Q) : PT X e t' := ⟨fun pins s σ H Q I q => h.run pins s σ H Q I (w _ _ _ q)⟩
theorem pw_mono {t t' : TT} (h : PW X e t) (w : ∀ σ H Q, t' σ H Q → t σ H Q) : PW X e t' := ⟨fun wh pins s σ H Q I q => h.run wh pins s σ H Q I (w _ _ _ q)⟩
theorem pa_mono {t t' : TA} (h : PA X es t) (w : ∀ σ H Q, t' σ H Q → t σ H Q) : PA X es t' := ⟨fun p pins s σ H Q I q => h.run p pins s σ H Q I (w _ _ _ q)⟩
theorem pe_fam {ι : Type} {t : ι → TE} (h : ∀ i, PE X e (t i)) : PE X e (fun σ H Q => ∃ i, t i σ H Q) := ⟨fun pins s σ H Q I ⟨i, q⟩ => (h i).run pins s σ H Q I q⟩
theorem pt_fam {ι : Type} {t : ι → TT} (h : ∀ i, PT X e (t i)) : PT X e (fun σ H Q => ∃ i, t i σ H Q) := ⟨fun pins s σ H Q I ⟨i, q⟩ => (h i).run pins s σ H Q I q⟩
theorem pw_fam {ι : Type} {t : ι → TT} (h : ∀ i, PW X e (t i)) : PW X e (fun σ H Q => ∃ i, t i σ H Q) := ⟨fun wh pins s σ H Q I ⟨i, q⟩ => (h i).run wh pins s σ H Q I q⟩
theorem pa_fam {ι : Type} {t : ι → TA} (h : ∀ i, PA X es (t i)) : PA X es (fun σ H Q => ∃ i, t i σ H Q) := ⟨fun p pins s σ H Q I ⟨i, q⟩ => (h i).run p pins s σ H Q I q⟩

variable {K : PySem.W.Frag} {σ : St} {H I : Hp} {as : List Addr}
theorem After.up {I0 : Hp} {as0 : List Addr} {c' : Ct} {sl : Sl} {v : V} (s : Same I0 I) (p : as0 <+: as) (h : After K B σ I as c' sl v H) : After K B σ I0 as0 c' sl v H := by
  obtain ⟨I', as', g, s', p', q⟩ := h
  exact ⟨I', as', g, s.trans s', p.trans p', q⟩
theorem AfterL.up {I0 : Hp} {as0 : List Addr} {c' : Ct} {sl : List Sl} {v : List V} (s : Same I0 I) (p : as0 <+: as) (h : AfterL K B σ I as c' sl v H) : AfterL K B σ I0 as0 c' sl v H := by
  obtain ⟨I', as', g, s', p', q⟩ := h
  exact ⟨I', as', g, s.trans s', p.trans p', q⟩
theorem After.of {c' : Ct} {sl : Sl} {v : V} (g : Ge K B c' σ H I as) (q : VS K I as v sl) : After K B σ I as c' sl v H := ⟨I, as, g, Same.refl _, List.prefix_refl _, q⟩
theorem AfterL.of {c' : Ct} {sl : List Sl} {v : List V} (g : Ge K B c' σ H I as) (q : Paired (VS K I as) v sl) : AfterL K B σ I as c' sl v H := ⟨I, as, g, Same.refl _, List.prefix_refl _, q⟩
/-- a new frozen object -/
theorem After.lay {c : Ct} (g : Ge K B c σ H I as) {p : Addr} {o : HO} {sl : Sl} (h : H p = none) (q : VS K (upd I p o) as (.ref p) sl) : After K B σ I as c sl (.ref p) (upd H p o) :=
  ⟨upd I p o, as, g.lay o h, same_upd (g.free h), List.prefix_refl _, q⟩
theorem After.layT {c : Ct} (g : Ge K B c σ H I as) {p : Addr} {xs : List V} {ds : List D} (h : H p = none) (q : DpAll K I xs ds) : After K B σ I as c (.im (.tuple ds)) (.ref p) (upd H p (.tup xs)) :=
  .lay g h (.tup (.of upd_same) (dpAll_mono (same_upd (g.free h)) q))
theorem After.layL {c : Ct} (g : Ge K B c σ H I as) {p : Addr} {xs : List V} {ds : List D} (h : H p = none) (q : DpAll K I xs ds) : After K B σ I as c (.im (.list ds)) (.ref p) (upd H p (.lst xs)) :=
  .lay g h (.lst (.of upd_same) (dpAll_mono (same_upd (g.free h)) q))
theorem After.layC {c : Ct} (g : Ge K B c σ H I as) {p : Addr} {xs : List V} {ds : List D} (h : H p = none) (q : DpAll K I xs ds) : After K B σ I as (c.ad ds) (.rf c.m.length) (.ref p) (upd H p (.lst xs)) :=
  ⟨I, as ++ [p], g.layC h q, Same.refl _, List.prefix_append _ _, p, by rw [← g.len, List.getElem?_append_right (Nat.le_refl _), Nat.sub_self]; rfl, rfl⟩
/-- a new list, frozen or as a cell -/
inductive NewL (c : Ct) (ds : List D) : Ct → Sl → Prop
  | im : NewL c ds c (.im (.list ds))
  | rf : NewL c ds (c.ad ds) (.rf c.m.length)
theorem After.layN {c c' : Ct} {sl : Sl} (g : Ge K B c σ H I as) {p : Addr} {xs : List V} {ds : List D} (n : NewL c ds c' sl) (h : H p = none) (q : DpAll K I xs ds) : After K B σ I as c' sl (.ref p) (upd H p (.lst xs)) := by
  cases n with
  | im => exact After.layL g h q
  | rf => exact After.layC g h q
end
end M3

set_option Elab.async false
set_option linter.all false
set_option maxRecDepth 100000
set_option maxHeartbeats 4000000
namespace M3
open PySem PySem.Spec PyProof.Rows L2

/-! ### what a rule on values gives over the plain memory -/
section
variable {α γ : Type} (K : PySem.W.Frag) (B : Bs)
def O1 (r : V → Hp → VK → Prop) (c : Ct) (s1 : Sl) (m : Option γ) (rs : γ → Sl) (c' : γ → Ct) : Prop :=
  ∀ σ H I as x Q g, Ge K B c σ H I as → VS K I as x s1 → m = some g → (∀ v H', After K B σ I as (c' g) (rs g) v H' → Q v H') → r x H Q
def O2 (r : R2) (c : Ct) (s1 s2 : Sl) (m : Option γ) (rs : γ → Sl) (c' : γ → Ct) : Prop :=
  ∀ σ H I as x y Q g, Ge K B c σ H I as → VS K I as x s1 → VS K I as y s2 → m = some g → (∀ v H', After K B σ I as (c' g) (rs g) v H' → Q v H') → r x y H Q
def OA (r : List V → Hp → VK → Prop) (c : Ct) (ss : List Sl) (m : Option γ) (rs : γ → Sl) (c' : γ → Ct) : Prop :=
  ∀ σ H I as xs Q g, Ge K B c σ H I as → Paired (VS K I as) xs ss → m = some g → (∀ v H', After K B σ I as (c' g) (rs g) v H' → Q v H') → r xs H Q
/-- a method: its receiver's type, then the rule -/
def OM (T : String) (r : V → List V → Hp → VK → Prop) (c : Ct) (s1 : Sl) (ss : List Sl) (m : Option γ) (rs : γ → Sl) (c' : γ → Ct) : Prop :=
  ∀ σ H I as x xs Q g, Ge K B c σ H I as → VS K I as x s1 → Paired (VS K I as) xs ss → m = some g → (∀ v H', After K B σ I as (c' g) (rs g) v H' → Q v H') → r x xs H Q
def OTy (T : String) (c : Ct) (s1 : Sl) : Prop := ∀ σ H I as x, Ge K B c σ H I as → VS K I as x s1 → tyV K T x H
/-- a slice -/
def OS (r : V → Option Int → Option Int → Hp → VK → Prop) (c : Ct) (s1 : Sl) (lo hi : Option Int) (m : Option γ) (rs : γ → Sl) (c' : γ → Ct) : Prop :=
  ∀ σ H I as x Q g, Ge K B c σ H I as → VS K I as x s1 → m = some g → (∀ v H', After K B σ I as (c' g) (rs g) v H' → Q v H') → r x lo hi H Q
end
abbrev im (d : D) : Sl := .im d
abbrev imI (i : Int) : Sl := .im (.int i)
abbrev imB (b : Bool) : Sl := .im (.bool b)

section
variable {X : Cx} {B : Bs} {c : Ct} {K : PySem.W.Frag} {σ : St} {H I : Hp} {as : List Addr}

/-! ### values, shape by shape -/
theorem vs_int {x : V} {i : Int} (h : VS K I as x (imI i)) : x = .int i := by cases (h : Dp K I x (.int i)); rfl
theorem vs_bl {x : V} {i : Bool} (h : VS K I as x (imB i)) : x = .bl i := by cases (h : Dp K I x (.bool i)); rfl
theorem vs_str {x : V} {i : Str} (h : VS K I as x (.im (.str i))) : x = .str i := by cases (h : Dp K I x (.str i)); rfl
theorem vs_non {x : V} (h : VS K I as x (.im .none)) : x = .non := by cases (h : Dp K I x .none); rfl
theorem vs_tup {x : V} {ds : List D} (h : VS K I as x (.im (.tuple ds))) : ∃ a xs, x = .ref a ∧ SqT K I a xs ∧ DpAll K I xs ds := by
  cases (h : Dp K I x (.tuple ds)) with
  | tup h a => exact ⟨_, _, rfl, h, a⟩
theorem vs_lst {x : V} {ds : List D} (h : VS K I as x (.im (.list ds))) : ∃ a xs, x = .ref a ∧ SqL K I a xs ∧ DpAll K I xs ds := by
  cases (h : Dp K I x (.list ds)) with
  | lst h a => exact ⟨_, _, rfl, h, a⟩
/-- a list to be read: frozen, or a cell -/
inductive LsOf (c : Ct) (ds : List D) : Sl → Prop
  | im : LsOf c ds (.im (.list ds))
  | rf {j : Nat} (h : c.m[j]? = some ds) : LsOf c ds (.rf j)
/-- a list or a tuple to be read -/
inductive SqOf (c : Ct) (ds : List D) : Sl → Prop
  | im : SqOf c ds (.im (.list ds))
  | tup : SqOf c ds (.im (.tuple ds))
  | rf {j : Nat} (h : c.m[j]? = some ds) : SqOf c ds (.rf j)
theorem LsOf.get {sl : Sl} {ds : List D} {x : V} (l : LsOf c ds sl) (g : Ge K B c σ H I as) (h : VS K I as x sl) : ∃ a xs, x = .ref a ∧ SqL K H a xs ∧ DpAll K I xs ds := by
  cases l with
  | im =>
    obtain ⟨a, xs, rfl, q, d⟩ := vs_lst h
    exact ⟨a, xs, rfl, g.sub.seq q, d⟩
  | rf hj =>
    obtain ⟨a, ha, rfl⟩ := h
    obtain ⟨xs, h1, h2⟩ := g.con _ _ _ ha hj
    exact ⟨a, xs, rfl, .of h1, h2⟩
theorem SqOf.get {sl : Sl} {ds : List D} {x : V} (l : SqOf c ds sl) (g : Ge K B c σ H I as) (h : VS K I as x sl) : ∃ a xs, x = .ref a ∧ (SqL K H a xs ∨ SqT K H a xs) ∧ DpAll K I xs ds := by
  cases l with
  | im =>
    obtain ⟨a, xs, e, q, d⟩ := LsOf.get (c := c) .im g h
    exact ⟨a, xs, e, .inl q, d⟩
  | tup =>
    obtain ⟨a, xs, rfl, q, d⟩ := vs_tup h
    exact ⟨a, xs, rfl, .inr (g.sub.seqT q), d⟩
  | rf hj =>
    obtain ⟨a, xs, e, q, d⟩ := LsOf.get (.rf hj) g h
    exact ⟨a, xs, e, .inl q, d⟩

/-! ### names and constants -/
theorem mv_name (i : Nat) {x : Str} {pos : Pos} {sl : Sl} (hs : c.s[i]? = some (some sl)) (hN : X.N[i]? = some x := by rfl) (hv : Vis X.env.scope x := by first | exact Or.inl rfl | exact Or.inr (Or.inl rfl) | exact Or.inr (Or.inr rfl))
    (hd : (x == ("__debug__" : Str)) = false := by decide) (hcd : (x == ("__classdict__" : Str)) = false := by decide) : MV X B c (.Name x pos) sl :=
  pe_mono (pe_var hN hv hd hcd) fun σ H Q ⟨I, as, _, g, _, q⟩ => let ⟨v, e, h⟩ := g.slot i sl hs; ⟨v, e, q v H (.of g h)⟩
theorem mv_c {e : Expr} {v : V} {d : D} (h : PE X e (tC v)) (q : ∀ I, Dp X.K I v d) : MV X B c e (.im d) :=
  pe_mono h fun σ H Q ⟨I, as, _, g, _, k⟩ => k v H (.of g (q I))
theorem mv_int {i : Int} {j : Nat} {pos : Pos} : MV X B c (.Constant (.int i) j pos) (imI i) := mv_c pe_int fun _ => .int i
theorem mv_bl {b : Bool} {j : Nat} {pos : Pos} : MV X B c (.Constant (.bool b) j pos) (imB b) := mv_c pe_bl fun _ => .bl b
theorem mv_non {j : Nat} {pos : Pos} : MV X B c (.Constant .none j pos) (.im .none) := mv_c pe_non fun _ => .non
theorem mv_str {x : Str} {j : Nat} {pos : Pos} : MV X B c (.Constant (.str x) j pos) (.im (.str x)) := mv_c pe_str fun _ => .str x
/-- a name that may be None, used where it is not -/
theorem mp_opt {α : Type} {e : Expr} {k : α → D} {o : Option α} (h : MV X B c e (.im (match o with | none => .none | some a => k a))) : ME X B c e o (fun a => .im (k a)) (fun _ => c) :=
  pe_mono h fun σ H Q ⟨I, as, a, g, e, k⟩ => by subst e; exact ⟨I, as, (), g, rfl, k⟩
/-- the packing of what a step gives -/
theorem me_map {α β : Type} {e : Expr} {m : Option α} {r : α → Sl} {c' : α → Ct} {m2 : α → Option β} {r2 : β → Sl} {c2 : β → Ct} (h : ME X B c e m r c') (q : ∀ a b, m2 a = some b → r2 b = r a ∧ c2 b = c' a) : ME X B c e (m.bind m2) r2 c2 :=
  pe_mono h fun σ H Q ⟨I, as, b, g, e, k⟩ => by
    obtain ⟨a, e1, e2⟩ := Option.bind_eq_some_iff.mp e
    obtain ⟨q1, q2⟩ := q a b e2
    exact ⟨I, as, a, g, e1, fun v H' z => k v H' (by rw [q1, q2]; exact z)⟩

/-! ### two-place operations -/
variable {α β γ : Type} {m1 : Option α} {r1 : α → Sl} {c1 : α → Ct} {m2 : α → Option β} {r2 : α → β → Sl} {c2 : α → β → Ct} {mo : α → β → Option γ} {rs : γ → Sl} {c' : γ → Ct}
theorem tOp_ok {r : R2} (h : ∀ a b, O2 K B r (c2 a b) (r1 a) (r2 a b) (mo a b) rs c') {H : Hp} {Q : VK} (q : tM K B c (m1.bind fun a => (m2 a).bind fun b => mo a b) rs c' σ H Q) :
    tOp r (tM K B c m1 r1 c1) (fun σ H Q => ∃ a, tM K B (c1 a) (m2 a) (r2 a) (c2 a) σ H Q) σ H Q := by
  obtain ⟨I, as, d, g, e, k⟩ := q
  obtain ⟨a, e1, e⟩ := Option.bind_eq_some_iff.mp e
  obtain ⟨b, e2, e⟩ := Option.bind_eq_some_iff.mp e
  refine ⟨I, as, a, g, e1, fun x H1 ⟨I1, as1, g1, s1, p1, v1⟩ => ⟨a, I1, as1, b, g1, e2, fun y H2 ⟨I2, as2, g2, s2, p2, v2⟩ => ?_⟩⟩
  exact h a b σ H2 I2 as2 x y Q d g2 (v1.mono s2 p2) v2 e fun v H' z => k v H' (z.up (s1.trans s2) (p1.trans p2))
variable {e1 e2 : Expr} {pos : Pos}
theorem me_op {op : Operator} {r : R2} (ho : OpR X (binaryOp op) r) (h1 : ME X B c e1 m1 r1 c1) (h2 : ∀ a, ME X B (c1 a) e2 (m2 a) (r2 a) (c2 a)) (h : ∀ a b, O2 X.K B r (c2 a b) (r1 a) (r2 a b) (mo a b) rs c') :
    ME X B c (.BinOp e1 op e2 pos) (m1.bind fun a => (m2 a).bind fun b => mo a b) rs c' := pe_mono (pe_op ho h1 (pe_fam h2)) fun σ H Q q => tOp_ok h q
theorem me_cmp {op : CmpOp} {r : R2} (ho : OpR X (compareOp op) r) (h1 : ME X B c e1 m1 r1 c1) (h2 : ∀ a, ME X B (c1 a) e2 (m2 a) (r2 a) (c2 a)) (h : ∀ a b, O2 X.K B r (c2 a b) (r1 a) (r2 a b) (mo a b) rs c')
    (hm : behindInMarks op e2 = false := by rfl) : ME X B c (.Compare e1 [op] [e2] pos) (m1.bind fun a => (m2 a).bind fun b => mo a b) rs c' := pe_mono (pe_cmpR ho h1 (pe_fam h2) hm) fun σ H Q q => tOp_ok h q
theorem me_ix {r : R2} (ho : IxR X r) (h1 : ME X B c e1 m1 r1 c1) (h2 : ∀ a, ME X B (c1 a) e2 (m2 a) (r2 a) (c2 a)) (h : ∀ a b, O2 X.K B r (c2 a b) (r1 a) (r2 a b) (mo a b) rs c')
    (hm : PlainIx e2 := by intro _ _; rfl) : ME X B c (.Subscript e1 e2 pos) (m1.bind fun a => (m2 a).bind fun b => mo a b) rs c' := pe_mono (pe_ix ho h1 (pe_fam h2) hm) fun σ H Q q => tOp_ok h q
theorem mt_cmp {op : CmpOp} {r : R2} {bo : γ → Bool} (ho : OpR X (compareOp op) r) (h1 : ME X B c e1 m1 r1 c1) (h2 : ∀ a, ME X B (c1 a) e2 (m2 a) (r2 a) (c2 a)) (h : ∀ a b, O2 X.K B r (c2 a b) (r1 a) (r2 a b) (mo a b) (fun g => imB (bo g)) c')
    (hm : behindInMarks op e2 = false := by rfl) : MT X B c (.Compare e1 [op] [e2] pos) (m1.bind fun a => (m2 a).bind fun b => mo a b) bo c' :=
  pt_mono (pt_cmpR ho h1 (pe_fam h2) hm) fun σ H Q ⟨I, as, g, hg, e, k⟩ => tOp_ok h ⟨I, as, g, hg, e, fun v H' ⟨I', as', g', s', p', v'⟩ => ⟨bo g, vs_bl v', k H' I' as' g' s' p'⟩⟩
/-- the same, total -/
abbrev OV2 (K : PySem.W.Frag) (B : Bs) (r : R2) (c : Ct) (s1 s2 s : Sl) : Prop := O2 (γ := Unit) K B r c s1 s2 (some ()) (fun _ => s) (fun _ => c)
variable {s1 s2 s : Sl} {bv : Bool}
theorem mv_op {op : Operator} {r : R2} (ho : OpR X (binaryOp op) r) (h1 : MV X B c e1 s1) (h2 : MV X B c e2 s2) (h : OV2 X.K B r c s1 s2 s) : MV X B c (.BinOp e1 op e2 pos) s := me_op (mo := fun _ _ => some ()) ho h1 (fun _ => h2) fun _ _ => h
theorem mv_cmp {op : CmpOp} {r : R2} (ho : OpR X (compareOp op) r) (h1 : MV X B c e1 s1) (h2 : MV X B c e2 s2) (h : OV2 X.K B r c s1 s2 s) (hm : behindInMarks op e2 = false := by rfl) : MV X B c (.Compare e1 [op] [e2] pos) s := me_cmp (mo := fun _ _ => some ()) ho h1 (fun _ => h2) (fun _ _ => h) hm
theorem mv_ix {r : R2} (ho : IxR X r) (h1 : MV X B c e1 s1) (h2 : MV X B c e2 s2) (h : OV2 X.K B r c s1 s2 s) (hm : PlainIx e2 := by intro _ _; rfl) : MV X B c (.Subscript e1 e2 pos) s := me_ix (mo := fun _ _ => some ()) ho h1 (fun _ => h2) (fun _ _ => h) hm
theorem mtv_cmp {op : CmpOp} {r : R2} (ho : OpR X (compareOp op) r) (h1 : MV X B c e1 s1) (h2 : MV X B c e2 s2) (h : OV2 X.K B r c s1 s2 (imB bv)) (hm : behindInMarks op e2 = false := by rfl) : MTV X B c (.Compare e1 [op] [e2] pos) bv := mt_cmp (mo := fun _ _ => some ()) (bo := fun _ => bv) ho h1 (fun _ => h2) (fun _ _ => h) hm

/-! ### one-place -/
theorem me_un {op : UnaryOp} {r : V → Hp → VK → Prop} {mu : α → Option γ} (ho : UnR X (unaryOp op) r) (h1 : ME X B c e1 m1 r1 c1) (h : ∀ a, O1 X.K B r (c1 a) (r1 a) (mu a) rs c') : ME X B c (.UnaryOp op e1 pos) (m1.bind mu) rs c' :=
  pe_mono (pe_un ho h1) fun σ H Q ⟨I, as, d, g, e, k⟩ => by
    obtain ⟨a, e1, e⟩ := Option.bind_eq_some_iff.mp e
    exact ⟨I, as, a, g, e1, fun x H1 ⟨I1, as1, g1, s1, p1, v1⟩ => h a σ H1 I1 as1 x Q d g1 v1 e fun v H' z => k v H' (z.up s1 p1)⟩
theorem mv_neg {i : Int} (h : MV X B c e1 (imI i)) : MV X B c (.UnaryOp .USub e1 pos) (imI (-i)) :=
  me_un (mu := fun _ => some ()) un_neg h fun _ σ H I as x Q g hg hx _ k => ⟨i, vs_int hx, k _ _ (.of hg (.int _))⟩
theorem mp_neg {x : α → Int} (h : ME X B c e1 m1 (fun a => imI (x a)) (fun _ => c)) : ME X B c (.UnaryOp .USub e1 pos) (m1.bind fun a => some (-x a)) (fun z => imI z) (fun _ => c) :=
  me_un un_neg h fun _ σ H I as x Q g hg hx e k => ⟨_, vs_int hx, k _ _ (.of hg (by cases e; exact .int _))⟩

/-! ### what the operators give: ints -/
section
variable {d : γ} {x y : Int}
theorem o2_int {f : Int → Int → Int} {z : Int} (e : z = f x y) : OV2 K B (rI0 fun i j => .int (f i j)) c (imI x) (imI y) (imI z) :=
  fun σ H I as u v Q g hg hx hy _ k => ⟨x, y, vs_int hx, vs_int hy, k _ _ (.of hg (by rw [e]; exact .int _))⟩
theorem o2_add : OV2 K B (rI0 fun i j => .int (i + j)) c (imI x) (imI y) (imI (x + y)) := o2_int rfl
theorem o2_sub : OV2 K B (rI0 fun i j => .int (i - j)) c (imI x) (imI y) (imI (x - y)) := o2_int rfl
theorem o2_c {C : Int → Int → Prop} {f : Int → Int → Int} {z : Int} (h : C x y) (e : z = f x y) : OV2 K B (rI C fun i j => .int (f i j)) c (imI x) (imI y) (imI z) :=
  fun σ H I as u v Q g hg hx hy _ k => ⟨x, y, vs_int hx, vs_int hy, h, k _ _ (.of hg (by rw [e]; exact .int _))⟩
theorem o2_b {f : Int → Int → Bool} {z : Bool} (e : z = f x y) : OV2 K B (rI0 fun i j => .bl (f i j)) c (imI x) (imI y) (imB z) :=
  fun σ H I as u v Q g hg hx hy _ k => ⟨x, y, vs_int hx, vs_int hy, k _ _ (.of hg (by rw [e]; exact .bl _))⟩
end
/-- // and % by any number but 0, products -/
def CMulA (i j : Int) : Prop := (-(2 ^ 64) < i ∧ i < 2 ^ 64) ∨ (-(2 ^ 64) < j ∧ j < 2 ^ 64) ∨ i.natAbs.log2 + j.natAbs.log2 < 1000000
theorem CMulA.ok {i j : Int} (h : CMulA i j) : IntMulOk i j := by
  rcases h with h | h | h
  · exact CMul.ok (.inl h)
  · exact CMul.ok (.inr h)
  · exact CMulW.ok h
theorem op_mulA : OpR X (binaryOp .Mult) (rI CMulA fun i j => .int (i * j)) := opI fun _ _ _ _ _ _ _ hc q => mul_int q hc.ok
theorem iop_mulA : OpR X (inplaceOp .Mult) (rI CMulA fun i j => .int (i * j)) := opI fun _ _ _ _ _ _ _ hc q => imul_int q hc.ok
def CDivA (i j : Int) : Prop := j ≠ 0 ∧ j.natAbs.log2 < 9000
theorem op_fdivA : OpR X (binaryOp .FloorDiv) (rI CDivA fun i j => .int (i.fdiv j)) := opI fun i j _ _ _ _ _ hc q => floordiv_int hc.1 q (.inl (PyProof.noPylong_of_log2 hc.2))
theorem op_modA : OpR X (binaryOp .Mod) (rI (fun _ j => j ≠ 0) fun i j => .int (i.fmod j)) := opI fun i j _ _ _ _ _ hc q => mod_int' hc q
instance (i j : Int) : Decidable (CMulA i j) := by unfold CMulA; infer_instance
instance (i j : Int) : Decidable (CDivA i j) := by unfold CDivA; infer_instance
def mulM (i j : Int) : Option Int := if CMulA i j then some (i * j) else none
def fdivM (i j : Int) : Option Int := if CDivA i j then some (i.fdiv j) else none
def modM (i j : Int) : Option Int := if j ≠ 0 then some (i.fmod j) else none
section
variable {x y : Int}
theorem o2_p {C : Int → Int → Prop} {f : Int → Int → Int} {m : Option Int} (h : ∀ z, m = some z → C x y ∧ z = f x y) : O2 K B (rI C fun i j => .int (f i j)) c (imI x) (imI y) m (fun z => imI z) (fun _ => c) :=
  fun σ H I as u v Q g hg hx hy e k => by
    obtain ⟨h1, h2⟩ := h g e
    exact ⟨x, y, vs_int hx, vs_int hy, h1, k _ _ (.of hg (by rw [h2]; exact .int _))⟩
theorem o2_mulM : O2 K B (rI CMulA fun i j => .int (i * j)) c (imI x) (imI y) (mulM x y) (fun z => imI z) (fun _ => c) := o2_p fun z e => by
  unfold mulM at e; split at e
  · cases e; exact ⟨by assumption, rfl⟩
  · cases e
theorem o2_fdivM : O2 K B (rI CDivA fun i j => .int (i.fdiv j)) c (imI x) (imI y) (fdivM x y) (fun z => imI z) (fun _ => c) := o2_p fun z e => by
  unfold fdivM at e; split at e
  · cases e; exact ⟨by assumption, rfl⟩
  · cases e
theorem o2_modM : O2 K B (rI (fun _ j => j ≠ 0) fun i j => .int (i.fmod j)) c (imI x) (imI y) (modM x y) (fun z => imI z) (fun _ => c) := o2_p fun z e => by
  unfold modM at e; split at e
  · cases e; exact ⟨by assumption, rfl⟩
  · cases e
end

/-! ### arguments -/
theorem ma_nil : MAV X B c [] [] := pa_mono pa_nil fun σ H Q ⟨I, as, _, g, _, k⟩ => k [] H (.of g .nil)
theorem ma_cons {es : List Expr} {m2 : α → Option β} {rl : α → β → List Sl} {c2 : α → β → Ct} (h1 : ME X B c e1 m1 r1 c1) (h2 : ∀ a, MA X B (c1 a) es (m2 a) (rl a) (c2 a)) (hs : starEach (e1 :: es) X.env = (false, eval e1 X.env) :: starEach es X.env := by rfl) :
    MA X B c (e1 :: es) (m1.bind fun a => (m2 a).bind fun b => some (a, b)) (fun p => r1 p.1 :: rl p.1 p.2) (fun p => c2 p.1 p.2) :=
  pa_mono (pa_cons h1 (pa_fam h2) hs) fun σ H Q ⟨I, as, d, g, e, k⟩ => by
    obtain ⟨a, e1, e⟩ := Option.bind_eq_some_iff.mp e
    obtain ⟨b, e2, e⟩ := Option.bind_eq_some_iff.mp e
    cases e
    exact ⟨I, as, a, g, e1, fun x H1 ⟨I1, as1, g1, s1, p1, v1⟩ => ⟨a, I1, as1, b, g1, e2, fun ys H2 ⟨I2, as2, g2, s2, p2, v2⟩ => k _ _ ⟨I2, as2, g2, s1.trans s2, p1.trans p2, .cons (v1.mono s2 p2) v2⟩⟩⟩
theorem mav_cons {es : List Expr} {ss : List Sl} (h1 : MV X B c e1 s1) (h2 : MAV X B c es ss) (hs : starEach (e1 :: es) X.env = (false, eval e1 X.env) :: starEach es X.env := by rfl) : MAV X B c (e1 :: es) (s1 :: ss) :=
  pa_mono (ma_cons h1 (fun _ => h2) hs) fun σ H Q ⟨I, as, _, g, _, k⟩ => ⟨I, as, ((), ()), g, rfl, k⟩
/-- repack -/
theorem ma_map {δ : Type} {es : List Expr} {m : Option α} {r : α → List Sl} {c' : α → Ct} {m2 : α → Option δ} {r2 : δ → List Sl} {c2 : δ → Ct} (h : MA X B c es m r c') (q : ∀ a b, m2 a = some b → r2 b = r a ∧ c2 b = c' a) : MA X B c es (m.bind m2) r2 c2 :=
  pa_mono h fun σ H Q ⟨I, as, b, g, e, k⟩ => by
    obtain ⟨a, e1, e2⟩ := Option.bind_eq_some_iff.mp e
    obtain ⟨q1, q2⟩ := q a b e2
    exact ⟨I, as, a, g, e1, fun v H' z => k v H' (by rw [q1, q2]; exact z)⟩

/-! ### tuples and lists written -/
/-- all of them frozen data -/
def ims : List D → List Sl := List.map .im
theorem paired_ims : ∀ {xs : List V} {ds : List D}, Paired (VS K I as) xs (ims ds) → DpAll K I xs ds
  | _, [], .nil => .nil
  | _, d :: ds, .cons h a => .cons h (paired_ims a)
theorem me_tup {es : List Expr} {k : Nat} {m : Option α} {r : α → List D} {c' : α → Ct} (h : MA X B c es m (fun a => ims (r a)) c') (hl : ∀ a, (r a).length ≤ 1000 := by intro _; exact Nat.le_of_ble_eq_true rfl) : ME X B c (.Tuple es k pos) m (fun a => .im (.tuple (r a))) c' :=
  pe_mono (pe_tup h) fun σ H Q ⟨I, as, a, g, e, q⟩ => ⟨I, as, a, g, e, fun xs H1 ⟨I1, as1, g1, s1, p1, v1⟩ => by
    have d := paired_ims v1
    exact ⟨by rw [d.len]; exact Nat.le_of_lt (small1000 (hl a)), fun p hp => q _ _ ((After.layT g1 hp d).up s1 p1)⟩⟩
theorem mv_tup {es : List Expr} {k : Nat} {ds : List D} (h : MAV X B c es (ims ds)) (hl : ds.length ≤ 1000 := by exact Nat.le_of_ble_eq_true rfl) : MV X B c (.Tuple es k pos) (.im (.tuple ds)) := me_tup (r := fun _ => ds) h fun _ => hl
theorem me_lst {es : List Expr} {m : Option α} {r : α → List D} {c1 c' : α → Ct} {rs : α → Sl} (h : MA X B c es m (fun a => ims (r a)) c1) (n : ∀ a, NewL (c1 a) (r a) (c' a) (rs a)) (hl : ∀ a, (r a).length ≤ 1000 := by intro _; exact Nat.le_of_ble_eq_true rfl) : ME X B c (.List es pos) m rs c' :=
  pe_mono (pe_lst h) fun σ H Q ⟨I, as, a, g, e, q⟩ => ⟨I, as, a, g, e, fun xs H1 ⟨I1, as1, g1, s1, p1, v1⟩ => by
    have d := paired_ims v1
    exact ⟨by rw [d.len]; exact Nat.le_of_lt (small1000 (hl a)), fun p hp => q _ _ ((After.layN g1 (n a) hp d).up s1 p1)⟩⟩
theorem mv_lst {es : List Expr} {ds : List D} (h : MAV X B c es (ims ds)) (hl : ds.length ≤ 1000 := by exact Nat.le_of_ble_eq_true rfl) : MV X B c (.List es pos) (.im (.list ds)) := me_lst (r := fun _ => ds) (rs := fun _ => .im (.list ds)) (c' := fun _ => c) h (fun _ => .im) fun _ => hl
/-- a written list as a cell -/
theorem mn_lst {es : List Expr} {ds : List D} (h : MAV X B c es (ims ds)) (hl : ds.length ≤ 1000 := by exact Nat.le_of_ble_eq_true rfl) : ME (α := Unit) X B c (.List es pos) (some ()) (fun _ => .rf c.m.length) (fun _ => c.ad ds) := me_lst (r := fun _ => ds) h (fun _ => .rf) fun _ => hl

/-! ### calls of built-ins, methods -/
section
variable {es : List Expr} {m : Option α} {r : α → List Sl} {ca : α → Ct} {mo : α → Option γ} {x : Str} {p : Pos} {id T : String}
theorem tCB_ok {R : List V → Hp → VK → Prop} (h : ∀ a, OA K B R (ca a) (r a) (mo a) rs c') {H : Hp} {Q : VK} (q : tM K B c (m.bind mo) rs c' σ H Q) : tCB R (tMA K B c m r ca) σ H Q := by
  obtain ⟨I, as, d, g, e, k⟩ := q
  obtain ⟨a, e1, e⟩ := Option.bind_eq_some_iff.mp e
  exact ⟨I, as, a, g, e1, fun xs H1 ⟨I1, as1, g1, s1, p1, v1⟩ => h a σ H1 I1 as1 xs Q d g1 v1 e fun v H' z => k v H' (z.up s1 p1)⟩
theorem me_callB {R : List V → Hp → VK → Prop} (hc : CallR X (.builtin id) R) (hg : Gl X x) (hm : X.mg x = none) (hv : bootBuiltins x = some (.builtin id)) (ha : MA X B c (e1 :: es) m r ca) (h : ∀ a, OA X.K B R (ca a) (r a) (mo a) rs c')
    (hn : x ≠ "__name__" := by decide) (hdb : (x == ("__debug__" : Str)) = false := by decide) (he : starEach (e1 :: es) X.env = (false, eval e1 X.env) :: starEach es X.env := by rfl) (hpl : (backTo pos (starEach es X.env)).any (·.1) = false := by rfl) :
    ME X B c (.Call (.Name x p) (e1 :: es) [] pos) (m.bind mo) rs c' := pe_mono (pe_callB hc hg hm hv ha hn hdb he hpl) fun σ H Q q => tCB_ok h q
theorem me_callTy {R : List V → Hp → VK → Prop} (hc : CallR X (.type T) R) (hg : Gl X x) (hm : X.mg x = none) (hv : bootBuiltins x = some (.type T)) (ha : MA X B c (e1 :: es) m r ca) (h : ∀ a, OA X.K B R (ca a) (r a) (mo a) rs c')
    (hn : x ≠ "__name__" := by decide) (hdb : (x == ("__debug__" : Str)) = false := by decide) (he : starEach (e1 :: es) X.env = (false, eval e1 X.env) :: starEach es X.env := by rfl) (hpl : (backTo pos (starEach es X.env)).any (·.1) = false := by rfl) :
    ME X B c (.Call (.Name x p) (e1 :: es) [] pos) (m.bind mo) rs c' := pe_mono (pe_callTy hc hg hm hv ha hn hdb he hpl) fun σ H Q q => tCB_ok h q
end
end
end M3

set_option Elab.async false
set_option linter.all false
set_option maxRecDepth 100000
set_option maxHeartbeats 4000000
namespace M3
open PySem PySem.Spec PyProof.Rows L2
section
variable {X : Cx} {B : Bs} {c : Ct} {K : PySem.W.Frag} {σ : St} {H I : Hp} {as : List Addr}
variable {α β γ δ : Type} {m1 : Option α} {r1 : α → Sl} {c1 : α → Ct} {m2 : α → Option β} {r2 : α → β → Sl} {c2 : α → β → Ct} {rs : γ → Sl} {c' : γ → Ct} {e1 e2 e3 : Expr} {pos : Pos} {s1 s2 s3 s : Sl}

/-! ### tests -/
abbrev MW {α : Type} (X : Cx) (B : Bs) (c : Ct) (e : Expr) (m : Option α) (r : α → Bool) (c' : α → Ct) : Prop := PW X e (tMT X.K B c m r c')
abbrev MWV (X : Cx) (B : Bs) (c : Ct) (e : Expr) (b : Bool) : Prop := MW (α := Unit) X B c e (some ()) (fun _ => b) (fun _ => c)
theorem mt_val {m : Option α} {b : α → Bool} {ca : α → Ct} {e : Expr} (h : ME X B c e m (fun a => imB (b a)) ca) (he : ∀ whole, isTrue e X.env whole = (do let v ← whole; standAt e.pos; holding [v] (truthy v)) := by intro _; rfl) : MT X B c e m b ca :=
  pt_mono (pt_val h he) fun σ H Q ⟨I, as, a, g, e, k⟩ => ⟨I, as, a, g, e, fun x H1 ⟨I1, as1, g1, s1, p1, v1⟩ => ⟨b a, vs_bl v1, k H1 I1 as1 g1 s1 p1⟩⟩
theorem mtv_val {b : Bool} {e : Expr} (h : MV X B c e (imB b)) (he : ∀ whole, isTrue e X.env whole = (do let v ← whole; standAt e.pos; holding [v] (truthy v)) := by intro _; rfl) : MTV X B c e b := mt_val (b := fun _ => b) h he
theorem mt_map {m : Option α} {b : α → Bool} {ca : α → Ct} {e : Expr} {m' : α → Option γ} {b' : γ → Bool} (h : MT X B c e m b ca) (q : ∀ a z, m' a = some z → b' z = b a ∧ c' z = ca a) : MT X B c e (m.bind m') b' c' :=
  pt_mono h fun σ H Q ⟨I, as, z, g, e, k⟩ => by
    obtain ⟨a, e1, e2⟩ := Option.bind_eq_some_iff.mp e
    obtain ⟨q1, q2⟩ := q a z e2
    exact ⟨I, as, a, g, e1, fun H' I' as' g' s' p' => by rw [← q1]; exact k H' I' as' (by rw [q2]; exact g') s' p'⟩
theorem mt_not {m : Option α} {b : α → Bool} {ca : α → Ct} (h : MT X B c e1 m b ca) : MT X B c (.UnaryOp .Not e1 pos) m (fun a => !b a) ca :=
  pt_mono (pt_not h) fun σ H Q ⟨I, as, a, g, e, k⟩ => ⟨I, as, a, g, e, k⟩
theorem mtv_not {b : Bool} (h : MTV X B c e1 b) : MTV X B c (.UnaryOp .Not e1 pos) (!b) := mt_not h
theorem mv_not {b : Bool} (h : MV X B c e1 (imB b)) : MV X B c (.UnaryOp .Not e1 pos) (imB (!b)) :=
  pe_mono (pe_not h) fun σ H Q ⟨I, as, a, g, e, k⟩ => ⟨I, as, a, g, e, fun x H1 ⟨I1, as1, g1, s1, p1, v1⟩ => ⟨b, vs_bl v1, k _ _ ⟨I1, as1, g1, s1, p1, .bl _⟩⟩⟩
theorem me_not {m : Option α} {b : α → Bool} {ca : α → Ct} (h : ME X B c e1 m (fun a => imB (b a)) ca) : ME X B c (.UnaryOp .Not e1 pos) m (fun a => imB (!b a)) ca :=
  pe_mono (pe_not h) fun σ H Q ⟨I, as, a, g, e, k⟩ => ⟨I, as, a, g, e, fun x H1 ⟨I1, as1, g1, s1, p1, v1⟩ => ⟨b a, vs_bl v1, k _ _ ⟨I1, as1, g1, s1, p1, .bl _⟩⟩⟩
section
variable {b1 : α → Bool} {bo : γ → Bool} {els : α → γ} {rest : List Expr}
theorem mw_and1 {m : Option α} {b : α → Bool} {ca : α → Ct} (h : MT X B c e1 m b ca) : MW X B c (.BoolOp .And [e1] pos) m b ca := pw_and1 h
theorem mw_or1 {m : Option α} {b : α → Bool} {ca : α → Ct} (h : MT X B c e1 m b ca) : MW X B c (.BoolOp .Or [e1] pos) m b ca := pw_or1 h
theorem mw_and {m2 : α → Option γ} (h1 : MT X B c e1 m1 b1 c1) (h2 : ∀ a, b1 a = true → MW X B (c1 a) (.BoolOp .And (e2 :: rest) pos) (m2 a) bo c') (q : ∀ a, bo (els a) = false ∧ c' (els a) = c1 a) :
    MW X B c (.BoolOp .And (e1 :: e2 :: rest) pos) (m1.bind fun a => if b1 a = true then m2 a else some (els a)) bo c' :=
  pw_mono (pw_and h1 (pw_fam fun i : { a : α // b1 a = true } => h2 i.1 i.2)) fun σ H Q ⟨I, as, d, g, e, k⟩ => by
    obtain ⟨a, e1, e⟩ := Option.bind_eq_some_iff.mp e
    refine ⟨I, as, a, g, e1, fun H1 I1 as1 g1 s1 p1 => ?_⟩
    by_cases hb : b1 a = true
    · rw [if_pos hb] at e ⊢
      exact ⟨⟨a, hb⟩, I1, as1, d, g1, e, fun H' I' as' g' s' p' => k H' I' as' g' (s1.trans s') (p1.trans p')⟩
    · rw [if_neg hb] at e ⊢
      cases e
      obtain ⟨q1, q2⟩ := q a
      have := k H1 I1 as1 (by rw [q2]; exact g1) s1 p1
      rw [q1] at this
      exact this
theorem mw_or {m2 : α → Option γ} (h1 : MT X B c e1 m1 b1 c1) (h2 : ∀ a, b1 a = false → MW X B (c1 a) (.BoolOp .Or (e2 :: rest) pos) (m2 a) bo c') (q : ∀ a, bo (els a) = true ∧ c' (els a) = c1 a) :
    MW X B c (.BoolOp .Or (e1 :: e2 :: rest) pos) (m1.bind fun a => if b1 a = true then some (els a) else m2 a) bo c' :=
  pw_mono (pw_or h1 (pw_fam fun i : { a : α // b1 a = false } => h2 i.1 i.2)) fun σ H Q ⟨I, as, d, g, e, k⟩ => by
    obtain ⟨a, e1, e⟩ := Option.bind_eq_some_iff.mp e
    refine ⟨I, as, a, g, e1, fun H1 I1 as1 g1 s1 p1 => ?_⟩
    by_cases hb : b1 a = true
    · rw [if_pos hb] at e ⊢
      cases e
      obtain ⟨q1, q2⟩ := q a
      have := k H1 I1 as1 (by rw [q2]; exact g1) s1 p1
      rw [q1] at this
      exact this
    · rw [if_neg hb] at e ⊢
      exact ⟨⟨a, by simpa using hb⟩, I1, as1, d, g1, e, fun H' I' as' g' s' p' => k H' I' as' g' (s1.trans s') (p1.trans p')⟩
/-- pure -/
theorem mwp_and {m1 m2 : Option Bool} (h1 : MT X B c e1 m1 (fun b => b) (fun _ => c)) (h2 : MW X B c (.BoolOp .And (e2 :: rest) pos) m2 (fun b => b) (fun _ => c)) :
    MW X B c (.BoolOp .And (e1 :: e2 :: rest) pos) (m1.bind fun a => if a = true then m2 else some false) (fun b => b) (fun _ => c) := mw_and (els := fun _ => false) h1 (fun _ _ => h2) fun _ => ⟨rfl, rfl⟩
theorem mwp_or {m1 m2 : Option Bool} (h1 : MT X B c e1 m1 (fun b => b) (fun _ => c)) (h2 : MW X B c (.BoolOp .Or (e2 :: rest) pos) m2 (fun b => b) (fun _ => c)) :
    MW X B c (.BoolOp .Or (e1 :: e2 :: rest) pos) (m1.bind fun a => if a = true then some true else m2) (fun b => b) (fun _ => c) := mw_or (els := fun _ => true) h1 (fun _ _ => h2) fun _ => ⟨rfl, rfl⟩
theorem mwv_and {b1 b2 : Bool} (h1 : MTV X B c e1 b1) (h2 : MWV X B c (.BoolOp .And (e2 :: rest) pos) b2) : MWV X B c (.BoolOp .And (e1 :: e2 :: rest) pos) (b1 && b2) :=
  pw_mono (mw_and (bo := fun b : Bool => b) (m2 := fun _ => some b2) (els := fun _ => false) (c' := fun _ => c) h1 (fun _ _ => pw_mono h2 fun σ H Q ⟨I, as, d, g, e, k⟩ => ⟨I, as, (), g, rfl, fun H' I' as' g' s' p' => by cases e; exact k H' I' as' g' s' p'⟩) (fun _ => ⟨rfl, rfl⟩))
    fun σ H Q ⟨I, as, d, g, _, k⟩ => ⟨I, as, b1 && b2, g, by cases b1 <;> rfl, k⟩
theorem mwv_or {b1 b2 : Bool} (h1 : MTV X B c e1 b1) (h2 : MWV X B c (.BoolOp .Or (e2 :: rest) pos) b2) : MWV X B c (.BoolOp .Or (e1 :: e2 :: rest) pos) (b1 || b2) :=
  pw_mono (mw_or (bo := fun b : Bool => b) (m2 := fun _ => some b2) (els := fun _ => true) (c' := fun _ => c) h1 (fun _ _ => pw_mono h2 fun σ H Q ⟨I, as, d, g, e, k⟩ => ⟨I, as, (), g, rfl, fun H' I' as' g' s' p' => by cases e; exact k H' I' as' g' s' p'⟩) (fun _ => ⟨rfl, rfl⟩))
    fun σ H Q ⟨I, as, d, g, _, k⟩ => ⟨I, as, b1 || b2, g, by cases b1 <;> rfl, k⟩
end
/-- a total test or value, read as a partial one -/
theorem mtp {b : Bool} {e : Expr} (h : MTV X B c e b) : MT X B c e (some b) (fun b => b) (fun _ => c) :=
  pt_mono h fun σ H Q ⟨I, as, d, g, e, k⟩ => ⟨I, as, (), g, rfl, by cases e; exact k⟩
theorem mp {τ : Type} {k : τ → D} {e : Expr} {x : τ} (h : MV X B c e (.im (k x))) : ME X B c e (some x) (fun x => .im (k x)) (fun _ => c) :=
  pe_mono h fun σ H Q ⟨I, as, d, g, e, q⟩ => ⟨I, as, (), g, rfl, by cases e; exact q⟩
/-! ### and, or of truth values, as values -/
section
variable {rest : List Expr} {b1 b2 : Bool}
theorem mv_one {op : PySem.BoolOp} (h : MV X B c e1 s1) : MV X B c (.BoolOp op [e1] pos) s1 := pe_one h
theorem mp_one {op : PySem.BoolOp} {m : Option α} {r : α → Sl} {ca : α → Ct} (h : ME X B c e1 m r ca) : ME X B c (.BoolOp op [e1] pos) m r ca := pe_one h
theorem mp_and {m1 m2 : Option Bool} (h1 : ME X B c e1 m1 (fun b => imB b) (fun _ => c)) (h2 : ME X B c (.BoolOp .And (e2 :: rest) pos) m2 (fun b => imB b) (fun _ => c)) :
    ME X B c (.BoolOp .And (e1 :: e2 :: rest) pos) (m1.bind fun a => if a = true then m2 else some false) (fun b => imB b) (fun _ => c) :=
  pe_mono (pe_and h1 h2) fun σ H Q ⟨I, as, d, g, e, k⟩ => by
    obtain ⟨a, e1, e⟩ := Option.bind_eq_some_iff.mp e
    refine ⟨I, as, a, g, e1, fun x H1 ⟨I1, as1, g1, s1, p1, v1⟩ => ⟨a, vs_bl v1, ?_⟩⟩
    cases a with
    | true => exact ⟨I1, as1, d, g1, e, fun v H' z => k v H' (z.up s1 p1)⟩
    | false => cases e; exact k _ _ ⟨I1, as1, g1, s1, p1, .bl _⟩
theorem mp_or {m1 m2 : Option Bool} (h1 : ME X B c e1 m1 (fun b => imB b) (fun _ => c)) (h2 : ME X B c (.BoolOp .Or (e2 :: rest) pos) m2 (fun b => imB b) (fun _ => c)) :
    ME X B c (.BoolOp .Or (e1 :: e2 :: rest) pos) (m1.bind fun a => if a = true then some true else m2) (fun b => imB b) (fun _ => c) :=
  pe_mono (pe_or h1 h2) fun σ H Q ⟨I, as, d, g, e, k⟩ => by
    obtain ⟨a, e1, e⟩ := Option.bind_eq_some_iff.mp e
    refine ⟨I, as, a, g, e1, fun x H1 ⟨I1, as1, g1, s1, p1, v1⟩ => ⟨a, vs_bl v1, ?_⟩⟩
    cases a with
    | true => cases e; exact k _ _ ⟨I1, as1, g1, s1, p1, .bl _⟩
    | false => exact ⟨I1, as1, d, g1, e, fun v H' z => k v H' (z.up s1 p1)⟩
theorem mv_and (h1 : MV X B c e1 (imB b1)) (h2 : MV X B c (.BoolOp .And (e2 :: rest) pos) (imB b2)) : MV X B c (.BoolOp .And (e1 :: e2 :: rest) pos) (imB (b1 && b2)) :=
  pe_mono (mp_and (mp (k := .bool) h1) (mp (k := .bool) h2)) fun σ H Q ⟨I, as, d, g, _, k⟩ => ⟨I, as, b1 && b2, g, by cases b1 <;> rfl, k⟩
theorem mv_or (h1 : MV X B c e1 (imB b1)) (h2 : MV X B c (.BoolOp .Or (e2 :: rest) pos) (imB b2)) : MV X B c (.BoolOp .Or (e1 :: e2 :: rest) pos) (imB (b1 || b2)) :=
  pe_mono (mp_or (mp (k := .bool) h1) (mp (k := .bool) h2)) fun σ H Q ⟨I, as, d, g, _, k⟩ => ⟨I, as, b1 || b2, g, by cases b1 <;> rfl, k⟩
end

/-! ### one or the other -/
theorem me_ifx {t : Expr} {mt : Option α} {b : α → Bool} {ct : α → Ct} {ma mb : α → Option γ} (ht : MT X B c t mt b ct) (ha : ∀ a, b a = true → ME X B (ct a) e1 (ma a) rs c') (hb : ∀ a, b a = false → ME X B (ct a) e2 (mb a) rs c') :
    ME X B c (.IfExp t e1 e2 pos) (mt.bind fun a => if b a = true then ma a else mb a) rs c' :=
  pe_mono (pe_ifExp ht (pe_fam fun i : { a : α // b a = true } => ha i.1 i.2) (pe_fam fun i : { a : α // b a = false } => hb i.1 i.2)) fun σ H Q ⟨I, as, d, g, e, k⟩ => by
    obtain ⟨a, e1, e⟩ := Option.bind_eq_some_iff.mp e
    refine ⟨I, as, a, g, e1, fun H1 I1 as1 g1 s1 p1 => ?_⟩
    by_cases hb : b a = true
    · rw [if_pos hb] at e ⊢
      exact ⟨⟨a, hb⟩, I1, as1, d, g1, e, fun v H' z => k v H' (z.up s1 p1)⟩
    · rw [if_neg hb] at e ⊢
      exact ⟨⟨a, by simpa using hb⟩, I1, as1, d, g1, e, fun v H' z => k v H' (z.up s1 p1)⟩
theorem mp_ifx {t : Expr} {τ : Type} {k : τ → D} {mt : Option Bool} {ma mb : Option τ} (ht : MT X B c t mt (fun b => b) (fun _ => c)) (ha : ME X B c e1 ma (fun z => .im (k z)) (fun _ => c)) (hb : ME X B c e2 mb (fun z => .im (k z)) (fun _ => c)) :
    ME X B c (.IfExp t e1 e2 pos) (mt.bind fun a => if a = true then ma else mb) (fun z => .im (k z)) (fun _ => c) := me_ifx ht (fun _ _ => ha) (fun _ _ => hb)
theorem mv_ifx {t : Expr} {τ : Type} {k : τ → D} {b : Bool} {x y : τ} (ht : MTV X B c t b) (ha : MV X B c e1 (.im (k x))) (hb : MV X B c e2 (.im (k y))) : MV X B c (.IfExp t e1 e2 pos) (.im (k (if b = true then x else y))) :=
  pe_mono (mp_ifx (mtp ht) (mp (k := k) ha) (mp (k := k) hb)) fun σ H Q ⟨I, as, d, g, _, q⟩ => ⟨I, as, if b = true then x else y, g, by cases b <;> rfl, q⟩

/-! ### a op b op' d -/
theorem mp_chain {op op' : CmpOp} {r r' : R2} {p1 : Option α} {p2 : Option β} {p3 : Option γ} {k1 : α → D} {k2 : β → D} {k3 : γ → D} {f : α → β → Bool} {f' : β → γ → Bool} (ho : OpR X (compareOp op) r) (ho' : OpR X (compareOp op') r')
    (h1 : ME X B c e1 p1 (fun z => .im (k1 z)) (fun _ => c)) (h2 : ME X B c e2 p2 (fun z => .im (k2 z)) (fun _ => c)) (h3 : ME X B c e3 p3 (fun z => .im (k3 z)) (fun _ => c))
    (q1 : ∀ a b, OV2 X.K B r c (.im (k1 a)) (.im (k2 b)) (imB (f a b))) (q2 : ∀ a b, OV2 X.K B r' c (.im (k2 a)) (.im (k3 b)) (imB (f' a b)))
    (hm : lastMarks [op, op'] [e2, e3] = false := by with_unfolding_all rfl) :
    ME X B c (.Compare e1 [op, op'] [e2, e3] pos) (p1.bind fun a => p2.bind fun b => if f a b = true then p3.bind fun d => some (f' b d) else some false) (fun z => imB z) (fun _ => c) :=
  pe_mono (pe_chain ho ho' h1 h2 h3 hm) fun σ H Q ⟨I, as, d, g, e, k⟩ => by
    obtain ⟨a, e1, e⟩ := Option.bind_eq_some_iff.mp e
    obtain ⟨b, e2, e⟩ := Option.bind_eq_some_iff.mp e
    refine ⟨I, as, a, g, e1, fun x H1 ⟨I1, as1, g1, s1, p1, v1⟩ => ⟨I1, as1, b, g1, e2, fun y H2 ⟨I2, as2, g2, s2, p2, v2⟩ => ?_⟩⟩
    refine q1 a b σ H2 I2 as2 x y _ () g2 (v1.mono s2 p2) v2 rfl fun z H3 ⟨I3, as3, g3, s3, p3, v3⟩ => ⟨f a b, vs_bl v3, ?_⟩
    by_cases hf : f a b = true
    · rw [if_pos hf] at e ⊢
      obtain ⟨w, e3, e⟩ := Option.bind_eq_some_iff.mp e
      cases e
      refine ⟨I3, as3, w, g3, e3, fun u H4 ⟨I4, as4, g4, s4, p4, v4⟩ => ?_⟩
      exact q2 b w σ H4 I4 as4 y u Q () g4 ((v2.mono s3 p3).mono s4 p4) v4 rfl fun v H' z => k v H' (z.up (s1.trans (s2.trans (s3.trans s4))) (p1.trans (p2.trans (p3.trans p4))))
    · rw [if_neg hf] at e ⊢
      cases e
      exact k _ _ ⟨I3, as3, g3, s1.trans (s2.trans s3), p1.trans (p2.trans p3), .bl _⟩
theorem mv_chain {op op' : CmpOp} {r r' : R2} {d1 d2 d3 : D} {b b' : Bool} (ho : OpR X (compareOp op) r) (ho' : OpR X (compareOp op') r')
    (h1 : MV X B c e1 (.im d1)) (h2 : MV X B c e2 (.im d2)) (h3 : MV X B c e3 (.im d3)) (q1 : OV2 X.K B r c (.im d1) (.im d2) (imB b)) (q2 : OV2 X.K B r' c (.im d2) (.im d3) (imB b'))
    (hm : lastMarks [op, op'] [e2, e3] = false := by with_unfolding_all rfl) : MV X B c (.Compare e1 [op, op'] [e2, e3] pos) (imB (b && b')) :=
  pe_mono (mp_chain (k1 := fun _ : Unit => d1) (k2 := fun _ : Unit => d2) (k3 := fun _ : Unit => d3) (f := fun _ _ => b) (f' := fun _ _ => b') ho ho' h1 h2 h3 (fun _ _ => q1) (fun _ _ => q2) hm)
    fun σ H Q ⟨I, as, d, g, _, k⟩ => ⟨I, as, b && b', g, by cases b <;> rfl, k⟩
/-- as a test -/
theorem mtp_chain {op op' : CmpOp} {r r' : R2} {p1 : Option α} {p2 : Option β} {p3 : Option γ} {k1 : α → D} {k2 : β → D} {k3 : γ → D} {f : α → β → Bool} {f' : β → γ → Bool} (ho : OpR X (compareOp op) r) (ho' : OpR X (compareOp op') r')
    (h1 : ME X B c e1 p1 (fun z => .im (k1 z)) (fun _ => c)) (h2 : ME X B c e2 p2 (fun z => .im (k2 z)) (fun _ => c)) (h3 : ME X B c e3 p3 (fun z => .im (k3 z)) (fun _ => c))
    (q1 : ∀ a b, OV2 X.K B r c (.im (k1 a)) (.im (k2 b)) (imB (f a b))) (q2 : ∀ a b, OV2 X.K B r' c (.im (k2 a)) (.im (k3 b)) (imB (f' a b)))
    (hm : lastMarks [op, op'] [e2, e3] = false := by with_unfolding_all rfl) :
    MT X B c (.Compare e1 [op, op'] [e2, e3] pos) (p1.bind fun a => p2.bind fun b => if f a b = true then p3.bind fun d => some (f' b d) else some false) (fun z => z) (fun _ => c) :=
  pt_mono (pt_chain ho ho' h1 h2 h3 hm) fun σ H Q ⟨I, as, d, g, e, k⟩ => by
    obtain ⟨a, e1, e⟩ := Option.bind_eq_some_iff.mp e
    obtain ⟨b, e2, e⟩ := Option.bind_eq_some_iff.mp e
    refine ⟨I, as, a, g, e1, fun x H1 ⟨I1, as1, g1, s1, p1, v1⟩ => ⟨I1, as1, b, g1, e2, fun y H2 ⟨I2, as2, g2, s2, p2, v2⟩ => ?_⟩⟩
    refine q1 a b σ H2 I2 as2 x y _ () g2 (v1.mono s2 p2) v2 rfl fun z H3 ⟨I3, as3, g3, s3, p3, v3⟩ => ⟨f a b, vs_bl v3, ?_⟩
    by_cases hf : f a b = true
    · rw [if_pos hf] at e ⊢
      obtain ⟨w, e3, e⟩ := Option.bind_eq_some_iff.mp e
      cases e
      refine ⟨I3, as3, w, g3, e3, fun u H4 ⟨I4, as4, g4, s4, p4, v4⟩ => ?_⟩
      exact q2 b w σ H4 I4 as4 y u _ () g4 ((v2.mono s3 p3).mono s4 p4) v4 rfl fun v H' ⟨I5, as5, g5, s5, p5, v5⟩ => ⟨_, vs_bl v5, k H' I5 as5 g5 (s1.trans (s2.trans (s3.trans (s4.trans s5)))) (p1.trans (p2.trans (p3.trans (p4.trans p5))))⟩
    · rw [if_neg hf] at e ⊢
      cases e
      exact ⟨false, rfl, k H3 I3 as3 g3 (s1.trans (s2.trans s3)) (p1.trans (p2.trans p3))⟩
theorem mtv_chain {op op' : CmpOp} {r r' : R2} {d1 d2 d3 : D} {b b' : Bool} (ho : OpR X (compareOp op) r) (ho' : OpR X (compareOp op') r')
    (h1 : MV X B c e1 (.im d1)) (h2 : MV X B c e2 (.im d2)) (h3 : MV X B c e3 (.im d3)) (q1 : OV2 X.K B r c (.im d1) (.im d2) (imB b)) (q2 : OV2 X.K B r' c (.im d2) (.im d3) (imB b'))
    (hm : lastMarks [op, op'] [e2, e3] = false := by with_unfolding_all rfl) : MTV X B c (.Compare e1 [op, op'] [e2, e3] pos) (b && b') :=
  pt_mono (mtp_chain (k1 := fun _ : Unit => d1) (k2 := fun _ : Unit => d2) (k3 := fun _ : Unit => d3) (f := fun _ _ => b) (f' := fun _ _ => b') ho ho' h1 h2 h3 (fun _ _ => q1) (fun _ _ => q2) hm)
    fun σ H Q ⟨I, as, d, g, _, k⟩ => ⟨I, as, b && b', g, by cases b <;> rfl, k⟩

/-! ### slices -/
def tMO {α : Type} (K : PySem.W.Frag) (B : Bs) (c : Ct) (m : Option α) (r : α → Option Int) (c' : α → Ct) : TO := fun σ H Q =>
  ∃ I as a, Ge K B c σ H I as ∧ m = some a ∧ ∀ H' I' as', Ge K B (c' a) σ H' I' as' → Same I I' → as <+: as' → Q (r a) H'
abbrev MO {α : Type} (X : Cx) (B : Bs) (c : Ct) (e : Option Expr) (m : Option α) (r : α → Option Int) (c' : α → Ct) : Prop := PO X e (tMO X.K B c m r c')
theorem po_mono {e : Option Expr} {t t' : TO} (h : PO X e t) (w : ∀ σ H Q, t' σ H Q → t σ H Q) : PO X e t' := ⟨fun pins s σ H Q I q => h.run pins s σ H Q I (w _ _ _ q)⟩
theorem po_fam {e : Option Expr} {ι : Type} {t : ι → TO} (h : ∀ i, PO X e (t i)) : PO X e (fun σ H Q => ∃ i, t i σ H Q) := ⟨fun pins s σ H Q I ⟨i, q⟩ => (h i).run pins s σ H Q I q⟩
theorem mo_none : MO (α := Unit) X B c none (some ()) (fun _ => none) (fun _ => c) := po_mono po_none fun σ H Q ⟨I, as, a, g, _, k⟩ => k H I as g (Same.refl _) (List.prefix_refl _)
theorem mo_some {m : Option α} {x : α → Int} {ca : α → Ct} {e : Expr} (h : ME X B c e m (fun a => imI (x a)) ca) : MO X B c (some e) m (fun a => some (x a)) ca :=
  po_mono (po_some h) fun σ H Q ⟨I, as, a, g, e, k⟩ => ⟨I, as, a, g, e, fun v H1 ⟨I1, as1, g1, s1, p1, v1⟩ => ⟨x a, vs_int v1, k H1 I1 as1 g1 s1 p1⟩⟩
theorem me_slice {r : V → Option Int → Option Int → Hp → VK → Prop} {lo hi : Option Expr} {p2 : Pos} {l : α → β → Option Int} {m3 : α → β → Option γ} {u : α → β → γ → Option Int} {c3 : α → β → γ → Ct} {mo : α → β → γ → Option δ} {rs : δ → Sl} {c' : δ → Ct} (hr : SlR X r) (h1 : ME X B c e1 m1 r1 c1)
    (h2 : ∀ a, MO X B (c1 a) lo (m2 a) (l a) (c2 a)) (h3 : ∀ a b, MO X B (c2 a b) hi (m3 a b) (u a b) (c3 a b)) (h : ∀ a b d, OS X.K B r (c3 a b d) (r1 a) (l a b) (u a b d) (mo a b d) rs c') :
    ME X B c (.Subscript e1 (.Slice lo hi none p2) pos) (m1.bind fun a => (m2 a).bind fun b => (m3 a b).bind fun d => mo a b d) rs c' :=
  pe_mono (pe_slice hr h1 (po_fam h2) (po_fam fun i : α × β => h3 i.1 i.2)) fun σ H Q ⟨I, as, z, g, e, k⟩ => by
    obtain ⟨a, e1, e⟩ := Option.bind_eq_some_iff.mp e
    obtain ⟨b, e2, e⟩ := Option.bind_eq_some_iff.mp e
    obtain ⟨d, e3, e⟩ := Option.bind_eq_some_iff.mp e
    refine ⟨I, as, a, g, e1, fun x H1 ⟨I1, as1, g1, s1, p1, v1⟩ => ⟨a, I1, as1, b, g1, e2, fun H2 I2 as2 g2 s2 p2 => ⟨(a, b), I2, as2, d, g2, e3, fun H3 I3 as3 g3 s3 p3 => ?_⟩⟩⟩
    exact h a b d σ H3 I3 as3 x Q z g3 ((v1.mono s2 p2).mono s3 p3) e fun v H' q => k v H' (q.up (s1.trans (s2.trans s3)) (p1.trans (p2.trans p3)))
/-- the part of a list from lo on, before hi -/
def cutL {τ : Type} (xs : List τ) (lo hi : Option Int) : List τ := (xs.drop (HT.sIx xs.length 0 lo)).take (HT.sIx xs.length xs.length hi - HT.sIx xs.length 0 lo)
theorem cutL_map {τ υ : Type} (k : τ → υ) (xs : List τ) (lo hi : Option Int) : cutL (xs.map k) lo hi = (cutL xs lo hi).map k := by
  unfold cutL; rw [List.length_map, List.map_take, List.map_drop]
theorem dp_cut {xs : List V} {ds : List D} (h : DpAll K I xs ds) (lo hi : Option Int) : DpAll K I (cutV xs lo hi) (cutL ds lo hi) := by
  unfold cutV cutL; rw [h.len]; exact (h.drop _).take _
theorem cutL_whole {τ : Type} (xs : List τ) (lo hi : Option Int) (h : HT.sIx xs.length 0 lo = 0 ∧ HT.sIx xs.length xs.length hi = xs.length) : cutL xs lo hi = xs := by
  unfold cutL; rw [h.1, h.2]; simp
section
variable {τ : Type} {k : τ → D} {xs : List τ} {lo hi : Option Int}
theorem os_list {c' : Ct} {s s1 : Sl} (l : LsOf c (xs.map k) s1) (n : NewL c ((cutL xs lo hi).map k) c' s) : OS (γ := Unit) K B (rSlL K) c s1 lo hi (some ()) (fun _ => s) (fun _ => c') :=
  fun σ H I as x Q _ g hx _ q => by
    obtain ⟨a, vs, rfl, h1, h2⟩ := l.get g hx
    exact ⟨a, vs, rfl, h1, fun p hp => q _ _ (After.layN g n hp (by rw [← cutL_map]; exact dp_cut h2 lo hi))⟩
theorem os_tup : OS (γ := Unit) K B (rSlA K) c (.im (.tuple (xs.map k))) lo hi (some ()) (fun _ => .im (.tuple ((cutL xs lo hi).map k))) (fun _ => c) :=
  fun σ H I as x Q _ g hx _ q => by
    obtain ⟨a, vs, rfl, h1, h2⟩ := vs_tup hx
    refine ⟨a, vs, rfl, g.sub.seqT h1, fun hw => q _ _ (.of g ?_), fun _ p hp => q _ _ (After.layT g hp (by rw [← cutL_map]; exact dp_cut h2 lo hi))⟩
    have hw' := hw
    rw [h2.len] at hw'
    rw [← cutL_map, cutL_whole _ _ _ hw']
    exact hx
end

/-! ### an item -/
theorem ix_lt : IxR X (fun x y H Q => rIxL X.K x y H Q ∨ rIxT X.K x y H Q) := ix_list.or ix_tup
theorem atI_map {τ υ : Type} (k : τ → υ) (xs : List τ) (i : Int) : atI (xs.map k) i = (atI xs i).map k := by
  unfold atI; rw [List.length_map]
  cases ixN xs.length i with
  | none => rfl
  | some j => simp
theorem dp_at {xs : List V} {ds : List D} {i : Int} {d : D} (h : DpAll K I xs ds) (e : atI ds i = some d) : ∃ v, atI xs i = some v ∧ Dp K I v d := by
  unfold atI at e ⊢; rw [h.len]
  cases hj : ixN ds.length i with
  | none => rw [hj] at e; cases e
  | some j => rw [hj] at e; exact h.get e
theorem o2_ixD {ds : List D} {i : Int} {d : D} (l : SqOf c ds s1) (e : atI ds i = some d) : OV2 K B (fun x y H Q => rIxL K x y H Q ∨ rIxT K x y H Q) c s1 (imI i) (.im d) :=
  fun σ H I as x y Q _ g hx hy _ q => by
    obtain ⟨a, vs, rfl, h1, h2⟩ := l.get g hx
    obtain ⟨v, h3, h4⟩ := dp_at h2 e
    rcases h1 with h1 | h1
    · exact .inl ⟨a, vs, i, v, rfl, vs_int hy, h1, h3, q _ _ (.of g h4)⟩
    · exact .inr ⟨a, vs, i, v, rfl, vs_int hy, h1, h3, q _ _ (.of g h4)⟩
theorem o2_ix {τ : Type} {k : τ → D} {xs : List τ} {i : Int} (l : SqOf c (xs.map k) s1) : O2 K B (fun x y H Q => rIxL K x y H Q ∨ rIxT K x y H Q) c s1 (imI i) (atI xs i) (fun a => .im (k a)) (fun _ => c) :=
  fun σ H I as x y Q z g hx hy e q => o2_ixD l (by rw [atI_map, e]; rfl) σ H I as x y Q () g hx hy rfl q

/-! ### how long -/
section
variable {x : Str} {p : Pos}
theorem sq_len {ds : List D} (l : SqOf c ds s1) : OA (γ := Unit) K B (fun xs H Q => ∃ p ys, xs = [V.ref p] ∧ (SqL K H p ys ∨ SqT K H p ys) ∧ Q (.int ys.length) H) c [s1] (some ()) (fun _ => imI ds.length) (fun _ => c) :=
  fun σ H I as xs Q _ g hx _ q => by
    cases hx with
    | cons h1 h2 =>
      cases h2
      obtain ⟨a, vs, rfl, h1, h2⟩ := l.get g h1
      exact ⟨a, vs, rfl, h1, q _ _ (.of g (by rw [h2.len]; exact .int _))⟩
theorem mv_len {τ : Type} {k : τ → D} {xs : List τ} (hg : Gl X "len") (hm : X.mg "len" = none) (h : MV X B c e1 s1) (l : SqOf c (xs.map k) s1) (he : starEach [e1] X.env = (false, eval e1 X.env) :: starEach [] X.env := by rfl) (hpl : (backTo pos (starEach [] X.env)).any (·.1) = false := by rfl) :
    MV X B c (.Call (.Name "len" p) [e1] [] pos) (imI xs.length) := by
  have q := me_callB (mo := fun _ => some ()) (pos := pos) (p := p) call_len_seq hg hm PySem.boot_len (mav_cons h ma_nil he) (fun _ => sq_len l) (he := he) (hpl := hpl)
  rw [List.length_map] at q
  exact q
theorem me_len {τ : Type} {k : τ → D} {xs : α → List τ} {m : Option α} {r : α → Sl} (hg : Gl X "len") (hm : X.mg "len" = none) (h : ME X B c e1 m r (fun _ => c)) (l : ∀ a, SqOf c ((xs a).map k) (r a)) (he : starEach [e1] X.env = (false, eval e1 X.env) :: starEach [] X.env := by rfl) (hpl : (backTo pos (starEach [] X.env)).any (·.1) = false := by rfl) :
    ME X B c (.Call (.Name "len" p) [e1] [] pos) (m.bind fun a => some ((xs a).length : Int)) (fun z => imI z) (fun _ => c) := by
  refine pe_mono (pe_callB call_len_seq hg hm PySem.boot_len (pa_cons h pa_nil he) (he := he) (hpl := hpl)) fun σ H Q ⟨I, as, z, g, e, k⟩ => ?_
  obtain ⟨a, e1, e⟩ := Option.bind_eq_some_iff.mp e
  cases e
  refine ⟨I, as, a, g, e1, fun x H1 ⟨I1, as1, g1, s1, p1, v1⟩ => ?_⟩
  obtain ⟨b, vs, rfl, h1, h2⟩ := (l a).get g1 v1
  refine ⟨b, vs, rfl, h1, k _ _ ⟨I1, as1, g1, s1, p1, ?_⟩⟩
  rw [h2.len, List.length_map]
  exact .int _
end
end
end M3

set_option Elab.async false
set_option linter.all false
set_option maxRecDepth 100000
set_option maxHeartbeats 4000000
namespace M3
open PySem PySem.Spec PyProof.Rows L2

/-! ### what a statement leads to -/
inductive Oc where
  | nx (c : Ct) | ct (c : Ct) | rt (sl : Sl) (c : Ct) | bk (c : Ct)
def OcOk (K : PySem.W.Frag) (B : Bs) (I : Hp) (E : Ends) : Oc → Prop
  | .nx c => ∀ σ H' I' as', Ge K B c σ H' I' as' → Same I I' → E.nx σ H'
  | .ct c => ∀ σ H' I' as', Ge K B c σ H' I' as' → Same I I' → E.ct σ H'
  | .rt sl c => ∀ v H' I' as', Ge K B c [] H' I' as' → Same I I' → VS K I' as' v sl → E.rt v H'
  | .bk c => ∀ σ H' I' as', Ge K B c σ H' I' as' → Same I I' → E.bk σ H'
theorem OcOk.up {K : PySem.W.Frag} {B : Bs} {I I' : Hp} {E : Ends} (s : Same I I') : ∀ {o : Oc}, OcOk K B I E o → OcOk K B I' E o
  | .nx _, h => fun σ H' J as' g s' => h σ H' J as' g (s.trans s')
  | .ct _, h => fun σ H' J as' g s' => h σ H' J as' g (s.trans s')
  | .rt _ _, h => fun v H' J as' g s' => h v H' J as' g (s.trans s')
  | .bk _, h => fun σ H' J as' g s' => h σ H' J as' g (s.trans s')
def tS {ω : Type} (K : PySem.W.Frag) (B : Bs) (c : Ct) (m : Option ω) (post : ω → Oc) : TS := fun E σ H => ∃ I as w, Ge K B c σ H I as ∧ m = some w ∧ OcOk K B I E (post w)
abbrev MS {ω : Type} (X : Cx) (B : Bs) (c : Ct) (st : Stmt) (m : Option ω) (post : ω → Oc) : Prop := PS X st (tS X.K B c m post)
abbrev MB {ω : Type} (X : Cx) (B : Bs) (c : Ct) (st : List Stmt) (m : Option ω) (post : ω → Oc) : Prop := PSs X st (tS X.K B c m post)

section
variable {X : Cx} {B : Bs} {c : Ct} {K : PySem.W.Frag} {σ : St} {H I : Hp} {as : List Addr}
theorem ps_mono {st : Stmt} {t t' : TS} (h : PS X st t) (w : ∀ E σ H, t' E σ H → t E σ H) : PS X st t' := ⟨fun pins s σ H E I q => h.run pins s σ H E I (w _ _ _ q)⟩
theorem pss_mono {st : List Stmt} {t t' : TS} (h : PSs X st t) (w : ∀ E σ H, t' E σ H → t E σ H) : PSs X st t' := ⟨fun pins s σ H E I q => h.run pins s σ H E I (w _ _ _ q)⟩
theorem ps_fam {st : Stmt} {ι : Type} {t : ι → TS} (h : ∀ i, PS X st (t i)) : PS X st (fun E σ H => ∃ i, t i E σ H) := ⟨fun pins s σ H E I ⟨i, q⟩ => (h i).run pins s σ H E I q⟩
theorem pss_fam {st : List Stmt} {ι : Type} {t : ι → TS} (h : ∀ i, PSs X st (t i)) : PSs X st (fun E σ H => ∃ i, t i E σ H) := ⟨fun pins s σ H E I ⟨i, q⟩ => (h i).run pins s σ H E I q⟩

/-! ### the memory seen with less -/
def Wk (c c' : Ct) : Prop := ∀ (K : PySem.W.Frag) (B : Bs) (σ : St) (H I : Hp) (as : List Addr), Ge K B c σ H I as → ∃ I' as', Same I I' ∧ Ge K B c' σ H I' as'
theorem Wk.refl : Wk c c := fun _ _ _ _ I as g => ⟨I, as, Same.refl _, g⟩
theorem Wk.trans {c1 c2 c3 : Ct} (a : Wk c1 c2) (b : Wk c2 c3) : Wk c1 c3 := fun K B σ H I as g => by
  obtain ⟨I1, as1, s1, g1⟩ := a K B σ H I as g
  obtain ⟨I2, as2, s2, g2⟩ := b K B σ H I1 as1 g1
  exact ⟨I2, as2, s1.trans s2, g2⟩
def posIn (j : Nat) : List Nat → Option Nat
  | [] => none
  | a :: r => bif Nat.beq a j then some 0 else (posIn j r).map (· + 1)
def Sl.mv (f : List Nat) : Sl → Option Sl
  | .im d => some (.im d)
  | .rf j => (posIn j f).map .rf
def keepS (f : List Nat) : List Bool → List (Option Sl) → List (Option Sl)
  | true :: r, some sl :: s => sl.mv f :: keepS f r s
  | _ :: r, _ :: s => none :: keepS f r s
  | [], s => s.map fun _ => none
  | _, [] => []
/-- the cells of f alone, the names that kp tells -/
def Ct.rm (c : Ct) (f : List Nat) (kp : List Bool) : Ct := ⟨c.b, keepS f kp c.s, f.map fun j => c.m.getD j []⟩
theorem keepS_length (f : List Nat) : ∀ (kp : List Bool) (s : List (Option Sl)), (keepS f kp s).length = s.length
  | true :: r, some sl :: s => by show (keepS f r s).length + 1 = s.length + 1; rw [keepS_length f r s]
  | true :: r, none :: s => by show (keepS f r s).length + 1 = s.length + 1; rw [keepS_length f r s]
  | false :: r, x :: s => by
    have : keepS f (false :: r) (x :: s) = none :: keepS f r s := by cases x <;> rfl
    rw [this, List.length_cons, List.length_cons, keepS_length f r s]
  | [], [] => rfl
  | [], x :: s => by show ((x :: s).map fun _ => none).length = _; rw [List.length_map]
  | true :: _, [] => rfl
  | false :: _, [] => rfl
theorem keepS_get (f : List Nat) : ∀ {kp : List Bool} {s : List (Option Sl)} {i : Nat} {sl : Sl}, (keepS f kp s)[i]? = some (some sl) → ∃ sl0, s[i]? = some (some sl0) ∧ sl0.mv f = some sl
  | true :: r, some sl0 :: s, 0, sl, h => ⟨sl0, rfl, by
      have h : (sl0.mv f :: keepS f r s)[0]? = some (some sl) := h
      exact Option.some.inj h⟩
  | true :: r, some sl0 :: s, i + 1, sl, h => by
    have h : (keepS f r s)[i]? = some (some sl) := h
    exact (keepS_get (kp := r) (s := s) (i := i) (sl := sl) f h : ∃ sl0, s[i]? = some (some sl0) ∧ sl0.mv f = some sl)
  | true :: r, none :: s, 0, sl, h => by
    have h : (none :: keepS f r s)[0]? = some (some sl) := h
    cases h
  | true :: r, none :: s, i + 1, sl, h => by
    have h : (keepS f r s)[i]? = some (some sl) := h
    exact (keepS_get (kp := r) (s := s) (i := i) (sl := sl) f h : ∃ sl0, s[i]? = some (some sl0) ∧ sl0.mv f = some sl)
  | false :: r, x :: s, 0, sl, h => by
    have e : keepS f (false :: r) (x :: s) = none :: keepS f r s := by cases x <;> rfl
    rw [e] at h; cases h
  | false :: r, x :: s, i + 1, sl, h => by
    have e : keepS f (false :: r) (x :: s) = none :: keepS f r s := by cases x <;> rfl
    rw [e] at h
    have h : (keepS f r s)[i]? = some (some sl) := h
    exact (keepS_get (kp := r) (s := s) (i := i) (sl := sl) f h : ∃ sl0, s[i]? = some (some sl0) ∧ sl0.mv f = some sl)
  | [], s, i, sl, h => by
    have e : keepS f [] s = s.map fun _ => none := by cases s <;> rfl
    rw [e, List.getElem?_map] at h
    cases q : s[i]? with
    | none => rw [q] at h; cases h
    | some a => rw [q] at h; cases h
  | true :: _, [], _, _, h => by cases h
  | false :: _, [], _, _, h => by cases h
theorem posIn_some {j : Nat} : ∀ {f : List Nat} {k : Nat}, posIn j f = some k → f[k]? = some j
  | [], _, h => by cases h
  | a :: r, k, h => by
    unfold posIn at h
    cases e : Nat.beq a j with
    | true =>
      rw [e] at h
      cases h
      have := Nat.eq_of_beq_eq_true e
      subst this; rfl
    | false =>
      rw [e] at h
      cases q : posIn j r with
      | none => rw [q] at h; cases h
      | some z =>
        rw [q] at h
        cases h
        exact (posIn_some (f := r) (k := z) q : r[z]? = some j)
theorem Wk.rm (f : List Nat) (kp : List Bool) {c' : Ct} (e : c.rm f kp = c') (h1 : f.Nodup := by decide) (h2 : (f.all fun j => Nat.blt j c.m.length) = true := by rfl) (h3 : f.take c.b = List.range c.b := by rfl) : Wk c c' := fun K B σ H I as g => by
  subst e
  have lt : ∀ j ∈ f, j < c.m.length := fun j hj => by
    have := List.all_eq_true.mp h2 j hj
    exact Nat.le_of_ble_eq_true this
  have get : ∀ (k : Nat) a, (f.map fun j => as.getD j 0)[k]? = some a → ∃ j, f[k]? = some j ∧ as[j]? = some a := fun k a e => by
    rw [List.getElem?_map] at e
    cases q : f[k]? with
    | none => rw [q] at e; cases e
    | some j =>
      rw [q] at e
      have hj := lt j (List.mem_of_getElem? q)
      rw [← g.len] at hj
      refine ⟨j, rfl, ?_⟩
      have e : some (as.getD j 0) = some a := e
      rw [List.getD_eq_getElem?_getD, List.getElem?_eq_getElem hj] at e
      rw [List.getElem?_eq_getElem hj]; exact e
  refine ⟨I, f.map fun j => as.getD j 0, Same.refl _, g.ext, g.sub, g.new, g.frm, g.bl, ?_, ?_, fun k a e => ?_, ?_, fun k a ds e q => ?_, ?_, fun i sl e => ?_⟩
  · show (f.map fun j => as.getD j 0).take c.b = B.ps
    rw [← g.pre, ← List.map_take, h3]
    have hb : c.b ≤ as.length := by
      have := congrArg List.length g.pre
      rw [List.length_take, ← g.bl] at this; omega
    apply List.ext_getElem?
    intro k
    rw [List.getElem?_map, List.getElem?_take]
    by_cases hk : k < c.b
    · rw [if_pos hk, List.getElem?_range hk]
      show some (as.getD k 0) = as[k]?
      rw [List.getD_eq_getElem?_getD, List.getElem?_eq_getElem (by omega)]; rfl
    · rw [if_neg hk, List.getElem?_eq_none (by simpa using hk)]; rfl
  · refine List.pairwise_iff_getElem.mpr fun i j hi0 hj hij => ?_
    rw [List.length_map] at hj
    intro e
    have e : (f.map fun j => as.getD j 0)[i]? = (f.map fun j => as.getD j 0)[j]? := by
      rw [List.getElem?_eq_getElem hi0, List.getElem?_eq_getElem (by rw [List.length_map]; exact hj), e]
    have hi : i < f.length := by omega
    have ei := get i (as.getD f[i] 0) (by rw [List.getElem?_map, List.getElem?_eq_getElem hi]; rfl)
    have ej := get j (as.getD f[j] 0) (by rw [List.getElem?_map, List.getElem?_eq_getElem hj]; rfl)
    rw [List.getElem?_map, List.getElem?_map, List.getElem?_eq_getElem hi, List.getElem?_eq_getElem hj] at e
    have e : some (as.getD f[i] 0) = some (as.getD f[j] 0) := e
    obtain ⟨x, q1, q2⟩ := ei
    obtain ⟨y, q3, q4⟩ := ej
    rw [Option.some.inj e] at q2
    rw [List.getElem?_eq_getElem hi] at q1
    rw [List.getElem?_eq_getElem hj] at q3
    have hxy : x = y := by
      obtain ⟨l1, z1⟩ := List.getElem?_eq_some_iff.mp q2
      obtain ⟨l2, z2⟩ := List.getElem?_eq_some_iff.mp q4
      exact (List.getElem_inj g.nd).mp (z1.trans z2.symm)
    have : f[i] = f[j] := by rw [Option.some.inj q1, Option.some.inj q3, hxy]
    exact absurd ((List.getElem_inj h1).mp this) (by omega)
  · obtain ⟨j, _, e⟩ := get k a e
    exact g.cell j a e
  · show (f.map _).length = (f.map _).length
    rw [List.length_map, List.length_map]
  · obtain ⟨j, e1, e2⟩ := get k a e
    have hj := lt j (List.mem_of_getElem? e1)
    have q : (f.map fun j => c.m.getD j [])[k]? = some ds := q
    rw [List.getElem?_map, e1] at q
    have q : some (c.m.getD j []) = some ds := q
    rw [List.getD_eq_getElem?_getD, List.getElem?_eq_getElem hj] at q
    exact g.con j a ds e2 (by rw [List.getElem?_eq_getElem hj]; exact q)
  · show _ = (keepS f kp c.s).length
    rw [keepS_length]; exact g.slen
  · obtain ⟨sl0, e1, e2⟩ := keepS_get f e
    obtain ⟨v, h1, h2⟩ := g.slot i sl0 e1
    refine ⟨v, h1, ?_⟩
    cases sl0 with
    | im d => cases e2; exact h2
    | rf j =>
      have e2 : (posIn j f).map Sl.rf = some sl := e2
      cases q : posIn j f with
      | none => rw [q] at e2; cases e2
      | some k =>
        rw [q] at e2
        cases e2
        obtain ⟨a, ha, rfl⟩ := h2
        refine ⟨a, ?_, rfl⟩
        rw [List.getElem?_map, posIn_some q]
        show some (as.getD j 0) = some a
        rw [List.getD_eq_getElem?_getD, ha]; rfl
/-- the j-th cell is frozen -/
def Sl.fz (j : Nat) (ds : List D) : Sl → Sl
  | .im d => .im d
  | .rf i => bif Nat.beq i j then .im (.list ds) else .rf (bif Nat.blt j i then i - 1 else i)
def Ct.fz (c : Ct) (j : Nat) : Ct := ⟨c.b, c.s.map fun o => o.map (Sl.fz j (c.m.getD j [])), c.m.eraseIdx j⟩
theorem eraseIdx_get {α : Type} {l : List α} {j k : Nat} {a : α} (h : (l.eraseIdx j)[k]? = some a) : l[if k < j then k else k + 1]? = some a := by
  rw [List.getElem?_eraseIdx] at h
  split at h
  · rename_i hk; rw [if_pos hk]; exact h
  · rename_i hk; rw [if_neg hk]; exact h
theorem Wk.fz (j : Nat) {c' : Ct} (e : c.fz j = c') (h1 : Nat.ble c.b j = true := by rfl) (h2 : Nat.blt j c.m.length = true := by rfl) : Wk c c' := fun K B σ H I as g => by
  subst e
  have hj : j < c.m.length := Nat.le_of_ble_eq_true h2
  have hb : c.b ≤ j := Nat.le_of_ble_eq_true h1
  have hja : j < as.length := by rw [g.len]; exact hj
  obtain ⟨xs, k1, k2⟩ := g.con j as[j] c.m[j] (List.getElem?_eq_getElem hja) (List.getElem?_eq_getElem hj)
  obtain ⟨k3, k4⟩ := g.cell j as[j] (List.getElem?_eq_getElem hja)
  have nB : as[j] ∉ B.ps := fun m => by
    obtain ⟨i, hi, e⟩ := g.psmem m
    have hia := (List.getElem?_eq_some_iff.mp e).1
    rw [List.getElem?_eq_getElem hia] at e
    have := (List.getElem_inj g.nd).mp (Option.some.inj e)
    omega
  have k5 : B.H as[j] = none := k4.resolve_left nB
  have hI : Same I (upd I as[j] (.lst xs)) := same_upd k3
  have sep : ∀ (k : Nat) a, (as.eraseIdx j)[k]? = some a → a ≠ as[j] := fun k a e z => by
    have e := eraseIdx_get e
    obtain ⟨l1, z1⟩ := List.getElem?_eq_some_iff.mp e
    have := (List.getElem_inj g.nd).mp (z1.trans z)
    split at this <;> omega
  refine ⟨upd I as[j] (.lst xs), as.eraseIdx j, hI, g.ext.trans hI, fun a o e => ?_, fun a o e q => ?_, g.frm, g.bl, ?_, g.nd.sublist (List.eraseIdx_sublist _ _), fun k a e => ?_, ?_, fun k a ds e q => ?_, ?_, fun i sl e => ?_⟩
  · by_cases ha : a = as[j]
    · subst ha; rw [upd_same] at e; cases e; exact k1
    · rw [upd_ne ha] at e; exact g.sub a o e
  · by_cases ha : a = as[j]
    · subst ha; exact k5
    · rw [upd_ne ha] at e; exact g.new a o e q
  · show (as.eraseIdx j).take c.b = B.ps
    rw [← g.pre]
    apply List.ext_getElem?
    intro k
    rw [List.getElem?_take, List.getElem?_take]
    by_cases hk : k < c.b
    · rw [if_pos hk, if_pos hk, List.getElem?_eraseIdx, if_pos (by omega)]
    · rw [if_neg hk, if_neg hk]
  · rw [upd_ne (sep k a e)]
    exact g.cell _ a (eraseIdx_get e)
  · show (as.eraseIdx j).length = (c.m.eraseIdx j).length
    rw [List.length_eraseIdx, List.length_eraseIdx, if_pos hja, if_pos hj, g.len]
  · obtain ⟨ys, q1, q2⟩ := g.con _ a ds (eraseIdx_get e) (eraseIdx_get (show (c.m.eraseIdx j)[k]? = some ds from q))
    exact ⟨ys, q1, dpAll_mono hI q2⟩
  · show _ = (c.s.map _).length
    rw [List.length_map]; exact g.slen
  · have e : (c.s.map fun o => o.map (Sl.fz j (c.m.getD j [])))[i]? = some (some sl) := e
    rw [List.getElem?_map] at e
    cases q : c.s[i]? with
    | none => rw [q] at e; cases e
    | some o =>
      rw [q] at e
      cases o with
      | none => cases e
      | some sl0 =>
        have e : some (some (sl0.fz j (c.m.getD j []))) = some (some sl) := e
        have e := Option.some.inj (Option.some.inj e)
        obtain ⟨v, h1, h2⟩ := g.slot i sl0 q
        refine ⟨v, h1, ?_⟩
        subst e
        cases sl0 with
        | im d => exact dp_mono hI h2
        | rf n =>
          obtain ⟨a, ha, rfl⟩ := h2
          show VS _ _ _ _ (bif Nat.beq n j then Sl.im (.list (c.m.getD j [])) else .rf (bif Nat.blt j n then n - 1 else n))
          cases hn : Nat.beq n j with
          | true =>
            have hn := Nat.eq_of_beq_eq_true hn
            subst hn
            rw [List.getElem?_eq_getElem hja] at ha
            cases ha
            show Dp _ _ _ (.list (c.m.getD n []))
            rw [List.getD_eq_getElem?_getD, List.getElem?_eq_getElem hj]
            exact .lst (.of upd_same) (dpAll_mono hI k2)
          | false =>
            have hn : n ≠ j := fun z => by subst z; rw [Nat.beq_refl] at hn; cases hn
            refine ⟨a, ?_, rfl⟩
            rw [List.getElem?_eraseIdx]
            cases hl : Nat.blt j n with
            | true =>
              have hl : j < n := Nat.le_of_ble_eq_true hl
              show (if n - 1 < j then as[n - 1]? else as[n - 1 + 1]?) = _
              rw [if_neg (by omega), show n - 1 + 1 = n by omega]; exact ha
            | false =>
              have hl : ¬ j < n := fun z => by
                have : Nat.blt j n = true := Nat.ble_eq_true_of_le z
                rw [hl] at this; cases this
              show (if n < j then _ else _) = _
              rw [if_pos (by omega)]; exact ha

/-! ### blocks -/
variable {ω ω' α : Type} {m : Option ω} {post : ω → Oc} {st : Stmt} {rest : List Stmt} {pos : Pos}
theorem mb_end {w : ω} {c' : Ct} (k : Wk c c') (h : post w = .nx c') : MB X B c [] (some w) post :=
  pss_mono pss_nil fun E σ H ⟨I, as, w', g, e, q⟩ => by
    cases e
    obtain ⟨I', as', s, g'⟩ := k _ _ _ _ _ _ g
    rw [h] at q; exact q _ _ _ _ g' s
theorem mb_wk {c' : Ct} (k : Wk c c') (h : MB X B c' rest m post) : MB X B c rest m post :=
  pss_mono h fun E σ H ⟨I, as, w, g, e, q⟩ => by
    obtain ⟨I', as', s, g'⟩ := k _ _ _ _ _ _ g
    exact ⟨I', as', w, g', e, q.up s⟩
theorem mb_one (h : MS X B c st m post) : MB X B c [st] m post := pss_one h
theorem mb_seq {m1 : Option ω'} {post1 : ω' → Oc} (k : ω' → Option ω) (h1 : MS X B c st m1 post1) (h2 : ∀ w1, (∃ c1, post1 w1 = .nx c1 ∧ MB X B c1 rest (k w1) post) ∨ ((∀ c1, post1 w1 ≠ .nx c1) ∧ ∀ w, k w1 = some w → post w = post1 w1)) :
    MB X B c (st :: rest) (m1.bind k) post := by
  have h3 : PSs X rest (fun E σ H => ∃ i : { w1 : ω' // ∃ c1, post1 w1 = .nx c1 ∧ MB X B c1 rest (k w1) post }, ∃ c1, post1 i.1 = .nx c1 ∧ tS X.K B c1 (k i.1) post E σ H) :=
    pss_fam fun i => ⟨fun pins s σ H E I ⟨c1, e, q⟩ => by
      obtain ⟨c2, e2, h⟩ := i.2
      rw [e] at e2; cases e2
      exact h.run pins s σ H E I q⟩
  refine pss_mono (pss_cons h1 h3) fun E σ H ⟨I, as, w, g, e, q⟩ => ?_
  obtain ⟨w1, e1, e2⟩ := Option.bind_eq_some_iff.mp e
  refine ⟨I, as, w1, g, e1, ?_⟩
  rcases h2 w1 with ⟨c1, z1, z2⟩ | ⟨z1, z2⟩
  · rw [z1]
    exact fun σ' H' I' as' g' s' => ⟨⟨w1, c1, z1, z2⟩, c1, z1, I', as', w, g', e2, q.up s'⟩
  · rw [z2 w e2] at q
    cases hp : post1 w1 with
    | nx c1 => exact (z1 c1 hp).elim
    | ct c1 => rw [hp] at q; exact q
    | rt sl c1 => rw [hp] at q; exact q
    | bk c1 => rw [hp] at q; exact q
theorem mb_cons {m1 : Option ω'} {c1 : ω' → Ct} {m2 : ω' → Option ω} (h1 : MS X B c st m1 (fun a => .nx (c1 a))) (h2 : ∀ a, MB X B (c1 a) rest (m2 a) post) : MB X B c (st :: rest) (m1.bind m2) post :=
  mb_seq m2 h1 fun w1 => .inl ⟨_, rfl, h2 w1⟩
/-- a total first statement -/
theorem mb_consV {c1 : Ct} (h1 : MS (ω := Unit) X B c st (some ()) (fun _ => .nx c1)) (h2 : MB X B c1 rest m post) : MB X B c (st :: rest) m post := mb_cons (m2 := fun _ => m) h1 fun _ => h2
theorem ms_map {m1 : Option ω'} {post1 : ω' → Oc} {f : ω' → Option ω} (h : MS X B c st m1 post1) (q : ∀ a b, f a = some b → post b = post1 a) : MS X B c st (m1.bind f) post :=
  ps_mono h fun E σ H ⟨I, as, w, g, e, k⟩ => by
    obtain ⟨w1, e1, e2⟩ := Option.bind_eq_some_iff.mp e
    exact ⟨I, as, w1, g, e1, by rw [← q w1 w e2]; exact k⟩
theorem mb_map {sts : List Stmt} {m1 : Option ω'} {post1 : ω' → Oc} {f : ω' → Option ω} (h : MB X B c sts m1 post1) (q : ∀ a b, f a = some b → post b = post1 a) : MB X B c sts (m1.bind f) post :=
  pss_mono h fun E σ H ⟨I, as, w, g, e, k⟩ => by
    obtain ⟨w1, e1, e2⟩ := Option.bind_eq_some_iff.mp e
    exact ⟨I, as, w1, g, e1, by rw [← q w1 w e2]; exact k⟩

/-! ### statements -/
theorem ms_expr {e : Expr} {m : Option α} {r : α → Sl} {ca : α → Ct} (h : ME X B c e m r ca) (hs : swapsWith e none pos.line X.env = pure false := by rfl) : MS X B c (.Expr e pos) m (fun a => .nx (ca a)) :=
  ps_mono (ps_expr h hs) fun E σ H ⟨I, as, a, g, e, k⟩ => ⟨I, as, a, g, e, fun v H' ⟨I', as', g', s', _, _⟩ => k σ H' I' as' g' s'⟩
theorem ms_set (i : Nat) {x : Str} {e : Expr} {m : Option α} {r : α → Sl} {ca : α → Ct} {pos' : Pos} (hN : X.N.Nodup) (h : ME X B c e m r ca) (hi : X.N[i]? = some x := by rfl) (hx : Loc X.env.scope x := by first | exact Or.inl rfl | exact Or.inr rfl) (hs : swapsWith e (some (.Name x pos')) pos.line X.env = pure false := by rfl)
    (hf : X.fn x = true ∨ X.env.scope.names.lookup x = some .local := by first | exact .inl rfl | exact .inr rfl) : MS X B c (.Assign [.Name x pos'] e pos) m (fun a => .nx ((ca a).st i (r a))) :=
  ps_mono (ps_set hN hi hx h hs hf) fun E σ H ⟨I, as, a, g, e, k⟩ => ⟨I, as, a, g, e, fun v H' ⟨I', as', g', s', _, v'⟩ => k _ H' I' as' (g'.sto v') s'⟩
theorem ms_setV (i : Nat) {x : Str} {e : Expr} {sl : Sl} {pos' : Pos} (hN : X.N.Nodup) (h : MV X B c e sl) (hi : X.N[i]? = some x := by rfl) (hx : Loc X.env.scope x := by first | exact Or.inl rfl | exact Or.inr rfl) (hs : swapsWith e (some (.Name x pos')) pos.line X.env = pure false := by rfl)
    (hf : X.fn x = true ∨ X.env.scope.names.lookup x = some .local := by first | exact .inl rfl | exact .inr rfl) : MS (ω := Unit) X B c (.Assign [.Name x pos'] e pos) (some ()) (fun _ => .nx (c.st i sl)) := ms_set i hN h hi hx hs hf
/-- what leaves a def: the caller's cells, and the value; a new list as one more cell, or frozen -/
inductive Ret (c : Ct) : Sl → Ct → Sl → Prop
  | im (d : D) : Ret c (.im d) ⟨c.b, [], c.m.take c.b⟩ (.im d)
  | rf (j : Nat) {ds : List D} (e : c.m[j]? = some ds) (h : Nat.ble c.b j = true) : Ret c (.rf j) ⟨c.b, [], c.m.take c.b ++ [ds]⟩ (.rf c.b)
  | fz (j : Nat) {ds : List D} (e : c.m[j]? = some ds) (h : Nat.ble c.b j = true) : Ret c (.rf j) ⟨c.b, [], c.m.take c.b⟩ (.im (.list ds))
theorem ge_take (g : Ge K B c σ H I as) : Ge K B ⟨c.b, [], c.m.take c.b⟩ [] H I (as.take c.b) := by
  refine ⟨g.ext, g.sub, g.new, g.frm, g.bl, by show (as.take c.b).take c.b = B.ps; rw [List.take_take, Nat.min_self]; exact g.pre, g.nd.sublist (List.take_sublist _ _), fun k a e => ?_, by show (as.take c.b).length = (c.m.take c.b).length; rw [List.length_take, List.length_take, g.len], fun k a ds e q => ?_, rfl, fun i sl e => by cases e⟩
  · rw [List.getElem?_take] at e; split at e
    · exact g.cell k a e
    · cases e
  · have q : (c.m.take c.b)[k]? = some ds := q
    rw [List.getElem?_take] at e q; split at e
    · rename_i hk; rw [if_pos hk] at q; exact g.con k a ds e q
    · cases e
theorem Ret.ok {sl sl' : Sl} {c' : Ct} {v : V} (r : Ret c sl c' sl') (g : Ge K B c σ H I as) (h : VS K I as v sl) : ∃ I' as', Same I I' ∧ Ge K B c' [] H I' as' ∧ VS K I' as' v sl' := by
  cases r with
  | im d => exact ⟨I, as.take c.b, Same.refl _, ge_take g, h⟩
  | rf j e hb =>
    rename_i ds
    have hb : c.b ≤ j := Nat.le_of_ble_eq_true hb
    obtain ⟨a, ha, rfl⟩ := h
    have gt := ge_take g
    have hl : (as.take c.b).length = c.b := by
      have hlt := (List.getElem?_eq_some_iff.mp ha).1
      rw [List.length_take]; omega
    have na : a ∉ as.take c.b := fun m => by
      obtain ⟨k, q⟩ := List.mem_iff_getElem?.mp m
      rw [List.getElem?_take] at q
      split at q
      · rename_i hk
        obtain ⟨l1, z1⟩ := List.getElem?_eq_some_iff.mp q
        obtain ⟨l2, z2⟩ := List.getElem?_eq_some_iff.mp ha
        have := (List.getElem_inj g.nd).mp (z1.trans z2.symm)
        omega
      · cases q
    refine ⟨I, as.take c.b ++ [a], Same.refl _, ⟨g.ext, g.sub, g.new, g.frm, g.bl, ?_, ?_, fun k b e => ?_, ?_, fun k b es e q => ?_, rfl, fun i sl e => by cases e⟩, a, ?_, rfl⟩
    · show (as.take c.b ++ [a]).take c.b = B.ps
      rw [List.take_append_of_le_length (Nat.le_of_eq hl.symm)]; exact gt.pre
    · exact List.nodup_append.mpr ⟨gt.nd, by simp, fun x hx y hy => by rw [List.mem_singleton.mp hy]; exact fun z => na (z ▸ hx)⟩
    · by_cases hk : k < c.b
      · rw [List.getElem?_append_left (by omega)] at e; exact gt.cell k b e
      · rw [List.getElem?_append_right (by omega)] at e
        have e := List.mem_singleton.mp (List.mem_of_getElem? e)
        subst e; exact g.cell j _ ha
    · show (as.take c.b ++ [a]).length = (c.m.take c.b ++ [ds]).length
      rw [List.length_append, List.length_append, gt.len]; rfl
    · have q : (c.m.take c.b ++ [ds])[k]? = some es := q
      have hl2 : (c.m.take c.b).length = c.b := by rw [← gt.len]; exact hl
      by_cases hk : k < c.b
      · rw [List.getElem?_append_left (by omega)] at e q
        exact gt.con k b es e q
      · rw [List.getElem?_append_right (by omega)] at e q
        have e1 := List.mem_singleton.mp (List.mem_of_getElem? e)
        have q1 := List.mem_singleton.mp (List.mem_of_getElem? q)
        subst e1 q1
        exact g.con j _ _ ha (by assumption)
    · show (as.take c.b ++ [a])[c.b]? = some a
      rw [List.getElem?_append_right (Nat.le_of_eq hl), hl, Nat.sub_self]; rfl
  | fz j e hb =>
    rename_i ds
    have hj := (List.getElem?_eq_some_iff.mp e).1
    -- store it nowhere: freeze by hand
    have hb' : c.b ≤ j := Nat.le_of_ble_eq_true hb
    obtain ⟨I', as', s', g'⟩ := Wk.fz (c := ⟨c.b, c.s ++ [some (.rf j)], c.m⟩) j rfl hb (Nat.ble_eq_true_of_le hj) K B (σ ++ [some v]) H I as
      ⟨g.ext, g.sub, g.new, g.frm, g.bl, g.pre, g.nd, g.cell, g.len, g.con, by rw [List.length_append, List.length_append, g.slen]; rfl, fun i sl e => by
        have e : (c.s ++ [some (Sl.rf j)])[i]? = some (some sl) := e
        by_cases hi : i < c.s.length
        · rw [List.getElem?_append_left hi] at e
          obtain ⟨u, h1, h2⟩ := g.slot i sl e
          exact ⟨u, by rw [List.getElem?_append_left (by rw [g.slen]; exact hi)]; exact h1, h2⟩
        · rw [List.getElem?_append_right (by omega)] at e
          have z : i - c.s.length = 0 := by
            have := (List.getElem?_eq_some_iff.mp e).1
            simpa using this
          rw [z] at e
          have e : Sl.rf j = sl := Option.some.inj (Option.some.inj e)
          subst e
          exact ⟨v, by rw [List.getElem?_append_right (by rw [g.slen]; omega), g.slen, z]; rfl, h⟩⟩
    obtain ⟨u, h1, h2⟩ := g'.slot c.s.length (.im (.list ds)) (by
      show ((c.s ++ [some (Sl.rf j)]).map fun o => o.map (Sl.fz j (c.m.getD j [])))[c.s.length]? = _
      rw [List.map_append, List.getElem?_append_right (by simp), List.length_map, Nat.sub_self]
      show some (some (bif Nat.beq j j then Sl.im (.list (c.m.getD j [])) else .rf (bif Nat.blt j j then j - 1 else j))) = _
      rw [Nat.beq_refl, List.getD_eq_getElem?_getD, e]; rfl)
    have hu : u = v := by
      rw [List.getElem?_append_right (by rw [g.slen]; exact Nat.le_refl _), g.slen, Nat.sub_self] at h1
      exact (Option.some.inj (Option.some.inj h1)).symm
    subst hu
    have gt := ge_take g'
    refine ⟨I', as'.take c.b, s', ?_, h2⟩
    have ee : (c.m.eraseIdx j).take c.b = c.m.take c.b := by
      apply List.ext_getElem?
      intro k
      rw [List.getElem?_take, List.getElem?_take]
      by_cases hk : k < c.b
      · rw [if_pos hk, if_pos hk, List.getElem?_eraseIdx, if_pos (by omega)]
      · rw [if_neg hk, if_neg hk]
    have gt2 : Ge K B ⟨c.b, [], (c.m.eraseIdx j).take c.b⟩ [] H I' (as'.take c.b) := gt
    rw [ee] at gt2
    exact gt2
theorem ms_ret {e : Expr} {m : Option α} {r : α → Sl} {ca cr : α → Ct} {rr : α → Sl} (h : ME X B c e m r ca) (q : ∀ a, Ret (ca a) (r a) (cr a) (rr a)) : MS X B c (.Return (some e) pos) m (fun a => .rt (rr a) (cr a)) :=
  ps_mono (ps_ret h) fun E σ H ⟨I, as, a, g, e, k⟩ => ⟨I, as, a, g, e, fun v H' ⟨I', as', g', s', _, v'⟩ => by
    obtain ⟨I2, as2, s2, g2, v2⟩ := (q a).ok g' v'
    exact k v H' I2 as2 g2 (s'.trans s2) v2⟩
theorem ms_if {t : Expr} {b1 b2 : List Stmt} {mt : Option α} {b : α → Bool} {ct : α → Ct} {ma mb : α → Option ω} (ht : MT X B c t mt b ct) (ha : ∀ a, b a = true → MB X B (ct a) b1 (ma a) post) (hb : ∀ a, b a = false → MB X B (ct a) b2 (mb a) post) :
    MS X B c (.If t b1 b2 pos) (mt.bind fun a => if b a = true then ma a else mb a) post :=
  ps_mono (ps_if ht (pss_fam fun i : { a : α // b a = true } => ha i.1 i.2) (pss_fam fun i : { a : α // b a = false } => hb i.1 i.2)) fun E σ H ⟨I, as, w, g, e, k⟩ => by
    obtain ⟨a, e1, e⟩ := Option.bind_eq_some_iff.mp e
    refine ⟨I, as, a, g, e1, fun H1 I1 as1 g1 s1 p1 => ?_⟩
    by_cases hb : b a = true
    · rw [if_pos hb] at e ⊢
      exact ⟨⟨a, hb⟩, I1, as1, w, g1, e, k.up s1⟩
    · rw [if_neg hb] at e ⊢
      exact ⟨⟨a, by simpa using hb⟩, I1, as1, w, g1, e, k.up s1⟩
/-- if t: .. (always left); rest -/
theorem mb_ifx {t : Expr} {b1 : List Stmt} {mt : Option α} {b : α → Bool} {ct : α → Ct} {ma mb : α → Option ω} (ht : MT X B c t mt b ct) (ha : ∀ a, b a = true → MB X B (ct a) b1 (ma a) post) (hx : ∀ a, b a = true → ∀ w, ma a = some w → ∀ c1, post w ≠ .nx c1) (hb : ∀ a, b a = false → MB X B (ct a) rest (mb a) post) :
    MB X B c (.If t b1 [] pos :: rest) (mt.bind fun a => if b a = true then ma a else mb a) post := by
  have h0 : PS X (.If t b1 [] pos) _ := ps_if ht (pss_fam fun i : { a : α // b a = true } => ha i.1 i.2) pss_nil
  refine pss_mono (pss_cons h0 (pss_fam fun i : { a : α // b a = false } => hb i.1 i.2)) fun E σ H ⟨I, as, w, g, e, k⟩ => ?_
  obtain ⟨a, e1, e⟩ := Option.bind_eq_some_iff.mp e
  refine ⟨I, as, a, g, e1, fun H1 I1 as1 g1 s1 p1 => ?_⟩
  by_cases hb : b a = true
  · rw [if_pos hb] at e ⊢
    refine ⟨⟨a, hb⟩, I1, as1, w, g1, e, ?_⟩
    have k := k.up s1
    have hx := hx a hb w e
    cases hp : post w with
    | nx c1 => exact (hx c1 hp).elim
    | ct c1 => rw [hp] at k; exact k
    | rt sl c1 => rw [hp] at k; exact k
    | bk c1 => rw [hp] at k; exact k
  · rw [if_neg hb] at e ⊢
    exact ⟨⟨a, by simpa using hb⟩, I1, as1, w, g1, e, k.up s1⟩
theorem ms_pass : MS (ω := Unit) X B c (.Pass pos) (some ()) (fun _ => .nx c) := ps_mono ps_pass fun E σ H ⟨I, as, _, g, _, k⟩ => k σ H I as g (Same.refl _)
theorem ms_break {w : ω} {c' : Ct} (k : Wk c c') (h : post w = .bk c') : MS X B c (.Break pos) (some w) post :=
  ps_mono ps_break fun E σ H ⟨I, as, w', g, e, q⟩ => by
    cases e
    obtain ⟨I', as', s, g'⟩ := k _ _ _ _ _ _ g
    rw [h] at q; exact q _ _ _ _ g' s
theorem ms_cont {w : ω} {c' : Ct} (k : Wk c c') (h : post w = .ct c') : MS X B c (.Continue pos) (some w) post :=
  ps_mono ps_continue fun E σ H ⟨I, as, w', g, e, q⟩ => by
    cases e
    obtain ⟨I', as', s, g'⟩ := k _ _ _ _ _ _ g
    rw [h] at q; exact q _ _ _ _ g' s
end
end M3

set_option Elab.async false
set_option linter.all false
set_option maxRecDepth 100000
set_option maxHeartbeats 4000000
namespace M3
open PySem PySem.Spec PyProof.Rows L2

section
variable {X : Cx} {B : Bs} {c : Ct} {K : PySem.W.Frag} {σ : St} {H I : Hp} {as : List Addr}
variable {α β γ : Type} {e1 e2 e3 : Expr} {pos : Pos}
/-! ### methods that change a cell -/
theorem me_bm {T id : String} {name : Str} {r : V → List V → Hp → VK → Prop} {apos : Pos} {es : List Expr} {m1 : Option α} {r1 : α → Sl} {c1 : α → Ct} {m2 : α → Option β} {rl : α → β → List Sl} {c2 : α → β → Ct} {mo : α → β → Option γ} {rs : γ → Sl} {c' : γ → Ct}
    (pa : PlainAttrs T) (slot : Slot T name id) (hty : typeOf (.builtin id) = pure (.type "method_descriptor")) (hm : MtR X id r) (h1 : ME X B c e1 m1 r1 c1) (ty : ∀ a, OTy X.K B T (c1 a) (r1 a)) (h2 : ∀ a, MA X B (c1 a) (e2 :: es) (m2 a) (rl a) (c2 a))
    (h : ∀ a b, OM X.K B T r (c2 a b) (r1 a) (rl a b) (mo a b) rs c') (hbase : attributeBase e1 name X.env (eval e1 X.env) = eval e1 X.env := by rfl)
    (hfew : ((backTo pos (starEach (e2 :: es) X.env)).all (fun x => !x.1) && (backToKw pos (keywordEach [] X.env)).all (fun x => x.1.isSome)
      && decide ((e2 :: es).length + ([] : List Keyword).length + (if ([] : List Keyword).isEmpty then 0 else 1) < 30)) = true := by rfl)
    (hline : (apos.endLine == pos.line) = true := by rfl) (hs : starEach (e2 :: es) X.env = (false, eval e2 X.env) :: starEach es X.env := by rfl) (hplain : (backTo pos (starEach es X.env)).any (·.1) = false := by rfl) :
    ME X B c (.Call (.Attribute e1 name apos) (e2 :: es) [] pos) (m1.bind fun a => (m2 a).bind fun b => mo a b) rs c' :=
  pe_mono (pe_bm pa slot hty hm h1 (pa_fam h2) hbase hfew hline hs hplain) fun σ H Q ⟨I, as, d, g, e, k⟩ => by
    obtain ⟨a, e1, e⟩ := Option.bind_eq_some_iff.mp e
    obtain ⟨b, e2, e⟩ := Option.bind_eq_some_iff.mp e
    refine ⟨I, as, a, g, e1, fun x H1 ⟨I1, as1, g1, s1, p1, v1⟩ => ⟨ty a σ H1 I1 as1 x g1 v1, a, I1, as1, b, g1, e2, fun xs H2 ⟨I2, as2, g2, s2, p2, v2⟩ => ?_⟩⟩
    exact h a b σ H2 I2 as2 x xs Q d g2 (v1.mono s2 p2) v2 e fun v H' z => k v H' (z.up (s1.trans s2) (p1.trans p2))
theorem me_bm0 {T id : String} {name : Str} {r : V → List V → Hp → VK → Prop} {apos : Pos} {m1 : Option α} {r1 : α → Sl} {c1 : α → Ct} {mo : α → Option γ} {rs : γ → Sl} {c' : γ → Ct}
    (pa : PlainAttrs T) (slot : Slot T name id) (hty : typeOf (.builtin id) = pure (.type "method_descriptor")) (hm : MtR X id r) (h1 : ME X B c e1 m1 r1 c1) (ty : ∀ a, OTy X.K B T (c1 a) (r1 a))
    (h : ∀ a, OM X.K B T r (c1 a) (r1 a) [] (mo a) rs c') (hbase : attributeBase e1 name X.env (eval e1 X.env) = eval e1 X.env := by rfl) (hline : (apos.endLine == pos.line) = true := by rfl) :
    ME X B c (.Call (.Attribute e1 name apos) [] [] pos) (m1.bind mo) rs c' :=
  pe_mono (pe_bm0 pa slot hty hm h1 hbase hline) fun σ H Q ⟨I, as, d, g, e, k⟩ => by
    obtain ⟨a, e1, e⟩ := Option.bind_eq_some_iff.mp e
    refine ⟨I, as, a, g, e1, fun x H1 ⟨I1, as1, g1, s1, p1, v1⟩ => ⟨ty a σ H1 I1 as1 x g1 v1, ?_⟩⟩
    exact h a σ H1 I1 as1 x [] Q d g1 v1 .nil e fun v H' z => k v H' (z.up s1 p1)
theorem oty_rf {j : Nat} {ds : List D} (h : c.m[j]? = some ds) : OTy K B "list" c (.rf j) := fun σ H I as x g ⟨a, ha, e⟩ => by
  subst e
  obtain ⟨xs, h1, h2⟩ := g.con j a ds ha h
  exact .inl ⟨rfl, xs, .of h1⟩
/-- the cell j after the change -/
theorem mut_after {j : Nat} {a : Addr} {xs : List V} {ds : List D} {sl : Sl} {v : V} (g : Ge K B c σ H I as) (ha : as[j]? = some a) (q : DpAll K I xs ds) (hv : VS K I as v sl) : After K B σ I as (c.mu j ds) sl v (upd H a (.lst xs)) :=
  ⟨I, as, g.mut ha q, Same.refl _, List.prefix_refl _, hv⟩
section
variable {τ : Type} {k : τ → D} {xs : List τ} {x : τ} {j : Nat}
/-- append: the list must have room -/
def roomM (n : Nat) : Option Unit := if n < sizeLine then some () else none
theorem om_append (h : c.m[j]? = some (xs.map k)) : OM K B "list" rAppend c (.rf j) [.im (k x)] (roomM xs.length) (fun _ => .im .none) (fun _ => c.mu j ((xs ++ [x]).map k)) :=
  fun σ H I as v vs Q _ g ⟨a, ha, e⟩ hx hm q => by
    subst e
    cases hx with
    | cons h1 h2 =>
      cases h2
      obtain ⟨ys, k1, k2⟩ := g.con j a _ ha h
      unfold roomM at hm
      split at hm
      · rename_i hr
        refine ⟨a, ys, _, rfl, rfl, k1, by rw [k2.len, List.length_map]; exact hr, q _ _ (mut_after g ha ?_ .non)⟩
        rw [List.map_append]
        exact k2.app (.cons h1 .nil)
      · cases hm
theorem om_pop (h : c.m[j]? = some (xs.map k)) : OM K B "list" rPop c (.rf j) [] (xs.getLast?) (fun x => .im (k x)) (fun _ => c.mu j (xs.dropLast.map k)) :=
  fun σ H I as v vs Q z g ⟨a, ha, e⟩ hx hm q => by
    subst e
    cases hx
    obtain ⟨ys, k1, k2⟩ := g.con j a _ ha h
    have hl := k2.len
    rw [List.length_map] at hl
    rw [List.getLast?_eq_getElem?] at hm
    obtain ⟨y, q1, q2⟩ := k2.get (i := xs.length - 1) (d := k z) (by rw [List.getElem?_map, hm]; rfl)
    refine ⟨a, ys, y, rfl, rfl, k1, by rw [hl]; exact q1, q _ _ (mut_after g ha ?_ q2)⟩
    have e1 : ys.dropLast = ys.take (ys.length - 1) := List.dropLast_eq_take
    have e2 : xs.dropLast = xs.take (xs.length - 1) := List.dropLast_eq_take
    rw [e1, e2, hl, List.map_take]
    exact k2.take _
theorem om_rev (h : c.m[j]? = some (xs.map k)) : OM (γ := Unit) K B "list" rReverse c (.rf j) [] (some ()) (fun _ => .im .none) (fun _ => c.mu j (xs.reverse.map k)) :=
  fun σ H I as v vs Q z g ⟨a, ha, e⟩ hx _ q => by
    subst e
    cases hx
    obtain ⟨ys, k1, k2⟩ := g.con j a _ ha h
    refine ⟨a, ys, rfl, rfl, k1, q _ _ (mut_after g ha ?_ .non)⟩
    rw [List.map_reverse]
    exact k2.rev
end
/-- xs.append(e) -/
theorem me_append {τ : Type} {k : τ → D} {xs : τ' → List τ} {x : τ' → τ} {j : Nat} {apos : Pos} {m : Option τ'} {ca : τ' → Ct} (h1 : MV X B c e1 (.rf j)) (h2 : ME X B c e2 m (fun a => .im (k (x a))) ca) (h0 : c.m[j]? = some ds) (h : ∀ a, (ca a).m[j]? = some ((xs a).map k))
    (hbase : attributeBase e1 "append" X.env (eval e1 X.env) = eval e1 X.env := by rfl) (hline : (apos.endLine == pos.line) = true := by rfl) (hs : starEach [e2] X.env = (false, eval e2 X.env) :: starEach [] X.env := by rfl)
    (hfew : ((backTo pos (starEach [e2] X.env)).all (fun x => !x.1) && (backToKw pos (keywordEach [] X.env)).all (fun x => x.1.isSome)
      && decide ([e2].length + ([] : List Keyword).length + (if ([] : List Keyword).isEmpty then 0 else 1) < 30)) = true := by rfl) (hplain : (backTo pos (starEach [] X.env)).any (·.1) = false := by rfl) :
    ME X B c (.Call (.Attribute e1 "append" apos) [e2] [] pos) (m.bind fun a => (roomM (xs a).length).map fun _ => a) (fun _ => .im .none) (fun a => (ca a).mu j ((xs a ++ [x a]).map k)) := by
  refine pe_mono (me_bm (mo := fun _ (p : τ' × Unit) => (roomM (xs p.1).length).map fun _ => p.1) (rs := fun _ => .im .none) (c' := fun a => (ca a).mu j ((xs a ++ [x a]).map k)) PySem.F.plainAttrs_list PySem.F.slot_list_append PySem.F.type_list_append mt_append h1 (fun _ => oty_rf h0) (fun _ => ma_cons h2 (fun a => ma_nil) hs) (fun _ p => ?_) hbase hfew hline hs hplain) fun σ H Q ⟨I, as, d, g, e, q⟩ => ?_
  · intro σ H I as v vs Q z g hv hx hm q
    obtain ⟨u, h3, h4⟩ := Option.map_eq_some_iff.mp hm
    subst h4
    exact om_append (h p.1) σ H I as v vs Q u g hv hx h3 q
  · refine ⟨I, as, d, g, ?_, q⟩
    obtain ⟨a, h3, h4⟩ := Option.bind_eq_some_iff.mp e
    obtain ⟨u, h5, h6⟩ := Option.map_eq_some_iff.mp h4
    subst h6
    rw [h3]
    show ((roomM (xs a).length).map fun _ => a) = some a
    rw [h5]; rfl
theorem mv_append {τ : Type} {k : τ → D} {xs : List τ} {x : τ} {j : Nat} {apos : Pos} (h1 : MV X B c e1 (.rf j)) (h2 : MV X B c e2 (.im (k x))) (h : c.m[j]? = some (xs.map k))
    (hbase : attributeBase e1 "append" X.env (eval e1 X.env) = eval e1 X.env := by rfl) (hline : (apos.endLine == pos.line) = true := by rfl) (hs : starEach [e2] X.env = (false, eval e2 X.env) :: starEach [] X.env := by rfl)
    (hfew : ((backTo pos (starEach [e2] X.env)).all (fun x => !x.1) && (backToKw pos (keywordEach [] X.env)).all (fun x => x.1.isSome)
      && decide ([e2].length + ([] : List Keyword).length + (if ([] : List Keyword).isEmpty then 0 else 1) < 30)) = true := by rfl) (hplain : (backTo pos (starEach [] X.env)).any (·.1) = false := by rfl) :
    ME X B c (.Call (.Attribute e1 "append" apos) [e2] [] pos) (roomM xs.length) (fun _ => .im .none) (fun _ => c.mu j ((xs ++ [x]).map k)) :=
  me_bm (mo := fun _ _ => roomM xs.length) PySem.F.plainAttrs_list PySem.F.slot_list_append PySem.F.type_list_append mt_append h1 (fun _ => oty_rf h) (fun _ => mav_cons h2 ma_nil hs) (fun _ _ => om_append h) hbase hfew hline hs hplain
theorem me_pop {τ : Type} {k : τ → D} {xs : List τ} {j : Nat} {apos : Pos} (h1 : MV X B c e1 (.rf j)) (h : c.m[j]? = some (xs.map k)) (hbase : attributeBase e1 "pop" X.env (eval e1 X.env) = eval e1 X.env := by rfl) (hline : (apos.endLine == pos.line) = true := by rfl) :
    ME X B c (.Call (.Attribute e1 "pop" apos) [] [] pos) (xs.getLast?.map fun x => (x, xs.dropLast)) (fun p => .im (k p.1)) (fun p => c.mu j (p.2.map k)) :=
  me_bm0 (mo := fun _ => xs.getLast?.map fun x => (x, xs.dropLast)) PySem.F.plainAttrs_list PySem.F.slot_list_pop PySem.F.type_list_pop mt_pop h1 (fun _ => oty_rf h) (fun _ σ H I as v vs Q z g hv hx hm q => by
    obtain ⟨u, h3, h4⟩ := Option.map_eq_some_iff.mp hm
    subst h4
    exact om_pop h σ H I as v vs Q u g hv hx h3 q) hbase hline
theorem me_rev {τ : Type} {k : τ → D} {xs : List τ} {j : Nat} {apos : Pos} (h1 : MV X B c e1 (.rf j)) (h : c.m[j]? = some (xs.map k)) (hbase : attributeBase e1 "reverse" X.env (eval e1 X.env) = eval e1 X.env := by rfl) (hline : (apos.endLine == pos.line) = true := by rfl) :
    ME (α := Unit) X B c (.Call (.Attribute e1 "reverse" apos) [] [] pos) (some ()) (fun _ => .im .none) (fun _ => c.mu j (xs.reverse.map k)) :=
  me_bm0 (mo := fun _ => some ()) PySem.F.plainAttrs_list PySem.F.slot_list_reverse PySem.F.type_list_reverse mt_reverse h1 (fun _ => oty_rf h) (fun _ => om_rev h) hbase hline

/-! ### targets -/
/-- what the store of d brings -/
def Tg (K : PySem.W.Frag) (B : Bs) (g : TG) (c : Ct) (d : D) (c' : Ct) : Prop := ∀ σ H I as v Q, Ge K B c σ H I as → Dp K I v d → (∀ σ', Ge K B c' σ' H I as → Q σ' H) → g v σ H Q
theorem tg_name (i : Nat) {d : D} : Tg K B (gName i) c d (c.st i (.im d)) := fun σ H I as v Q g h q => q _ (g.sto h)
def Tgs (K : PySem.W.Frag) (B : Bs) (g : TGs) (c : Ct) (ds : List D) (c' : Ct) : Prop := ∀ σ H I as vs Q, Ge K B c σ H I as → DpAll K I vs ds → (∀ σ', Ge K B c' σ' H I as → Q σ' H) → g vs σ H Q
theorem tgs_nil : Tgs K B gNil c [] c := fun σ H I as vs Q g h q => by cases h; exact ⟨rfl, q σ g⟩
theorem tgs_cons {g : TG} {gs : TGs} {d : D} {ds : List D} {c1 c2 : Ct} (h1 : Tg K B g c d c1) (h2 : Tgs K B gs c1 ds c2) : Tgs K B (gCons g gs) c (d :: ds) c2 := fun σ H I as vs Q ge h q => by
  cases h with
  | cons a b => exact ⟨_, _, rfl, h1 σ H I as _ _ ge a fun σ' g1 => h2 σ' H I as _ Q g1 b q⟩
theorem tg_tup {gs : TGs} {n : Nat} {ds : List D} {c' : Ct} (h : Tgs K B gs c ds c') (hn : ds.length = n := by rfl) : Tg K B (gTup K n gs) c (.tuple ds) c' := fun σ H I as v Q g hv q => by
  obtain ⟨a, xs, rfl, h1, h2⟩ := vs_tup (I := I) (as := as) hv
  exact ⟨a, xs, rfl, g.sub.seqT h1, by rw [h2.len]; exact hn, h σ H I as xs Q g h2 q⟩
/-- a tuple of any length: it must be that long -/
theorem ms_unp {g : TG} {tg e : Expr} {m : Option α} {d : α → D} {ca cb : α → Ct} (h : ME X B c e m (fun a => .im (d a)) ca) (hg : PG X tg g) (ht : ∀ a, Tg X.K B g (ca a) (d a) (cb a)) (hs : swapsWithSole [tg] e pos.line X.env = pure false := by rfl) (hw : swappedStores [tg] e X.env = pure none := by rfl)
    (h1 : (assignEach [tg] X.env).map (·.2) = [assign tg X.env] := by rfl) : MS X B c (.Assign [tg] e pos) m (fun a => .nx (cb a)) :=
  ps_mono (ps_asg h hg hs hw h1) fun E σ H ⟨I, as, a, g0, e, k⟩ => ⟨I, as, a, g0, e, fun v H1 ⟨I1, as1, g1, s1, p1, v1⟩ => ht a σ H1 I1 as1 v E.nx g1 v1 fun σ' g2 => k σ' H1 I1 as1 g2 s1⟩
/-- a, b = x, y -/
theorem ms_par (i j : Nat) {x y : Str} {px py pt : Pos} {kt k2 : Nat} {pt2 : Pos} {m : Option α} {r1 r2 : α → Sl} {ca : α → Ct} (hc : X.calm = true) (hN : X.N.Nodup) (ha : MA X B c [e1, e2] m (fun a => [r1 a, r2 a]) ca) (hi : X.N[i]? = some x := by rfl) (hj : X.N[j]? = some y := by rfl) (hij : i ≠ j := by decide)
    (hx : X.env.scope.names.lookup x = some .local := by rfl) (hy : X.env.scope.names.lookup y = some .local := by rfl)
    (hw : swappedStores [.Tuple [.Name x px, .Name y py] kt pt] (.Tuple [e1, e2] k2 pt2) X.env = pure (some [x, y]) := by rfl)
    (hs : swapsWithSole [.Tuple [.Name x px, .Name y py] kt pt] (.Tuple [e1, e2] k2 pt2) pos.line X.env = pure false := by rfl) :
    MS X B c (.Assign [.Tuple [.Name x px, .Name y py] kt pt] (.Tuple [e1, e2] k2 pt2) pos) m (fun a => .nx (((ca a).st i (r1 a)).st j (r2 a))) :=
  ps_mono (ps_par hc hN hi hj hij hx hy ha hw hs) fun E σ H ⟨I, as, a, g, e, k⟩ => ⟨I, as, a, g, e, fun vs H1 ⟨I1, as1, g1, s1, p1, v1⟩ => by
    cases v1 with
    | cons h1 h2 =>
      cases h2 with
      | cons h2 h3 =>
        cases h3
        exact ⟨_, _, rfl, k _ H1 I1 as1 ((g1.sto h1).sto h2) s1⟩⟩

/-! ### xs[i] = e, x op= e, xs[i] op= e -/
def setI {τ : Type} (xs : List τ) (i : Int) (x : τ) : Option (List τ) := (ixN xs.length i).map fun j => xs.set j x
theorem ms_setS {τ : Type} {k : τ → D} {m : Option α} {xs : α → List τ} {x : α → τ} {ca : α → Ct} {m2 : α → Option β} {i : α → β → Int} {j : Nat} {tp : Pos} (h : ME X B c e3 m (fun a => .im (k (x a))) ca) (h1 : ∀ a, MV X B (ca a) e1 (.rf j)) (h2 : ∀ a, ME X B (ca a) e2 (m2 a) (fun b => imI (i a b)) (fun _ => ca a)) (hj : ∀ a, (ca a).m[j]? = some ((xs a).map k))
    (ha : ∀ v, assign (.Subscript e1 e2 tp) X.env v = (do
      let ov ← holding [v] (eval e1 X.env)
      let iv ← holding [v, ov] (eval e2 X.env)
      standAt tp
      holding [v, ov, iv] (setItem ov iv v)
      release [v, ov, iv] []) := by intro _; rfl)
    (hs : swapsWithSole [.Subscript e1 e2 tp] e3 pos.line X.env = pure false := by rfl) (hw : swappedStores [.Subscript e1 e2 tp] e3 X.env = pure none := by rfl)
    (hh : (assignEach [.Subscript e1 e2 tp] X.env).map (·.2) = [assign (.Subscript e1 e2 tp) X.env] := by rfl) :
    MS X B c (.Assign [.Subscript e1 e2 tp] e3 pos) (m.bind fun a => (m2 a).bind fun b => (setI (xs a) (i a b) (x a)).map fun ys => (a, ys)) (fun p => .nx ((ca p.1).mu j (p.2.map k))) :=
  ps_mono (ps_asg h (pg_sub (pe_fam h1) (pe_fam h2) set_list ha) hs hw hh) fun E σ H ⟨I, as, p, g, e, q⟩ => by
    obtain ⟨a, e1, e⟩ := Option.bind_eq_some_iff.mp e
    obtain ⟨b, e2, e⟩ := Option.bind_eq_some_iff.mp e
    obtain ⟨ys, e3, e⟩ := Option.map_eq_some_iff.mp e
    subst e
    refine ⟨I, as, a, g, e1, fun v H1 ⟨I1, as1, g1, s1, p1, v1⟩ => ⟨a, I1, as1, (), g1, rfl, fun o H2 ⟨I2, as2, g2, s2, p2, v2⟩ => ⟨a, I2, as2, b, g2, e2, fun iv H3 ⟨I3, as3, g3, s3, p3, v3⟩ => ?_⟩⟩⟩
    obtain ⟨l, hl, rfl⟩ := v2.mono s3 p3
    obtain ⟨zs, z1, z2⟩ := g3.con j l _ hl (hj a)
    obtain ⟨n, e4, e5⟩ := Option.map_eq_some_iff.mp e3
    refine ⟨l, zs, i a b, n, rfl, vs_int v3, z1, by rw [z2.len, List.length_map]; exact e4, ?_⟩
    refine q σ _ I3 as3 (g3.mut hl ?_) (s1.trans (s2.trans s3))
    show DpAll _ _ _ (ys.map k)
    rw [← e5, List.map_set]
    exact z2.set ((v1.mono s2 p2).mono s3 p3) n
/-- x op= e of ints -/
theorem ms_aug (i : Nat) {x : Str} {e : Expr} {op : Operator} {r : R2} {s1 : Sl} {m : Option α} {ra : α → Sl} {ca : α → Ct} {mo : α → Option γ} {rs : γ → Sl} {c' : γ → Ct} {pos' : Pos} (hN : X.N.Nodup) (ho : OpR X (inplaceOp op) r) (hs : c.s[i]? = some (some s1)) (h : ME X B c e m ra ca) (q : ∀ a, O2 X.K B r (ca a) s1 (ra a) (mo a) rs c')
    (hi : X.N[i]? = some x := by rfl) (hx : Loc X.env.scope x := by first | exact Or.inl rfl | exact Or.inr rfl) (hf : X.fn x = true ∨ X.env.scope.names.lookup x = some .local := by first | exact .inl rfl | exact .inr rfl) :
    MS X B c (.AugAssign (.Name x pos') op e pos) (m.bind mo) (fun d => .nx ((c' d).st i (rs d))) :=
  ps_mono (ps_aug hN hi hx h ho hf) fun E σ H ⟨I, as, d, g, e, k⟩ => by
    obtain ⟨a, e1, e⟩ := Option.bind_eq_some_iff.mp e
    obtain ⟨v, h1, h2⟩ := g.slot i s1 hs
    exact ⟨v, h1, I, as, a, g, e1, fun y H1 ⟨I1, as1, g1, s1, p1, v1⟩ => q a σ H1 I1 as1 v y _ d g1 (h2.mono s1 p1) v1 e fun z H2 ⟨I2, as2, g2, s2, p2, v2⟩ => k _ H2 I2 as2 (g2.sto v2) (s1.trans s2)⟩
theorem get_list : PGet X (rIxL X.K) := fun pins s σ H o i ov iv Q I ro ri h => by
  obtain ⟨p, xs, i, z, rfl, rfl, hq, he, q⟩ := h
  cases ro
  obtain ⟨t, rfl⟩ := ri
  obtain ⟨its, r, pl, hz⟩ := I.list hq
  obtain ⟨j, h1, h2, h3, h4, h5⟩ := atI_get he
  obtain ⟨w, ew, rw'⟩ := r.get h2
  have hl := r.length
  have hn := line63
  have fin : EP X pins σ Q w s := ⟨z, H, I, rw', q⟩
  by_cases h0 : 0 ≤ i
  · have hj : i.toNat = j := by
      rw [seqIndex_of h0 h5] at h1
      exact Option.some.inj h1
    exact wpAny_getItem_list pl.isList h0 (by omega) (by rw [hj]; simpa using ew) fin
  · have hj : (i + (its.toArray.size : Int)).toNat = j := by
      rw [seqIndex_neg (by omega) h4] at h1
      rw [List.size_toArray, ← hl]
      exact Option.some.inj h1
    exact wpAny_getItem_list_neg pl.isList (by omega) (by rw [List.size_toArray] <;> omega) (by omega) (by rw [hj]; simpa using ew) fin
/-- xs[i] op= e of ints in a cell -/
theorem ms_augS {xs : List Int} {op : Operator} {f : Int → Int → Option Int} {r : R2} {m1 : Option α} {i : α → Int} {m2 : α → Option β} {y : α → β → Int} {j : Nat} {tp : Pos} (ho : OpR X (inplaceOp op) r) (h1 : MV X B c e1 (.rf j)) (h2 : ME X B c e2 m1 (fun a => imI (i a)) (fun _ => c)) (h3 : ∀ a, ME X B c e3 (m2 a) (fun b => imI (y a b)) (fun _ => c)) (hj : c.m[j]? = some (xs.map .int))
    (q : ∀ x y, O2 X.K B r c (imI x) (imI y) (f x y) (fun z => imI z) (fun _ => c))
    (ha : ∀ ov iv new, augStore e2 ov iv new = (do holding [new, ov, iv] (setItem ov iv new); release [new, ov, iv] []; pure .next) := by intros; rfl) :
    MS X B c (.AugAssign (.Subscript e1 e2 tp) op e3 pos) (m1.bind fun a => (atI xs (i a)).bind fun x => (m2 a).bind fun b => (f x (y a b)).bind fun z => setI xs (i a) z) (fun ys => .nx (c.mu j (ys.map .int))) :=
  ps_mono (ps_augS h1 h2 get_list (pe_fam h3) ho set_list ha) fun E σ H ⟨I, as, ys, g, e, k⟩ => by
    obtain ⟨a, e1, e⟩ := Option.bind_eq_some_iff.mp e
    obtain ⟨x, e2, e⟩ := Option.bind_eq_some_iff.mp e
    obtain ⟨b, e3, e⟩ := Option.bind_eq_some_iff.mp e
    obtain ⟨z, e4, e⟩ := Option.bind_eq_some_iff.mp e
    obtain ⟨n, e5, e6⟩ := Option.map_eq_some_iff.mp e
    refine ⟨I, as, (), g, rfl, fun o H1 ⟨I1, as1, g1, s1, p1, v1⟩ => ⟨I1, as1, a, g1, e1, fun iv H2 ⟨I2, as2, g2, s2, p2, v2⟩ => ?_⟩⟩
    obtain ⟨l, hl, rfl⟩ := v1.mono s2 p2
    obtain ⟨zs, z1, z2⟩ := g2.con j l _ hl hj
    obtain ⟨v, z3, z4⟩ := dp_at z2 (d := .int x) (by rw [atI_map, e2]; rfl)
    refine ⟨l, zs, i a, v, rfl, vs_int v2, .of z1, z3, a, I2, as2, b, g2, e3, fun u H4 ⟨I4, as4, g4, s4, p4, v4⟩ => ?_⟩
    refine q x (y a b) σ H4 I4 as4 v u _ z g4 (dp_mono s4 z4) v4 e4 fun w H5 ⟨I5, as5, g5, s5, p5, v5⟩ => ?_
    have hl5 : as5[j]? = some l := by
      obtain ⟨r1, h1⟩ := p4
      obtain ⟨r2, h2⟩ := p5
      have hj2 := (List.getElem?_eq_some_iff.mp hl).1
      rw [← h2, ← h1, List.getElem?_append_left (by rw [List.length_append]; omega), List.getElem?_append_left hj2]; exact hl
    obtain ⟨ws, w1, w2⟩ := g5.con j l _ hl5 hj
    refine ⟨l, ws, i a, n, rfl, vs_int v2, w1, by rw [w2.len, List.length_map]; exact e5, ?_⟩
    refine k σ _ I5 as5 (g5.mut hl5 ?_) (s1.trans (s2.trans (s4.trans s5)))
    show DpAll _ _ _ (ys.map .int)
    rw [← e6, List.map_set]
    exact w2.set v5 n
end
end M3

set_option Elab.async false
set_option linter.all false
set_option maxRecDepth 100000
set_option maxHeartbeats 4000000
namespace M3
open PySem PySem.Spec PyProof.Rows L2

/-! ### the plain loops -/
inductive Fl (L R : Type) where
  | nx (l : L) | ct (l : L) | bk (l : L) | rt (r : R)
def forP {τ L : Type} (f : τ → L → Option L) : List τ → L → Option L
  | [], l => some l
  | x :: xs, l => (f x l).bind (forP f xs)
def forR {τ L R : Type} (f : τ → L → Option (Fl L R)) : List τ → L → Option (Fl L R)
  | [], l => some (.nx l)
  | x :: xs, l => (f x l).bind fun z => match z with
    | .nx l' => forR f xs l'
    | .ct l' => forR f xs l'
    | .bk l' => some (.nx l')
    | .rt r => some (.rt r)
def whR {L R : Type} (t : L → Option Bool) (f : L → Option (Fl L R)) : Nat → L → Option (Fl L R)
  | 0, _ => none
  | n + 1, l => (t l).bind fun b => if b = true then (f l).bind fun z => match z with
    | .nx l' => whR t f n l'
    | .ct l' => whR t f n l'
    | .bk l' => some (.nx l')
    | .rt r => some (.rt r) else some (.nx l)
def whP {L : Type} (t : L → Option Bool) (f : L → Option L) : Nat → L → Option L
  | 0, _ => none
  | n + 1, l => (t l).bind fun b => if b = true then (f l).bind (whP t f n) else some l
theorem forP_R {τ L : Type} (f : τ → L → Option L) : ∀ (xs : List τ) (l l' : L), forP f xs l = some l' → forR (R := Empty) (fun x l => (f x l).map .nx) xs l = some (.nx l')
  | [], l, l', h => by cases h; rfl
  | x :: xs, l, l', h => by
    obtain ⟨m, e1, e2⟩ := Option.bind_eq_some_iff.mp h
    show ((f x l).map Fl.nx).bind _ = _
    rw [e1]
    exact forP_R f xs m l' e2
theorem whP_R {L : Type} (t : L → Option Bool) (f : L → Option L) : ∀ (n : Nat) (l l' : L), whP t f n l = some l' → whR (R := Empty) t (fun l => (f l).map .nx) n l = some (.nx l')
  | 0, _, _, h => by cases h
  | n + 1, l, l', h => by
    obtain ⟨b, e1, e2⟩ := Option.bind_eq_some_iff.mp h
    show (t l).bind _ = _
    rw [e1]
    show (if b = true then _ else _) = _
    by_cases hb : b = true
    · rw [if_pos hb] at e2 ⊢
      obtain ⟨m, e3, e4⟩ := Option.bind_eq_some_iff.mp e2
      show ((f l).map Fl.nx).bind _ = _
      rw [e3]
      exact whP_R t f n m l' e4
    · rw [if_neg hb] at e2 ⊢
      cases e2; rfl
/-- what a loop's body leads to; what the loop does -/
def ocB {L R : Type} (cL : L → Ct) (sr : R → Sl) (cr : R → Ct) : Fl L R → Oc
  | .nx l => .nx (cL l)
  | .ct l => .ct (cL l)
  | .bk l => .bk (cL l)
  | .rt r => .rt (sr r) (cr r)
def ocL {L R : Type} (cL : L → Ct) (sr : R → Sl) (cr : R → Ct) : Fl L R → Oc
  | .nx l => .nx (cL l)
  | .ct l => .nx (cL l)
  | .bk l => .nx (cL l)
  | .rt r => .rt (sr r) (cr r)
def ocJ {J ω : Type} (cJ : J → Ct) (post : ω → Oc) : Fl J ω → Oc
  | .nx j => .nx (cJ j)
  | .ct j => .nx (cJ j)
  | .bk j => .nx (cJ j)
  | .rt w => post w
def Fl.elim {L R ω : Type} (k : L → Option ω) (j : R → Option ω) : Fl L R → Option ω
  | .nx l => k l
  | .ct l => k l
  | .bk l => k l
  | .rt r => j r
/-- a, a + 1, .. below b -/
def rng (a b : Int) : List Int := (List.range (b - a).toNat).map fun (i : Nat) => a + (i : Int)
def rngS (a c : Int) (n : Nat) : List Int := (List.range n).map fun (i : Nat) => a + (i : Int) * c
def big : Int := 4611686018427387904
def rngM (a b : Int) : Option (List Int) := if (-big ≤ a ∧ a < big) ∧ (-big ≤ b ∧ b < big) ∧ b - a ≤ 16777216 then some (rng a b) else none
/-- down by ones -/
def rngD (a b : Int) : Option (List Int) := if (-big ≤ a ∧ a < big) ∧ (-big ≤ b ∧ b < big) ∧ a - b ≤ 16777216 then some (rngS a (-1) (a - b).toNat) else none
def rngU (a b c : Int) : Option (List Int) := if (-big ≤ a ∧ a < big) ∧ (-big ≤ b ∧ b < big) ∧ (0 < c ∧ c < 1073741824) ∧ b - a ≤ 16777216 then some (rngS a c ((b - a + c - 1) / c).toNat) else none

section
variable {X : Cx} {B : Bs} {c : Ct} {K : PySem.W.Frag} {σ : St} {H I : Hp} {as : List Addr}
variable {α β γ τ L R ω : Type} {e1 e2 e3 : Expr} {pos : Pos}
/-! ### what is walked -/
def ItOk (K : PySem.W.Frag) (I : Hp) (J : It) (ds : List D) : Prop := ds.length ≤ sizeLine ∧ ∀ (i : Nat) (H : Hp), Same I H →
  (i < ds.length → J.go i H) ∧ (ds.length ≤ i → J.stop i H) ∧ ∀ x H', J.yld i H x H' → i < ds.length → H' = H ∧ ∃ d, ds[i]? = some d ∧ Dp K I x d
def tI {α : Type} (K : PySem.W.Frag) (B : Bs) (c : Ct) (m : Option α) (its : α → List D) (ca : α → Ct) : TI := fun σ H Q =>
  ∃ I as a, Ge K B c σ H I as ∧ m = some a ∧ ∀ J H' I' as', Ge K B (ca a) σ H' I' as' → Same I I' → as <+: as' → ItOk K I' J (its a) → Q J H'
abbrev MI {α : Type} (X : Cx) (B : Bs) (c : Ct) (tg e : Expr) (m : Option α) (its : α → List D) (ca : α → Ct) : Prop := PI X tg e (tI X.K B c m its ca)
theorem pi_mono {tg e : Expr} {t t' : TI} (h : PI X tg e t) (w : ∀ σ H Q, t' σ H Q → t σ H Q) : PI X tg e t' := ⟨fun pins s σ H Q I q => h.run pins s σ H Q I (w _ _ _ q)⟩
def LenOk (K : PySem.W.Frag) (v : V) (H : Hp) : Prop := ∀ a xs, v = .ref a → SqL K H a xs ∨ SqT K H a xs → xs.length ≤ sizeLine
/-- lists and tuples are not longer than the line -/
theorem pe_len {e : Expr} {t : TE} (h : PE X e t) : PE X e (fun σ H Q => t σ H fun v H' => LenOk X.K v H' → Q v H') :=
  ⟨fun pins s σ H Q I q => thn (h.run pins s σ H _ I q) fun u s1 ⟨v, H1, I1, r1, q1⟩ => ⟨v, H1, I1, r1, q1 fun a xs ea hq => by
    rcases hq with hq | hq
    · exact (I1.list hq).choose_spec.2.2
    · exact (I1.tuple hq).choose_spec.2.2⟩⟩
theorem seq_it {a : Addr} {xs : List V} {ds : List D} (h : SqL K I a xs) (d : DpAll K I xs ds) (z : xs.length ≤ sizeLine) : ItOk K I (Itl K a) ds := by
  have hl := d.len
  refine ⟨by omega, fun i H s => ⟨fun hi => ?_, fun hi => ⟨xs, s.seq h, by omega⟩, fun x H' y hi => ⟨y.1, ?_⟩⟩⟩
  · obtain ⟨v, e, _⟩ := d.get (List.getElem?_eq_getElem hi)
    exact ⟨xs, v, s.seq h, e⟩
  · obtain ⟨v, e, q⟩ := d.get (List.getElem?_eq_getElem hi)
    have := y.2 xs (s.seq h)
    rw [e] at this; cases this
    exact ⟨_, List.getElem?_eq_getElem hi, q⟩
theorem tup_it {a : Addr} {xs : List V} {ds : List D} (h : SqT K I a xs) (d : DpAll K I xs ds) (z : xs.length ≤ sizeLine) : ItOk K I (Itt K a) ds := by
  have hl := d.len
  refine ⟨by omega, fun i H s => ⟨fun hi => ?_, fun hi => ⟨xs, s.seqT h, by omega⟩, fun x H' y hi => ⟨y.1, ?_⟩⟩⟩
  · obtain ⟨v, e, _⟩ := d.get (List.getElem?_eq_getElem hi)
    exact ⟨xs, v, s.seqT h, e⟩
  · obtain ⟨v, e, q⟩ := d.get (List.getElem?_eq_getElem hi)
    have := y.2 xs (s.seqT h)
    rw [e] at this; cases this
    exact ⟨_, List.getElem?_eq_getElem hi, q⟩
theorem mi_list {tg e : Expr} {m : Option α} {ds : α → List D} {ca : α → Ct} (h : ME X B c e m (fun a => .im (.list (ds a))) ca) : MI X B c tg e m ds ca :=
  pi_mono (pi_list (pe_len h)) fun σ H Q ⟨I, as, a, g, e, q⟩ => ⟨I, as, a, g, e, fun v H1 ⟨I1, as1, g1, s1, p1, v1⟩ z => by
    obtain ⟨l, xs, rfl, h1, h2⟩ := vs_lst v1
    exact ⟨l, rfl, ⟨xs, g1.sub.seq h1⟩, q _ H1 I1 as1 g1 s1 p1 (seq_it h1 h2 (z l xs rfl (.inl (g1.sub.seq h1))))⟩⟩
theorem mi_tup {tg e : Expr} {m : Option α} {ds : α → List D} {ca : α → Ct} (h : ME X B c e m (fun a => .im (.tuple (ds a))) ca) : MI X B c tg e m ds ca :=
  pi_mono (pi_tup (pe_len h)) fun σ H Q ⟨I, as, a, g, e, q⟩ => ⟨I, as, a, g, e, fun v H1 ⟨I1, as1, g1, s1, p1, v1⟩ z => by
    obtain ⟨l, xs, rfl, h1, h2⟩ := vs_tup v1
    exact ⟨l, rfl, ⟨xs, g1.sub.seqT h1⟩, q _ H1 I1 as1 g1 s1 p1 (tup_it h1 h2 (z l xs rfl (.inr (g1.sub.seqT h1))))⟩⟩
theorem rng_it {lo : Int} {n : Nat} (h : n ≤ 16777216) : ItOk K I (Itr lo n) (((List.range n).map fun (i : Nat) => lo + (i : Int)).map PyData.int) := by
  have hl : (((List.range n).map fun (i : Nat) => lo + (i : Int)).map PyData.int).length = n := by simp
  refine ⟨by rw [hl, sizeLine_eq]; exact h, fun i H s => ⟨fun hi => by rw [hl] at hi; exact hi, fun hi => by rw [hl] at hi; exact hi, fun x H' y hi => ⟨y.1, .int (lo + (i : Int)), ?_, by rw [y.2]; exact .int _⟩⟩⟩
  rw [hl] at hi
  simp [hi]
theorem rngS_it {lo k : Int} {n : Nat} (h : n ≤ 16777216) : ItOk K I (Itc lo k n) ((rngS lo k n).map PyData.int) := by
  have hl : ((rngS lo k n).map PyData.int).length = n := by simp [rngS]
  refine ⟨by rw [hl, sizeLine_eq]; exact h, fun i H s => ⟨fun hi => by rw [hl] at hi; exact hi, fun hi => by rw [hl] at hi; exact hi, fun x H' y hi => ⟨y.1, .int (lo + (i : Int) * k), ?_, by rw [y.2]; exact .int _⟩⟩⟩
  rw [hl] at hi
  simp [rngS, hi]
theorem big_eq : big = 2 ^ 62 := by decide
theorem mi_range1 {tg : Expr} {p : Pos} {m : Option α} {b : α → Int} {ca : α → Ct} (hg : Gl X "range") (hm : X.mg "range" = none) (h : MA X B c [e1] m (fun a => [imI (b a)]) ca) (hs : starEach [e1] X.env = [(false, eval e1 X.env)] := by rfl) (hpl : (backTo pos (starEach [e1] X.env)).any (·.1) = false := by rfl) :
    MI X B c tg (.Call (.Name "range" p) [e1] [] pos) (m.bind fun a => (rngM 0 (b a)).map fun l => (a, l)) (fun z => z.2.map .int) (fun z => ca z.1) :=
  pi_mono (pi_range1 hg hm h hs) fun σ H Q ⟨I, as, z, g, e, q⟩ => by
    obtain ⟨a, e1, e⟩ := Option.bind_eq_some_iff.mp e
    obtain ⟨l, e2, e⟩ := Option.map_eq_some_iff.mp e
    subst e
    refine ⟨I, as, a, g, e1, fun vs H1 ⟨I1, as1, g1, s1, p1, v1⟩ => ?_⟩
    cases v1 with
    | cons h1 h2 =>
      cases h2
      unfold rngM at e2
      split at e2
      · rename_i hb
        obtain ⟨b1, b2, b3⟩ := hb
        cases e2
        refine ⟨b a, by rw [vs_int h1], by rw [← big_eq]; exact b2.1, by rw [← big_eq]; exact b2.2, q _ H1 I1 as1 g1 s1 p1 ?_⟩
        have := rng_it (K := X.K) (I := I1) (lo := 0) (n := (b a).toNat) (by omega)
        show ItOk _ _ _ ((rng 0 (b a)).map PyData.int)
        unfold rng
        rw [Int.sub_zero]
        exact this
      · cases e2
theorem mi_range2 {tg : Expr} {p : Pos} {m : Option α} {b d : α → Int} {ca : α → Ct} (hg : Gl X "range") (hm : X.mg "range" = none) (h : MA X B c [e1, e2] m (fun a => [imI (b a), imI (d a)]) ca) (hs : starEach [e1, e2] X.env = [(false, eval e1 X.env), (false, eval e2 X.env)] := by rfl) (hs2 : starEach [e2] X.env = [(false, eval e2 X.env)] := by rfl) (hpl : (backTo pos (starEach [e1, e2] X.env)).any (·.1) = false := by rfl) :
    MI X B c tg (.Call (.Name "range" p) [e1, e2] [] pos) (m.bind fun a => (rngM (b a) (d a)).map fun l => (a, l)) (fun z => z.2.map .int) (fun z => ca z.1) :=
  pi_mono (pi_range2 hg hm h hs hs2) fun σ H Q ⟨I, as, z, g, e, q⟩ => by
    obtain ⟨a, e1, e⟩ := Option.bind_eq_some_iff.mp e
    obtain ⟨l, e2, e⟩ := Option.map_eq_some_iff.mp e
    subst e
    refine ⟨I, as, a, g, e1, fun vs H1 ⟨I1, as1, g1, s1, p1, v1⟩ => ?_⟩
    cases v1 with
    | cons h1 h2 =>
      cases h2 with
      | cons h2 h3 =>
        cases h3
        unfold rngM at e2
        split at e2
        · rename_i hb
          obtain ⟨b1, b2, b3⟩ := hb
          cases e2
          refine ⟨b a, d a, by rw [vs_int h1, vs_int h2], by rw [← big_eq]; exact ⟨b1.1, b1.2, b2.1, b2.2⟩, q _ H1 I1 as1 g1 s1 p1 ?_⟩
          exact rng_it (K := X.K) (I := I1) (lo := b a) (n := (d a - b a).toNat) (by omega)
        · cases e2
theorem mi_range3D {tg : Expr} {p : Pos} {m : Option α} {b d : α → Int} {ca : α → Ct} (hg : Gl X "range") (hm : X.mg "range" = none) (h : MA X B c [e1, e2, e3] m (fun a => [imI (b a), imI (d a), imI (-1)]) ca) (hs : starEach [e1, e2, e3] X.env = (false, eval e1 X.env) :: starEach [e2, e3] X.env := by rfl) (hpl : (backTo pos (starEach [e2, e3] X.env)).any (·.1) = false := by rfl) :
    MI X B c tg (.Call (.Name "range" p) [e1, e2, e3] [] pos) (m.bind fun a => (rngD (b a) (d a)).map fun l => (a, l)) (fun z => z.2.map .int) (fun z => ca z.1) :=
  pi_mono (pi_range3 hg hm h hs hpl) fun σ H Q ⟨I, as, z, g, e, q⟩ => by
    obtain ⟨a, e1, e⟩ := Option.bind_eq_some_iff.mp e
    obtain ⟨l, e2, e⟩ := Option.map_eq_some_iff.mp e
    subst e
    refine ⟨I, as, a, g, e1, fun vs H1 ⟨I1, as1, g1, s1, p1, v1⟩ => ?_⟩
    cases v1 with
    | cons h1 h2 =>
      cases h2 with
      | cons h2 h3 =>
        cases h3 with
        | cons h3 h4 =>
          cases h4
          unfold rngD at e2
          split at e2
          · rename_i hb
            obtain ⟨b1, b2, b3⟩ := hb
            cases e2
            refine ⟨b a, d a, -1, (b a - d a).toNat, by rw [vs_int h1, vs_int h2, vs_int h3], RgC.neg (by rw [← big_eq]; exact b1.1) (by rw [← big_eq]; exact b1.2) (by rw [← big_eq]; exact b2.1) (by rw [← big_eq]; exact b2.2), q _ H1 I1 as1 g1 s1 p1 ?_⟩
            exact rngS_it (by omega)
          · cases e2

/-! ### for -/
/-- the loop's memory: cL; its body from the item on: fB -/
theorem ms_for {tg e : Expr} {body : List Stmt} {g : TG} {m : Option α} {xs : α → List τ} {k : τ → D} {ca : α → Ct} {cL : L → Ct} {l0 : α → L} {cT : τ → L → Ct} {fB : τ → L → Option (Fl L R)} {sr : R → Sl} {cr : R → Ct}
    (hp : PassesOwn (model X.prog X.w) X.A X.env X.xe) (hc : X.calm = true) (hi : MI X B c tg e m (fun a => (xs a).map k) ca) (hg : PG X tg g) (h0 : ∀ a, Wk (ca a) (cL (l0 a))) (ht : ∀ x l, Tg X.K B g (cL l) (k x) (cT x l))
    (hb : ∀ x l, MB X B (cT x l) body (fB x l) (ocB cL sr cr))
    (hs : ∀ x, foldedSetIterable e X.env x = pure x := by intro _; rfl) :
    MS X B c (.For tg e body [] pos) (m.bind fun a => forR fB (xs a) (l0 a)) (ocL cL sr cr) :=
  ps_mono (ps_for hp hc hi hg (pss_fam fun i : τ × L => hb i.1 i.2) hs) fun E σ H ⟨I, as, w, ge, e, q⟩ => by
    obtain ⟨a, e1, e2⟩ := Option.bind_eq_some_iff.mp e
    refine ⟨I, as, a, ge, e1, fun J H1 I1 as1 g1 s1 p1 it => ?_⟩
    obtain ⟨I2, as2, s2, g2⟩ := h0 a _ _ _ _ _ _ g1
    have it2 := it.2
    refine ⟨fun i n σ H => n = (xs a).length - i ∧ i ≤ (xs a).length ∧ ∃ l I as, Ge X.K B (cL l) σ H I as ∧ Same I1 I ∧ forR fB ((xs a).drop i) l = some w, ⟨_, rfl, Nat.zero_le _, l0 a, I2, as2, g2, s2, e2⟩, ?_⟩
    rintro i n σ2 H2 ⟨rfl, hi, l, I3, as3, g3, s3, run⟩
    obtain ⟨go, stop, yld⟩ := it2 i H2 (s3.trans g3.sub)
    rw [List.length_map] at go stop yld
    by_cases hlt : i < (xs a).length
    · refine .inr ⟨go hlt, fun σ' H' => ∃ l I as, Ge X.K B (cL l) σ' H' I as ∧ Same I1 I ∧ forR fB ((xs a).drop (i + 1)) l = some w, fun σ' H' z => ⟨(xs a).length - (i + 1), by omega, rfl, hlt, z⟩, fun x H' y => ?_⟩
      obtain ⟨rfl, d, ed, hd⟩ := yld x H' y hlt
      rw [List.getElem?_map, List.getElem?_eq_getElem hlt] at ed
      have ed : k (xs a)[i] = d := Option.some.inj ed
      subst ed
      rw [List.drop_eq_getElem_cons hlt] at run
      obtain ⟨z, r1, r2⟩ := Option.bind_eq_some_iff.mp run
      refine ht (xs a)[i] l σ2 H' I3 as3 x _ g3 (dp_mono s3 hd) fun σ' g4 => ⟨((xs a)[i], l), I3, as3, z, g4, r1, ?_⟩
      cases z with
      | nx l' => exact fun σ5 H5 I5 as5 g5 s5 => ⟨l', I5, as5, g5, s3.trans s5, r2⟩
      | ct l' => exact fun σ5 H5 I5 as5 g5 s5 => ⟨l', I5, as5, g5, s3.trans s5, r2⟩
      | bk l' =>
        cases r2
        exact fun σ5 H5 I5 as5 g5 s5 => q σ5 H5 I5 as5 g5 (s1.trans (s3.trans s5))
      | rt r =>
        cases r2
        exact fun v H5 I5 as5 g5 s5 h5 => q v H5 I5 as5 g5 (s1.trans (s3.trans s5)) h5
    · refine .inl ⟨stop (by omega), ?_⟩
      rw [List.drop_of_length_le (by omega)] at run
      cases run
      exact q σ2 H2 I3 as3 g3 (s1.trans s3)
theorem ms_forP {tg e : Expr} {body : List Stmt} {g : TG} {m : Option α} {xs : α → List τ} {k : τ → D} {ca : α → Ct} {cL : L → Ct} {l0 : α → L} {cT : τ → L → Ct} {fB : τ → L → Option L}
    (hp : PassesOwn (model X.prog X.w) X.A X.env X.xe) (hc : X.calm = true) (hi : MI X B c tg e m (fun a => (xs a).map k) ca) (hg : PG X tg g) (h0 : ∀ a, Wk (ca a) (cL (l0 a))) (ht : ∀ x l, Tg X.K B g (cL l) (k x) (cT x l))
    (hb : ∀ x l, MB X B (cT x l) body (fB x l) (fun l => .nx (cL l))) (hs : ∀ x, foldedSetIterable e X.env x = pure x := by intro _; rfl) :
    MS X B c (.For tg e body [] pos) (m.bind fun a => forP fB (xs a) (l0 a)) (fun l => .nx (cL l)) :=
  ps_mono (ms_for (R := Empty) (sr := fun z => nomatch z) (cr := fun z => nomatch z) (fB := fun x l => (fB x l).map .nx) hp hc hi hg h0 ht (fun x l => pss_mono (hb x l) fun E σ H ⟨I, as, z, g, e, q⟩ => by
    obtain ⟨l', e1, e2⟩ := Option.map_eq_some_iff.mp e
    subst e2
    exact ⟨I, as, l', g, e1, q⟩) hs) fun E σ H ⟨I, as, w, g, e, q⟩ => by
    obtain ⟨a, e1, e2⟩ := Option.bind_eq_some_iff.mp e
    exact ⟨I, as, .nx w, g, by rw [e1]; exact forP_R fB _ _ _ e2, q⟩

/-! ### while -/
theorem ms_wh {t : Expr} {body : List Stmt} {cL : L → Ct} {l0 : L} {tB : L → Option Bool} {fB : L → Option (Fl L R)} {sr : R → Sl} {cr : R → Ct} (n : Nat) (hp : PassesOwn (model X.prog X.w) X.A X.env X.xe) (h0 : Wk c (cL l0))
    (ht : ∀ l, MT X B (cL l) t (tB l) (fun b => b) (fun _ => cL l)) (hb : ∀ l, MB X B (cL l) body (fB l) (ocB cL sr cr)) :
    MS X B c (.While t body [] pos) (whR tB fB n l0) (ocL cL sr cr) :=
  ps_mono (ps_while hp (pt_fam ht) (pss_fam hb)) fun E σ H ⟨I, as, w, ge, e, q⟩ => by
    obtain ⟨I2, as2, s2, g2⟩ := h0 _ _ _ _ _ _ ge
    refine ⟨fun n σ H => ∃ l I' as, Ge X.K B (cL l) σ H I' as ∧ Same I I' ∧ whR tB fB n l = some w, ⟨n, l0, I2, as2, g2, s2, e⟩, ?_⟩
    rintro n σ2 H2 ⟨l, I3, as3, g3, s3, run⟩
    cases n with
    | zero => cases run
    | succ n =>
      obtain ⟨b, r1, r2⟩ := Option.bind_eq_some_iff.mp run
      refine ⟨l, I3, as3, b, g3, r1, fun H4 I4 as4 g4 s4 p4 => ?_⟩
      by_cases hb : b = true
      · rw [if_pos hb] at r2 ⊢
        obtain ⟨z, r3, r4⟩ := Option.bind_eq_some_iff.mp r2
        refine ⟨fun σ' H' => ∃ l I' as, Ge X.K B (cL l) σ' H' I' as ∧ Same I I' ∧ whR tB fB n l = some w, fun σ' H' z => ⟨n, Nat.lt_succ_self _, z⟩, l, I4, as4, z, g4, r3, ?_⟩
        have s34 := s3.trans s4
        cases z with
        | nx l' => exact fun σ5 H5 I5 as5 g5 s5 => ⟨l', I5, as5, g5, s34.trans s5, r4⟩
        | ct l' => exact fun σ5 H5 I5 as5 g5 s5 => ⟨l', I5, as5, g5, s34.trans s5, r4⟩
        | bk l' =>
          cases r4
          exact fun σ5 H5 I5 as5 g5 s5 => q σ5 H5 I5 as5 g5 (s34.trans s5)
        | rt r =>
          cases r4
          exact fun v H5 I5 as5 g5 s5 h5 => q v H5 I5 as5 g5 (s34.trans s5) h5
      · rw [if_neg hb] at r2 ⊢
        cases r2
        exact q σ2 H4 I4 as4 g4 (s3.trans s4)
theorem ms_whP {t : Expr} {body : List Stmt} {cL : L → Ct} {l0 : L} {tB : L → Option Bool} {fB : L → Option L} (n : Nat) (hp : PassesOwn (model X.prog X.w) X.A X.env X.xe) (h0 : Wk c (cL l0))
    (ht : ∀ l, MT X B (cL l) t (tB l) (fun b => b) (fun _ => cL l)) (hb : ∀ l, MB X B (cL l) body (fB l) (fun l => .nx (cL l))) : MS X B c (.While t body [] pos) (whP tB fB n l0) (fun l => .nx (cL l)) :=
  ps_mono (ms_wh (R := Empty) (sr := fun z => nomatch z) (cr := fun z => nomatch z) (fB := fun l => (fB l).map .nx) n hp h0 ht (fun l => pss_mono (hb l) fun E σ H ⟨I, as, z, g, e, q⟩ => by
    obtain ⟨l', e1, e2⟩ := Option.map_eq_some_iff.mp e
    subst e2
    exact ⟨I, as, l', g, e1, q⟩)) fun E σ H ⟨I, as, w, g, e, q⟩ => ⟨I, as, .nx w, g, whP_R tB fB _ _ _ e, q⟩
end
end M3

set_option Elab.async false
set_option linter.all false
set_option maxRecDepth 100000
set_option maxHeartbeats 4000000
namespace M3
open PySem PySem.Spec PyProof.Rows L2

/-! ### a def by its plain function -/
def PrF {β γ : Type} (K : PySem.W.Frag) (ca : β → Ct) (F : β → Option γ) (rs : γ → Sl) (cr : γ → Ct) : Sp := fun vs H Q _ =>
  ∃ b g I ps, F b = some g ∧ Ge K ⟨I, H, ps⟩ (ca b) (vs.map some) H I ps ∧ ∀ v H' I' as', Ge K ⟨I, H, ps⟩ (cr g) [] H' I' as' → Same I I' → VS K I' as' v (rs g) → Q v H'
def Ct.pad (c : Ct) (n : Nat) : Ct := ⟨c.b, c.s ++ List.replicate n none, c.m⟩
theorem Ge.pad {K : PySem.W.Frag} {B : Bs} {c : Ct} {σ : St} {H I : Hp} {as : List Addr} (g : Ge K B c σ H I as) (n : Nat) : Ge K B (c.pad n) (σ ++ List.replicate n none) H I as := by
  refine ⟨g.ext, g.sub, g.new, g.frm, g.bl, g.pre, g.nd, g.cell, g.len, g.con, ?_, fun i sl e => ?_⟩
  · show _ = (c.s ++ List.replicate n none).length
    rw [List.length_append, List.length_append, g.slen, List.length_replicate, List.length_replicate]
  · have e : (c.s ++ List.replicate n none)[i]? = some (some sl) := e
    by_cases hi : i < c.s.length
    · rw [List.getElem?_append_left hi] at e
      obtain ⟨v, h1, h2⟩ := g.slot i sl e
      exact ⟨v, by rw [List.getElem?_append_left (by rw [g.slen]; exact hi)]; exact h1, h2⟩
    · rw [List.getElem?_append_right (by omega), List.getElem?_replicate] at e
      split at e <;> cases e
section
variable {P : Program} {w : World} {K : PySem.W.Frag} {mg : Str → Option Value} {base : Heap} {β γ : Type} {ca : β → Ct} {F : β → Option γ} {rs : γ → Sl} {cr : γ → Ct}
theorem fn_ok {x qual : Str} {st : Stmt} {f : Addr} {fd : FuncData} {N ps : List Str} {k : Nat} (FU : Fun K x qual st f fd) (S : FnScope N ps (defScope st)) (hn : ∀ b, (ca b).s.length = ps.length)
    (hb : ∀ (cdv : Value) (A : Around) (outer : List Env) (s : Shared) (H : Hp) (E : XK) (B : Bs) (b : β), Room k (A.deeper (envOfC qual (defScope st) s.heap.objs.size f cdv)) →
      MB (cxOf CX0 P w K mg base N qual (defScope st) f cdv A outer s H E).nox B ((ca b).pad (N.length - ps.length)) (defBody st) (F b) (fun g => .rt (rs g) (cr g))) : FnOk P w K mg base CX0 (k + 1) f fd ps (PrF K ca F rs cr) := by
  have hlen : ∀ vs H Q E, PrF K ca F rs cr vs H Q E → vs.length = ps.length := fun vs H Q E ⟨b, g, I, qs, _, ge, _⟩ => by
    have := ge.slen
    rw [List.length_map, hn] at this; exact this
  refine FU.ok S hlen fun cdv A outer s H vs Q E hr h => ?_
  obtain ⟨b, g, I, qs, e, ge, q⟩ := id h
  refine ⟨_, hb cdv A outer s H E ⟨I, H, qs⟩ b hr, I, qs, g, ?_, e, fun v H' I' as' g' s' h' => q v H' I' as' g' s' h'⟩
  have z := ge.pad (N.length - ps.length)
  unfold L2.start
  rw [hlen _ _ _ _ h]; exact z
end

/-! ### behind a call -/
section
variable {K : PySem.W.Frag} {B : Bs} {c : Ct} {σ : St} {H I : Hp} {as : List Addr}
theorem back {ps : List Addr} {cr : Ct} {H' I' : Hp} {as' : List Addr} {m' : List (List D)} (g : Ge K B c σ H I as) (g' : Ge K ⟨I, H, ps⟩ cr [] H' I' as') (s : Same I I') (hp : ∀ p ∈ ps, p ∈ as)
    (hl : m'.length = c.m.length) (hm : ∀ (j : Nat) a ds, as[j]? = some a → m'[j]? = some ds → ∃ xs, H' a = some (.lst xs) ∧ DpAll K I' xs ds) : Ge K B ⟨c.b, c.s, m'⟩ σ H' I' as := by
  refine ⟨g.ext.trans s, g'.sub, fun a o e b => ?_, fun a o n e => ?_, g.bl, g.pre, g.nd, fun j a e => ?_, by rw [hl]; exact g.len, hm, g.slen, fun i sl e => ?_⟩
  · cases q : I a with
    | some o' => exact g.new a o' q b
    | none => exact g.freeB (g'.new a o e q)
  · by_cases ha : a ∈ ps
    · obtain ⟨j, hj⟩ := List.mem_iff_getElem?.mp (hp a ha)
      rcases (g.cell j a hj).2 with z | z
      · exact absurd z n
      · have z : B.H a = none := z
        rw [z] at e; cases e
    · exact g'.frm a o ha (g.frm a o n e)
  · obtain ⟨h1, h2⟩ := g.cell j a e
    refine ⟨?_, h2⟩
    cases q : I' a with
    | none => rfl
    | some o =>
      obtain ⟨_, xs, _, z, _⟩ := g.there e
      have n1 : H a = none := g'.new a o q h1
      rw [n1] at z; cases z
  · obtain ⟨v, h1, h2⟩ := g.slot i sl e
    exact ⟨v, h1, h2.mono s (List.prefix_refl _)⟩
/-- a fresh cell of the callee is one more of ours -/
theorem Ge.take_ (g : Ge K B c σ H I as) {p : Addr} {xs : List V} {ds : List D} (hI : I p = none) (hB : B.H p = none) (hp : p ∉ as) (h : H p = some (.lst xs)) (q : DpAll K I xs ds) : Ge K B (c.ad ds) σ H I (as ++ [p]) := by
  have lt : c.b ≤ as.length := by
    have := congrArg List.length g.pre
    rw [List.length_take, ← g.bl] at this; omega
  have cs : ∀ (j : Nat) a, (as ++ [p])[j]? = some a → as[j]? = some a ∨ (j = as.length ∧ a = p) := fun j a e => by
    by_cases hj : j < as.length
    · rw [List.getElem?_append_left hj] at e; exact .inl e
    · rw [List.getElem?_append_right (by omega)] at e
      cases hz : j - as.length with
      | zero => rw [hz] at e; exact .inr ⟨by omega, by simpa using e.symm⟩
      | succ k => rw [hz] at e; simp at e
  refine ⟨g.ext, g.sub, g.new, g.frm, g.bl, ?_, ?_, fun j a e => ?_, ?_, fun j a es e f => ?_, g.slen, fun i sl e => ?_⟩
  · show (as ++ [p]).take c.b = B.ps
    rw [List.take_append_of_le_length lt]; exact g.pre
  · exact List.nodup_append.mpr ⟨g.nd, by simp, fun a ha b hb => by rw [List.mem_singleton.mp hb]; exact fun z => hp (z ▸ ha)⟩
  · rcases cs j a e with e | ⟨_, rfl⟩
    · exact g.cell j a e
    · exact ⟨hI, .inr hB⟩
  · show (as ++ [p]).length = (c.m ++ [ds]).length
    rw [List.length_append, List.length_append, g.len]; rfl
  · have f' : (c.m ++ [ds])[j]? = some es := f
    rcases cs j a e with e | ⟨rfl, rfl⟩
    · have hj := (List.getElem?_eq_some_iff.mp e).1
      rw [g.len] at hj
      rw [List.getElem?_append_left hj] at f'
      exact g.con j a es e f'
    · rw [g.len, List.getElem?_append_right (Nat.le_refl _), Nat.sub_self] at f'
      have e2 : ds = es := by simpa using f'
      exact ⟨xs, h, e2 ▸ q⟩
  · obtain ⟨v, h1, h2⟩ := g.slot i sl e
    exact ⟨v, h1, VS.mono (Same.refl _) (List.prefix_append _ _) h2⟩
/-- .. or frozen -/
theorem Ge.ice (g : Ge K B c σ H I as) {p : Addr} {xs : List V} (hI : I p = none) (hB : B.H p = none) (hp : p ∉ as) (h : H p = some (.lst xs)) : Ge K B c σ H (upd I p (.lst xs)) as := by
  have nep : ∀ j a, as[j]? = some a → a ≠ p := fun j a e z => hp (z ▸ List.mem_of_getElem? e)
  refine ⟨g.ext.trans (same_upd hI), fun a o e => ?_, fun a o' e b => ?_, g.frm, g.bl, g.pre, g.nd, fun j a e => ?_, g.len, fun j a ds e f => ?_, g.slen, fun i sl e => ?_⟩
  · by_cases hb : a = p
    · subst hb; rw [upd_same] at e; cases e; exact h
    · rw [upd_ne hb] at e; exact g.sub a o e
  · by_cases hb : a = p
    · subst hb; exact hB
    · rw [upd_ne hb] at e; exact g.new a o' e b
  · rw [upd_ne (nep j a e)]; exact g.cell j a e
  · obtain ⟨xs, h1, h2⟩ := g.con j a ds e f
    exact ⟨xs, h1, dpAll_mono (same_upd hI) h2⟩
  · obtain ⟨v, h1, h2⟩ := g.slot i sl e
    exact ⟨v, h1, VS.mono (same_upd hI) (List.prefix_refl _) h2⟩
/-- what comes back: c' the memory, r the value -/
inductive Res (c : Ct) : Ct → Sl → Ct → Sl → Prop
  | im (d : D) : Res c ⟨0, [], []⟩ (.im d) c (.im d)
  | rf (ds : List D) : Res c ⟨0, [], [ds]⟩ (.rf 0) (c.ad ds) (.rf c.m.length)
  | fz (ds : List D) : Res c ⟨0, [], [ds]⟩ (.rf 0) c (.im (.list ds))
inductive Res1 (c : Ct) (j : Nat) : Ct → Sl → Ct → Sl → Prop
  | im (es : List D) (d : D) : Res1 c j ⟨1, [], [es]⟩ (.im d) (c.mu j es) (.im d)
  | rf (es ds : List D) : Res1 c j ⟨1, [], [es, ds]⟩ (.rf 1) ((c.mu j es).ad ds) (.rf c.m.length)
  | fz (es ds : List D) : Res1 c j ⟨1, [], [es, ds]⟩ (.rf 1) (c.mu j es) (.im (.list ds))
theorem fresh_out {ps : List Addr} {cr : Ct} {H' I' : Hp} {as' : List Addr} {j : Nat} {p : Addr} (g : Ge K B c σ H I as) (g' : Ge K ⟨I, H, ps⟩ cr [] H' I' as') (e : as'[j]? = some p) (hn : p ∉ ps) : I' p = none ∧ B.H p = none ∧ p ∉ as := by
  obtain ⟨h1, h2⟩ := g'.cell j p e
  have h3 : H p = none := h2.resolve_left hn
  exact ⟨h1, g.freeB h3, g.freeA h3⟩
theorem Res.ok {cr c' : Ct} {rs r : Sl} {H' I' : Hp} {as' : List Addr} {v : V} (R : Res c cr rs c' r) (g : Ge K B c σ H I as) (g' : Ge K ⟨I, H, []⟩ cr [] H' I' as') (s : Same I I') (h : VS K I' as' v rs) : After K B σ I as c' r v H' := by
  have g2 : Ge K B c σ H' I' as := back g g' s (fun p hp => nomatch hp) rfl fun j a ds e f => by
    obtain ⟨xs, h1, h2⟩ := g.con j a ds e f
    exact ⟨xs, g'.frm a _ (by simp) h1, dpAll_mono s h2⟩
  cases R with
  | im d => exact ⟨I', as, g2, s, List.prefix_refl _, h⟩
  | rf ds =>
    obtain ⟨p, e, rfl⟩ := h
    obtain ⟨h1, h2, h3⟩ := fresh_out g g' e (by simp)
    obtain ⟨xs, k1, k2⟩ := g'.con 0 p ds e rfl
    exact ⟨I', as ++ [p], g2.take_ h1 h2 h3 k1 k2, s, List.prefix_append _ _, p, by rw [← g.len, List.getElem?_append_right (Nat.le_refl _), Nat.sub_self]; rfl, rfl⟩
  | fz ds =>
    obtain ⟨p, e, rfl⟩ := h
    obtain ⟨h1, h2, h3⟩ := fresh_out g g' e (by simp)
    obtain ⟨xs, k1, k2⟩ := g'.con 0 p ds e rfl
    exact ⟨upd I' p (.lst xs), as, g2.ice h1 h2 h3 k1, s.trans (same_upd h1), List.prefix_refl _, .lst (.of upd_same) (dpAll_mono (same_upd h1) k2)⟩
theorem Res1.ok {cr c' : Ct} {rs r : Sl} {H' I' : Hp} {as' : List Addr} {v : V} {j : Nat} {q : Addr} (R : Res1 c j cr rs c' r) (g : Ge K B c σ H I as) (hq : as[j]? = some q) (g' : Ge K ⟨I, H, [q]⟩ cr [] H' I' as') (s : Same I I') (h : VS K I' as' v rs) : After K B σ I as c' r v H' := by
  have hj : j < c.m.length := by rw [← g.len]; exact (List.getElem?_eq_some_iff.mp hq).1
  have a0 : cr.b = 1 → as'[0]? = some q := fun hb => by
    have := g'.pre
    rw [hb] at this
    cases as' with
    | nil => cases this
    | cons a r => have : [a] = [q] := this; cases this; rfl
  have g2 : ∀ es, cr.b = 1 → cr.m[0]? = some es → Ge K B (c.mu j es) σ H' I' as := fun es hb he => by
    refine back (m' := c.m.set j es) g g' s (fun p hp => by rw [List.mem_singleton.mp hp]; exact List.mem_of_getElem? hq) (by rw [List.length_set]) fun k a ds e f => ?_
    by_cases hk : j = k
    · subst hk
      rw [hq] at e; cases e
      rw [List.getElem?_set_self hj] at f
      cases f
      exact g'.con 0 q es (a0 hb) he
    · rw [List.getElem?_set_ne hk] at f
      obtain ⟨xs, h1, h2⟩ := g.con k a ds e f
      refine ⟨xs, g'.frm a _ (fun z => ?_) h1, dpAll_mono s h2⟩
      have z := List.mem_singleton.mp z
      subst z
      obtain ⟨l1, z1⟩ := List.getElem?_eq_some_iff.mp e
      obtain ⟨l2, z2⟩ := List.getElem?_eq_some_iff.mp hq
      exact hk ((List.getElem_inj g.nd).mp (z2.trans z1.symm))
  have ne1 : ∀ p, as'[1]? = some p → cr.b = 1 → p ∉ [q] := fun p e hb z => by
    have z := List.mem_singleton.mp z
    subst z
    obtain ⟨l1, z1⟩ := List.getElem?_eq_some_iff.mp e
    obtain ⟨l2, z2⟩ := List.getElem?_eq_some_iff.mp (a0 hb)
    exact absurd ((List.getElem_inj g'.nd).mp (z1.trans z2.symm)) (by omega)
  cases R with
  | im es d => exact ⟨I', as, g2 es rfl rfl, s, List.prefix_refl _, h⟩
  | rf es ds =>
    obtain ⟨p, e, rfl⟩ := h
    obtain ⟨h1, h2, h3⟩ := fresh_out g g' e (ne1 p e rfl)
    obtain ⟨xs, k1, k2⟩ := g'.con 1 p ds e rfl
    exact ⟨I', as ++ [p], (g2 es rfl rfl).take_ h1 h2 h3 k1 k2, s, List.prefix_append _ _, p, by rw [← g.len, List.getElem?_append_right (Nat.le_refl _), Nat.sub_self]; rfl, rfl⟩
  | fz es ds =>
    obtain ⟨p, e, rfl⟩ := h
    obtain ⟨h1, h2, h3⟩ := fresh_out g g' e (ne1 p e rfl)
    obtain ⟨xs, k1, k2⟩ := g'.con 1 p ds e rfl
    exact ⟨upd I' p (.lst xs), as, (g2 es rfl rfl).ice h1 h2 h3 k1, s.trans (same_upd h1), List.prefix_refl _, .lst (.of upd_same) (dpAll_mono (same_upd h1) k2)⟩
theorem paired_slot {I : Hp} {as as' : List Addr} : ∀ {vs : List V} {ss : List Sl} {ss' : List Sl} {i : Nat} {sl : Sl}, Paired (VS K I as) vs ss → (∀ (i : Nat) sl', ss'[i]? = some sl' → ∃ sl, ss[i]? = some sl ∧ ∀ v, VS K I as v sl → VS K I as' v sl') → ss'[i]? = some sl → ∃ v, vs[i]? = some v ∧ VS K I as' v sl := fun {vs ss ss' i sl} h w e => by
  obtain ⟨sl0, e0, q⟩ := w i sl e
  have get : ∀ {vs : List V} {ss : List Sl} {i : Nat}, Paired (VS K I as) vs ss → ss[i]? = some sl0 → ∃ v, vs[i]? = some v ∧ VS K I as v sl0 := by
    intro vs ss i h
    induction h generalizing i with
    | nil => intro e; simp at e
    | cons a _ ih =>
      intro e
      cases i with
      | zero => simp at e; subst e; exact ⟨_, rfl, a⟩
      | succ i => simpa using ih (by simpa using e)
  obtain ⟨v, h1, h2⟩ := get h e0
  exact ⟨v, h1, q v h2⟩
end
section
variable {X : Cx} {B : Bs} {c : Ct} {α β γ δ : Type} {ca : β → Ct} {F : β → Option γ} {rs : γ → Sl} {cr : γ → Ct} {k : Nat} {f : Addr} {fd : FuncData} {ps : List Str} {x : Str} {p pos : Pos} {e : Expr} {es : List Expr}
/-- f(..), f changes nothing -/
theorem me_call {m : Option α} {ds : α → List D} {c1 : α → Ct} {mo : α → Option δ} {r' : δ → Sl} {c' : δ → Ct} (bb : α → β) (G : FnOk X.prog X.w X.K X.mg X.base CX0 k f fd ps (PrF X.K ca F rs cr)) (hr : Room k X.A) (hg : Gl X x) (hm : X.mg x = some (.ref f)) (hk : PySem.W.keepIn X.K (.ref f) = true)
    (hb : Binds X.K fd ps []) (ha : MA X B c (e :: es) m (fun a => ims (ds a)) c1) (hbb : ∀ a, ca (bb a) = ⟨0, (ds a).map fun d => some (.im d), []⟩) (hmo : ∀ a d, mo a = some d → ∃ g, F (bb a) = some g ∧ Res (c1 a) (cr g) (rs g) (c' d) (r' d))
    (hdb : (x == ("__debug__" : Str)) = false := by decide) (he : starEach (e :: es) X.env = (false, eval e X.env) :: starEach es X.env := by rfl) (hpl : (backTo pos (starEach es X.env)).any (·.1) = false := by rfl) :
    ME X B c (.Call (.Name x p) (e :: es) [] pos) (m.bind mo) r' c' :=
  pe_mono (pe_call G hr hg hm hk hb .nil pass0 ha hdb he hpl) fun σ H Q ⟨I, as, d, g, e, q⟩ => by
    obtain ⟨a, e1, e2⟩ := Option.bind_eq_some_iff.mp e
    obtain ⟨z, hz, R⟩ := hmo a d e2
    refine ⟨I, as, a, g, e1, fun vs H1 ⟨I1, as1, g1, s1, p1, v1⟩ => ?_⟩
    show PrF X.K ca F rs cr (vs ++ []) H1 Q E0
    rw [List.append_nil]
    refine ⟨bb a, z, I1, [], hz, ?_, fun v H' I' as' g' s' h' => q v H' ((R.ok g1 g' s' h').up s1 p1)⟩
    rw [hbb a]
    have d1 := paired_ims v1
    refine ⟨Same.refl _, g1.sub, (fun a o e b => nomatch (e.symm.trans b : some o = none)), fun a o _ e => e, rfl, rfl, List.Pairwise.nil, (fun j a e => by simp at e), rfl, (fun j a ds e => by simp at e), by simp [d1.len], fun i sl e => ?_⟩
    have e : ((ds a).map fun d => some (Sl.im d))[i]? = some (some sl) := e
    rw [List.getElem?_map] at e
    cases hd : (ds a)[i]? with
    | none => rw [hd] at e; cases e
    | some d0 =>
      rw [hd] at e
      have e : some (Sl.im d0) = some sl := Option.some.inj e
      cases e
      obtain ⟨v, q1, q2⟩ := d1.get hd
      exact ⟨v, by rw [List.getElem?_map, q1]; rfl, q2⟩
/-- f(..), f may change the list in our cell j -/
def loan : Sl → Sl
  | .im d => .im d
  | .rf _ => .rf 0
theorem me_call1 {m : Option α} {ss : α → List Sl} {c1 : α → Ct} {mo : α → Option δ} {r' : δ → Sl} {c' : δ → Ct} (j : Nat) (bb : α → β) (G : FnOk X.prog X.w X.K X.mg X.base CX0 k f fd ps (PrF X.K ca F rs cr)) (hr : Room k X.A) (hg : Gl X x) (hm : X.mg x = some (.ref f)) (hk : PySem.W.keepIn X.K (.ref f) = true)
    (hb : Binds X.K fd ps []) (ha : MA X B c (e :: es) m ss c1) (hbb : ∀ a, ∃ dj, (c1 a).m[j]? = some dj ∧ ca (bb a) = ⟨1, (ss a).map fun s => some (loan s), [dj]⟩) (hss : ∀ a, ∀ s ∈ ss a, ∀ i, s = .rf i → i = j) (hmo : ∀ a d, mo a = some d → ∃ g, F (bb a) = some g ∧ Res1 (c1 a) j (cr g) (rs g) (c' d) (r' d))
    (hdb : (x == ("__debug__" : Str)) = false := by decide) (he : starEach (e :: es) X.env = (false, eval e X.env) :: starEach es X.env := by rfl) (hpl : (backTo pos (starEach es X.env)).any (·.1) = false := by rfl) :
    ME X B c (.Call (.Name x p) (e :: es) [] pos) (m.bind mo) r' c' :=
  pe_mono (pe_call G hr hg hm hk hb .nil pass0 ha hdb he hpl) fun σ H Q ⟨I, as, d, g, e, q⟩ => by
    obtain ⟨a, e1, e2⟩ := Option.bind_eq_some_iff.mp e
    obtain ⟨z, hz, R⟩ := hmo a d e2
    refine ⟨I, as, a, g, e1, fun vs H1 ⟨I1, as1, g1, s1, p1, v1⟩ => ?_⟩
    show PrF X.K ca F rs cr (vs ++ []) H1 Q E0
    rw [List.append_nil]
    obtain ⟨dj, hdj, hca⟩ := hbb a
    obtain ⟨y, xs, hy, hyl, hyd⟩ := g1.at_ hdj
    refine ⟨bb a, z, I1, [y], hz, ?_, fun v H' I' as' g' s' h' => q v H' ((R.ok g1 hy g' s' h').up s1 p1)⟩
    rw [hca]
    have hvl : vs.length = (ss a).length := Paired.length v1
    refine ⟨Same.refl _, g1.sub, (fun a o e b => nomatch (e.symm.trans b : some o = none)), fun a o _ e => e, rfl, rfl, by simp, fun i b e => ?_, rfl, fun i b ds e f => ?_, by simp [hvl], fun i sl e => ?_⟩
    · have e := List.mem_singleton.mp (List.mem_of_getElem? e)
      subst e
      exact ⟨(g1.cell j _ hy).1, .inl (by simp)⟩
    · have e1 := List.mem_singleton.mp (List.mem_of_getElem? e)
      have f1 := List.mem_singleton.mp (List.mem_of_getElem? f)
      subst e1 f1
      exact ⟨xs, hyl, hyd⟩
    · have e : ((ss a).map fun s => some (loan s))[i]? = some (some sl) := e
      rw [List.getElem?_map] at e
      cases hs : (ss a)[i]? with
      | none => rw [hs] at e; cases e
      | some s0 =>
        rw [hs] at e
        have e : loan s0 = sl := Option.some.inj (Option.some.inj e)
        obtain ⟨v, q1, q2⟩ := paired_slot (ss' := ss a) (as' := as1) v1 (fun i sl' e => ⟨sl', e, fun _ h => h⟩) hs
        refine ⟨v, by rw [List.getElem?_map, q1]; rfl, ?_⟩
        cases s0 with
        | im d => subst e; exact q2
        | rf i0 =>
          subst e
          have := hss a _ (List.mem_of_getElem? hs) i0 rfl
          subst this
          obtain ⟨b, hb, rfl⟩ := q2
          rw [hy] at hb; cases hb
          exact ⟨y, rfl, rfl⟩
end
end M3

set_option Elab.async false
set_option linter.all false
set_option maxRecDepth 100000
set_option maxHeartbeats 4000000
namespace M3
open PySem PySem.Spec PyProof.Rows L2

/-! ### the plain comprehensions -/
def compX {τ S υ : Type} (f : τ → S → Option (Option υ × S)) : List τ → S → Option (List υ × S)
  | [], s => some ([], s)
  | x :: xs, s => (f x s).bind fun p => (compX f xs p.2).bind fun q => some (match p.1 with | none => q.1 | some y => y :: q.1, q.2)
def mapO {τ υ : Type} (f : τ → Option υ) : List τ → Option (List υ)
  | [] => some []
  | x :: xs => (f x).bind fun y => (mapO f xs).bind fun ys => some (y :: ys)
def fmapO {τ υ : Type} (t : τ → Option Bool) (f : τ → Option υ) : List τ → Option (List υ)
  | [] => some []
  | x :: xs => (t x).bind fun b => if b = true then (f x).bind fun y => (fmapO t f xs).bind fun ys => some (y :: ys) else fmapO t f xs
def mapX {τ S υ : Type} (f : τ → S → Option (υ × S)) : List τ → S → Option (List υ × S)
  | [], s => some ([], s)
  | x :: xs, s => (f x s).bind fun p => (mapX f xs p.2).bind fun q => some (p.1 :: q.1, q.2)
theorem mapO_some {τ υ : Type} (f : τ → υ) : ∀ xs : List τ, mapO (fun x => some (f x)) xs = some (xs.map f)
  | [] => rfl
  | x :: xs => by
    show ((mapO (fun x => some (f x)) xs).bind fun ys => some (f x :: ys)) = _
    rw [mapO_some f xs]; rfl
theorem fmapO_some {τ υ : Type} (p : τ → Bool) (f : τ → υ) : ∀ xs : List τ, fmapO (fun x => some (p x)) (fun x => some (f x)) xs = some ((xs.filter p).map f)
  | [] => rfl
  | x :: xs => by
    show (if p x = true then (fmapO (fun x => some (p x)) (fun x => some (f x)) xs).bind fun ys => some (f x :: ys) else fmapO (fun x => some (p x)) (fun x => some (f x)) xs) = _
    rw [fmapO_some p f xs]
    by_cases h : p x = true
    · rw [if_pos h, List.filter_cons_of_pos h]; rfl
    · rw [if_neg h, List.filter_cons_of_neg h]
theorem compX_mapO {τ υ : Type} (f : τ → Option υ) : ∀ (xs : List τ) (ys : List υ), mapO f xs = some ys → compX (fun x (_ : Unit) => (f x).bind fun w => some (some w, ())) xs () = some (ys, ())
  | [], ys, h => by cases h; rfl
  | x :: xs, ys, h => by
    obtain ⟨y, e1, h⟩ := Option.bind_eq_some_iff.mp h
    obtain ⟨zs, e2, h⟩ := Option.bind_eq_some_iff.mp h
    cases h
    show ((f x).bind _).bind _ = _
    rw [e1]
    show (compX _ xs ()).bind _ = _
    rw [compX_mapO f xs zs e2]; rfl
theorem compX_fmapO {τ υ : Type} (t : τ → Option Bool) (f : τ → Option υ) : ∀ (xs : List τ) (ys : List υ), fmapO t f xs = some ys → compX (fun x (_ : Unit) => (t x).bind fun b => if b = true then (f x).bind fun w => some (some w, ()) else some (none, ())) xs () = some (ys, ())
  | [], ys, h => by cases h; rfl
  | x :: xs, ys, h => by
    obtain ⟨b, e0, h⟩ := Option.bind_eq_some_iff.mp h
    show ((t x).bind _).bind _ = _
    rw [e0]
    show (if b = true then _ else _ : Option (Option υ × Unit)).bind _ = _
    by_cases hb : b = true
    · rw [if_pos hb] at h ⊢
      obtain ⟨y, e1, h⟩ := Option.bind_eq_some_iff.mp h
      obtain ⟨zs, e2, h⟩ := Option.bind_eq_some_iff.mp h
      cases h
      rw [e1]
      show (compX _ xs ()).bind _ = _
      rw [compX_fmapO t f xs zs e2]; rfl
    · rw [if_neg hb] at h ⊢
      show (compX _ xs ()).bind _ = _
      rw [compX_fmapO t f xs ys h]; rfl
theorem compX_mapX {τ S υ : Type} (f : τ → S → Option (υ × S)) : ∀ (xs : List τ) (s : S) (z : List υ × S), mapX f xs s = some z → compX (fun x s => (f x s).bind fun w => some (some w.1, w.2)) xs s = some z
  | [], s, z, h => h
  | x :: xs, s, z, h => by
    obtain ⟨p, e1, h⟩ := Option.bind_eq_some_iff.mp h
    obtain ⟨q, e2, h⟩ := Option.bind_eq_some_iff.mp h
    cases h
    show ((f x s).bind _).bind _ = _
    rw [e1]
    show (compX _ xs p.2).bind _ = _
    rw [compX_mapX f xs p.2 q e2]; rfl

section
variable {K : PySem.W.Frag} {B : Bs} {c : Ct} {σ : St} {H I : Hp} {as : List Addr}
/-! ### the block of a comprehension -/
def wpS (s : List (Option Sl)) : List Nat → List (Option Sl)
  | [] => s
  | v :: vs => (wpS s vs).set v none
def Ct.wp (c : Ct) (vs : List Nat) : Ct := ⟨c.b, wpS c.s vs, c.m⟩
theorem wpS_length (s : List (Option Sl)) : ∀ vs, (wpS s vs).length = s.length
  | [] => rfl
  | v :: vs => by show ((wpS s vs).set v none).length = _; rw [List.length_set, wpS_length s vs]
theorem wpS_some {s : List (Option Sl)} {i : Nat} {sl : Sl} : ∀ {vs : List Nat}, (wpS s vs)[i]? = some (some sl) → s[i]? = some (some sl) ∧ i ∉ vs
  | [], h => ⟨h, by simp⟩
  | v :: vs, h => by
    have h : ((wpS s vs).set v none)[i]? = some (some sl) := h
    by_cases hi : v = i
    · subst hi
      by_cases hv : v < (wpS s vs).length
      · rw [List.getElem?_set_self hv] at h; cases h
      · rw [List.getElem?_eq_none (by rw [List.length_set]; omega)] at h; cases h
    · rw [List.getElem?_set_ne hi] at h
      obtain ⟨h1, h2⟩ := wpS_some h
      exact ⟨h1, fun m => (List.mem_cons.mp m).elim (fun e => hi e.symm) h2⟩
theorem wipe_get (σ : St) (i : Nat) : ∀ vs : List Nat, (wipe σ vs)[i]? = if i ∈ vs then (if i < σ.length then some none else none) else σ[i]?
  | [] => by simp [wipe]
  | v :: vs => by
    show ((wipe σ vs).set v none)[i]? = _
    by_cases hi : v = i
    · subst hi
      rw [if_pos (by simp)]
      by_cases hv : v < σ.length
      · rw [List.getElem?_set_self (by rw [wipe_length]; exact hv), if_pos hv]
      · rw [List.getElem?_eq_none (by rw [List.length_set, wipe_length]; omega), if_neg hv]
    · rw [List.getElem?_set_ne hi, wipe_get σ i vs]
      by_cases hm : i ∈ vs
      · rw [if_pos hm, if_pos (List.mem_cons_of_mem _ hm)]
      · rw [if_neg hm, if_neg (fun m => (List.mem_cons.mp m).elim (fun e => hi e.symm) hm)]
theorem wipe_eq {σ σ' : St} {vs is : List Nat} (hl : σ'.length = (wipe σ vs).length) (h : ∀ k, k ∉ is → σ'[k]? = (wipe σ vs)[k]?) (hs : ∀ i ∈ is, i ∈ vs) : wipe σ' vs = wipe σ vs := by
  apply List.ext_getElem?
  intro i
  rw [wipe_length] at hl
  rw [wipe_get]
  by_cases hm : i ∈ vs
  · rw [if_pos hm, wipe_get, if_pos hm, hl]
  · rw [if_neg hm, h i fun z => hm (hs i z)]
theorem Ge.wp (g : Ge K B c σ H I as) (vs : List Nat) : Ge K B (c.wp vs) (wipe σ vs) H I as := by
  refine ⟨g.ext, g.sub, g.new, g.frm, g.bl, g.pre, g.nd, g.cell, g.len, g.con, ?_, fun i sl e => ?_⟩
  · show (wipe σ vs).length = (wpS c.s vs).length
    rw [wipe_length, wpS_length]; exact g.slen
  · obtain ⟨h1, h2⟩ := wpS_some e
    obtain ⟨v, h3, h4⟩ := g.slot i sl h1
    exact ⟨v, by rw [wipe_get, if_neg h2]; exact h3, h4⟩
/-- other names over the same cells -/
theorem Ge.over {c2 : Ct} {σ2 : St} {H2 I2 : Hp} {s : List (Option Sl)} {b : Nat} (g : Ge K B c2 σ2 H2 I2 as) (hb : b = B.ps.length) (hs : σ.length = s.length) (hv : ∀ (i : Nat) sl, s[i]? = some (some sl) → ∃ v, σ[i]? = some (some v) ∧ VS K I2 as v sl) : Ge K B ⟨b, s, c2.m⟩ σ H2 I2 as :=
  ⟨g.ext, g.sub, g.new, g.frm, hb, by show as.take b = B.ps; rw [hb, ← g.bl]; exact g.pre, g.nd, g.cell, g.len, g.con, hs, hv⟩
/-- the last cell is frozen -/
theorem Ge.unad {D0 : Addr} {ds : List D} (g : Ge K B (c.ad ds) σ H I (as ++ [D0])) (hs : ∀ (i : Nat) sl, c.s[i]? = some (some sl) → ∃ v, σ[i]? = some (some v) ∧ VS K I as v sl) : ∃ xs, H D0 = some (.lst xs) ∧ DpAll K I xs ds ∧ I D0 = none ∧ (c.b ≤ as.length → Ge K B c σ H (upd I D0 (.lst xs)) as) := by
  have hl : as.length = c.m.length := by
    have := g.len
    have e : (as ++ [D0]).length = (c.m ++ [ds]).length := this
    rw [List.length_append, List.length_append] at e
    simpa using e
  have hD : (as ++ [D0])[as.length]? = some D0 := by rw [List.getElem?_append_right (Nat.le_refl _), Nat.sub_self]; rfl
  obtain ⟨xs, h1, h2⟩ := g.con as.length D0 ds hD (by show (c.m ++ [ds])[as.length]? = some ds; rw [hl, List.getElem?_append_right (Nat.le_refl _), Nat.sub_self]; rfl)
  obtain ⟨h3, h4⟩ := g.cell _ _ hD
  refine ⟨xs, h1, h2, h3, fun hb => ?_⟩
  have nd := List.nodup_append.mp g.nd
  have na : D0 ∉ as := fun m => nd.2.2 D0 m D0 (by simp) rfl
  have hpre : as.take c.b = B.ps := by
    have := g.pre
    have e : (as ++ [D0]).take c.b = B.ps := this
    rw [List.take_append_of_le_length hb] at e; exact e
  have nB : D0 ∉ B.ps := fun m => by rw [← hpre] at m; exact na (List.mem_of_mem_take m)
  have g0 : Ge K B c σ H I as := by
    refine ⟨g.ext, g.sub, g.new, g.frm, g.bl, hpre, nd.1, fun j a e => g.cell j a (by rw [List.getElem?_append_left (List.getElem?_eq_some_iff.mp e).1]; exact e), hl, fun j a es e f => ?_, g.slen, hs⟩
    have hj := (List.getElem?_eq_some_iff.mp e).1
    exact g.con j a es (by rw [List.getElem?_append_left hj]; exact e) (by show (c.m ++ [ds])[j]? = some es; rw [List.getElem?_append_left (by omega)]; exact f)
  exact g0.ice h3 (h4.resolve_left nB) na h1
/-- the store of an item, and what it leaves -/
def TgW (K : PySem.W.Frag) (B : Bs) (g : TG) (c : Ct) (d : D) (c' : Ct) (is : List Nat) : Prop := ∀ σ H I as v Q, Ge K B c σ H I as → Dp K I v d →
  (∀ σ', Ge K B c' σ' H I as → σ'.length = σ.length → (∀ k, k ∉ is → σ'[k]? = σ[k]?) → Q σ' H) → g v σ H Q
theorem tw_name (i : Nat) {d : D} : TgW K B (gName i) c d (c.st i (.im d)) [i] := fun σ H I as v Q g h q =>
  q _ (g.sto h) (by rw [List.length_set]) fun k hk => by rw [List.getElem?_set_ne (fun e => hk (by simp [e]))]
def TgsW (K : PySem.W.Frag) (B : Bs) (g : TGs) (c : Ct) (ds : List D) (c' : Ct) (is : List Nat) : Prop := ∀ σ H I as vs Q, Ge K B c σ H I as → DpAll K I vs ds →
  (∀ σ', Ge K B c' σ' H I as → σ'.length = σ.length → (∀ k, k ∉ is → σ'[k]? = σ[k]?) → Q σ' H) → g vs σ H Q
theorem tws_nil : TgsW K B gNil c [] c [] := fun σ H I as vs Q g h q => by cases h; exact ⟨rfl, q σ g rfl fun _ _ => rfl⟩
theorem tws_cons {g : TG} {gs : TGs} {d : D} {ds : List D} {c1 c2 : Ct} {is js : List Nat} (h1 : TgW K B g c d c1 is) (h2 : TgsW K B gs c1 ds c2 js) : TgsW K B (gCons g gs) c (d :: ds) c2 (is ++ js) := fun σ H I as vs Q ge h q => by
  cases h with
  | cons a b => exact ⟨_, _, rfl, h1 σ H I as _ _ ge a fun σ' g1 l1 k1 => h2 σ' H I as _ Q g1 b fun σ2 g2 l2 k2 => q σ2 g2 (l2.trans l1) fun k hk => (k2 k fun m => hk (List.mem_append_right _ m)).trans (k1 k fun m => hk (List.mem_append_left _ m))⟩
theorem tw_tup {gs : TGs} {n : Nat} {ds : List D} {c' : Ct} {is : List Nat} (h : TgsW K B gs c ds c' is) (hn : ds.length = n := by rfl) : TgW K B (gTup K n gs) c (.tuple ds) c' is := fun σ H I as v Q g hv q => by
  obtain ⟨a, xs, rfl, h1, h2⟩ := vs_tup (I := I) (as := as) hv
  exact ⟨a, xs, rfl, g.sub.seqT h1, by rw [h2.len]; exact hn, h σ H I as xs Q g h2 q⟩
/-- the loop of a comprehension over the plain memory -/
theorem lc_ok {α S τ υ ω : Type} {mS : S → List (List D)} {k0 : τ → D} {k : υ → D} {g : TG} {tt : TT} {te : TE} {vs is : List Nat} {m : Option α} {xs : α → List τ} {s0 : α → S} {cT : S → List υ → τ → Ct} {cE : S → List υ → τ → ω → Ct} {tb : S → τ → Option Bool} {me : S → τ → Option ω} {y : S → τ → ω → υ} {sN : S → τ → ω → S}
    {c' : List υ × S → Ct} {r' : List υ × S → Sl} (hms : ∀ s s', (mS s).length = (mS s').length) (htg : ∀ s ys x, TgW K B g (((⟨c.b, c.s, mS s⟩ : Ct).wp vs).ad (ys.map k)) (k0 x) (cT s ys x) is) (his : ∀ i ∈ is, i ∈ vs)
    (hcT : ∀ s ys x, (cT s ys x).m = mS s ++ [ys.map k])
    (ht : ∀ s ys x σ H I as b Q, Ge K B (cT s ys x) σ H I as → tb s x = some b → (∀ H' I' as', Ge K B (cT s ys x) σ H' I' as' → Same I I' → as <+: as' → Q b H') → tt σ H Q)
    (he : ∀ s ys x σ H Q, tM K B (cT s ys x) (me s x) (fun w => .im (k (y s x w))) (cE s ys x) σ H Q → te σ H Q) (hcE : ∀ s ys x w, (cE s ys x w).m = mS (sN s x w) ++ [ys.map k])
    (hn : ∀ z, NewL ⟨c.b, c.s, mS z.2⟩ (z.1.map k) (c' z) (r' z)) {Q : VK}
    (q : tM K B c (m.bind fun a => compX (fun x s => (tb s x).bind fun b => if b = true then (me s x).bind fun w => some (some (y s x w), sN s x w) else some (none, s)) (xs a) (s0 a)) r' c' σ H Q) :
    tLc (tI K B c m (fun a => (xs a).map k0) (fun a => ⟨c.b, c.s, mS (s0 a)⟩)) g tt te vs σ H Q := by
  obtain ⟨I, as, z, ge, e, q⟩ := q
  obtain ⟨a, e1, e2⟩ := Option.bind_eq_some_iff.mp e
  refine ⟨I, as, a, ge, e1, fun J H1 I1 as1 g1 s1 p1 it D0 hD => ?_⟩
  have hl1 : ∀ s, (mS s).length = as1.length := fun s => by rw [hms s (s0 a)]; exact g1.len.symm
  have hb1 : c.b ≤ as1.length := by
    have := congrArg List.length g1.pre
    rw [List.length_take, ← g1.bl] at this
    have : min c.b as1.length = c.b := this
    omega
  have slots : ∀ I', Same I1 I' → ∀ as', as1 <+: as' → ∀ (i : Nat) sl, c.s[i]? = some (some sl) → ∃ v, σ[i]? = some (some v) ∧ VS K I' as' v sl := fun I' s' as' p' i sl e => by
    obtain ⟨v, h1, h2⟩ := g1.slot i sl e
    exact ⟨v, h1, h2.mono s' p'⟩
  have same : ∀ {as' : List Addr} {c2 : Ct} {σ2 : St} {H2 I2 : Hp} {s : S} {d : List D}, Ge K B c2 σ2 H2 I2 as' → c2.m = mS s ++ [d] → (as1 ++ [D0]) <+: as' → as' = as1 ++ [D0] := fun {as' c2 σ2 H2 I2 s d} g2 hm hp => by
    obtain ⟨r, hr⟩ := hp
    have hl := g2.len
    rw [hm, ← hr, List.length_append, List.length_append, List.length_append, hl1 s] at hl
    have : r = [] := List.eq_nil_of_length_eq_zero (by simp only [List.length_cons, List.length_nil] at hl; omega)
    rw [← hr, this, List.append_nil]
  refine ⟨fun i n H => n = (xs a).length - i ∧ i ≤ (xs a).length ∧ ∃ s ys zs I', Ge K B ((⟨c.b, c.s, mS s⟩ : Ct).ad (ys.map k)) σ H I' (as1 ++ [D0]) ∧ Same I1 I' ∧ compX _ ((xs a).drop i) s = some (zs, z.2) ∧ z.1 = ys ++ zs ∧ ys.length ≤ i,
    ⟨_, rfl, Nat.zero_le _, s0 a, [], z.1, I1, g1.layC hD .nil, Same.refl _, e2, rfl, Nat.le_refl _⟩, ?_⟩
  rintro i n H2 ⟨rfl, hi, s, ys, zs, I2, g2, s2, run, hz, hy⟩
  have itn := it.1
  obtain ⟨go, stop, yld⟩ := it.2 i H2 (s2.trans g2.sub)
  rw [List.length_map] at go stop yld itn
  by_cases hlt : i < (xs a).length
  · refine .inr ⟨go hlt, fun H' => ∃ s ys zs I', Ge K B ((⟨c.b, c.s, mS s⟩ : Ct).ad (ys.map k)) σ H' I' (as1 ++ [D0]) ∧ Same I1 I' ∧ compX _ ((xs a).drop (i + 1)) s = some (zs, z.2) ∧ z.1 = ys ++ zs ∧ ys.length ≤ i + 1, fun H' w => ⟨(xs a).length - (i + 1), by omega, rfl, hlt, w⟩, fun x H' yl => ?_⟩
    obtain ⟨rfl, d, ed, hd⟩ := yld x H' yl hlt
    rw [List.getElem?_map, List.getElem?_eq_getElem hlt] at ed
    have ed : k0 (xs a)[i] = d := Option.some.inj ed
    subst ed
    rw [List.drop_eq_getElem_cons hlt] at run
    obtain ⟨p, r1, r2⟩ := Option.bind_eq_some_iff.mp run
    obtain ⟨b, r3, r4⟩ := Option.bind_eq_some_iff.mp r1
    obtain ⟨u, r5, r6⟩ := Option.bind_eq_some_iff.mp r2
    refine htg s ys (xs a)[i] (wipe σ vs) H' I2 (as1 ++ [D0]) x _ (g2.wp vs) (dp_mono s2 hd) fun σ' g3 l3 k3 => ⟨wipe_eq l3 k3 his, ?_⟩
    refine ht s ys (xs a)[i] σ' H' I2 (as1 ++ [D0]) b _ g3 r3 fun H4 I4 as4 g4 s4 p4 => ?_
    have ea := same g4 (hcT s ys _) p4
    subst ea
    by_cases hb : b = true
    · rw [if_pos hb] at r4 ⊢
      obtain ⟨w, r7, r8⟩ := Option.bind_eq_some_iff.mp r4
      cases r8
      have r9 := Prod.ext_iff.mp (Option.some.inj r6)
      refine he s ys (xs a)[i] σ' H4 _ ⟨I4, _, w, g4, r7, fun v H5 ⟨I5, as5, g5, s5, p5, v5⟩ => ?_⟩
      have ea := same g5 (hcE s ys _ w) p5
      subst ea
      have hD5 : (as1 ++ [D0])[as1.length]? = some D0 := by rw [List.getElem?_append_right (Nat.le_refl _), Nat.sub_self]; rfl
      have hlast : (cE s ys (xs a)[i] w).m[as1.length]? = some (ys.map k) := by
        rw [hcE, ← hl1 (sN s (xs a)[i] w), List.getElem?_append_right (Nat.le_refl _), Nat.sub_self]; rfl
      obtain ⟨acc, q1, q2⟩ := g5.con _ _ _ hD5 hlast
      have hal := q2.len
      rw [List.length_map] at hal
      refine ⟨acc, q1, by omega, sN s (xs a)[i] w, ys ++ [y s (xs a)[i] w], u.1, I5, ?_, s2.trans (s4.trans s5), ?_, ?_, by simp; omega⟩
      · have g6 := g5.mut (ds := (ys ++ [y s (xs a)[i] w]).map k) hD5 (xs := acc ++ [v]) (by rw [List.map_append]; exact q2.app (.cons v5 .nil))
        have g7 := g6.over (b := c.b) (s := c.s) (σ := σ) g1.bl g1.slen (slots I5 (s2.trans (s4.trans s5)) _ (List.prefix_append _ _))
        have em : ((cE s ys (xs a)[i] w).mu as1.length ((ys ++ [y s (xs a)[i] w]).map k)).m = mS (sN s (xs a)[i] w) ++ [(ys ++ [y s (xs a)[i] w]).map k] := by
          show (cE s ys (xs a)[i] w).m.set _ _ = _
          rw [hcE, ← hl1 (sN s (xs a)[i] w), List.set_append_right _ _ (Nat.le_refl _), Nat.sub_self]; rfl
        rw [em] at g7
        exact g7
      · have e3 : u.2 = z.2 := r9.2
        rw [← e3]
        exact r5
      · have e3 : y s (xs a)[i] w :: u.1 = zs := r9.1
        rw [hz, ← e3, List.append_assoc]; rfl
    · rw [if_neg hb] at r4 ⊢
      cases r4
      have r9 := Prod.ext_iff.mp (Option.some.inj r6)
      have g7 := g4.over (b := c.b) (s := c.s) (σ := σ) g1.bl g1.slen (slots I4 (s2.trans s4) _ (List.prefix_append _ _))
      rw [hcT] at g7
      refine ⟨s, ys, u.1, I4, g7, s2.trans s4, ?_, ?_, by omega⟩
      · have e3 : u.2 = z.2 := r9.2
        rw [← e3]
        exact r5
      · have e3 : u.1 = zs := r9.1
        rw [hz, ← e3]
  · refine .inl ⟨stop (by omega), ?_⟩
    rw [List.drop_of_length_le (by omega)] at run
    have run : some (([] : List υ), s) = some (zs, z.2) := run
    injection run with run
    injection run with ra rb
    subst ra
    rw [List.append_nil] at hz
    obtain ⟨z1, z2⟩ := z
    simp only at hz rb
    subst hz rb
    have hn := hn (z1, s)
    have hq := q (.ref D0) H2
    revert hn hq
    generalize c' (z1, s) = cc
    generalize r' (z1, s) = rr
    intro hn hq
    cases hn with
    | im =>
      obtain ⟨l, h1, h2, h3, h4⟩ := Ge.unad (c := ⟨c.b, c.s, mS s⟩) g2 (slots I2 s2 as1 (List.prefix_refl _))
      exact hq ⟨_, as1, h4 hb1, s1.trans (s2.trans (same_upd h3)), p1, .lst (.of upd_same) (dpAll_mono (same_upd h3) h2)⟩
    | rf =>
      exact hq ⟨I2, _, g2, s1.trans s2, p1.trans (List.prefix_append _ _), D0, by show (as1 ++ [D0])[(mS s).length]? = _; rw [hl1 s, List.getElem?_append_right (Nat.le_refl _), Nat.sub_self]; rfl, rfl⟩
end
end M3

set_option Elab.async false
set_option linter.all false
set_option maxRecDepth 100000
set_option maxHeartbeats 4000000
namespace M3
open PySem PySem.Spec PyProof.Rows L2

/-! ### how data is told -/
abbrev kI : Int → D := PyData.int
abbrev kB : Bool → D := PyData.bool
abbrev kS : Str → D := PyData.str
abbrev kN : Unit → D := fun _ => .none
abbrev kD : D → D := fun d => d
abbrev kU {τ : Type} (k : τ → D) : List τ → D := fun xs => .tuple (xs.map k)
abbrev kL {τ : Type} (k : τ → D) : List τ → D := fun xs => .list (xs.map k)
abbrev kT2 {α β : Type} (a : α → D) (b : β → D) : α × β → D := fun p => .tuple [a p.1, b p.2]
abbrev kT3 {α β γ : Type} (a : α → D) (b : β → D) (c : γ → D) : α × β × γ → D := fun p => .tuple [a p.1, b p.2.1, c p.2.2]
abbrev kT4 {α β γ δ : Type} (a : α → D) (b : β → D) (c : γ → D) (d : δ → D) : α × β × γ × δ → D := fun p => .tuple [a p.1, b p.2.1, c p.2.2.1, d p.2.2.2]
def kO {τ : Type} (k : τ → D) : Option τ → D
  | none => .none
  | some a => k a

section
variable {X : Cx} {B : Bs} {c : Ct} {K : PySem.W.Frag} {σ : St} {H I : Hp} {as : List Addr}
variable {α β γ δ τ ω : Type} {e1 e2 e3 : Expr} {es : List Expr} {pos : Pos} {s1 s2 s3 s : Sl} {p1 : Option α} {p2 : Option β} {k1 : α → D} {k2 : β → D} {k : γ → D}
abbrev MP {α : Type} (X : Cx) (B : Bs) (c : Ct) (e : Expr) (m : Option α) (k : α → D) : Prop := ME X B c e m (fun z => .im (k z)) (fun _ => c)
abbrev MTP (X : Cx) (B : Bs) (c : Ct) (e : Expr) (m : Option Bool) : Prop := MT X B c e m (fun b => b) (fun _ => c)
abbrev MAP {α : Type} (X : Cx) (B : Bs) (c : Ct) (es : List Expr) (m : Option α) (ds : α → List D) : Prop := MA X B c es m (fun z => ims (ds z)) (fun _ => c)
abbrev MAI (X : Cx) (B : Bs) (c : Ct) (es : List Expr) (ds : List D) : Prop := MAV X B c es (ims ds)
/-! ### lifts of what the operators give -/
theorem O1.up {r : V → Hp → VK → Prop} {d : γ} {rs : γ → Sl} {c' : γ → Ct} (h : O1 (γ := Unit) K B r c s1 (some ()) (fun _ => s) (fun _ => c)) (hr : rs d = s := by rfl) (hc : c' d = c := by rfl) : O1 K B r c s1 (some d) rs c' :=
  fun σ H I as x Q g hg hx e q => by cases e; exact h σ H I as x Q () hg hx rfl (by rw [← hr, ← hc]; exact q)
theorem O2.up {r : R2} {d : γ} {rs : γ → Sl} {c' : γ → Ct} (h : OV2 K B r c s1 s2 s) (hr : rs d = s := by rfl) (hc : c' d = c := by rfl) : O2 K B r c s1 s2 (some d) rs c' :=
  fun σ H I as x y Q g hg hx hy e q => by cases e; exact h σ H I as x y Q () hg hx hy rfl (by rw [← hr, ← hc]; exact q)
abbrev OVA (K : PySem.W.Frag) (B : Bs) (r : List V → Hp → VK → Prop) (c : Ct) (ss : List Sl) (s : Sl) : Prop := OA (γ := Unit) K B r c ss (some ()) (fun _ => s) (fun _ => c)
theorem OA.up {r : List V → Hp → VK → Prop} {ss : List Sl} {d : γ} {rs : γ → Sl} {c' : γ → Ct} (h : OVA K B r c ss s) (hr : rs d = s := by rfl) (hc : c' d = c := by rfl) : OA K B r c ss (some d) rs c' :=
  fun σ H I as x Q g hg hx e q => by cases e; exact h σ H I as x Q () hg hx rfl (by rw [← hr, ← hc]; exact q)
/-- a partial operation on frozen data, carried to other packings -/
abbrev OP2 {γ : Type} (K : PySem.W.Frag) (B : Bs) (r : R2) (c : Ct) (s1 s2 : Sl) (m : Option γ) (k : γ → D) : Prop := O2 K B r c s1 s2 m (fun z => .im (k z)) (fun _ => c)

/-! ### partial operands -/
section
variable {op : Operator} {cop : CmpOp} {r : R2}
theorem mp_opVV {m : Option γ} (ho : OpR X (binaryOp op) r) (h1 : MV X B c e1 s1) (h2 : MV X B c e2 s2) (h : OP2 X.K B r c s1 s2 m k) : MP X B c (.BinOp e1 op e2 pos) m k := me_op (mo := fun _ _ => m) ho h1 (fun _ => h2) fun _ _ => h
theorem mp_opPV {f : α → Option γ} (ho : OpR X (binaryOp op) r) (h1 : MP X B c e1 p1 k1) (h2 : MV X B c e2 s2) (h : ∀ a, OP2 X.K B r c (.im (k1 a)) s2 (f a) k) : MP X B c (.BinOp e1 op e2 pos) (p1.bind f) k := me_op (mo := fun a _ => f a) ho h1 (fun _ => h2) fun a _ => h a
theorem mp_opVP {f : β → Option γ} (ho : OpR X (binaryOp op) r) (h1 : MV X B c e1 s1) (h2 : MP X B c e2 p2 k2) (h : ∀ b, OP2 X.K B r c s1 (.im (k2 b)) (f b) k) : MP X B c (.BinOp e1 op e2 pos) (p2.bind f) k := me_op (mo := fun _ b => f b) ho h1 (fun _ => h2) fun _ b => h b
theorem mp_opPP {f : α → β → Option γ} (ho : OpR X (binaryOp op) r) (h1 : MP X B c e1 p1 k1) (h2 : MP X B c e2 p2 k2) (h : ∀ a b, OP2 X.K B r c (.im (k1 a)) (.im (k2 b)) (f a b) k) : MP X B c (.BinOp e1 op e2 pos) (p1.bind fun a => p2.bind fun b => f a b) k := me_op ho h1 (fun _ => h2) h
theorem mp_cmpVV {m : Option γ} (ho : OpR X (compareOp cop) r) (h1 : MV X B c e1 s1) (h2 : MV X B c e2 s2) (h : OP2 X.K B r c s1 s2 m k) (hm : behindInMarks cop e2 = false := by rfl) : MP X B c (.Compare e1 [cop] [e2] pos) m k := me_cmp (mo := fun _ _ => m) ho h1 (fun _ => h2) (fun _ _ => h) hm
theorem mp_cmpPV {f : α → Option γ} (ho : OpR X (compareOp cop) r) (h1 : MP X B c e1 p1 k1) (h2 : MV X B c e2 s2) (h : ∀ a, OP2 X.K B r c (.im (k1 a)) s2 (f a) k) (hm : behindInMarks cop e2 = false := by rfl) : MP X B c (.Compare e1 [cop] [e2] pos) (p1.bind f) k := me_cmp (mo := fun a _ => f a) ho h1 (fun _ => h2) (fun a _ => h a) hm
theorem mp_cmpVP {f : β → Option γ} (ho : OpR X (compareOp cop) r) (h1 : MV X B c e1 s1) (h2 : MP X B c e2 p2 k2) (h : ∀ b, OP2 X.K B r c s1 (.im (k2 b)) (f b) k) (hm : behindInMarks cop e2 = false := by rfl) : MP X B c (.Compare e1 [cop] [e2] pos) (p2.bind f) k := me_cmp (mo := fun _ b => f b) ho h1 (fun _ => h2) (fun _ b => h b) hm
theorem mp_cmpPP {f : α → β → Option γ} (ho : OpR X (compareOp cop) r) (h1 : MP X B c e1 p1 k1) (h2 : MP X B c e2 p2 k2) (h : ∀ a b, OP2 X.K B r c (.im (k1 a)) (.im (k2 b)) (f a b) k) (hm : behindInMarks cop e2 = false := by rfl) : MP X B c (.Compare e1 [cop] [e2] pos) (p1.bind fun a => p2.bind fun b => f a b) k := me_cmp ho h1 (fun _ => h2) h hm
theorem mp_ixVV {m : Option γ} (ho : IxR X r) (h1 : MV X B c e1 s1) (h2 : MV X B c e2 s2) (h : OP2 X.K B r c s1 s2 m k) (hm : PlainIx e2 := by intro _ _; rfl) : MP X B c (.Subscript e1 e2 pos) m k := me_ix (mo := fun _ _ => m) ho h1 (fun _ => h2) (fun _ _ => h) hm
theorem mp_ixPV {f : α → Option γ} (ho : IxR X r) (h1 : MP X B c e1 p1 k1) (h2 : MV X B c e2 s2) (h : ∀ a, OP2 X.K B r c (.im (k1 a)) s2 (f a) k) (hm : PlainIx e2 := by intro _ _; rfl) : MP X B c (.Subscript e1 e2 pos) (p1.bind f) k := me_ix (mo := fun a _ => f a) ho h1 (fun _ => h2) (fun a _ => h a) hm
theorem mp_ixVP {f : β → Option γ} (ho : IxR X r) (h1 : MV X B c e1 s1) (h2 : MP X B c e2 p2 k2) (h : ∀ b, OP2 X.K B r c s1 (.im (k2 b)) (f b) k) (hm : PlainIx e2 := by intro _ _; rfl) : MP X B c (.Subscript e1 e2 pos) (p2.bind f) k := me_ix (mo := fun _ b => f b) ho h1 (fun _ => h2) (fun _ b => h b) hm
theorem mp_ixPP {f : α → β → Option γ} (ho : IxR X r) (h1 : MP X B c e1 p1 k1) (h2 : MP X B c e2 p2 k2) (h : ∀ a b, OP2 X.K B r c (.im (k1 a)) (.im (k2 b)) (f a b) k) (hm : PlainIx e2 := by intro _ _; rfl) : MP X B c (.Subscript e1 e2 pos) (p1.bind fun a => p2.bind fun b => f a b) k := me_ix ho h1 (fun _ => h2) h hm
/-- tests by a comparison -/
theorem mtp_cmpPV {f : α → Bool} (ho : OpR X (compareOp cop) r) (h1 : MP X B c e1 p1 k1) (h2 : MV X B c e2 s2) (h : ∀ a, OV2 X.K B r c (.im (k1 a)) s2 (imB (f a))) (hm : behindInMarks cop e2 = false := by rfl) : MTP X B c (.Compare e1 [cop] [e2] pos) (p1.bind fun a => some (f a)) := mt_cmp (mo := fun a _ => some (f a)) ho h1 (fun _ => h2) (fun a _ => (h a).up) hm
theorem mtp_cmpVP {f : β → Bool} (ho : OpR X (compareOp cop) r) (h1 : MV X B c e1 s1) (h2 : MP X B c e2 p2 k2) (h : ∀ b, OV2 X.K B r c s1 (.im (k2 b)) (imB (f b))) (hm : behindInMarks cop e2 = false := by rfl) : MTP X B c (.Compare e1 [cop] [e2] pos) (p2.bind fun b => some (f b)) := mt_cmp (mo := fun _ b => some (f b)) ho h1 (fun _ => h2) (fun _ b => (h b).up) hm
theorem mtp_cmpPP {f : α → β → Bool} (ho : OpR X (compareOp cop) r) (h1 : MP X B c e1 p1 k1) (h2 : MP X B c e2 p2 k2) (h : ∀ a b, OV2 X.K B r c (.im (k1 a)) (.im (k2 b)) (imB (f a b))) (hm : behindInMarks cop e2 = false := by rfl) : MTP X B c (.Compare e1 [cop] [e2] pos) (p1.bind fun a => p2.bind fun b => some (f a b)) := mt_cmp ho h1 (fun _ => h2) (fun a b => (h a b).up) hm
theorem mtp_not {m : Option Bool} (h : MTP X B c e1 m) : MTP X B c (.UnaryOp .Not e1 pos) (m.bind fun b => some (!b)) :=
  pt_mono (mt_not h) fun σ H Q ⟨I, as, z, g, e, q⟩ => by
    obtain ⟨b, e1, e2⟩ := Option.bind_eq_some_iff.mp e
    cases e2
    exact ⟨I, as, b, g, e1, q⟩
theorem mp_not {m : Option Bool} (h : MP X B c e1 m kB) : MP X B c (.UnaryOp .Not e1 pos) (m.bind fun b => some (!b)) kB :=
  pe_mono (me_not h) fun σ H Q ⟨I, as, z, g, e, q⟩ => by
    obtain ⟨b, e1, e2⟩ := Option.bind_eq_some_iff.mp e
    cases e2
    exact ⟨I, as, b, g, e1, q⟩
end
/-- a name that may hold None -/
theorem mp_some {e : Expr} {k : τ → D} {o : Option τ} (h : MV X B c e (.im (kO k o))) : MP X B c e o k :=
  pe_mono h fun σ H Q ⟨I, as, a, g, e, q⟩ => by subst e; exact ⟨I, as, (), g, rfl, q⟩
theorem mp_someP {e : Expr} {k : τ → D} {m : Option (Option τ)} (h : MP X B c e m (kO k)) : MP X B c e (m.bind fun o => o) k :=
  pe_mono h fun σ H Q ⟨I, as, a, g, e, q⟩ => by
    obtain ⟨o, e1, e2⟩ := Option.bind_eq_some_iff.mp e
    subst e2
    exact ⟨I, as, some a, g, e1, q⟩
/-- what is not None as what may be -/
theorem mv_toO {e : Expr} {k : τ → D} {x : τ} (h : MV X B c e (.im (k x))) : MV X B c e (.im (kO k (some x))) := h
theorem mp_toO {e : Expr} {k : τ → D} {m : Option τ} (h : MP X B c e m k) : MP X B c e (m.bind fun a => some (some a)) (kO k) :=
  pe_mono h fun σ H Q ⟨I, as, a, g, e, q⟩ => by
    obtain ⟨o, e1, e2⟩ := Option.bind_eq_some_iff.mp e
    cases e2
    exact ⟨I, as, o, g, e1, q⟩
/-- is None -/
def isNn : D → Bool
  | .none => true
  | _ => false
theorem dp_none {x : V} {d : D} (h : Dp K I x d) : decide (x = .non) = isNn d := by
  cases h <;> simp [isNn]
theorem o2_isN {d : D} : OV2 K B (fun x y H Q => y = .non ∧ Q (.bl (decide (x = .non))) H) c (.im d) (.im .none) (imB (isNn d)) :=
  fun σ H I as x y Q _ g hx hy _ q => ⟨vs_non hy, q _ _ (.of g (by rw [dp_none hx]; exact .bl _))⟩
theorem o2_notN {d : D} : OV2 K B (fun x y H Q => y = .non ∧ Q (.bl (!decide (x = .non))) H) c (.im d) (.im .none) (imB (!isNn d)) :=
  fun σ H I as x y Q _ g hx hy _ q => ⟨vs_non hy, q _ _ (.of g (by rw [dp_none hx]; exact .bl _))⟩
theorem kO_none {k : τ → D} (h : ∀ a, isNn (k a) = false) (o : Option τ) : isNn (kO k o) = o.isNone := by
  cases o with
  | none => rfl
  | some a => exact h a
/-- a codec that never tells None -/
class NoNone {τ : Type} (k : τ → D) : Prop where
  h : ∀ a, isNn (k a) = false
instance : NoNone kI := ⟨fun _ => rfl⟩
instance : NoNone kB := ⟨fun _ => rfl⟩
instance : NoNone kS := ⟨fun _ => rfl⟩
instance {k : τ → D} : NoNone (kU k) := ⟨fun _ => rfl⟩
instance {k : τ → D} : NoNone (kL k) := ⟨fun _ => rfl⟩
instance {a : α → D} {b : β → D} : NoNone (kT2 a b) := ⟨fun _ => rfl⟩
instance {a : α → D} {b : β → D} {d : γ → D} : NoNone (kT3 a b d) := ⟨fun _ => rfl⟩
instance {a : α → D} {b : β → D} {d : γ → D} {e : δ → D} : NoNone (kT4 a b d e) := ⟨fun _ => rfl⟩
theorem o2_isNO {k : τ → D} [n : NoNone k] {o : Option τ} : OV2 K B (fun x y H Q => y = .non ∧ Q (.bl (decide (x = .non))) H) c (.im (kO k o)) (.im .none) (imB o.isNone) := by
  have := o2_isN (K := K) (B := B) (c := c) (d := kO k o)
  rw [kO_none n.h] at this; exact this
theorem o2_notNO {k : τ → D} [n : NoNone k] {o : Option τ} : OV2 K B (fun x y H Q => y = .non ∧ Q (.bl (!decide (x = .non))) H) c (.im (kO k o)) (.im .none) (imB o.isSome) := by
  have := o2_notN (K := K) (B := B) (c := c) (d := kO k o)
  rw [kO_none n.h, show (!o.isNone) = o.isSome by cases o <;> rfl] at this
  exact this

/-! ### arguments, frozen -/
theorem mai_nil : MAI X B c [] [] := ma_nil
theorem mai_cons {d : D} {ds : List D} (h1 : MV X B c e1 (.im d)) (h2 : MAI X B c es ds) (hs : starEach (e1 :: es) X.env = (false, eval e1 X.env) :: starEach es X.env := by rfl) : MAI X B c (e1 :: es) (d :: ds) := mav_cons h1 h2 hs
theorem map_consV {d : D} {m : Option β} {ds : β → List D} (h1 : MV X B c e1 (.im d)) (h2 : MAP X B c es m ds) (hs : starEach (e1 :: es) X.env = (false, eval e1 X.env) :: starEach es X.env := by rfl) : MAP X B c (e1 :: es) m (fun b => d :: ds b) :=
  pa_mono (ma_cons h1 (fun _ => h2) hs) fun σ H Q ⟨I, as, b, g, e, q⟩ => ⟨I, as, ((), b), g, by rw [e]; rfl, q⟩
theorem map_consP {ds : List D} (h1 : MP X B c e1 p1 k1) (h2 : MAI X B c es ds) (hs : starEach (e1 :: es) X.env = (false, eval e1 X.env) :: starEach es X.env := by rfl) : MAP X B c (e1 :: es) p1 (fun a => k1 a :: ds) :=
  pa_mono (ma_cons h1 (fun _ => h2) hs) fun σ H Q ⟨I, as, a, g, e, q⟩ => ⟨I, as, (a, ()), g, by rw [e]; rfl, q⟩
theorem map_consPP {m : Option β} {ds : β → List D} (h1 : MP X B c e1 p1 k1) (h2 : MAP X B c es m ds) (hs : starEach (e1 :: es) X.env = (false, eval e1 X.env) :: starEach es X.env := by rfl) : MAP X B c (e1 :: es) (p1.bind fun a => m.bind fun b => some (a, b)) (fun z => k1 z.1 :: ds z.2) := ma_cons h1 (fun _ => h2) hs
theorem mp_tup {es : List Expr} {n : Nat} {m : Option α} {r : α → List D} (h : MAP X B c es m r) (hl : ∀ a, (r a).length ≤ 1000 := by intro _; exact Nat.le_of_ble_eq_true rfl) : MP X B c (.Tuple es n pos) m (fun a => .tuple (r a)) := me_tup h hl
theorem mp_lst {es : List Expr} {m : Option α} {r : α → List D} (h : MAP X B c es m r) (hl : ∀ a, (r a).length ≤ 1000 := by intro _; exact Nat.le_of_ble_eq_true rfl) : MP X B c (.List es pos) m (fun a => .list (r a)) := me_lst h (fun _ => .im) hl
/-- the same value told otherwise -/
theorem mp_re {m : Option α} {f : α → β} (h : MP X B c e1 m k1) (q : ∀ a, k2 (f a) = k1 a := by intro _; rfl) : MP X B c e1 (m.bind fun a => some (f a)) k2 :=
  me_map h fun a b e => by cases e; exact ⟨by rw [q], rfl⟩
/-! ### built-ins -/
section
variable {x : Str} {p : Pos} {id T : String} {R : List V → Hp → VK → Prop}
theorem mv_callB {ds : List D} (hc : CallR X (.builtin id) R) (hg : Gl X x) (hm : X.mg x = none) (hv : bootBuiltins x = some (.builtin id)) (ha : MAI X B c (e1 :: es) ds) (h : OVA X.K B R c (ims ds) s)
    (hn : x ≠ "__name__" := by decide) (hdb : (x == ("__debug__" : Str)) = false := by decide) (he : starEach (e1 :: es) X.env = (false, eval e1 X.env) :: starEach es X.env := by rfl) (hpl : (backTo pos (starEach es X.env)).any (·.1) = false := by rfl) :
    MV X B c (.Call (.Name x p) (e1 :: es) [] pos) s := me_callB (mo := fun _ => some ()) hc hg hm hv ha (fun _ => h) hn hdb he hpl
theorem mp_callB {m : Option α} {ds : α → List D} {f : α → Option γ} (hc : CallR X (.builtin id) R) (hg : Gl X x) (hm : X.mg x = none) (hv : bootBuiltins x = some (.builtin id)) (ha : MAP X B c (e1 :: es) m ds) (h : ∀ a, OA X.K B R c (ims (ds a)) (f a) (fun z => .im (k z)) (fun _ => c))
    (hn : x ≠ "__name__" := by decide) (hdb : (x == ("__debug__" : Str)) = false := by decide) (he : starEach (e1 :: es) X.env = (false, eval e1 X.env) :: starEach es X.env := by rfl) (hpl : (backTo pos (starEach es X.env)).any (·.1) = false := by rfl) :
    MP X B c (.Call (.Name x p) (e1 :: es) [] pos) (m.bind f) k := me_callB hc hg hm hv ha h hn hdb he hpl
theorem mp_callBV {ds : List D} {m : Option γ} (hc : CallR X (.builtin id) R) (hg : Gl X x) (hm : X.mg x = none) (hv : bootBuiltins x = some (.builtin id)) (ha : MAI X B c (e1 :: es) ds) (h : OA X.K B R c (ims ds) m (fun z => .im (k z)) (fun _ => c))
    (hn : x ≠ "__name__" := by decide) (hdb : (x == ("__debug__" : Str)) = false := by decide) (he : starEach (e1 :: es) X.env = (false, eval e1 X.env) :: starEach es X.env := by rfl) (hpl : (backTo pos (starEach es X.env)).any (·.1) = false := by rfl) :
    MP X B c (.Call (.Name x p) (e1 :: es) [] pos) m k := me_callB (mo := fun _ => m) hc hg hm hv ha (fun _ => h) hn hdb he hpl
theorem mv_callTy {ds : List D} (hc : CallR X (.type T) R) (hg : Gl X x) (hm : X.mg x = none) (hv : bootBuiltins x = some (.type T)) (ha : MAI X B c (e1 :: es) ds) (h : OVA X.K B R c (ims ds) s)
    (hn : x ≠ "__name__" := by decide) (hdb : (x == ("__debug__" : Str)) = false := by decide) (he : starEach (e1 :: es) X.env = (false, eval e1 X.env) :: starEach es X.env := by rfl) (hpl : (backTo pos (starEach es X.env)).any (·.1) = false := by rfl) :
    MV X B c (.Call (.Name x p) (e1 :: es) [] pos) s := me_callTy (mo := fun _ => some ()) hc hg hm hv ha (fun _ => h) hn hdb he hpl
theorem mp_callTy {m : Option α} {ds : α → List D} {f : α → Option γ} (hc : CallR X (.type T) R) (hg : Gl X x) (hm : X.mg x = none) (hv : bootBuiltins x = some (.type T)) (ha : MAP X B c (e1 :: es) m ds) (h : ∀ a, OA X.K B R c (ims (ds a)) (f a) (fun z => .im (k z)) (fun _ => c))
    (hn : x ≠ "__name__" := by decide) (hdb : (x == ("__debug__" : Str)) = false := by decide) (he : starEach (e1 :: es) X.env = (false, eval e1 X.env) :: starEach es X.env := by rfl) (hpl : (backTo pos (starEach es X.env)).any (·.1) = false := by rfl) :
    MP X B c (.Call (.Name x p) (e1 :: es) [] pos) (m.bind f) k := me_callTy hc hg hm hv ha h hn hdb he hpl
/-- a list or tuple that may stand in a cell, to a built-in -/
theorem mv_callS {id : String} (hc : CallR X (.builtin id) R) (hg : Gl X x) (hm : X.mg x = none) (hv : bootBuiltins x = some (.builtin id)) (h1 : MV X B c e1 s1) (h : OVA X.K B R c [s1] s)
    (hn : x ≠ "__name__" := by decide) (hdb : (x == ("__debug__" : Str)) = false := by decide) (he : starEach [e1] X.env = (false, eval e1 X.env) :: starEach [] X.env := by rfl) (hpl : (backTo pos (starEach [] X.env)).any (·.1) = false := by rfl) :
    MV X B c (.Call (.Name x p) [e1] [] pos) s := me_callB (mo := fun _ => some ()) hc hg hm hv (mav_cons h1 ma_nil he) (fun _ => h) hn hdb he hpl
theorem mp_callS {id : String} {m : Option γ} (hc : CallR X (.builtin id) R) (hg : Gl X x) (hm : X.mg x = none) (hv : bootBuiltins x = some (.builtin id)) (h1 : MV X B c e1 s1) (h : OA X.K B R c [s1] m (fun z => .im (k z)) (fun _ => c))
    (hn : x ≠ "__name__" := by decide) (hdb : (x == ("__debug__" : Str)) = false := by decide) (he : starEach [e1] X.env = (false, eval e1 X.env) :: starEach [] X.env := by rfl) (hpl : (backTo pos (starEach [] X.env)).any (·.1) = false := by rfl) :
    MP X B c (.Call (.Name x p) [e1] [] pos) m k := me_callB (mo := fun _ => m) hc hg hm hv (mav_cons h1 ma_nil he) (fun _ => h) hn hdb he hpl
theorem mv_callST (hc : CallR X (.type T) R) (hg : Gl X x) (hm : X.mg x = none) (hv : bootBuiltins x = some (.type T)) (h1 : MV X B c e1 s1) (h : OVA X.K B R c [s1] s)
    (hn : x ≠ "__name__" := by decide) (hdb : (x == ("__debug__" : Str)) = false := by decide) (he : starEach [e1] X.env = (false, eval e1 X.env) :: starEach [] X.env := by rfl) (hpl : (backTo pos (starEach [] X.env)).any (·.1) = false := by rfl) :
    MV X B c (.Call (.Name x p) [e1] [] pos) s := me_callTy (mo := fun _ => some ()) hc hg hm hv (mav_cons h1 ma_nil he) (fun _ => h) hn hdb he hpl
end
theorem oa1 {xs : List V} {s1 : Sl} (h : Paired (VS K I as) xs [s1]) : ∃ x, xs = [x] ∧ VS K I as x s1 := by
  cases h with
  | cons a b => cases b; exact ⟨_, rfl, a⟩
theorem oa_abs {i : Int} : OVA K B (fun xs H Q => ∃ i, xs = [V.int i] ∧ Q (.int (if i < 0 then -i else i)) H) c [imI i] (imI (i.natAbs : Int)) :=
  fun σ H I as xs Q _ g hx _ q => by
    obtain ⟨x, rfl, h0⟩ := oa1 hx
    exact ⟨i, by rw [vs_int h0], q _ _ (.of g (by
      have e : (if i < 0 then -i else i) = (i.natAbs : Int) := by split <;> omega
      rw [e]; exact .int _))⟩
theorem oa_int {i : Int} : OVA K B (fun xs H Q => (∃ i, xs = [V.int i] ∧ Q (.int i) H) ∨ ∃ k : Bool, xs = [V.bl k] ∧ Q (.int (if k then 1 else 0)) H) c [imI i] (imI i) :=
  fun σ H I as xs Q _ g hx _ q => by
    obtain ⟨x, rfl, h0⟩ := oa1 hx
    exact .inl ⟨i, by rw [vs_int h0], q _ _ (.of g (.int _))⟩
theorem oa_intB {b : Bool} : OVA K B (fun xs H Q => (∃ i, xs = [V.int i] ∧ Q (.int i) H) ∨ ∃ k : Bool, xs = [V.bl k] ∧ Q (.int (if k then 1 else 0)) H) c [imB b] (imI (if b then 1 else 0)) :=
  fun σ H I as xs Q _ g hx _ q => by
    obtain ⟨x, rfl, h0⟩ := oa1 hx
    exact .inr ⟨b, by rw [vs_bl h0], q _ _ (.of g (.int _))⟩
theorem oa2 {xs : List V} {s1 s2 : Sl} (h : Paired (VS K I as) xs [s1, s2]) : ∃ x y, xs = [x, y] ∧ VS K I as x s1 ∧ VS K I as y s2 := by
  cases h with
  | cons a b =>
    cases b with
    | cons b d => cases d; exact ⟨_, _, rfl, a, b⟩
theorem oa_max {i j : Int} : OVA K B (fun xs H Q => ∃ i j, xs = [V.int i, V.int j] ∧ Q (.int (if j > i then j else i)) H) c [imI i, imI j] (imI (max i j)) :=
  fun σ H I as xs Q _ g hx _ q => by
    obtain ⟨x, y, rfl, h0, hy⟩ := oa2 hx
    exact ⟨i, j, by rw [vs_int h0, vs_int hy], q _ _ (.of g (by
      have e : (if j > i then j else i) = max i j := by split <;> omega
      rw [e]; exact .int _))⟩
theorem oa_min {i j : Int} : OVA K B (fun xs H Q => ∃ i j, xs = [V.int i, V.int j] ∧ Q (.int (if j < i then j else i)) H) c [imI i, imI j] (imI (min i j)) :=
  fun σ H I as xs Q _ g hx _ q => by
    obtain ⟨x, y, rfl, h0, hy⟩ := oa2 hx
    exact ⟨i, j, by rw [vs_int h0, vs_int hy], q _ _ (.of g (by
      have e : (if j < i then j else i) = min i j := by split <;> omega
      rw [e]; exact .int _))⟩
theorem oa_gcd {i j : Int} : OVA K B rGcd c [imI i, imI j] (imI (Nat.gcd i.natAbs j.natAbs : Int)) :=
  fun σ H I as xs Q _ g hx _ q => by
    obtain ⟨x, y, rfl, h0, hy⟩ := oa2 hx
    exact ⟨i, j, by rw [vs_int h0, vs_int hy], q _ _ (.of g (.int _))⟩
/-- gcd by its imported name -/
theorem mv_gcd {x : Str} {p : Pos} {i j : Int} (hg : Gl X x) (hm : X.mg x = some (.builtin "math.gcd")) (ha : MAI X B c [e1, e2] [.int i, .int j]) (hdb : (x == ("__debug__" : Str)) = false := by decide)
    (he : starEach [e1, e2] X.env = (false, eval e1 X.env) :: starEach [e2] X.env := by rfl) (hpl : (backTo pos (starEach [e2] X.env)).any (·.1) = false := by rfl) : MV X B c (.Call (.Name x p) [e1, e2] [] pos) (imI (Nat.gcd i.natAbs j.natAbs : Int)) :=
  pe_mono (pe_callBfun cr_gcd hg hm ha hdb he hpl) fun σ H Q q => tCB_ok (mo := fun _ => some ()) (fun _ => oa_gcd) q
theorem mp_gcd {x : Str} {p : Pos} {m : Option α} {i j : α → Int} (hg : Gl X x) (hm : X.mg x = some (.builtin "math.gcd")) (ha : MAP X B c [e1, e2] m (fun a => [.int (i a), .int (j a)])) (hdb : (x == ("__debug__" : Str)) = false := by decide)
    (he : starEach [e1, e2] X.env = (false, eval e1 X.env) :: starEach [e2] X.env := by rfl) (hpl : (backTo pos (starEach [e2] X.env)).any (·.1) = false := by rfl) : MP X B c (.Call (.Name x p) [e1, e2] [] pos) (m.bind fun a => some (Nat.gcd (i a).natAbs (j a).natAbs : Int)) kI :=
  pe_mono (pe_callBfun cr_gcd hg hm ha hdb he hpl) fun σ H Q q => tCB_ok (fun _ => oa_gcd.up) q
/-- lists of ints: V's of them -/
theorem dp_ints : ∀ {ns : List Int} {xs : List V}, DpAll K I xs (ns.map .int) → xs = ns.map V.int
  | [], _, .nil => rfl
  | n :: ns, _, .cons h a => by cases (h : Dp K I _ (.int n)); rw [List.map_cons, dp_ints a]
theorem dp_bls : ∀ {ns : List Bool} {xs : List V}, DpAll K I xs (ns.map .bool) → xs = ns.map V.bl
  | [], _, .nil => rfl
  | n :: ns, _, .cons h a => by cases (h : Dp K I _ (.bool n)); rw [List.map_cons, dp_bls a]
theorem oa_sum {ns : List Int} (l : LsOf c (ns.map kI) s1) : OVA K B (rSum K) c [s1] (imI ns.sum) := fun σ H I as xs Q _ g hx _ q => by
  obtain ⟨x, rfl, h0⟩ := oa1 hx
  obtain ⟨a, vs, rfl, h1, h2⟩ := l.get g h0
  rw [dp_ints h2] at h1
  exact ⟨a, ns, rfl, h1, q _ _ (.of g (.int _))⟩
def maxO : List Int → Option Int
  | [] => none
  | x :: xs => some (xs.foldl max x)
def minO : List Int → Option Int
  | [] => none
  | x :: xs => some (xs.foldl min x)
theorem foldl_max : ∀ (xs : List Int) (x : Int), (xs.foldl max x = x ∨ xs.foldl max x ∈ xs) ∧ x ≤ xs.foldl max x ∧ ∀ y ∈ xs, y ≤ xs.foldl max x
  | [], x => ⟨.inl rfl, Int.le_refl _, fun _ h => nomatch h⟩
  | y :: ys, x => by
    obtain ⟨h1, h2, h3⟩ := foldl_max ys (max x y)
    show (ys.foldl max (max x y) = x ∨ ys.foldl max (max x y) ∈ y :: ys) ∧ x ≤ ys.foldl max (max x y) ∧ ∀ z ∈ y :: ys, z ≤ ys.foldl max (max x y)
    refine ⟨?_, by omega, fun z hz => ?_⟩
    · rcases h1 with h1 | h1
      · rw [h1]
        by_cases h : y ≤ x
        · exact .inl (by omega)
        · exact .inr (by rw [show max x y = y by omega]; simp)
      · exact .inr (List.mem_cons_of_mem _ h1)
    · rcases List.mem_cons.mp hz with rfl | hz
      · omega
      · exact h3 z hz
theorem foldl_min : ∀ (xs : List Int) (x : Int), (xs.foldl min x = x ∨ xs.foldl min x ∈ xs) ∧ xs.foldl min x ≤ x ∧ ∀ y ∈ xs, xs.foldl min x ≤ y
  | [], x => ⟨.inl rfl, Int.le_refl _, fun _ h => nomatch h⟩
  | y :: ys, x => by
    obtain ⟨h1, h2, h3⟩ := foldl_min ys (min x y)
    show (ys.foldl min (min x y) = x ∨ ys.foldl min (min x y) ∈ y :: ys) ∧ ys.foldl min (min x y) ≤ x ∧ ∀ z ∈ y :: ys, ys.foldl min (min x y) ≤ z
    refine ⟨?_, by omega, fun z hz => ?_⟩
    · rcases h1 with h1 | h1
      · rw [h1]
        by_cases h : x ≤ y
        · exact .inl (by omega)
        · exact .inr (by rw [show min x y = y by omega]; simp)
      · exact .inr (List.mem_cons_of_mem _ h1)
    · rcases List.mem_cons.mp hz with rfl | hz
      · omega
      · exact h3 z hz
theorem oa_maxL {ns : List Int} (l : LsOf c (ns.map kI) s1) : OA K B (rMax K) c [s1] (maxO ns) (fun z => .im (kI z)) (fun _ => c) := fun σ H I as xs Q m g hx e q => by
  obtain ⟨x, rfl, h0⟩ := oa1 hx
  obtain ⟨a, vs, rfl, h1, h2⟩ := l.get g h0
  rw [dp_ints h2] at h1
  cases ns with
  | nil => cases e
  | cons n ns =>
    cases e
    obtain ⟨k1, k2, k3⟩ := foldl_max ns n
    refine ⟨a, n :: ns, rfl, h1, by simp, fun m hm hb => q _ _ (.of g ?_)⟩
    have e1 : ns.foldl max n ≤ m := by
      rcases k1 with k1 | k1
      · rw [k1]; exact hb n (by simp)
      · exact hb _ (List.mem_cons_of_mem _ k1)
    have e2 : m ≤ ns.foldl max n := by
      rcases List.mem_cons.mp hm with rfl | hm
      · exact k2
      · exact k3 m hm
    rw [show m = ns.foldl max n by omega]; exact .int _
theorem oa_minL {ns : List Int} (l : LsOf c (ns.map kI) s1) : OA K B (rMin K) c [s1] (minO ns) (fun z => .im (kI z)) (fun _ => c) := fun σ H I as xs Q m g hx e q => by
  obtain ⟨x, rfl, h0⟩ := oa1 hx
  obtain ⟨a, vs, rfl, h1, h2⟩ := l.get g h0
  rw [dp_ints h2] at h1
  cases ns with
  | nil => cases e
  | cons n ns =>
    cases e
    obtain ⟨k1, k2, k3⟩ := foldl_min ns n
    refine ⟨a, n :: ns, rfl, h1, by simp, fun m hm hb => q _ _ (.of g ?_)⟩
    have e1 : m ≤ ns.foldl min n := by
      rcases k1 with k1 | k1
      · rw [k1]; exact hb n (by simp)
      · exact hb _ (List.mem_cons_of_mem _ k1)
    have e2 : ns.foldl min n ≤ m := by
      rcases List.mem_cons.mp hm with rfl | hm
      · exact k2
      · exact k3 m hm
    rw [show m = ns.foldl min n by omega]; exact .int _
theorem oa_any {ns : List Bool} (l : LsOf c (ns.map kB) s1) : OVA K B (rAny K) c [s1] (imB (ns.any id)) := fun σ H I as xs Q _ g hx _ q => by
  obtain ⟨x, rfl, h0⟩ := oa1 hx
  obtain ⟨a, vs, rfl, h1, h2⟩ := l.get g h0
  rw [dp_bls h2] at h1
  exact ⟨a, ns, rfl, h1, q _ _ (.of g (.bl _))⟩
theorem oa_all {ns : List Bool} (l : LsOf c (ns.map kB) s1) : OVA K B (rAll K) c [s1] (imB (ns.all id)) := fun σ H I as xs Q _ g hx _ q => by
  obtain ⟨x, rfl, h0⟩ := oa1 hx
  obtain ⟨a, vs, rfl, h1, h2⟩ := l.get g h0
  rw [dp_bls h2] at h1
  exact ⟨a, ns, rfl, h1, q _ _ (.of g (.bl _))⟩
/-- tuple(xs) -/
theorem oa_tup {ds : List D} (l : SqOf c ds s1) : OVA K B (fun xs H Q => ∃ p ys, xs = [V.ref p] ∧ ((SqL K H p ys ∧ ∀ l, H l = none → Q (.ref l) (upd H l (.tup ys))) ∨ (SqT K H p ys ∧ Q (.ref p) H))) c [s1] (.im (.tuple ds)) := fun σ H I as xs Q _ g hx _ q => by
  obtain ⟨x, rfl, h0⟩ := oa1 hx
  cases l with
  | im =>
    obtain ⟨a, vs, rfl, h1, h2⟩ := LsOf.get (c := c) .im g h0
    exact ⟨a, vs, rfl, .inl ⟨h1, fun p hp => q _ _ (After.layT g hp h2)⟩⟩
  | rf hj =>
    obtain ⟨a, vs, rfl, h1, h2⟩ := LsOf.get (.rf hj) g h0
    exact ⟨a, vs, rfl, .inl ⟨h1, fun p hp => q _ _ (After.layT g hp h2)⟩⟩
  | tup =>
    have hx' := h0
    obtain ⟨a, vs, rfl, h1, h2⟩ := vs_tup h0
    exact ⟨a, vs, rfl, .inr ⟨g.sub.seqT h1, q _ _ (.of g hx')⟩⟩
/-- list(xs): a new list -/
theorem oa_list {ds : List D} {c' : Ct} (l : SqOf c ds s1) (n : NewL c ds c' s) : OA (γ := Unit) K B (fun xs H Q => ∃ p ys, xs = [V.ref p] ∧ (SqL K H p ys ∨ SqT K H p ys) ∧ ∀ l, H l = none → Q (.ref l) (upd H l (.lst ys))) c [s1] (some ()) (fun _ => s) (fun _ => c') := fun σ H I as xs Q _ g hx _ q => by
  obtain ⟨x, rfl, h0⟩ := oa1 hx
  obtain ⟨a, vs, rfl, h1, h2⟩ := l.get g h0
  exact ⟨a, vs, rfl, h1, fun p hp => q _ _ (After.layN g n hp h2)⟩
end
end M3

set_option Elab.async false
set_option linter.all false
set_option maxRecDepth 100000
set_option maxHeartbeats 4000000
namespace M3
open PySem PySem.Spec PyProof.Rows L2

section
variable {X : Cx} {B : Bs} {c : Ct} {K : PySem.W.Frag} {σ : St} {H I : Hp} {as : List Addr}
variable {α β γ δ τ υ ω S : Type} {e1 e2 e3 : Expr} {es : List Expr} {pos : Pos}
/-! ### comprehensions -/
abbrev Blk (X : Cx) (scope : Scope) (φ : Cx → Prop) : Prop := ∀ (s : Shared) (H : Hp) (C : Addr) (cl : List (Str × Addr)) (fp : List Addr), φ (X.blk s H scope (compEnvC scope cl C X.env) fp)
/-- the tests of a comprehension over the plain memory: none, or one -/
inductive Ifs (X : Cx) (B : Bs) (scope : Scope) (cT : S → List υ → τ → Ct) : List Expr → (S → τ → Option Bool) → Prop
  | none : Ifs X B scope cT [] (fun _ _ => some true)
  | one {t : Expr} {tb : S → τ → Option Bool} (h : ∀ s ys x, Blk X scope fun Y => MT Y B (cT s ys x) t (tb s x) (fun b => b) (fun _ => cT s ys x)) : Ifs X B scope cT [t] tb
theorem Ifs.get {scope : Scope} {cT : S → List υ → τ → Ct} {ifs : List Expr} {tb : S → τ → Option Bool} (h : Ifs X B scope cT ifs tb) : ∃ tt, (Blk X scope fun Y => PTs Y ifs tt) ∧
    ∀ s ys x σ H I as b Q, Ge X.K B (cT s ys x) σ H I as → tb s x = some b → (∀ H' I' as', Ge X.K B (cT s ys x) σ H' I' as' → Same I I' → as <+: as' → Q b H') → tt σ H Q := by
  cases h with
  | none => exact ⟨tYes, fun _ _ _ _ _ => pts_nil, fun s ys x σ H I as b Q g e q => by cases e; exact q H I as g (Same.refl _) (List.prefix_refl _)⟩
  | one h => exact ⟨_, fun s H C cl fp => pts_one (pt_fam (t := fun i : S × List υ × τ => tMT X.K B (cT i.1 i.2.1 i.2.2) (tb i.1 i.2.2) (fun b => b) (fun _ => cT i.1 i.2.1 i.2.2)) fun i => h i.1 i.2.1 i.2.2 s H C cl fp), fun s ys x σ H I as b Q g e q => ⟨(s, ys, x), I, as, b, g, e, q⟩⟩
section
variable {tg iter elt : Expr} {ifs : List Expr} {scope : Scope} {own : List (Str × Nat)} {g : TG} {m : Option α} {xs : α → List τ} {mS : S → List (List D)} {s0 : α → S} {k0 : τ → D} {k : υ → D} {is : List Nat}
  {cT : S → List υ → τ → Ct} {cE : S → List υ → τ → ω → Ct} {tb : S → τ → Option Bool} {me : S → τ → Option ω} {y : S → τ → ω → υ} {sN : S → τ → ω → S} {c' : List υ × S → Ct} {r' : List υ × S → Sl}
theorem me_lcG (hc : X.calm = true) (hN : X.N.Nodup) (hi : MI X B c tg iter m (fun a => (xs a).map k0) (fun a => ⟨c.b, c.s, mS (s0 a)⟩)) (ok : BlkOk X.N X.env.scope scope own) (hg : Blk X scope fun Y => PG Y tg g) (ht : Ifs X B scope cT ifs tb)
    (hms : ∀ s s', (mS s).length = (mS s').length) (htg : ∀ s ys x, TgW X.K B g (((⟨c.b, c.s, mS s⟩ : Ct).wp (own.map (·.2))).ad (ys.map k)) (k0 x) (cT s ys x) is) (his : ∀ i ∈ is, i ∈ own.map (·.2)) (hcT : ∀ s ys x, (cT s ys x).m = mS s ++ [ys.map k])
    (he : ∀ s ys x, Blk X scope fun Y => ME Y B (cT s ys x) elt (me s x) (fun w => .im (k (y s x w))) (cE s ys x)) (hcE : ∀ s ys x w, (cE s ys x w).m = mS (sN s x w) ++ [ys.map k]) (hn : ∀ z, NewL ⟨c.b, c.s, mS z.2⟩ (z.1.map k) (c' z) (r' z))
    (hs : ∀ x, foldedSetIterable iter X.env x = pure x := by intro _; rfl) :
    ME X B c (.ListComp elt [⟨tg, iter, ifs, 0⟩] scope pos) (m.bind fun a => compX (fun x s => (tb s x).bind fun b => if b = true then (me s x).bind fun w => some (some (y s x w), sN s x w) else some (none, s)) (xs a) (s0 a)) r' c' := by
  obtain ⟨tt, ht1, ht2⟩ := ht.get
  exact pe_mono (pe_lc hc hN hi ok hg ht1 (fun s H C cl fp => pe_fam (t := fun i : S × List υ × τ => tM X.K B (cT i.1 i.2.1 i.2.2) (me i.1 i.2.2) (fun w => .im (k (y i.1 i.2.2 w))) (cE i.1 i.2.1 i.2.2)) fun i => he i.1 i.2.1 i.2.2 s H C cl fp) hs) fun σ H Q q => lc_ok hms htg his hcT ht2 (fun s ys x σ H Q h => ⟨(s, ys, x), h⟩) hcE hn q
theorem ms_lcG {i : Nat} {v : Str} {py spos : Pos} (hc : X.calm = true) (hN : X.N.Nodup) (hy : X.N[i]? = some v) (hyl : X.env.scope.names.lookup v = some .local) (hsw : swapsWith (.ListComp elt [⟨tg, iter, ifs, 0⟩] scope pos) (some (.Name v py)) spos.line X.env = pure true)
    (hi : MI X B c tg iter m (fun a => (xs a).map k0) (fun a => ⟨c.b, c.s, mS (s0 a)⟩)) (ok : BlkOk X.N X.env.scope scope own) (hg : Blk X scope fun Y => PG Y tg g) (ht : Ifs X B scope cT ifs tb)
    (hms : ∀ s s', (mS s).length = (mS s').length) (htg : ∀ s ys x, TgW X.K B g (((⟨c.b, c.s, mS s⟩ : Ct).wp (own.map (·.2))).ad (ys.map k)) (k0 x) (cT s ys x) is) (his : ∀ i ∈ is, i ∈ own.map (·.2)) (hcT : ∀ s ys x, (cT s ys x).m = mS s ++ [ys.map k])
    (he : ∀ s ys x, Blk X scope fun Y => ME Y B (cT s ys x) elt (me s x) (fun w => .im (k (y s x w))) (cE s ys x)) (hcE : ∀ s ys x w, (cE s ys x w).m = mS (sN s x w) ++ [ys.map k]) (hn : ∀ z, NewL ⟨c.b, c.s, mS z.2⟩ (z.1.map k) (c' z) (r' z))
    (hs : ∀ x, foldedSetIterable iter X.env x = pure x := by intro _; rfl) :
    MS X B c (.Assign [.Name v py] (.ListComp elt [⟨tg, iter, ifs, 0⟩] scope pos) spos) (m.bind fun a => compX (fun x s => (tb s x).bind fun b => if b = true then (me s x).bind fun w => some (some (y s x w), sN s x w) else some (none, s)) (xs a) (s0 a)) (fun z => .nx ((c' z).st i (r' z))) := by
  obtain ⟨tt, ht1, ht2⟩ := ht.get
  exact ps_mono (ps_setLc hc hN hy hyl hsw hi ok hg ht1 (fun s H C cl fp => pe_fam (t := fun i : S × List υ × τ => tM X.K B (cT i.1 i.2.1 i.2.2) (me i.1 i.2.2) (fun w => .im (k (y i.1 i.2.2 w))) (cE i.1 i.2.1 i.2.2)) fun i => he i.1 i.2.1 i.2.2 s H C cl fp) hs) fun E σ H ⟨I, as, z, ge, e, q⟩ => lc_ok hms htg his hcT ht2 (fun s ys x σ H Q h => ⟨(s, ys, x), h⟩) hcE hn
    ⟨I, as, z, ge, e, fun v H1 ⟨I1, as1, g1, s1, _, v1⟩ => q _ H1 I1 as1 (g1.sto v1) s1⟩
end
/-! pure comprehensions: no test; a test -/
section
variable {tg iter elt t : Expr} {scope : Scope} {own : List (Str × Nat)} {g : TG} {m : Option α} {xs : α → List τ} {k0 : τ → D} {k : υ → D} {is : List Nat} {cT : List υ → τ → Ct} {tb : τ → Option Bool} {me : τ → Option υ} {c' : List υ → Ct} {r' : List υ → Sl}
theorem me_lc (hc : X.calm = true) (hN : X.N.Nodup) (hi : MI X B c tg iter m (fun a => (xs a).map k0) (fun _ => c)) (ok : BlkOk X.N X.env.scope scope own) (hg : Blk X scope fun Y => PG Y tg g)
    (htg : ∀ ys x, TgW X.K B g ((c.wp (own.map (·.2))).ad (ys.map k)) (k0 x) (cT ys x) is) (he : ∀ ys x, Blk X scope fun Y => MP Y B (cT ys x) elt (me x) k) (hn : ∀ ys, NewL c (ys.map k) (c' ys) (r' ys))
    (hcT : ∀ ys x, (cT ys x).m = c.m ++ [ys.map k] := by intros; rfl) (his : ∀ i ∈ is, i ∈ own.map (·.2) := by decide) (hs : ∀ x, foldedSetIterable iter X.env x = pure x := by intro _; rfl) :
    ME X B c (.ListComp elt [⟨tg, iter, [], 0⟩] scope pos) (m.bind fun a => mapO me (xs a)) r' c' :=
  pe_mono (me_lcG (S := Unit) (mS := fun _ => c.m) (s0 := fun _ => ()) (cT := fun _ => cT) (cE := fun _ ys x _ => cT ys x) (me := fun _ x => me x) (y := fun _ _ w => w) (sN := fun _ _ _ => ()) (c' := fun z => c' z.1) (r' := fun z => r' z.1) hc hN hi ok hg .none (fun _ _ => rfl) (fun _ => htg) his (fun _ => hcT) (fun _ => he) (fun _ ys x _ => hcT ys x) (fun z => hn z.1) hs)
    fun σ H Q ⟨I, as, z, ge, e, q⟩ => by
      obtain ⟨a, e1, e2⟩ := Option.bind_eq_some_iff.mp e
      exact ⟨I, as, (z, ()), ge, by rw [e1]; exact compX_mapO me (xs a) z e2, q⟩
theorem me_lcf (hc : X.calm = true) (hN : X.N.Nodup) (hi : MI X B c tg iter m (fun a => (xs a).map k0) (fun _ => c)) (ok : BlkOk X.N X.env.scope scope own) (hg : Blk X scope fun Y => PG Y tg g)
    (htg : ∀ ys x, TgW X.K B g ((c.wp (own.map (·.2))).ad (ys.map k)) (k0 x) (cT ys x) is) (ht : ∀ ys x, Blk X scope fun Y => MTP Y B (cT ys x) t (tb x)) (he : ∀ ys x, Blk X scope fun Y => MP Y B (cT ys x) elt (me x) k) (hn : ∀ ys, NewL c (ys.map k) (c' ys) (r' ys))
    (hcT : ∀ ys x, (cT ys x).m = c.m ++ [ys.map k] := by intros; rfl) (his : ∀ i ∈ is, i ∈ own.map (·.2) := by decide) (hs : ∀ x, foldedSetIterable iter X.env x = pure x := by intro _; rfl) :
    ME X B c (.ListComp elt [⟨tg, iter, [t], 0⟩] scope pos) (m.bind fun a => fmapO tb me (xs a)) r' c' :=
  pe_mono (me_lcG (S := Unit) (mS := fun _ => c.m) (s0 := fun _ => ()) (cT := fun _ => cT) (cE := fun _ ys x _ => cT ys x) (me := fun _ x => me x) (y := fun _ _ w => w) (sN := fun _ _ _ => ()) (c' := fun z => c' z.1) (r' := fun z => r' z.1) hc hN hi ok hg (.one fun _ => ht) (fun _ _ => rfl) (fun _ => htg) his (fun _ => hcT) (fun _ => he) (fun _ ys x _ => hcT ys x) (fun z => hn z.1) hs)
    fun σ H Q ⟨I, as, z, ge, e, q⟩ => by
      obtain ⟨a, e1, e2⟩ := Option.bind_eq_some_iff.mp e
      exact ⟨I, as, (z, ()), ge, by rw [e1]; exact compX_fmapO tb me (xs a) z e2, q⟩
variable {i : Nat} {v : Str} {py spos : Pos}
theorem ms_lc (i : Nat) (hc : X.calm = true) (hN : X.N.Nodup) (hi : MI X B c tg iter m (fun a => (xs a).map k0) (fun _ => c)) (ok : BlkOk X.N X.env.scope scope own) (hg : Blk X scope fun Y => PG Y tg g)
    (htg : ∀ ys x, TgW X.K B g ((c.wp (own.map (·.2))).ad (ys.map k)) (k0 x) (cT ys x) is) (he : ∀ ys x, Blk X scope fun Y => MP Y B (cT ys x) elt (me x) k) (hn : ∀ ys, NewL c (ys.map k) (c' ys) (r' ys)) (hsw : swapsWith (.ListComp elt [⟨tg, iter, [], 0⟩] scope pos) (some (.Name v py)) spos.line X.env = pure true)
    (hy : X.N[i]? = some v := by rfl) (hyl : X.env.scope.names.lookup v = some .local := by rfl)
    (hcT : ∀ ys x, (cT ys x).m = c.m ++ [ys.map k] := by intros; rfl) (his : ∀ i ∈ is, i ∈ own.map (·.2) := by decide) (hs : ∀ x, foldedSetIterable iter X.env x = pure x := by intro _; rfl) :
    MS X B c (.Assign [.Name v py] (.ListComp elt [⟨tg, iter, [], 0⟩] scope pos) spos) (m.bind fun a => mapO me (xs a)) (fun z => .nx ((c' z).st i (r' z))) :=
  ps_mono (ms_lcG (S := Unit) (mS := fun _ => c.m) (s0 := fun _ => ()) (cT := fun _ => cT) (cE := fun _ ys x _ => cT ys x) (me := fun _ x => me x) (y := fun _ _ w => w) (sN := fun _ _ _ => ()) (c' := fun z => c' z.1) (r' := fun z => r' z.1) hc hN hy hyl hsw hi ok hg .none (fun _ _ => rfl) (fun _ => htg) his (fun _ => hcT) (fun _ => he) (fun _ ys x _ => hcT ys x) (fun z => hn z.1) hs)
    fun E σ H ⟨I, as, z, ge, e, q⟩ => by
      obtain ⟨a, e1, e2⟩ := Option.bind_eq_some_iff.mp e
      exact ⟨I, as, (z, ()), ge, by rw [e1]; exact compX_mapO me (xs a) z e2, q⟩
theorem ms_lcf (i : Nat) (hc : X.calm = true) (hN : X.N.Nodup) (hi : MI X B c tg iter m (fun a => (xs a).map k0) (fun _ => c)) (ok : BlkOk X.N X.env.scope scope own) (hg : Blk X scope fun Y => PG Y tg g)
    (htg : ∀ ys x, TgW X.K B g ((c.wp (own.map (·.2))).ad (ys.map k)) (k0 x) (cT ys x) is) (ht : ∀ ys x, Blk X scope fun Y => MTP Y B (cT ys x) t (tb x)) (he : ∀ ys x, Blk X scope fun Y => MP Y B (cT ys x) elt (me x) k) (hn : ∀ ys, NewL c (ys.map k) (c' ys) (r' ys)) (hsw : swapsWith (.ListComp elt [⟨tg, iter, [t], 0⟩] scope pos) (some (.Name v py)) spos.line X.env = pure true)
    (hy : X.N[i]? = some v := by rfl) (hyl : X.env.scope.names.lookup v = some .local := by rfl)
    (hcT : ∀ ys x, (cT ys x).m = c.m ++ [ys.map k] := by intros; rfl) (his : ∀ i ∈ is, i ∈ own.map (·.2) := by decide) (hs : ∀ x, foldedSetIterable iter X.env x = pure x := by intro _; rfl) :
    MS X B c (.Assign [.Name v py] (.ListComp elt [⟨tg, iter, [t], 0⟩] scope pos) spos) (m.bind fun a => fmapO tb me (xs a)) (fun z => .nx ((c' z).st i (r' z))) :=
  ps_mono (ms_lcG (S := Unit) (mS := fun _ => c.m) (s0 := fun _ => ()) (cT := fun _ => cT) (cE := fun _ ys x _ => cT ys x) (me := fun _ x => me x) (y := fun _ _ w => w) (sN := fun _ _ _ => ()) (c' := fun z => c' z.1) (r' := fun z => r' z.1) hc hN hy hyl hsw hi ok hg (.one fun _ => ht) (fun _ _ => rfl) (fun _ => htg) his (fun _ => hcT) (fun _ => he) (fun _ ys x _ => hcT ys x) (fun z => hn z.1) hs)
    fun E σ H ⟨I, as, z, ge, e, q⟩ => by
      obtain ⟨a, e1, e2⟩ := Option.bind_eq_some_iff.mp e
      exact ⟨I, as, (z, ()), ge, by rw [e1]; exact compX_fmapO tb me (xs a) z e2, q⟩
end

/-! ### with draws: the memory cx of the list of draws -/
abbrev MX {α : Type} (X : Cx) (B : Bs) (cx : List Int → Ct) (ds : List Int) (e : Expr) (m : Option (α × List Int)) (s : α → Sl) : Prop := ME X B (cx ds) e m (fun z => s z.1) (fun z => cx z.2)
abbrev MTX (X : Cx) (B : Bs) (cx : List Int → Ct) (ds : List Int) (e : Expr) (m : Option (Bool × List Int)) : Prop := MT X B (cx ds) e m (fun z => z.1) (fun z => cx z.2)
abbrev MWX (X : Cx) (B : Bs) (cx : List Int → Ct) (ds : List Int) (e : Expr) (m : Option (Bool × List Int)) : Prop := MW X B (cx ds) e m (fun z => z.1) (fun z => cx z.2)
abbrev MAX {α : Type} (X : Cx) (B : Bs) (cx : List Int → Ct) (ds : List Int) (es : List Expr) (m : Option (α × List Int)) (r : α → List Sl) : Prop := MA X B (cx ds) es m (fun z => r z.1) (fun z => cx z.2)
section
variable {cx : List Int → Ct} {ds : List Int} {m1 : Option (α × List Int)} {m2 : α → List Int → Option (β × List Int)} {t1 : α → Sl} {t2 : β → Sl} {s : Sl} {k : γ → D}
theorem mx_V {e : Expr} {k : τ → D} {v : τ} (h : MV X B (cx ds) e (.im (k v))) : MX X B cx ds e (some (v, ds)) (fun z => .im (k z)) := pe_mono h fun σ H Q ⟨I, as, d, g, e, q⟩ => ⟨I, as, (), g, rfl, by cases e; exact q⟩
theorem mx_S {e : Expr} (h : MV X B (cx ds) e s) : MX X B cx ds e (some ((), ds)) (fun _ => s) := pe_mono h fun σ H Q ⟨I, as, d, g, e, q⟩ => ⟨I, as, (), g, rfl, by cases e; exact q⟩
theorem mx_P {e : Expr} {k : τ → D} {p : Option τ} (h : MP X B (cx ds) e p k) : MX X B cx ds e (p.bind fun v => some (v, ds)) (fun z => .im (k z)) := pe_mono h fun σ H Q ⟨I, as, d, g, e, q⟩ => by
  obtain ⟨v, e1, e2⟩ := Option.bind_eq_some_iff.mp e
  cases e2
  exact ⟨I, as, v, g, e1, q⟩
theorem mtx_P {e : Expr} {p : Option Bool} (h : MTP X B (cx ds) e p) : MTX X B cx ds e (p.bind fun v => some (v, ds)) := pt_mono h fun σ H Q ⟨I, as, d, g, e, q⟩ => by
  obtain ⟨v, e1, e2⟩ := Option.bind_eq_some_iff.mp e
  cases e2
  exact ⟨I, as, v, g, e1, q⟩
theorem mtx_V {e : Expr} {b : Bool} (h : MTV X B (cx ds) e b) : MTX X B cx ds e (some (b, ds)) := pt_mono h fun σ H Q ⟨I, as, d, g, e, q⟩ => ⟨I, as, (), g, rfl, by cases e; exact q⟩
theorem O2.mx {r : R2} {s1 s2 : Sl} {m : Option γ} {c : Ct} {ds' : List Int} (hc : cx ds' = c) (h : OP2 K B r c s1 s2 m k) : O2 K B r c s1 s2 (m.bind fun z => some (z, ds')) (fun z : γ × List Int => .im (k z.1)) (fun z => cx z.2) := fun σ H I as x y Q z g hx hy e q => by
  obtain ⟨v, e1, e2⟩ := Option.bind_eq_some_iff.mp e
  cases e2
  exact h σ H I as x y Q v g hx hy e1 (by rw [← hc]; exact q)
theorem mx_op {op : Operator} {r : R2} {f : α → β → Option γ} (ho : OpR X (binaryOp op) r) (h1 : MX X B cx ds e1 m1 t1) (h2 : ∀ a ds', MX X B cx ds' e2 (m2 a ds') t2) (h : ∀ a b ds', OP2 X.K B r (cx ds') (t1 a) (t2 b) (f a b) k) :
    MX X B cx ds (.BinOp e1 op e2 pos) (m1.bind fun a => (m2 a.1 a.2).bind fun b => (f a.1 b.1).bind fun z => some (z, b.2)) (fun z => .im (k z)) := me_op ho h1 (fun a => h2 a.1 a.2) fun a b => .mx rfl (h a.1 b.1 b.2)
theorem mx_cmp {op : CmpOp} {r : R2} {f : α → β → Option γ} (ho : OpR X (compareOp op) r) (h1 : MX X B cx ds e1 m1 t1) (h2 : ∀ a ds', MX X B cx ds' e2 (m2 a ds') t2) (h : ∀ a b ds', OP2 X.K B r (cx ds') (t1 a) (t2 b) (f a b) k) (hm : behindInMarks op e2 = false := by rfl) :
    MX X B cx ds (.Compare e1 [op] [e2] pos) (m1.bind fun a => (m2 a.1 a.2).bind fun b => (f a.1 b.1).bind fun z => some (z, b.2)) (fun z => .im (k z)) := me_cmp ho h1 (fun a => h2 a.1 a.2) (fun a b => .mx rfl (h a.1 b.1 b.2)) hm
theorem mx_ix {r : R2} {f : α → β → Option γ} (ho : IxR X r) (h1 : MX X B cx ds e1 m1 t1) (h2 : ∀ a ds', MX X B cx ds' e2 (m2 a ds') t2) (h : ∀ a b ds', OP2 X.K B r (cx ds') (t1 a) (t2 b) (f a b) k) (hm : PlainIx e2 := by intro _ _; rfl) :
    MX X B cx ds (.Subscript e1 e2 pos) (m1.bind fun a => (m2 a.1 a.2).bind fun b => (f a.1 b.1).bind fun z => some (z, b.2)) (fun z => .im (k z)) := me_ix ho h1 (fun a => h2 a.1 a.2) (fun a b => .mx rfl (h a.1 b.1 b.2)) hm
theorem mtx_cmp {op : CmpOp} {r : R2} {f : α → β → Bool} (ho : OpR X (compareOp op) r) (h1 : MX X B cx ds e1 m1 t1) (h2 : ∀ a ds', MX X B cx ds' e2 (m2 a ds') t2) (h : ∀ a b ds', OV2 X.K B r (cx ds') (t1 a) (t2 b) (imB (f a b))) (hm : behindInMarks op e2 = false := by rfl) :
    MTX X B cx ds (.Compare e1 [op] [e2] pos) (m1.bind fun a => (m2 a.1 a.2).bind fun b => some (f a.1 b.1, b.2)) := mt_cmp (mo := fun a b => some (f a.1 b.1, b.2)) (bo := fun z : Bool × List Int => z.1) (c' := fun z : Bool × List Int => cx z.2) ho h1 (fun a => h2 a.1 a.2) (fun a b => (h a.1 b.1 b.2).up) hm
theorem mtx_val {e : Expr} {m : Option (Bool × List Int)} (h : MX X B cx ds e m (fun b => imB b)) (he : ∀ whole, isTrue e X.env whole = (do let v ← whole; standAt e.pos; holding [v] (truthy v)) := by intro _; rfl) : MTX X B cx ds e m := mt_val (b := fun z : Bool × List Int => z.1) h he
theorem mtx_not {m : Option (Bool × List Int)} (h : MTX X B cx ds e1 m) : MTX X B cx ds (.UnaryOp .Not e1 pos) (m.bind fun b => some (!b.1, b.2)) :=
  pt_mono (mt_not h) fun σ H Q ⟨I, as, z, g, e, q⟩ => by
    obtain ⟨b, e1, e2⟩ := Option.bind_eq_some_iff.mp e
    cases e2
    exact ⟨I, as, b, g, e1, q⟩
theorem mx_not {m : Option (Bool × List Int)} (h : MX X B cx ds e1 m (fun b => imB b)) : MX X B cx ds (.UnaryOp .Not e1 pos) (m.bind fun b => some (!b.1, b.2)) (fun b => imB b) :=
  pe_mono (me_not (b := fun z : Bool × List Int => z.1) h) fun σ H Q ⟨I, as, z, g, e, q⟩ => by
    obtain ⟨b, e1, e2⟩ := Option.bind_eq_some_iff.mp e
    cases e2
    exact ⟨I, as, b, g, e1, q⟩
theorem mx_neg {m : Option (Int × List Int)} (h : MX X B cx ds e1 m (fun b => imI b)) : MX X B cx ds (.UnaryOp .USub e1 pos) (m.bind fun b => some (-b.1, b.2)) (fun b => imI b) :=
  me_un un_neg h fun a σ H I as x Q g hg hx e q => by cases e; exact ⟨_, vs_int hx, q _ _ (.of hg (.int _))⟩
section
variable {rest : List Expr} {n1 : Option (Bool × List Int)} {n2 : List Int → Option (Bool × List Int)}
theorem mwx_and (h1 : MTX X B cx ds e1 n1) (h2 : ∀ ds', MWX X B cx ds' (.BoolOp .And (e2 :: rest) pos) (n2 ds')) : MWX X B cx ds (.BoolOp .And (e1 :: e2 :: rest) pos) (n1.bind fun a => if a.1 = true then n2 a.2 else some (false, a.2)) :=
  mw_and (els := fun a : Bool × List Int => (false, a.2)) h1 (fun a _ => h2 a.2) fun _ => ⟨rfl, rfl⟩
theorem mwx_or (h1 : MTX X B cx ds e1 n1) (h2 : ∀ ds', MWX X B cx ds' (.BoolOp .Or (e2 :: rest) pos) (n2 ds')) : MWX X B cx ds (.BoolOp .Or (e1 :: e2 :: rest) pos) (n1.bind fun a => if a.1 = true then some (true, a.2) else n2 a.2) :=
  mw_or (els := fun a : Bool × List Int => (true, a.2)) h1 (fun a _ => h2 a.2) fun _ => ⟨rfl, rfl⟩
theorem mx_and (h1 : MX X B cx ds e1 n1 (fun b => imB b)) (h2 : ∀ ds', MX X B cx ds' (.BoolOp .And (e2 :: rest) pos) (n2 ds') (fun b => imB b)) : MX X B cx ds (.BoolOp .And (e1 :: e2 :: rest) pos) (n1.bind fun a => if a.1 = true then n2 a.2 else some (false, a.2)) (fun b => imB b) :=
  pe_mono (pe_and h1 (pe_fam h2)) fun σ H Q ⟨I, as, d, g, e, k⟩ => by
    obtain ⟨a, e1, e⟩ := Option.bind_eq_some_iff.mp e
    refine ⟨I, as, a, g, e1, fun x H1 ⟨I1, as1, g1, s1, p1, v1⟩ => ⟨a.1, vs_bl v1, ?_⟩⟩
    by_cases h : a.1 = true
    · rw [if_pos h] at e ⊢
      exact ⟨a.2, I1, as1, d, g1, e, fun v H' z => k v H' (z.up s1 p1)⟩
    · rw [if_neg h] at e ⊢
      cases e; exact k _ _ ⟨I1, as1, g1, s1, p1, .bl _⟩
theorem mx_or (h1 : MX X B cx ds e1 n1 (fun b => imB b)) (h2 : ∀ ds', MX X B cx ds' (.BoolOp .Or (e2 :: rest) pos) (n2 ds') (fun b => imB b)) : MX X B cx ds (.BoolOp .Or (e1 :: e2 :: rest) pos) (n1.bind fun a => if a.1 = true then some (true, a.2) else n2 a.2) (fun b => imB b) :=
  pe_mono (pe_or h1 (pe_fam h2)) fun σ H Q ⟨I, as, d, g, e, k⟩ => by
    obtain ⟨a, e1, e⟩ := Option.bind_eq_some_iff.mp e
    refine ⟨I, as, a, g, e1, fun x H1 ⟨I1, as1, g1, s1, p1, v1⟩ => ⟨a.1, vs_bl v1, ?_⟩⟩
    by_cases h : a.1 = true
    · rw [if_pos h] at e ⊢
      cases e; exact k _ _ ⟨I1, as1, g1, s1, p1, .bl _⟩
    · rw [if_neg h] at e ⊢
      exact ⟨a.2, I1, as1, d, g1, e, fun v H' z => k v H' (z.up s1 p1)⟩
end
theorem mx_ifx {t : Expr} {nt : Option (Bool × List Int)} {ma mb : List Int → Option (γ × List Int)} {sv : γ → Sl} (ht : MTX X B cx ds t nt) (ha : ∀ ds', MX X B cx ds' e1 (ma ds') sv) (hb : ∀ ds', MX X B cx ds' e2 (mb ds') sv) :
    MX X B cx ds (.IfExp t e1 e2 pos) (nt.bind fun a => if a.1 = true then ma a.2 else mb a.2) sv := me_ifx ht (fun a _ => ha a.2) fun a _ => hb a.2
theorem max_nil : MAX X B cx ds [] (some ((), ds)) (fun _ => []) := pa_mono pa_nil fun σ H Q ⟨I, as, z, g, e, k⟩ => by cases e; exact k [] H (.of g .nil)
theorem max_cons {r2 : β → List Sl} (h1 : MX X B cx ds e1 m1 t1) (h2 : ∀ a ds', MAX X B cx ds' es (m2 a ds') r2) (hs : starEach (e1 :: es) X.env = (false, eval e1 X.env) :: starEach es X.env := by rfl) :
    MAX X B cx ds (e1 :: es) (m1.bind fun a => (m2 a.1 a.2).bind fun b => some ((a.1, b.1), b.2)) (fun z => t1 z.1 :: r2 z.2) :=
  pa_mono (ma_cons h1 (fun a => h2 a.1 a.2) hs) fun σ H Q ⟨I, as, d, g, e, k⟩ => by
    obtain ⟨a, e1, e⟩ := Option.bind_eq_some_iff.mp e
    obtain ⟨b, e2, e⟩ := Option.bind_eq_some_iff.mp e
    cases e
    refine ⟨I, as, (a, b), g, ?_, k⟩
    rw [e1]
    show ((m2 a.1 a.2).bind fun b => some (a, b)) = _
    rw [e2]; rfl
theorem mx_tup {n : Nat} {m : Option (α × List Int)} {r : α → List D} (h : MAX X B cx ds es m (fun a => ims (r a))) (hl : ∀ a, (r a).length ≤ 1000 := by intro _; exact Nat.le_of_ble_eq_true rfl) : MX X B cx ds (.Tuple es n pos) m (fun a => .im (.tuple (r a))) := me_tup (r := fun z : α × List Int => r z.1) h fun z => hl z.1
theorem mx_lst {m : Option (α × List Int)} {r : α → List D} (h : MAX X B cx ds es m (fun a => ims (r a))) (hl : ∀ a, (r a).length ≤ 1000 := by intro _; exact Nat.le_of_ble_eq_true rfl) : MX X B cx ds (.List es pos) m (fun a => .im (.list (r a))) := me_lst (r := fun z : α × List Int => r z.1) h (fun _ => .im) fun z => hl z.1
theorem mxn_lst {m : Option (α × List Int)} {r : α → List D} (h : MAX X B cx ds es m (fun a => ims (r a))) (hl : ∀ a, (r a).length ≤ 1000 := by intro _; exact Nat.le_of_ble_eq_true rfl) : ME X B (cx ds) (.List es pos) m (fun z => .rf (cx z.2).m.length) (fun z => (cx z.2).ad (r z.1)) := me_lst (r := fun z : α × List Int => r z.1) h (fun _ => .rf) fun z => hl z.1
theorem OA.mx {R : List V → Hp → VK → Prop} {ss : List Sl} {m : Option γ} {c : Ct} {ds' : List Int} (hc : cx ds' = c) (h : OA K B R c ss m (fun z => .im (k z)) (fun _ => c)) : OA K B R c ss (m.bind fun z => some (z, ds')) (fun z : γ × List Int => .im (k z.1)) (fun z => cx z.2) := fun σ H I as x Q z g hx e q => by
  obtain ⟨v, e1, e2⟩ := Option.bind_eq_some_iff.mp e
  cases e2
  exact h σ H I as x Q v g hx e1 (by rw [← hc]; exact q)
theorem mx_callB {x : Str} {p : Pos} {id : String} {R : List V → Hp → VK → Prop} {m : Option (α × List Int)} {r : α → List Sl} {f : α → Option γ} (hc : CallR X (.builtin id) R) (hg : Gl X x) (hm : X.mg x = none) (hv : bootBuiltins x = some (.builtin id)) (ha : MAX X B cx ds (e1 :: es) m r) (h : ∀ a ds', OA X.K B R (cx ds') (r a) (f a) (fun z => .im (k z)) (fun _ => cx ds'))
    (hn : x ≠ "__name__" := by decide) (hdb : (x == ("__debug__" : Str)) = false := by decide) (he : starEach (e1 :: es) X.env = (false, eval e1 X.env) :: starEach es X.env := by rfl) (hpl : (backTo pos (starEach es X.env)).any (·.1) = false := by rfl) :
    MX X B cx ds (.Call (.Name x p) (e1 :: es) [] pos) (m.bind fun a => (f a.1).bind fun z => some (z, a.2)) (fun z => .im (k z)) := me_callB hc hg hm hv ha (fun a => .mx rfl (h a.1 a.2)) hn hdb he hpl
theorem mx_callTy {x : Str} {p : Pos} {T : String} {R : List V → Hp → VK → Prop} {m : Option (α × List Int)} {r : α → List Sl} {f : α → Option γ} (hc : CallR X (.type T) R) (hg : Gl X x) (hm : X.mg x = none) (hv : bootBuiltins x = some (.type T)) (ha : MAX X B cx ds (e1 :: es) m r) (h : ∀ a ds', OA X.K B R (cx ds') (r a) (f a) (fun z => .im (k z)) (fun _ => cx ds'))
    (hn : x ≠ "__name__" := by decide) (hdb : (x == ("__debug__" : Str)) = false := by decide) (he : starEach (e1 :: es) X.env = (false, eval e1 X.env) :: starEach es X.env := by rfl) (hpl : (backTo pos (starEach es X.env)).any (·.1) = false := by rfl) :
    MX X B cx ds (.Call (.Name x p) (e1 :: es) [] pos) (m.bind fun a => (f a.1).bind fun z => some (z, a.2)) (fun z => .im (k z)) := me_callTy hc hg hm hv ha (fun a => .mx rfl (h a.1 a.2)) hn hdb he hpl
/-- a comprehension that draws -/
theorem mx_lc {tg iter elt : Expr} {scope : Scope} {own : List (Str × Nat)} {g : TG} {m : Option (α × List Int)} {xs : α → List τ} {k0 : τ → D} {k : υ → D} {is : List Nat} {mS : List Int → List (List D)} {cT : List Int → List υ → τ → Ct} {me : List Int → τ → Option (υ × List Int)} {c' : List υ × List Int → Ct} {r' : List υ × List Int → Sl}
    (hc : X.calm = true) (hN : X.N.Nodup) (hcx : ∀ ds', cx ds' = ⟨(cx ds).b, (cx ds).s, mS ds'⟩) (hi : MI X B (cx ds) tg iter m (fun a => (xs a.1).map k0) (fun a => cx a.2)) (ok : BlkOk X.N X.env.scope scope own) (hg : Blk X scope fun Y => PG Y tg g)
    (hms : ∀ s s', (mS s).length = (mS s').length) (htg : ∀ s ys x, TgW X.K B g (((cx s).wp (own.map (·.2))).ad (ys.map k)) (k0 x) (cT s ys x) is) (he : ∀ s ys x, Blk X scope fun Y => ME Y B (cT s ys x) elt (me s x) (fun w => .im (k w.1)) (fun w => cT w.2 ys x)) (hn : ∀ z, NewL (cx z.2) (z.1.map k) (c' z) (r' z))
    (hcT : ∀ s ys x, (cT s ys x).m = mS s ++ [ys.map k] := by intros; rfl) (his : ∀ i ∈ is, i ∈ own.map (·.2) := by decide) (hs : ∀ x, foldedSetIterable iter X.env x = pure x := by intro _; rfl) :
    ME X B (cx ds) (.ListComp elt [⟨tg, iter, [], 0⟩] scope pos) (m.bind fun a => mapX (fun x s => me s x) (xs a.1) a.2) r' c' :=
  pe_mono (me_lcG (S := List Int) (ω := υ × List Int) (mS := mS) (s0 := fun a : α × List Int => a.2) (cT := cT) (cE := fun _ ys x w => cT w.2 ys x) (me := me) (y := fun _ _ w => w.1) (sN := fun _ _ w => w.2) (c' := c') (r' := r') hc hN (by
    have e : (fun a : α × List Int => cx a.2) = fun a => ⟨(cx ds).b, (cx ds).s, mS a.2⟩ := funext fun a => hcx a.2
    rw [e] at hi; exact hi) ok hg .none hms (fun s ys x => by rw [← hcx]; exact htg s ys x) his hcT he (fun s ys x w => hcT w.2 ys x) (fun z => by rw [← hcx]; exact hn z) hs)
    fun σ H Q ⟨I, as, z, ge, e, q⟩ => by
      obtain ⟨a, e1, e2⟩ := Option.bind_eq_some_iff.mp e
      exact ⟨I, as, z, ge, by rw [e1]; exact compX_mapX (fun x s => me s x) (xs a.1) a.2 z e2, q⟩
end
end
end M3

set_option Elab.async false
set_option linter.all false
set_option maxRecDepth 100000
set_option maxHeartbeats 4000000
namespace M3
open PySem PySem.Spec PyProof.Rows L2

section
variable {X : Cx} {B : Bs} {c : Ct} {K : PySem.W.Frag} {σ : St} {H I : Hp} {as : List Addr}
variable {α β γ δ τ υ ω S : Type} {e1 e2 e3 : Expr} {es : List Expr} {pos : Pos}
/-! ### ifs -/
section
variable {t : Expr} {b1 b2 rest : List Stmt} {m1 m2 : Option ω} {post : ω → Oc} {cx : List Int → Ct} {ds : List Int} {x1 x2 : List Int → Option ω}
theorem ms_ifV {b : Bool} (ht : MTV X B c t b) (ha : MB X B c b1 m1 post) (hb : MB X B c b2 m2 post) : MS X B c (.If t b1 b2 pos) (if b = true then m1 else m2) post := ms_if (b := fun _ => b) (ma := fun _ => m1) (mb := fun _ => m2) ht (fun _ _ => ha) (fun _ _ => hb)
theorem ms_ifP {m : Option Bool} (ht : MTP X B c t m) (ha : MB X B c b1 m1 post) (hb : MB X B c b2 m2 post) : MS X B c (.If t b1 b2 pos) (m.bind fun b => if b = true then m1 else m2) post := ms_if ht (fun _ _ => ha) (fun _ _ => hb)
theorem ms_ifX {m : Option (Bool × List Int)} (ht : MTX X B cx ds t m) (ha : ∀ ds', MB X B (cx ds') b1 (x1 ds') post) (hb : ∀ ds', MB X B (cx ds') b2 (x2 ds') post) : MS X B (cx ds) (.If t b1 b2 pos) (m.bind fun a => if a.1 = true then x1 a.2 else x2 a.2) post := ms_if ht (fun a _ => ha a.2) (fun a _ => hb a.2)
/-- always left -/
abbrev Out (m : Option ω) (post : ω → Oc) : Prop := ∀ w, m = some w → ∀ c1, post w ≠ .nx c1
theorem out_rt {m : Option γ} {rs : γ → Sl} {cr : γ → Ct} : Out m (fun g => .rt (rs g) (cr g)) := fun _ _ _ h => nomatch h
theorem mb_ixV {b : Bool} (ht : MTV X B c t b) (ha : MB X B c b1 m1 post) (hx : Out m1 post) (hb : MB X B c rest m2 post) : MB X B c (.If t b1 [] pos :: rest) (if b = true then m1 else m2) post := mb_ifx (b := fun _ => b) (ma := fun _ => m1) (mb := fun _ => m2) ht (fun _ _ => ha) (fun _ _ => hx) (fun _ _ => hb)
theorem mb_ixP {m : Option Bool} (ht : MTP X B c t m) (ha : MB X B c b1 m1 post) (hx : Out m1 post) (hb : MB X B c rest m2 post) : MB X B c (.If t b1 [] pos :: rest) (m.bind fun b => if b = true then m1 else m2) post := mb_ifx ht (fun _ _ => ha) (fun _ _ => hx) (fun _ _ => hb)
theorem mb_ixX {m : Option (Bool × List Int)} (ht : MTX X B cx ds t m) (ha : ∀ ds', MB X B (cx ds') b1 (x1 ds') post) (hx : ∀ ds', Out (x1 ds') post) (hb : ∀ ds', MB X B (cx ds') rest (x2 ds') post) : MB X B (cx ds) (.If t b1 [] pos :: rest) (m.bind fun a => if a.1 = true then x1 a.2 else x2 a.2) post := mb_ifx ht (fun a _ => ha a.2) (fun a _ => hx a.2) (fun a _ => hb a.2)
/-- one way goes on, another leaves: behind it the rest -/
theorem mb_fl {J : Type} {st : Stmt} {m1 : Option (Fl J ω)} {cJ : J → Ct} {k : J → Option ω} (h1 : MS X B c st m1 (ocJ cJ post)) (h2 : ∀ j, MB X B (cJ j) rest (k j) post) (hx : ∀ w c1, post w ≠ .nx c1) : MB X B c (st :: rest) (m1.bind (Fl.elim k some)) post :=
  mb_seq _ h1 fun w1 => by
    cases w1 with
    | nx j => exact .inl ⟨_, rfl, h2 j⟩
    | ct j => exact .inl ⟨_, rfl, h2 j⟩
    | bk j => exact .inl ⟨_, rfl, h2 j⟩
    | rt w => exact .inr ⟨fun c1 => hx w c1, fun w' e => by cases e; rfl⟩
/-- behind a loop that may return -/
theorem mb_loop {L R : Type} {st : Stmt} {m1 : Option (Fl L R)} {cL : L → Ct} {sr : R → Sl} {cr : R → Ct} {k : L → Option ω} {j : R → ω} (h1 : MS X B c st m1 (ocL cL sr cr)) (h2 : ∀ l, MB X B (cL l) rest (k l) post) (hj : ∀ r, post (j r) = .rt (sr r) (cr r) := by intro _; rfl) : MB X B c (st :: rest) (m1.bind (Fl.elim k fun r => some (j r))) post :=
  mb_seq _ h1 fun w1 => by
    cases w1 with
    | nx l => exact .inl ⟨_, rfl, h2 l⟩
    | ct l => exact .inl ⟨_, rfl, h2 l⟩
    | bk l => exact .inl ⟨_, rfl, h2 l⟩
    | rt r => exact .inr ⟨fun c1 => (by intro h; cases (h : Oc.rt _ _ = _)), fun w' e => by cases e; exact hj r⟩
end
theorem mv_as {e : Expr} {s s' : Sl} (h : MV X B c e s) (q : s = s' := by rfl) : MV X B c e s' := by rw [← q]; exact h
/-! ### returns -/
section
variable {post : ω → Oc} {rest : List Stmt}
theorem ms_retV {e : Expr} {w : ω} {d : D} (h : MV X B c e (.im d)) (hp : post w = .rt (.im d) ⟨c.b, [], c.m.take c.b⟩) : MS X B c (.Return (some e) pos) (some w) post :=
  ps_mono (ms_ret h (fun _ => .im d)) fun E σ H ⟨I, as, z, g, e, q⟩ => ⟨I, as, (), g, rfl, by cases e; rw [hp] at q; exact q⟩
theorem ms_retP {e : Expr} {m : Option α} {k : α → D} {f : α → ω} (h : MP X B c e m k) (hp : ∀ a, post (f a) = .rt (.im (k a)) ⟨c.b, [], c.m.take c.b⟩) : MS X B c (.Return (some e) pos) (m.bind fun a => some (f a)) post :=
  ps_mono (ms_ret h (fun a => .im (k a))) fun E σ H ⟨I, as, z, g, e, q⟩ => by
    obtain ⟨a, e1, e2⟩ := Option.bind_eq_some_iff.mp e
    cases e2
    exact ⟨I, as, a, g, e1, by rw [hp] at q; exact q⟩
/-- the value as it is -/
theorem ms_retQ {e : Expr} {m : Option ω} {k : ω → D} (h : MP X B c e m k) (hp : ∀ a, post a = .rt (.im (k a)) ⟨c.b, [], c.m.take c.b⟩) : MS X B c (.Return (some e) pos) m post :=
  ps_mono (ms_ret h (fun a => .im (k a))) fun E σ H ⟨I, as, z, g, e, q⟩ => ⟨I, as, z, g, e, by rw [hp] at q; exact q⟩
theorem ms_retX {cx : List Int → Ct} {ds : List Int} {e : Expr} {m : Option (α × List Int)} {k : α → D} {f : α → List Int → ω} (h : MX X B cx ds e m (fun a => .im (k a))) (hp : ∀ a ds', post (f a ds') = .rt (.im (k a)) ⟨(cx ds').b, [], (cx ds').m.take (cx ds').b⟩) : MS X B (cx ds) (.Return (some e) pos) (m.bind fun a => some (f a.1 a.2)) post :=
  ps_mono (ms_ret h (fun a => .im (k a.1))) fun E σ H ⟨I, as, z, g, e, q⟩ => by
    obtain ⟨a, e1, e2⟩ := Option.bind_eq_some_iff.mp e
    cases e2
    exact ⟨I, as, a, g, e1, by rw [hp] at q; exact q⟩
/-- a list made here -/
theorem ms_retL {e : Expr} {w : ω} {j : Nat} {ds : List D} (h : MV X B c e (.rf j)) (hj : c.m[j]? = some ds) (hp : post w = .rt (.rf c.b) ⟨c.b, [], c.m.take c.b ++ [ds]⟩) (hb : Nat.ble c.b j = true := by rfl) : MS X B c (.Return (some e) pos) (some w) post :=
  ps_mono (ms_ret h (fun _ => .rf j hj hb)) fun E σ H ⟨I, as, z, g, e, q⟩ => ⟨I, as, (), g, rfl, by cases e; rw [hp] at q; exact q⟩
theorem ms_retF {e : Expr} {w : ω} {j : Nat} {ds : List D} (h : MV X B c e (.rf j)) (hj : c.m[j]? = some ds) (hp : post w = .rt (.im (.list ds)) ⟨c.b, [], c.m.take c.b⟩) (hb : Nat.ble c.b j = true := by rfl) : MS X B c (.Return (some e) pos) (some w) post :=
  ps_mono (ms_ret h (fun _ => .fz j hj hb)) fun E σ H ⟨I, as, z, g, e, q⟩ => ⟨I, as, (), g, rfl, by cases e; rw [hp] at q; exact q⟩
end
/-! ### what is walked, in short -/
section
variable {tg : Expr} {k : τ → D} {p : Pos}
theorem mi_lV {e : Expr} {xs : List τ} (h : MV X B c e (.im (kL k xs))) : MI (α := Unit) X B c tg e (some ()) (fun _ => xs.map k) (fun _ => c) := mi_list (ds := fun _ => xs.map k) h
theorem mi_tV {e : Expr} {xs : List τ} (h : MV X B c e (.im (kU k xs))) : MI (α := Unit) X B c tg e (some ()) (fun _ => xs.map k) (fun _ => c) := mi_tup (ds := fun _ => xs.map k) h
theorem mi_lP {e : Expr} {m : Option (List τ)} (h : MP X B c e m (kL k)) : MI X B c tg e m (fun xs => xs.map k) (fun _ => c) := mi_list (ds := fun xs : List τ => xs.map k) h
theorem mi_tP {e : Expr} {m : Option (List τ)} (h : MP X B c e m (kU k)) : MI X B c tg e m (fun xs => xs.map k) (fun _ => c) := mi_tup (ds := fun xs : List τ => xs.map k) h
theorem mi_lX {cx : List Int → Ct} {ds : List Int} {e : Expr} {m : Option (List τ × List Int)} (h : MX X B cx ds e m (fun xs => .im (kL k xs))) : MI X B (cx ds) tg e m (fun z => z.1.map k) (fun z => cx z.2) := mi_list (ds := fun z : List τ × List Int => z.1.map k) h
theorem mi_tX {cx : List Int → Ct} {ds : List Int} {e : Expr} {m : Option (List τ × List Int)} (h : MX X B cx ds e m (fun xs => .im (kU k xs))) : MI X B (cx ds) tg e m (fun z => z.1.map k) (fun z => cx z.2) := mi_tup (ds := fun z : List τ × List Int => z.1.map k) h
theorem mi_re {e : Expr} {m : Option α} {its : α → List D} {ca : α → Ct} {n : Option β} {its' : β → List D} {cb : β → Ct} (h : MI X B c tg e m its ca) (q : ∀ b, n = some b → ∃ a, m = some a ∧ its' b = its a ∧ cb b = ca a) : MI X B c tg e n its' cb :=
  pi_mono h fun σ H Q ⟨I, as, b, g, e, k⟩ => by
    obtain ⟨a, e1, e2, e3⟩ := q b e
    exact ⟨I, as, a, g, e1, fun J H' I' as' g' s' p' it => k J H' I' as' (by rw [e3]; exact g') s' p' (by rw [e2]; exact it)⟩
section
variable (hg : Gl X "range") (hm : X.mg "range" = none)
include hg hm
theorem mi_r1V {b : Int} (h : MAI X B c [e1] [.int b]) (hs : starEach [e1] X.env = [(false, eval e1 X.env)] := by rfl) (hpl : (backTo pos (starEach [e1] X.env)).any (·.1) = false := by rfl) : MI X B c tg (.Call (.Name "range" p) [e1] [] pos) (rngM 0 b) (fun l => l.map kI) (fun _ => c) :=
  mi_re (mi_range1 (b := fun _ => b) hg hm h hs hpl) fun l e => ⟨((), l), by rw [e]; rfl, rfl, rfl⟩
theorem mi_r1P {m : Option α} {b : α → Int} (h : MAP X B c [e1] m (fun a => [.int (b a)])) (hs : starEach [e1] X.env = [(false, eval e1 X.env)] := by rfl) (hpl : (backTo pos (starEach [e1] X.env)).any (·.1) = false := by rfl) : MI X B c tg (.Call (.Name "range" p) [e1] [] pos) (m.bind fun a => rngM 0 (b a)) (fun l => l.map kI) (fun _ => c) :=
  mi_re (mi_range1 (b := b) hg hm h hs hpl) fun l e => by
    obtain ⟨a, e1, e2⟩ := Option.bind_eq_some_iff.mp e
    exact ⟨(a, l), by rw [e1]; show (rngM 0 (b a)).map _ = _; rw [e2]; rfl, rfl, rfl⟩
theorem mi_r1X {cx : List Int → Ct} {ds : List Int} {m : Option (α × List Int)} {b : α → Int} (h : MAX X B cx ds [e1] m (fun a => [imI (b a)])) (hs : starEach [e1] X.env = [(false, eval e1 X.env)] := by rfl) (hpl : (backTo pos (starEach [e1] X.env)).any (·.1) = false := by rfl) : MI X B (cx ds) tg (.Call (.Name "range" p) [e1] [] pos) (m.bind fun a => (rngM 0 (b a.1)).bind fun l => some (l, a.2)) (fun z => z.1.map kI) (fun z => cx z.2) :=
  mi_re (mi_range1 (b := fun z : α × List Int => b z.1) hg hm h hs hpl) fun l e => by
    obtain ⟨a, e1, e⟩ := Option.bind_eq_some_iff.mp e
    obtain ⟨z, e2, e⟩ := Option.bind_eq_some_iff.mp e
    cases e
    exact ⟨(a, z), by rw [e1]; show (rngM 0 (b a.1)).map _ = _; rw [e2]; rfl, rfl, rfl⟩
theorem mi_r2V {a b : Int} (h : MAI X B c [e1, e2] [.int a, .int b]) (hs : starEach [e1, e2] X.env = [(false, eval e1 X.env), (false, eval e2 X.env)] := by rfl) (hs2 : starEach [e2] X.env = [(false, eval e2 X.env)] := by rfl) (hpl : (backTo pos (starEach [e1, e2] X.env)).any (·.1) = false := by rfl) :
    MI X B c tg (.Call (.Name "range" p) [e1, e2] [] pos) (rngM a b) (fun l => l.map kI) (fun _ => c) :=
  mi_re (mi_range2 (b := fun _ => a) (d := fun _ => b) hg hm h hs hs2 hpl) fun l e => ⟨((), l), by rw [e]; rfl, rfl, rfl⟩
theorem mi_r2P {m : Option α} {a b : α → Int} (h : MAP X B c [e1, e2] m (fun z => [.int (a z), .int (b z)])) (hs : starEach [e1, e2] X.env = [(false, eval e1 X.env), (false, eval e2 X.env)] := by rfl) (hs2 : starEach [e2] X.env = [(false, eval e2 X.env)] := by rfl) (hpl : (backTo pos (starEach [e1, e2] X.env)).any (·.1) = false := by rfl) :
    MI X B c tg (.Call (.Name "range" p) [e1, e2] [] pos) (m.bind fun z => rngM (a z) (b z)) (fun l => l.map kI) (fun _ => c) :=
  mi_re (mi_range2 (b := a) (d := b) hg hm h hs hs2 hpl) fun l e => by
    obtain ⟨z, e1, e2⟩ := Option.bind_eq_some_iff.mp e
    exact ⟨(z, l), by rw [e1]; show (rngM (a z) (b z)).map _ = _; rw [e2]; rfl, rfl, rfl⟩
theorem mi_r2X {cx : List Int → Ct} {ds : List Int} {m : Option (α × List Int)} {a b : α → Int} (h : MAX X B cx ds [e1, e2] m (fun z => [imI (a z), imI (b z)])) (hs : starEach [e1, e2] X.env = [(false, eval e1 X.env), (false, eval e2 X.env)] := by rfl) (hs2 : starEach [e2] X.env = [(false, eval e2 X.env)] := by rfl) (hpl : (backTo pos (starEach [e1, e2] X.env)).any (·.1) = false := by rfl) :
    MI X B (cx ds) tg (.Call (.Name "range" p) [e1, e2] [] pos) (m.bind fun z => (rngM (a z.1) (b z.1)).bind fun l => some (l, z.2)) (fun z => z.1.map kI) (fun z => cx z.2) :=
  mi_re (mi_range2 (b := fun z : α × List Int => a z.1) (d := fun z : α × List Int => b z.1) hg hm h hs hs2 hpl) fun l e => by
    obtain ⟨z, e1, e⟩ := Option.bind_eq_some_iff.mp e
    obtain ⟨y, e2, e⟩ := Option.bind_eq_some_iff.mp e
    cases e
    exact ⟨(z, y), by rw [e1]; show (rngM (a z.1) (b z.1)).map _ = _; rw [e2]; rfl, rfl, rfl⟩
theorem mi_rDV {a b : Int} (h : MAI X B c [e1, e2, e3] [.int a, .int b, .int (-1)]) (hs : starEach [e1, e2, e3] X.env = (false, eval e1 X.env) :: starEach [e2, e3] X.env := by rfl) (hpl : (backTo pos (starEach [e2, e3] X.env)).any (·.1) = false := by rfl) :
    MI X B c tg (.Call (.Name "range" p) [e1, e2, e3] [] pos) (rngD a b) (fun l => l.map kI) (fun _ => c) :=
  mi_re (mi_range3D (b := fun _ => a) (d := fun _ => b) hg hm h hs hpl) fun l e => ⟨((), l), by rw [e]; rfl, rfl, rfl⟩
theorem mi_rDP {m : Option α} {a b : α → Int} (h : MAP X B c [e1, e2, e3] m (fun z => [.int (a z), .int (b z), .int (-1)])) (hs : starEach [e1, e2, e3] X.env = (false, eval e1 X.env) :: starEach [e2, e3] X.env := by rfl) (hpl : (backTo pos (starEach [e2, e3] X.env)).any (·.1) = false := by rfl) :
    MI X B c tg (.Call (.Name "range" p) [e1, e2, e3] [] pos) (m.bind fun z => rngD (a z) (b z)) (fun l => l.map kI) (fun _ => c) :=
  mi_re (mi_range3D (b := a) (d := b) hg hm h hs hpl) fun l e => by
    obtain ⟨z, e1, e2⟩ := Option.bind_eq_some_iff.mp e
    exact ⟨(z, l), by rw [e1]; show (rngD (a z) (b z)).map _ = _; rw [e2]; rfl, rfl, rfl⟩
end
end

/-! ### calls of own defs -/
section
variable {F : β → Option γ} {ca : β → Ct} {rs : γ → Sl} {cr : γ → Ct} {lv : Nat} {f : Addr} {fd : FuncData} {ps : List Str} {x : Str} {p : Pos} {k : γ → D}
/-- what is known of a def: where it stands, its promise -/
structure Df (P : Program) (w : World) (K : PySem.W.Frag) (mg : Str → Option Value) (base : Heap) (A : Around) (lv : Nat) (x : Str) (f : Addr) (fd : FuncData) (ps : List Str) (ca : β → Ct) (F : β → Option γ) (rs : γ → Sl) (cr : γ → Ct) : Prop where
  G : FnOk P w K mg base CX0 lv f fd ps (PrF K ca F rs cr)
  hr : Room lv A
  hm : mg x = some (.ref f)
  hk : PySem.W.keepIn K (.ref f) = true
  hb : Binds K fd ps []
theorem mp_call {ds : List D} (b : β) (G : Df X.prog X.w X.K X.mg X.base X.A lv x f fd ps ca F rs cr) (hg : Gl X x) (ha : MAI X B c (e1 :: es) ds) (hbb : ca b = ⟨0, ds.map fun d => some (.im d), []⟩ := by rfl) (hrs : ∀ g, rs g = .im (k g) := by intro _; rfl) (hcr : ∀ g, cr g = ⟨0, [], []⟩ := by intro _; rfl)
    (hdb : (x == ("__debug__" : Str)) = false := by decide) (he : starEach (e1 :: es) X.env = (false, eval e1 X.env) :: starEach es X.env := by rfl) (hpl : (backTo pos (starEach es X.env)).any (·.1) = false := by rfl) : MP X B c (.Call (.Name x p) (e1 :: es) [] pos) (F b) k :=
  me_call (mo := fun _ => F b) (fun _ => b) G.G G.hr hg G.hm G.hk G.hb ha (fun _ => hbb) (fun _ g e => ⟨g, e, by rw [hrs, hcr]; exact .im _⟩) hdb he hpl
theorem mp_callP {m : Option α} {ds : α → List D} (bb : α → β) (G : Df X.prog X.w X.K X.mg X.base X.A lv x f fd ps ca F rs cr) (hg : Gl X x) (ha : MAP X B c (e1 :: es) m ds) (hbb : ∀ a, ca (bb a) = ⟨0, (ds a).map fun d => some (.im d), []⟩ := by intro _; rfl) (hrs : ∀ g, rs g = .im (k g) := by intro _; rfl) (hcr : ∀ g, cr g = ⟨0, [], []⟩ := by intro _; rfl)
    (hdb : (x == ("__debug__" : Str)) = false := by decide) (he : starEach (e1 :: es) X.env = (false, eval e1 X.env) :: starEach es X.env := by rfl) (hpl : (backTo pos (starEach es X.env)).any (·.1) = false := by rfl) : MP X B c (.Call (.Name x p) (e1 :: es) [] pos) (m.bind fun a => F (bb a)) k :=
  me_call bb G.G G.hr hg G.hm G.hk G.hb ha hbb (fun _ g e => ⟨g, e, by rw [hrs, hcr]; exact .im _⟩) hdb he hpl
theorem mx_call {cx : List Int → Ct} {dr : List Int} {m : Option (α × List Int)} {ds : α → List D} (bb : α → β) (G : Df X.prog X.w X.K X.mg X.base X.A lv x f fd ps ca F rs cr) (hg : Gl X x) (ha : MAX X B cx dr (e1 :: es) m (fun a => ims (ds a))) (hbb : ∀ a, ca (bb a) = ⟨0, (ds a).map fun d => some (.im d), []⟩ := by intro _; rfl) (hrs : ∀ g, rs g = .im (k g) := by intro _; rfl) (hcr : ∀ g, cr g = ⟨0, [], []⟩ := by intro _; rfl)
    (hdb : (x == ("__debug__" : Str)) = false := by decide) (he : starEach (e1 :: es) X.env = (false, eval e1 X.env) :: starEach es X.env := by rfl) (hpl : (backTo pos (starEach es X.env)).any (·.1) = false := by rfl) : MX X B cx dr (.Call (.Name x p) (e1 :: es) [] pos) (m.bind fun a => (F (bb a.1)).bind fun g => some (g, a.2)) (fun g => .im (k g)) :=
  me_call (fun a => bb a.1) G.G G.hr hg G.hm G.hk G.hb ha (fun a => hbb a.1) (fun a z e => by
    obtain ⟨g, e1, e2⟩ := Option.bind_eq_some_iff.mp e
    cases e2
    exact ⟨g, e1, by rw [hrs, hcr]; exact .im _⟩) hdb he hpl
/-- it hands back a new list: frozen, or as a cell -/
theorem mp_callL {ds : List D} {L : γ → List D} (b : β) (G : Df X.prog X.w X.K X.mg X.base X.A lv x f fd ps ca F rs cr) (hg : Gl X x) (ha : MAI X B c (e1 :: es) ds) (hbb : ca b = ⟨0, ds.map fun d => some (.im d), []⟩ := by rfl) (hrs : ∀ g, rs g = .rf 0 := by intro _; rfl) (hcr : ∀ g, cr g = ⟨0, [], [L g]⟩ := by intro _; rfl)
    (hdb : (x == ("__debug__" : Str)) = false := by decide) (he : starEach (e1 :: es) X.env = (false, eval e1 X.env) :: starEach es X.env := by rfl) (hpl : (backTo pos (starEach es X.env)).any (·.1) = false := by rfl) : MP X B c (.Call (.Name x p) (e1 :: es) [] pos) (F b) (fun g => .list (L g)) :=
  me_call (mo := fun _ => F b) (fun _ => b) G.G G.hr hg G.hm G.hk G.hb ha (fun _ => hbb) (fun _ g e => ⟨g, e, by rw [hrs, hcr]; exact .fz _⟩) hdb he hpl
theorem mp_callLP {m : Option α} {ds : α → List D} {L : γ → List D} (bb : α → β) (G : Df X.prog X.w X.K X.mg X.base X.A lv x f fd ps ca F rs cr) (hg : Gl X x) (ha : MAP X B c (e1 :: es) m ds) (hbb : ∀ a, ca (bb a) = ⟨0, (ds a).map fun d => some (.im d), []⟩ := by intro _; rfl) (hrs : ∀ g, rs g = .rf 0 := by intro _; rfl) (hcr : ∀ g, cr g = ⟨0, [], [L g]⟩ := by intro _; rfl)
    (hdb : (x == ("__debug__" : Str)) = false := by decide) (he : starEach (e1 :: es) X.env = (false, eval e1 X.env) :: starEach es X.env := by rfl) (hpl : (backTo pos (starEach es X.env)).any (·.1) = false := by rfl) : MP X B c (.Call (.Name x p) (e1 :: es) [] pos) (m.bind fun a => F (bb a)) (fun g => .list (L g)) :=
  me_call bb G.G G.hr hg G.hm G.hk G.hb ha hbb (fun _ g e => ⟨g, e, by rw [hrs, hcr]; exact .fz _⟩) hdb he hpl
theorem mn_callL {ds : List D} {L : γ → List D} (b : β) (G : Df X.prog X.w X.K X.mg X.base X.A lv x f fd ps ca F rs cr) (hg : Gl X x) (ha : MAI X B c (e1 :: es) ds) (hbb : ca b = ⟨0, ds.map fun d => some (.im d), []⟩ := by rfl) (hrs : ∀ g, rs g = .rf 0 := by intro _; rfl) (hcr : ∀ g, cr g = ⟨0, [], [L g]⟩ := by intro _; rfl)
    (hdb : (x == ("__debug__" : Str)) = false := by decide) (he : starEach (e1 :: es) X.env = (false, eval e1 X.env) :: starEach es X.env := by rfl) (hpl : (backTo pos (starEach es X.env)).any (·.1) = false := by rfl) : ME X B c (.Call (.Name x p) (e1 :: es) [] pos) (F b) (fun _ => .rf c.m.length) (fun g => c.ad (L g)) :=
  me_call (mo := fun _ => F b) (fun _ => b) G.G G.hr hg G.hm G.hk G.hb ha (fun _ => hbb) (fun _ g e => ⟨g, e, by rw [hrs, hcr]; exact .rf _⟩) hdb he hpl
theorem mn_callLP {m : Option α} {ds : α → List D} {L : γ → List D} (bb : α → β) (G : Df X.prog X.w X.K X.mg X.base X.A lv x f fd ps ca F rs cr) (hg : Gl X x) (ha : MAP X B c (e1 :: es) m ds) (hbb : ∀ a, ca (bb a) = ⟨0, (ds a).map fun d => some (.im d), []⟩ := by intro _; rfl) (hrs : ∀ g, rs g = .rf 0 := by intro _; rfl) (hcr : ∀ g, cr g = ⟨0, [], [L g]⟩ := by intro _; rfl)
    (hdb : (x == ("__debug__" : Str)) = false := by decide) (he : starEach (e1 :: es) X.env = (false, eval e1 X.env) :: starEach es X.env := by rfl) (hpl : (backTo pos (starEach es X.env)).any (·.1) = false := by rfl) : ME X B c (.Call (.Name x p) (e1 :: es) [] pos) (m.bind fun a => F (bb a)) (fun _ => .rf c.m.length) (fun g => c.ad (L g)) :=
  me_call bb G.G G.hr hg G.hm G.hk G.hb ha hbb (fun _ g e => ⟨g, e, by rw [hrs, hcr]; exact .rf _⟩) hdb he hpl
end
section
variable {F : β → Option (γ × List Int)} {ca : β → Ct} {rs : γ × List Int → Sl} {cr : γ × List Int → Ct} {lv : Nat} {f : Addr} {fd : FuncData} {ps : List Str} {x : Str} {p : Pos} {k : γ → D}
/-- it draws -/
theorem mx_callD {cx : List Int → Ct} {dr : List Int} {m : Option (α × List Int)} {ss : α → List Sl} (bb : α → List Int → β) (G : Df X.prog X.w X.K X.mg X.base X.A lv x f fd ps ca F rs cr) (hg : Gl X x) (ha : MAX X B cx dr (e1 :: es) m ss) (hbb : ∀ a ds, ca (bb a ds) = ⟨1, (ss a).map fun s => some (loan s), [ds.map kI]⟩ := by intro _ _; rfl) (hss : ∀ a, ∀ s ∈ ss a, ∀ i, s = .rf i → i = 0)
    (h0 : ∀ ds, (cx ds).m[0]? = some (ds.map kI) := by intro _; rfl) (hmu : ∀ ds ds', (cx ds).mu 0 (ds'.map kI) = cx ds' := by intro _ _; rfl) (hrs : ∀ g, rs g = .im (k g.1) := by intro _; rfl) (hcr : ∀ g, cr g = ⟨1, [], [g.2.map kI]⟩ := by intro _; rfl)
    (hdb : (x == ("__debug__" : Str)) = false := by decide) (he : starEach (e1 :: es) X.env = (false, eval e1 X.env) :: starEach es X.env := by rfl) (hpl : (backTo pos (starEach es X.env)).any (·.1) = false := by rfl) : MX X B cx dr (.Call (.Name x p) (e1 :: es) [] pos) (m.bind fun a => F (bb a.1 a.2)) (fun g => .im (k g)) :=
  me_call1 0 (fun a => bb a.1 a.2) G.G G.hr hg G.hm G.hk G.hb ha (fun a => ⟨_, h0 a.2, hbb a.1 a.2⟩) (fun a => hss a.1) (fun a g e => ⟨g, e, by rw [hrs, hcr, ← hmu a.2 g.2]; exact .im _ _⟩) hdb he hpl
/-- it draws, and hands back a new list -/
theorem mx_callDL {cx : List Int → Ct} {dr : List Int} {m : Option (α × List Int)} {ss : α → List Sl} {L : γ → List D} (bb : α → List Int → β) (G : Df X.prog X.w X.K X.mg X.base X.A lv x f fd ps ca F rs cr) (hg : Gl X x) (ha : MAX X B cx dr (e1 :: es) m ss) (hbb : ∀ a ds, ca (bb a ds) = ⟨1, (ss a).map fun s => some (loan s), [ds.map kI]⟩ := by intro _ _; rfl) (hss : ∀ a, ∀ s ∈ ss a, ∀ i, s = .rf i → i = 0)
    (h0 : ∀ ds, (cx ds).m[0]? = some (ds.map kI) := by intro _; rfl) (hmu : ∀ ds ds', (cx ds).mu 0 (ds'.map kI) = cx ds' := by intro _ _; rfl) (hrs : ∀ g, rs g = .rf 1 := by intro _; rfl) (hcr : ∀ g, cr g = ⟨1, [], [g.2.map kI, L g.1]⟩ := by intro _; rfl)
    (hdb : (x == ("__debug__" : Str)) = false := by decide) (he : starEach (e1 :: es) X.env = (false, eval e1 X.env) :: starEach es X.env := by rfl) (hpl : (backTo pos (starEach es X.env)).any (·.1) = false := by rfl) : MX X B cx dr (.Call (.Name x p) (e1 :: es) [] pos) (m.bind fun a => F (bb a.1 a.2)) (fun g => .im (.list (L g))) :=
  me_call1 0 (fun a => bb a.1 a.2) G.G G.hr hg G.hm G.hk G.hb ha (fun a => ⟨_, h0 a.2, hbb a.1 a.2⟩) (fun a => hss a.1) (fun a g e => ⟨g, e, by rw [hrs, hcr, ← hmu a.2 g.2]; exact .fz _ _⟩) hdb he hpl
end

/-! ### isinstance of data -/
def tyD : D → String
  | .none => "NoneType"
  | .bool _ => "bool"
  | .int _ => "int"
  | .str _ => "str"
  | .list _ => "list"
  | .tuple _ => "tuple"
  | .dict _ => "dict"
theorem tyx_of {x : V} {d : D} (h : Dp K I x d) (s : Same I H) : TyX K H x (.type (tyD d)) := by
  cases h with
  | non => exact .base .non
  | bl b => exact .base (.bl b)
  | int i => exact .base (.int i)
  | str x => exact .base (.str x)
  | lst h _ =>
    rcases s.seq h with (h | ⟨o, h⟩) | ⟨o, its, n, h1, h2, _⟩
    · exact .base (.lst h)
    · exact .base (.frz h)
    · exact .kList h1 h2
  | tup h _ =>
    rcases s.seqT h with (h | ⟨o, h⟩) | ⟨o, its, n, h1, h2, _⟩
    · exact .base (.tup h)
    · exact .fTuple h
    · exact .kTuple h1 h2
theorem mv_isi {T x : Str} {Tn : String} {p p1 : Pos} {d : D} {b : Bool} (hg : Gl X x) (hm : X.mg x = none) (hx : x = "isinstance") (h1 : MV X B c e1 (.im d)) (hgT : Gl X T) (hmT : X.mg T = none) (hvT : bootBuiltins T = some (.type Tn)) (hk : kitB (tyD d) Tn = some b) (hn : T ≠ "__name__" := by decide) (hd : (T == ("__debug__" : Str)) = false := by decide)
    (he : starEach [e1, .Name T p1] X.env = (false, eval e1 X.env) :: starEach [.Name T p1] X.env := by rfl) (he2 : starEach [.Name T p1] X.env = (false, eval (.Name T p1) X.env) :: starEach [] X.env := by rfl) (hpl : (backTo pos (starEach [.Name T p1] X.env)).any (·.1) = false := by rfl) :
    MV X B c (.Call (.Name x p) [e1, .Name T p1] [] pos) (imB b) := by
  subst hx
  refine pe_mono (pe_callB call_isi hg hm PyProof.Rows.boot_isinstance (pa_cons h1 (pa_cons (pe_bltn (v := .ty Tn) hgT hmT hvT rfl hn hd) pa_nil he2) he) (he := he) (hpl := hpl)) fun σ H Q ⟨I, as, _, g, _, q⟩ => ?_
  refine ⟨I, as, (), g, rfl, fun v H1 ⟨I1, as1, g1, s1, p1, v1⟩ => ?_⟩
  exact ⟨v, .ty Tn, _, _, b, rfl, .ty Tn, tyx_of v1 g1.sub, kit_ty hk, q _ _ ⟨I1, as1, g1, s1, p1, .bl _⟩⟩
/-- == of data, whatever it is -/
theorem o2_eqD {a d : D} (ha : SeqAt.shaped a = true) (hd : SeqAt.shaped d = true) : OV2 K B (rEqD K) c (.im a) (.im d) (imB (PyData.eqv a d)) := fun σ H I as x y Q _ g hx hy _ q =>
  ⟨a, d, dp_mono g.sub hx, dp_mono g.sub hy, ha, hd, q _ _ (.of g (.bl _))⟩
theorem o2_neD {a d : D} (ha : SeqAt.shaped a = true) (hd : SeqAt.shaped d = true) : OV2 K B (rNeD K) c (.im a) (.im d) (imB (!PyData.eqv a d)) := fun σ H I as x y Q _ g hx hy _ q =>
  ⟨a, d, dp_mono g.sub hx, dp_mono g.sub hy, ha, hd, q _ _ (.of g (.bl _))⟩
theorem o2_eqI {i j : Int} : OV2 K B rEq c (imI i) (imI j) (imB (decide (i = j))) := fun σ H I as x y Q _ g hx hy _ q => by
  rw [vs_int hx, vs_int hy]
  exact ⟨rfl, q _ _ (.of g (by
    have e : decide (V.int i = V.int j) = decide (i = j) := by rw [dec_int, Bool.beq_eq_decide_eq]
    rw [e]; exact .bl _))⟩
theorem o2_neI {i j : Int} : OV2 K B rNe c (imI i) (imI j) (imB (!decide (i = j))) := fun σ H I as x y Q _ g hx hy _ q => by
  rw [vs_int hx, vs_int hy]
  exact ⟨rfl, q _ _ (.of g (by
    have e : decide (V.int i = V.int j) = decide (i = j) := by rw [dec_int, Bool.beq_eq_decide_eq]
    rw [e]; exact .bl _))⟩
theorem o2_eqB {i j : Bool} : OV2 K B rEq c (imB i) (imB j) (imB (i == j)) := fun σ H I as x y Q _ g hx hy _ q => by
  rw [vs_bl hx, vs_bl hy]
  exact ⟨rfl, q _ _ (.of g (by rw [dec_bl]; exact .bl _))⟩
theorem o2_neB {i j : Bool} : OV2 K B rNe c (imB i) (imB j) (imB (!(i == j))) := fun σ H I as x y Q _ g hx hy _ q => by
  rw [vs_bl hx, vs_bl hy]
  exact ⟨rfl, q _ _ (.of g (by rw [dec_bl]; exact .bl _))⟩
/-- n.bit_length() -/
theorem mv_bits {i : Int} {apos : Pos} (h : MV X B c e1 (imI i)) (hbase : attributeBase e1 "bit_length" X.env (eval e1 X.env) = eval e1 X.env := by rfl) (hline : (apos.endLine == pos.line) = true := by rfl) : MV X B c (.Call (.Attribute e1 "bit_length" apos) [] [] pos) (imI (Builtin.Int.intBits i : Int)) :=
  pe_mono (pe_bits h hbase hline) fun σ H Q ⟨I, as, _, g, _, q⟩ => ⟨I, as, (), g, rfl, fun v H1 ⟨I1, as1, g1, s1, p1, v1⟩ => ⟨i, vs_int v1, q _ _ ⟨I1, as1, g1, s1, p1, .int _⟩⟩⟩
/-- a tuple added to another -/
theorem o2_catT {xs ys : List D} {m : Option Unit} (hm : ∀ u, m = some u → xs.length + ys.length ≤ sizeLine) : O2 (γ := Unit) K B (rCatA K) c (.im (.tuple xs)) (.im (.tuple ys)) m (fun _ => .im (.tuple (xs ++ ys))) (fun _ => c) := fun σ H I as x y Q u g hx hy e q => by
  have hx0 := hx
  have hy0 := hy
  obtain ⟨a, vs, rfl, h1, h2⟩ := vs_tup hx
  obtain ⟨b, ws, rfl, h3, h4⟩ := vs_tup hy
  refine ⟨a, b, vs, ws, rfl, rfl, g.sub.seqT h1, g.sub.seqT h3, by rw [h2.len, h4.len]; exact hm u e, fun z => ?_, fun _ z => ?_, fun _ _ p hp => q _ _ (After.layT g hp (h2.app h4))⟩
  · rw [h2.nil_iff] at z; subst z
    exact q _ _ (.of g hy0)
  · rw [h4.nil_iff] at z; subst z
    rw [List.append_nil] at q
    exact q _ _ (.of g hx0)
def catM {τ : Type} (xs ys : List τ) : Option (List τ) := if xs.length + ys.length ≤ sizeLine then some (xs ++ ys) else none
theorem o2_catU {τ : Type} {k : τ → D} {xs ys : List τ} : OP2 K B (rCatA K) c (.im (kU k xs)) (.im (kU k ys)) (catM xs ys) (kU k) := fun σ H I as x y Q z g hx hy e q => by
  unfold catM at e
  split at e
  · cases e
    refine o2_catT (xs := xs.map k) (ys := ys.map k) (m := some ()) (fun _ _ => by simpa) σ H I as x y Q () g hx hy rfl fun v H' h => q v H' ?_
    rw [← List.map_append] at h; exact h
  · cases e
end
end M3

set_option Elab.async false
set_option linter.all false
set_option maxRecDepth 100000
set_option maxHeartbeats 4000000
namespace M3
open PySem PySem.Spec PyProof.Rows L2
section
variable {X : Cx} {B : Bs} {c : Ct} {K : PySem.W.Frag} {σ : St} {H I : Hp} {as : List Addr}
/-- list + list, to be read -/
def rCatL (K : PySem.W.Frag) : R2 := fun x y H Q => ∃ l b xs zs, x = .ref l ∧ y = .ref b ∧ SqL K H l xs ∧ SqL K H b zs ∧ xs.length + zs.length ≤ sizeLine ∧ ∀ p, H p = none → Q (.ref p) (upd H p (.lst (xs ++ zs)))
theorem op_catL : OpR X (binaryOp .Add) (rCatL X.K) := by
  intro pins s σ H x y v u Q J rx ry h
  obtain ⟨l, b, xs, zs, rfl, rfl, hl, hb, hz, q⟩ := h
  cases rx
  cases ry
  obtain ⟨us, r1, q1, _⟩ := J.list hl
  obtain ⟨ws, r2, q2, _⟩ := J.list hb
  obtain ⟨⟨cls, dd, data, sl⟩, n, g1, g2, g3, g4⟩ := q1
  obtain ⟨⟨cls', dd', data', sl'⟩, n', k1, k2, k3, k4⟩ := q2
  simp only at g2 g3 g4 k2 k3 k4
  subst g2 g3 g4 k2 k3 k4
  have e1 := r1.length
  have e2 := r2.length
  refine PySem.concat_meets ⟨_, g1, rfl⟩ ⟨_, k1, rfl⟩ noFill_list_add seq_list_add PySem.F.slot_list_add PySem.F.entry_list_add (PySem.F.args_list_add_2 _ _) (list_addW l b us.toArray ws.toArray n n' none none sl sl' (by rw [List.size_toArray, List.size_toArray]; omega)) ⟨g1, k1, ?_⟩
  have e : us.toArray ++ ws.toArray = (us ++ ws).toArray := by simp
  rw [e]
  exact ⟨.ref _, _, J.lnew (t' := s.toks) (r1.append r2) (by rw [List.length_append]; omega), rfl, q _ J.fresh⟩
theorem o2_catL {τ : Type} {k : τ → D} {xs ys : List τ} {s1 s2 : Sl} (l1 : LsOf c (xs.map k) s1) (l2 : LsOf c (ys.map k) s2) : OP2 K B (rCatL K) c s1 s2 (catM xs ys) (kL k) := fun σ H I as x y Q z g hx hy e q => by
  unfold catM at e
  split at e
  · cases e
    obtain ⟨a, vs, rfl, h1, h2⟩ := l1.get g hx
    obtain ⟨b, ws, rfl, h3, h4⟩ := l2.get g hy
    refine ⟨a, b, vs, ws, rfl, rfl, h1, h3, by rw [h2.len, h4.len, List.length_map, List.length_map]; assumption, fun p hp => q _ _ ?_⟩
    have := After.layL g hp (h2.app h4)
    rw [← List.map_append] at this; exact this
  · cases e
end
end M3

set_option Elab.async false
set_option linter.all false
set_option maxRecDepth 100000
set_option maxHeartbeats 4000000
namespace M3
open PySem PySem.Spec PyProof.Rows L2
section
variable {X : Cx} {B : Bs} {c : Ct} {K : PySem.W.Frag} {σ : St} {H I : Hp} {as : List Addr}
variable {α β γ δ τ υ ω S : Type} {e e1 e2 e3 : Expr} {es : List Expr} {pos : Pos} {cx : List Int → Ct} {ds : List Int}
theorem mwp {b : Bool} (h : MWV X B c e b) : MW X B c e (some b) (fun b => b) (fun _ => c) :=
  pw_mono h fun σ H Q ⟨I, as, d, g, e, k⟩ => ⟨I, as, (), g, rfl, by cases e; exact k⟩
theorem mwx_V {b : Bool} (h : MWV X B (cx ds) e b) : MWX X B cx ds e (some (b, ds)) :=
  pw_mono h fun σ H Q ⟨I, as, d, g, e, k⟩ => ⟨I, as, (), g, rfl, by cases e; exact k⟩
theorem mwx_P {m : Option Bool} (h : MW X B (cx ds) e m (fun b => b) (fun _ => cx ds)) : MWX X B cx ds e (m.bind fun v => some (v, ds)) :=
  pw_mono h fun σ H Q ⟨I, as, d, g, e, k⟩ => by
    obtain ⟨v, e1, e2⟩ := Option.bind_eq_some_iff.mp e
    cases e2
    exact ⟨I, as, v, g, e1, k⟩
theorem mx_re {m : Option (α × List Int)} {f : α → β} {k1 : α → D} {k2 : β → D} (h : MX X B cx ds e m (fun z => .im (k1 z))) (q : ∀ a, k2 (f a) = k1 a := by intro _; rfl) : MX X B cx ds e (m.bind fun a => some (f a.1, a.2)) (fun z => .im (k2 z)) :=
  pe_mono h fun σ H Q ⟨I, as, z, g, e, k⟩ => by
    obtain ⟨a, e1, e2⟩ := Option.bind_eq_some_iff.mp e
    cases e2
    exact ⟨I, as, a, g, e1, fun v H' z => k v H' (by show After X.K B σ I as (cx a.2) (.im (k2 (f a.1))) v H'; rw [q]; exact z)⟩
theorem mi_up {tg : Expr} {m : Option α} {xs : α → List τ} {k0 : τ → D} (h : MI X B (cx ds) tg e m (fun a => (xs a).map k0) (fun _ => cx ds)) : MI X B (cx ds) tg e (m.bind fun a => some (xs a, ds)) (fun z => z.1.map k0) (fun z => cx z.2) :=
  mi_re h fun z q => by
    obtain ⟨a, e1, e2⟩ := Option.bind_eq_some_iff.mp q
    cases e2
    exact ⟨a, e1, rfl, rfl⟩
theorem OS.up {r : V → Option Int → Option Int → Hp → VK → Prop} {s1 s : Sl} {lo hi : Option Int} {d : γ} {rs : γ → Sl} {c' : γ → Ct} (h : OS (γ := Unit) K B r c s1 lo hi (some ()) (fun _ => s) (fun _ => c)) (hr : rs d = s := by rfl) (hc : c' d = c := by rfl) : OS K B r c s1 lo hi (some d) rs c' :=
  fun σ H I as x Q z g hx e q => h σ H I as x Q () g hx rfl fun v H' a => q v H' (by cases e; rw [hr, hc]; exact a)
/-! outs -/
section
variable {post : ω → Oc} {m1 m2 : Option ω}
theorem out_some {w : ω} (h : ∀ c1, post w ≠ .nx c1) : Out (some w) post := fun w' e c1 => by cases e; exact h c1
theorem out_bind {m : Option α} {f : α → Option ω} (h : ∀ a, Out (f a) post) : Out (m.bind f) post := fun w e c1 => by
  obtain ⟨a, _, e2⟩ := Option.bind_eq_some_iff.mp e
  exact h a w e2 c1
theorem out_ite {p : Prop} [Decidable p] (h1 : Out m1 post) (h2 : Out m2 post) : Out (if p then m1 else m2) post := by split <;> assumption
theorem out_elim {L R : Type} {m : Option (Fl L R)} {k : L → Option ω} {j : R → Option ω} (h1 : ∀ l, Out (k l) post) (h2 : ∀ r, Out (j r) post) : Out (m.bind (Fl.elim k j)) post := out_bind fun a => by
  cases a
  · exact h1 _
  · exact h1 _
  · exact h1 _
  · exact h2 _
end
/-- how a loop's body is left -/
inductive Ex (L R : Type) where
  | ct (l : L) | bk (l : L) | rt (r : R)
def Ex.fl {L R : Type} : Ex L R → Fl L R
  | .ct l => .ct l
  | .bk l => .bk l
  | .rt r => .rt r
def ocE {L R : Type} (cL : L → Ct) (sr : R → Sl) (cr : R → Ct) : Ex L R → Oc
  | .ct l => .ct (cL l)
  | .bk l => .bk (cL l)
  | .rt r => .rt (sr r) (cr r)
/-- one way goes on, another leaves: behind it the rest -/
theorem mb_fe {J Ω : Type} {st : Stmt} {rest : List Stmt} {m1 : Option (Fl J Ω)} {cJ : J → Ct} {k : J → Option ω} {px : Ω → Oc} {post : ω → Oc} (j : Ω → ω) (h1 : MS X B c st m1 (ocJ cJ px)) (h2 : ∀ j, MB X B (cJ j) rest (k j) post) (hx : ∀ w c1, px w ≠ .nx c1) (hj : ∀ w, post (j w) = px w) : MB X B c (st :: rest) (m1.bind (Fl.elim k fun w => some (j w))) post :=
  mb_seq _ h1 fun w1 => by
    cases w1 with
    | nx j => exact .inl ⟨_, rfl, h2 j⟩
    | ct j => exact .inl ⟨_, rfl, h2 j⟩
    | bk j => exact .inl ⟨_, rfl, h2 j⟩
    | rt w => exact .inr ⟨fun c1 => hx w c1, fun w' e => by cases e; exact hj w⟩
/-- a, b = x, y -/
theorem ms_parV (i j : Nat) {x y : Str} {px py pt : Pos} {kt n2 : Nat} {pt2 : Pos} {k1 : α → D} {k2 : β → D} {v : α × β} (hc : X.calm = true) (hN : X.N.Nodup) (ha : MAI X B c [e1, e2] [k1 v.1, k2 v.2]) (hi : X.N[i]? = some x := by rfl) (hj : X.N[j]? = some y := by rfl) (hij : i ≠ j := by decide)
    (hx : X.env.scope.names.lookup x = some .local := by rfl) (hy : X.env.scope.names.lookup y = some .local := by rfl)
    (hw : swappedStores [.Tuple [.Name x px, .Name y py] kt pt] (.Tuple [e1, e2] n2 pt2) X.env = pure (some [x, y]) := by rfl)
    (hs : swapsWithSole [.Tuple [.Name x px, .Name y py] kt pt] (.Tuple [e1, e2] n2 pt2) pos.line X.env = pure false := by rfl) :
    MS X B c (.Assign [.Tuple [.Name x px, .Name y py] kt pt] (.Tuple [e1, e2] n2 pt2) pos) (some v) (fun a => .nx ((c.st i (.im (k1 a.1))).st j (.im (k2 a.2)))) :=
  ms_par (m := some v) (r1 := fun a => .im (k1 a.1)) (r2 := fun a => .im (k2 a.2)) (ca := fun _ => c) i j hc hN (pa_mono ha fun σ H Q ⟨I, as, a, g, e, k⟩ => ⟨I, as, (), g, rfl, by cases e; exact k⟩) hi hj hij hx hy hw hs
/-- where a def stands -/
structure Own (P : Program) (w : World) (K : PySem.W.Frag) (mg : Str → Option Value) (base : Heap) (lv : Nat) (x : Str) (f : Addr) (fd : FuncData) (ps : List Str) {β γ : Type} (ca : β → Ct) (F : β → Option γ) (rs : γ → Sl) (cr : γ → Ct) : Prop where
  G : FnOk P w K mg base CX0 lv f fd ps (PrF K ca F rs cr)
  hm : mg x = some (.ref f)
  hk : PySem.W.keepIn K (.ref f) = true
  hb : Binds K fd ps []
/-! the built-ins -/
theorem bt_abs : bootBuiltins "abs" = some (.builtin "abs") := by decide +kernel
theorem bt_min : bootBuiltins "min" = some (.builtin "min") := by decide +kernel
theorem bt_max : bootBuiltins "max" = some (.builtin "max") := by decide +kernel
theorem bt_sum : bootBuiltins "sum" = some (.builtin "sum") := by decide +kernel
theorem bt_any : bootBuiltins "any" = some (.builtin "any") := by decide +kernel
theorem bt_all : bootBuiltins "all" = some (.builtin "all") := by decide +kernel
theorem bt_sorted : bootBuiltins "sorted" = some (.builtin "sorted") := by decide +kernel
theorem bt_isinstance : bootBuiltins "isinstance" = some (.builtin "isinstance") := by decide +kernel
theorem bt_len : bootBuiltins "len" = some (.builtin "len") := by decide +kernel
theorem bt_divmod : bootBuiltins "divmod" = some (.builtin "divmod") := by decide +kernel
theorem bt_int : bootBuiltins "int" = some (.type "int") := by decide +kernel
theorem bt_tuple : bootBuiltins "tuple" = some (.type "tuple") := by decide +kernel
theorem bt_list : bootBuiltins "list" = some (.type "list") := by decide +kernel
theorem bt_set : bootBuiltins "set" = some (.type "set") := by decide +kernel
theorem bt_dict : bootBuiltins "dict" = some (.type "dict") := by decide +kernel
theorem bt_str : bootBuiltins "str" = some (.type "str") := by decide +kernel
theorem bt_bool : bootBuiltins "bool" = some (.type "bool") := by decide +kernel
theorem bt_enumerate : bootBuiltins "enumerate" = some (.type "enumerate") := by decide +kernel
theorem bt_range : bootBuiltins "range" = some (.type "range") := by decide +kernel
end
end M3

set_option Elab.async false
set_option linter.all false
set_option maxRecDepth 100000
set_option maxHeartbeats 4000000
namespace M3
open PySem PySem.Spec PyProof.Rows L2
section
variable {X : Cx} {B : Bs} {c : Ct} {K : PySem.W.Frag} {σ : St} {H I : Hp} {as : List Addr}
variable {α β γ δ τ υ ω S : Type} {e e1 e2 e3 : Expr} {es : List Expr} {pos p : Pos} {cx : List Int → Ct} {ds : List Int}
theorem mx_pop {apos : Pos} (h1 : MV X B (cx ds) e1 (.rf 0)) (h0 : (cx ds).m[0]? = some (ds.map kI) := by rfl) (hmu : ∀ ds', (cx ds).mu 0 (ds'.map kI) = cx ds' := by intro _; rfl) (hbase : attributeBase e1 "pop" X.env (eval e1 X.env) = eval e1 X.env := by rfl) (hline : (apos.endLine == pos.line) = true := by rfl) :
    MX X B cx ds (.Call (.Attribute e1 "pop" apos) [] [] pos) (ds.getLast?.map fun x => (x, ds.dropLast)) (fun x => .im (kI x)) :=
  pe_mono (me_pop (k := kI) (xs := ds) h1 h0 hbase hline) fun σ H Q ⟨I, as, z, g, e, q⟩ => ⟨I, as, z, g, e, fun v H' a => q v H' (by show After X.K B σ I as (cx z.2) _ v H'; rw [← hmu]; exact a)⟩
theorem me_none {r : α → Sl} {c' : α → Ct} : ME X B c e none r c' := ⟨fun pins s σ H Q I ⟨_, _, _, _, e, _⟩ => nomatch e⟩
theorem mb_none {sts : List Stmt} {post : ω → Oc} : MB X B c sts none post := ⟨fun pins s σ H E I ⟨_, _, _, _, e, _⟩ => nomatch e⟩
theorem mb_eq {sts : List Stmt} {m m' : Option ω} {post : ω → Oc} (h : MB X B c sts m post) (q : m = m' := by rfl) : MB X B c sts m' post := q ▸ h
theorem mtv_orT {p1 : Pos} {b : Bool} (h1 : MTV X B c e1 true) (h2 : MTV X B c e2 b) : MTV X B c (.BoolOp .Or [.UnaryOp .Not e1 p1, e2] pos) b := by
  have h := PW.pt (mwv_or (pos := pos) (mtv_not (pos := p1) h1) (mw_or1 h2))
  exact h
theorem mb_ixF {t : Expr} {b1 rest : List Stmt} {m : Option ω} {post : ω → Oc} (ht : MTV X B c t false) (hb : MB X B c rest m post) : MB X B c (.If t b1 [] pos :: rest) m post :=
  pss_mono (mb_ixV (m1 := none) ht mb_none (fun _ e => nomatch e) hb) fun E σ H q => q
theorem mb_ixT {t : Expr} {b1 rest : List Stmt} {m : Option ω} {post : ω → Oc} (ht : MTV X B c t true) (ha : MB X B c b1 m post) (hx : Out m post) : MB X B c (.If t b1 [] pos :: rest) m post :=
  pss_mono (mb_ixV (m2 := none) ht ha hx mb_none) fun E σ H q => q
/-! ### a def reads our cells, and gives a value without places -/
/-- what a cell holds, as data -/
def rdS (c : Ct) : Sl → D
  | .im d => d
  | .rf j => .list (c.m.getD j [])
def Sc : D → Prop
  | .none | .bool _ | .int _ | .str _ => True
  | _ => False
theorem sc_dp {I I' : Hp} {v : V} {d : D} (s : Sc d) (h : Dp K I v d) : Dp K I' v d := by
  cases h with
  | non => exact .non
  | bl b => exact .bl b
  | int i => exact .int i
  | str x => exact .str x
  | lst _ _ => exact s.elim
  | tup _ _ => exact s.elim
/-- all cells frozen for a while -/
noncomputable def iced (I H : Hp) (as : List Addr) : Hp := fun a => open Classical in if a ∈ as then H a else I a
theorem iced_in {a : Addr} (h : a ∈ as) : iced I H as a = H a := by unfold iced; exact if_pos h
theorem iced_out {a : Addr} (h : a ∉ as) : iced I H as a = I a := by unfold iced; exact if_neg h
theorem Ge.same_iced (g : Ge K B c σ H I as) : Same I (iced I H as) := fun a o e => by
  by_cases h : a ∈ as
  · obtain ⟨j, hj⟩ := List.mem_iff_getElem?.mp h
    rw [(g.cell j a hj).1] at e; cases e
  · rw [iced_out h]; exact e
theorem Ge.iced_sub (g : Ge K B c σ H I as) : Same (iced I H as) H := fun a o e => by
  by_cases h : a ∈ as
  · rw [iced_in h] at e; exact e
  · rw [iced_out h] at e; exact g.sub a o e
theorem Ge.rd (g : Ge K B c σ H I as) {v : V} {sl : Sl} (h : VS K I as v sl) : Dp K (iced I H as) v (rdS c sl) := by
  cases sl with
  | im d => exact dp_mono g.same_iced h
  | rf j =>
    obtain ⟨a, ha, rfl⟩ := h
    have hj : j < c.m.length := by rw [← g.len]; exact (List.getElem?_eq_some_iff.mp ha).1
    have e : c.m[j]? = some (c.m.getD j []) := by rw [List.getD_eq_getElem?_getD, List.getElem?_eq_getElem hj]; rfl
    obtain ⟨xs, h1, h2⟩ := g.con j a _ ha e
    exact .lst (.of (by rw [iced_in (List.mem_of_getElem? ha)]; exact h1)) (dpAll_mono g.same_iced h2)
theorem rdAll (g : Ge K B c σ H I as) : ∀ {vs : List V} {ss : List Sl}, Paired (VS K I as) vs ss → DpAll K (iced I H as) vs (ss.map (rdS c))
  | _, _, .nil => .nil
  | _, _, .cons h a => .cons (g.rd h) (rdAll g a)
theorem Ge.melt (g : Ge K B c σ H I as) {cr : Ct} {H' I' : Hp} {as' : List Addr} (g' : Ge K ⟨iced I H as, H, []⟩ cr [] H' I' as') (s : Same (iced I H as) I') : Ge K B c σ H' I as := by
  have up : Same (iced I H as) H' := fun a o e => g'.sub a o (s a o e)
  refine ⟨g.ext, fun a o e => up a o (g.same_iced a o e), g.new, fun a o n e => ?_, g.bl, g.pre, g.nd, g.cell, g.len, fun j a ds e f => ?_, g.slen, g.slot⟩
  · exact g'.frm a o (by simp) (g.frm a o n e)
  · obtain ⟨xs, h1, h2⟩ := g.con j a ds e f
    exact ⟨xs, up a _ (by rw [iced_in (List.mem_of_getElem? e)]; exact h1), h2⟩
variable {F : β → Option γ} {ca : β → Ct} {rs : γ → Sl} {cr : γ → Ct} {lv : Nat} {f : Addr} {fd : FuncData} {ps : List Str} {x : Str} {k : γ → D}
theorem me_callT {m : Option α} {ss : α → List Sl} {c1 : α → Ct} (bb : α → β) (G : Df X.prog X.w X.K X.mg X.base X.A lv x f fd ps ca F rs cr) (hg : Gl X x) (ha : MA X B c (e1 :: es) m ss c1) (hsc : ∀ g, Sc (k g)) (hbb : ∀ a, ca (bb a) = ⟨0, (ss a).map fun s => some (.im (rdS (c1 a) s)), []⟩ := by intro _; rfl) (hrs : ∀ g, rs g = .im (k g) := by intro _; rfl)
    (hdb : (x == ("__debug__" : Str)) = false := by decide) (he : starEach (e1 :: es) X.env = (false, eval e1 X.env) :: starEach es X.env := by rfl) (hpl : (backTo pos (starEach es X.env)).any (·.1) = false := by rfl) :
    ME X B c (.Call (.Name x p) (e1 :: es) [] pos) (m.bind fun a => (F (bb a)).bind fun g => some (g, a)) (fun z => .im (k z.1)) (fun z => c1 z.2) :=
  pe_mono (pe_call G.G G.hr hg G.hm G.hk G.hb .nil pass0 ha hdb he hpl) fun σ H Q ⟨I, as, d, g, e, q⟩ => by
    obtain ⟨a, e1, e2⟩ := Option.bind_eq_some_iff.mp e
    obtain ⟨z, hz, e3⟩ := Option.bind_eq_some_iff.mp e2
    cases e3
    refine ⟨I, as, a, g, e1, fun vs H1 ⟨I1, as1, g1, s1, p1, v1⟩ => ?_⟩
    show PrF X.K ca F rs cr (vs ++ []) H1 Q E0
    rw [List.append_nil]
    refine ⟨bb a, z, iced I1 H1 as1, [], hz, ?_, fun v H' I' as' g' s' h' => q v H' ⟨I1, as1, g1.melt g' s', s1, p1, ?_⟩⟩
    · rw [hbb a]
      have d1 := rdAll g1 v1
      refine ⟨Same.refl _, g1.iced_sub, (fun a o e b => nomatch (e.symm.trans b : some o = none)), fun a o _ e => e, rfl, rfl, List.Pairwise.nil, (fun j a e => by simp at e), rfl, (fun j a ds e => by simp at e), by have := d1.len; simpa using this, fun i sl e => ?_⟩
      have e : ((ss a).map fun s => some (Sl.im (rdS (c1 a) s)))[i]? = some (some sl) := e
      rw [List.getElem?_map] at e
      cases hd : (ss a)[i]? with
      | none => rw [hd] at e; cases e
      | some d0 =>
        rw [hd] at e
        have e : some (Sl.im (rdS (c1 a) d0)) = some sl := Option.some.inj e
        cases e
        obtain ⟨v, q1, q2⟩ := d1.get (i := i) (d := rdS (c1 a) d0) (by rw [List.getElem?_map, hd]; rfl)
        exact ⟨v, by rw [List.getElem?_map, q1]; rfl, q2⟩
    · rw [hrs] at h'
      exact sc_dp (hsc z) h'
/-- all values known -/
theorem mp_callT {ss : List Sl} (b : β) (G : Df X.prog X.w X.K X.mg X.base X.A lv x f fd ps ca F rs cr) (hg : Gl X x) (ha : MAV X B c (e1 :: es) ss) (hsc : ∀ g, Sc (k g)) (hbb : ca b = ⟨0, ss.map fun s => some (.im (rdS c s)), []⟩ := by rfl) (hrs : ∀ g, rs g = .im (k g) := by intro _; rfl)
    (hdb : (x == ("__debug__" : Str)) = false := by decide) (he : starEach (e1 :: es) X.env = (false, eval e1 X.env) :: starEach es X.env := by rfl) (hpl : (backTo pos (starEach es X.env)).any (·.1) = false := by rfl) :
    MP X B c (.Call (.Name x p) (e1 :: es) [] pos) (F b) k :=
  pe_mono (me_callT (fun _ => b) G hg ha hsc (fun _ => hbb) hrs hdb he hpl) fun σ H Q ⟨I, as, z, g, e, q⟩ => ⟨I, as, (z, ()), g, by rw [e]; rfl, q⟩
/-! ### the same data -/
def isBl : D → Bool | .bool _ => true | _ => false
/-- what _law_same of all laws answers, to depth n -/
def same : Nat → D → D → Option Bool
  | _, a, .bool b => some (match a with | .bool c => c == b | _ => false)
  | _, a, .int i => some (match a with | .int j => decide (j = i) | _ => false)
  | _, a, .none => some (isNn a)
  | n + 1, .tuple as, .tuple ds => if (!decide ((as.length : Int) = (ds.length : Int))) = true then some false else
    ((rngM 0 (ds.length : Int)).bind fun z10 => forR (R := Bool) (fun (x2 : Int) (l1 : Unit) => ((((atI as x2).bind fun z3 => (atI ds x2).bind fun z4 => some (z3, z4)).bind fun z5 => same n z5.1 z5.2).bind fun z6 => some (!z6)).bind fun z8 => if z8 = true then (some (Fl.rt (false))) else (some (Fl.nx ()))) z10 ()).bind (Fl.elim (fun (l11 : Unit) => some (true)) (fun r12 => some (r12)))
  | _ + 1, .none, .tuple _ => some false
  | _ + 1, .bool _, .tuple _ => some false
  | _ + 1, .int _, .tuple _ => some false
  | _ + 1, .str _, .tuple _ => some false
  | _ + 1, .list _, .tuple _ => some false
  | _ + 1, .dict _, .tuple _ => some false
  | _, _, _ => none
theorem same_tup (n : Nat) (as ds : List D) : same (n + 1) (.tuple as) (.tuple ds) = if (!decide ((as.length : Int) = (ds.length : Int))) = true then some false else
    ((rngM 0 (ds.length : Int)).bind fun z10 => forR (R := Bool) (fun (x2 : Int) (l1 : Unit) => ((((atI as x2).bind fun z3 => (atI ds x2).bind fun z4 => some (z3, z4)).bind fun z5 => same n z5.1 z5.2).bind fun z6 => some (!z6)).bind fun z8 => if z8 = true then (some (Fl.rt (false))) else (some (Fl.nx ()))) z10 ()).bind (Fl.elim (fun (l11 : Unit) => some (true)) (fun r12 => some (r12))) := rfl
theorem tup_kD (as : List D) : PyData.tuple as = kU kD as := by show _ = PyData.tuple (as.map kD); rw [show (kD : D → D) = id from rfl, List.map_id]
theorem mw_none {r : α → Bool} {c' : α → Ct} : MW X B c e none r c' := ⟨fun whole pins s σ H Q I ⟨_, _, _, _, e, _⟩ => nomatch e⟩
theorem kit_NoneType_bool : kitB "NoneType" "bool" = some false := by decide +kernel
theorem kit_NoneType_int : kitB "NoneType" "int" = some false := by decide +kernel
theorem kit_NoneType_str : kitB "NoneType" "str" = some false := by decide +kernel
theorem kit_NoneType_tuple : kitB "NoneType" "tuple" = some false := by decide +kernel
theorem kit_bool_bool : kitB "bool" "bool" = some true := by decide +kernel
theorem kit_bool_int : kitB "bool" "int" = some true := by decide +kernel
theorem kit_bool_str : kitB "bool" "str" = some false := by decide +kernel
theorem kit_bool_tuple : kitB "bool" "tuple" = some false := by decide +kernel
theorem kit_int_bool : kitB "int" "bool" = some false := by decide +kernel
theorem kit_int_int : kitB "int" "int" = some true := by decide +kernel
theorem kit_int_str : kitB "int" "str" = some false := by decide +kernel
theorem kit_int_tuple : kitB "int" "tuple" = some false := by decide +kernel
theorem kit_str_bool : kitB "str" "bool" = some false := by decide +kernel
theorem kit_str_int : kitB "str" "int" = some false := by decide +kernel
theorem kit_str_str : kitB "str" "str" = some true := by decide +kernel
theorem kit_str_tuple : kitB "str" "tuple" = some false := by decide +kernel
theorem kit_list_bool : kitB "list" "bool" = some false := by decide +kernel
theorem kit_list_int : kitB "list" "int" = some false := by decide +kernel
theorem kit_list_str : kitB "list" "str" = some false := by decide +kernel
theorem kit_list_tuple : kitB "list" "tuple" = some false := by decide +kernel
theorem kit_tuple_bool : kitB "tuple" "bool" = some false := by decide +kernel
theorem kit_tuple_int : kitB "tuple" "int" = some false := by decide +kernel
theorem kit_tuple_str : kitB "tuple" "str" = some false := by decide +kernel
theorem kit_tuple_tuple : kitB "tuple" "tuple" = some true := by decide +kernel
theorem kit_dict_bool : kitB "dict" "bool" = some false := by decide +kernel
theorem kit_dict_int : kitB "dict" "int" = some false := by decide +kernel
theorem kit_dict_str : kitB "dict" "str" = some false := by decide +kernel
theorem kit_dict_tuple : kitB "dict" "tuple" = some false := by decide +kernel
end
end M3

set_option Elab.async false
set_option linter.all false
set_option maxRecDepth 100000
set_option maxHeartbeats 4000000
namespace M3
open PySem PySem.Spec PyProof.Rows L2
/-! ### the head: what is handed to law -/
def spLaw (K : PySem.W.Frag) : Sp := fun vs H Q _ => ∃ (a : Addr) (ns : List Int), vs = [.ref a] ∧ SqL K H a (ns.map V.int) ∧ ns.length ≤ 63 ∧ (∀ z ∈ ns, Builtin.Int.intBits z ≤ 1048576) ∧ ∀ H', Q (.bl true) H'
theorem dp_ofInts {K : PySem.W.Frag} {H : Hp} : ∀ ns : List Int, DpAll K H (ns.map V.int) (ns.map .int)
  | [] => .nil
  | _ :: r => .cons (.int _) (dp_ofInts r)
theorem law_end {P : Program} {w : World} {K : PySem.W.Frag} {mg : Str → Option Value} {base : Heap} {lv k : Nat} {f : Addr} {fd : FuncData} {F : List Int → Option Bool}
    (G : FnOk P w K mg base CX0 lv f fd ["script"] (PrF K (fun b : List Int => (⟨0, [some (.im (kL kI b))], []⟩ : Ct)) F (fun g => .im (kB g)) (fun _ => (⟨0, [], []⟩ : Ct)))) (hk : lv ≤ k)
    (hF : ∀ ns : List Int, ns.length ≤ 63 → (∀ z ∈ ns, Builtin.Int.intBits z ≤ 1048576) → F ns = some true) : FnOk P w K mg base CX0 k f fd ["script"] (spLaw K) := by
  have pr : ∀ vs H Q E, spLaw K vs H Q E → PrF K (fun b : List Int => (⟨0, [some (.im (kL kI b))], []⟩ : Ct)) F (fun g => .im (kB g)) (fun _ => (⟨0, [], []⟩ : Ct)) vs H Q E := fun vs H Q E ⟨a, ns, e, h, h1, h2, q⟩ => by
    subst e
    refine ⟨ns, true, H, [], hF ns h1 h2, ⟨Same.refl _, (fun _ _ e => e), (fun a o e b => nomatch (e.symm.trans b : some o = none)), (fun a o _ e => e), rfl, rfl, List.Pairwise.nil, (fun j a e => by simp at e), rfl, (fun j a ds e => by simp at e), rfl, fun i sl e => ?_⟩, fun v H' I' as' g' s' h' => ?_⟩
    · cases i with
      | zero =>
        have e : some (some (Sl.im (kL kI ns))) = some (some sl) := e
        cases e
        exact ⟨.ref a, rfl, .lst h (dp_ofInts ns)⟩
      | succ i => simp at e
    · rw [vs_bl h']; exact q H'
  have G2 := G.mono hk
  exact ⟨fun vs H Q E h => G2.len vs H Q E (pr vs H Q E h), fun A outer s H args us vs Q E hr he hb hv h => G2.run A outer s H args us vs Q E hr he hb hv (pr vs H Q E h)⟩
end M3

set_option Elab.async false
set_option linter.all false
set_option maxRecDepth 100000
set_option maxHeartbeats 1000000
namespace M3
open PySem PySem.Spec PyProof.Rows L2
/-! ### plain tools -/
/-- not by rfl on purpose: simp then leaves the kernel nothing to compute -/
theorem bS {α β : Type} (a : α) (f : α → Option β) : (some a).bind f = f a := Classical.byContradiction fun h => h rfl
theorem mS {α β : Type} (a : α) (f : α → β) : (some a).map f = some (f a) := Classical.byContradiction fun h => h rfl
theorem eN {L R ω : Type} (k : L → Option ω) (j : R → Option ω) (l : L) : Fl.elim k j (.nx l) = k l := Classical.byContradiction fun h => h rfl
theorem eB {L R ω : Type} (k : L → Option ω) (j : R → Option ω) (l : L) : Fl.elim k j (.bk l) = k l := Classical.byContradiction fun h => h rfl
theorem eR {L R ω : Type} (k : L → Option ω) (j : R → Option ω) (r : R) : Fl.elim k j (.rt r) = j r := Classical.byContradiction fun h => h rfl
theorem mulM_l {i j : Int} (h1 : -18446744073709551616 < i) (h2 : i < 18446744073709551616) : mulM i j = some (i * j) := by
  unfold mulM; rw [if_pos]; exact .inl ⟨by omega, by omega⟩
theorem mulM_r {i j : Int} (h1 : -18446744073709551616 < j) (h2 : j < 18446744073709551616) : mulM i j = some (i * j) := by
  unfold mulM; rw [if_pos]; exact .inr (.inl ⟨by omega, by omega⟩)
theorem divOk {j : Int} (h0 : j ≠ 0) (h1 : -18446744073709551616 < j) (h2 : j < 18446744073709551616) : j.natAbs.log2 < 9000 := by
  have h : j.natAbs < 2 ^ 64 := by omega
  have : j.natAbs.log2 < 64 := (Nat.log2_lt (by omega)).mpr h
  omega
theorem fdivM_s {i j : Int} (h0 : 0 < j) (h1 : j < 18446744073709551616) : fdivM i j = some (i / j) := by
  have hc : CDivA i j := ⟨by omega, divOk (by omega) (by omega) h1⟩
  unfold fdivM
  rw [if_pos hc, Int.fdiv_eq_ediv_of_nonneg _ (by omega)]
theorem modM_p {i j : Int} (h0 : 0 < j) : modM i j = some (i % j) := by
  unfold modM
  rw [if_pos (by omega), Int.fmod_eq_emod_of_nonneg _ (by omega)]
theorem fdivM_neg {i j : Int} (h0 : j < 0) (h1 : -18446744073709551616 < j) : fdivM i j = some (i.fdiv j) := if_pos ⟨by omega, divOk (by omega) h1 (by omega)⟩
theorem rngM_ok {a b : Int} (h1 : -big ≤ a ∧ a < big) (h2 : -big ≤ b ∧ b < big) (h3 : b - a ≤ 16777216) : rngM a b = some (rng a b) := if_pos ⟨h1, h2, h3⟩
theorem rngM_0 {b : Int} (h : b ≤ 16777216) (h2 : -16777216 ≤ b) : rngM 0 b = some (rng 0 b) := rngM_ok (by unfold big; omega) (by unfold big; omega) (by omega)
theorem rngM_nat {n : Nat} (h : n ≤ 16777216) : rngM 0 (n : Int) = some (rng 0 (n : Int)) := rngM_0 (by omega) (by omega)
theorem rng_len (a b : Int) : (rng a b).length = (b - a).toNat := by unfold rng; simp
theorem rng_get {a b : Int} {i : Nat} {x : Int} (h : (rng a b)[i]? = some x) : x = a + i ∧ a ≤ x ∧ x < b := by
  unfold rng at h
  rw [List.getElem?_map] at h
  cases e : (List.range (b - a).toNat)[i]? with
  | none => rw [e] at h; cases h
  | some k =>
    rw [e] at h
    obtain ⟨h1, h2⟩ := List.getElem?_eq_some_iff.mp e
    rw [List.getElem_range] at h2
    rw [List.length_range] at h1
    subst h2
    have h : a + (i : Int) = x := Option.some.inj h
    omega
theorem atI_in {τ : Type} {xs : List τ} {i : Int} (h0 : 0 ≤ i) (h1 : i < xs.length) : ∃ v, atI xs i = some v ∧ xs[i.toNat]? = some v := by
  obtain ⟨j, rfl⟩ := Int.eq_ofNat_of_zero_le h0
  have hj : j < xs.length := by omega
  exact ⟨xs[j], atI_nat (List.getElem?_eq_getElem hj), by simp [hj]⟩
theorem atI_eq {τ : Type} {xs : List τ} {j : Nat} (h : j < xs.length) : atI xs (j : Int) = some xs[j] := atI_nat (List.getElem?_eq_getElem h)
theorem setI_in {τ : Type} {xs : List τ} {i : Int} {x : τ} (h0 : 0 ≤ i) (h1 : i < xs.length) : setI xs i x = some (xs.set i.toNat x) := by
  obtain ⟨j, rfl⟩ := Int.eq_ofNat_of_zero_le h0
  have e : ixN xs.length (j : Int) = some j := by
    unfold ixN
    rw [if_pos (by omega), if_pos (by omega)]; simp
  unfold setI
  rw [e]; rfl
theorem roomM_ok {n : Nat} (h : n < 16777216) : roomM n = some () := if_pos (Nat.lt_of_lt_of_le h (by decide))
theorem catM_ok {τ : Type} {xs ys : List τ} (h : xs.length + ys.length ≤ 16777216) : catM xs ys = some (xs ++ ys) := if_pos (Nat.le_trans h (by decide))
/-! loops by a statement that holds ahead of each turn -/
theorem forP_ok {τ L : Type} {f : τ → L → Option L} : ∀ {xs : List τ} {l0 : L} (I : Nat → L → Prop), I 0 l0 → (∀ i l x, xs[i]? = some x → I i l → ∃ l', f x l = some l' ∧ I (i + 1) l') → ∃ l, forP f xs l0 = some l ∧ I xs.length l
  | [], l0, I, h0, _ => ⟨l0, rfl, h0⟩
  | x :: xs, l0, I, h0, hs => by
    obtain ⟨l1, e1, h1⟩ := hs 0 l0 x rfl h0
    obtain ⟨l, e, h⟩ := forP_ok (xs := xs) (l0 := l1) (fun i => I (i + 1)) h1 fun i l y hy hi => hs (i + 1) l y (by simpa using hy) hi
    exact ⟨l, by show (f x l0).bind _ = _; rw [e1]; exact e, h⟩
theorem forR_nx {τ L R : Type} {f : τ → L → Option (Fl L R)} : ∀ {xs : List τ} {l0 : L} (I : Nat → L → Prop), I 0 l0 → (∀ i l x, xs[i]? = some x → I i l → ∃ l', f x l = some (.nx l') ∧ I (i + 1) l') → ∃ l, forR f xs l0 = some (.nx l) ∧ I xs.length l
  | [], l0, I, h0, _ => ⟨l0, rfl, h0⟩
  | x :: xs, l0, I, h0, hs => by
    obtain ⟨l1, e1, h1⟩ := hs 0 l0 x rfl h0
    obtain ⟨l, e, h⟩ := forR_nx (xs := xs) (l0 := l1) (fun i => I (i + 1)) h1 fun i l y hy hi => hs (i + 1) l y (by simpa using hy) hi
    exact ⟨l, by show (f x l0).bind _ = _; rw [e1]; exact e, h⟩
/-- .. that may be left by break -/
theorem forR_bk {τ L R : Type} {f : τ → L → Option (Fl L R)} : ∀ {xs : List τ} {l0 : L} (I : Nat → L → Prop) (Q : L → Prop), I 0 l0 → (∀ i l x, xs[i]? = some x → I i l → (∃ l', f x l = some (.nx l') ∧ I (i + 1) l') ∨ ∃ l', f x l = some (.bk l') ∧ Q l') → (∀ l, I xs.length l → Q l) → ∃ l, forR f xs l0 = some (.nx l) ∧ Q l
  | [], l0, I, Q, h0, _, hq => ⟨l0, rfl, hq _ h0⟩
  | x :: xs, l0, I, Q, h0, hs, hq => by
    rcases hs 0 l0 x rfl h0 with ⟨l1, e1, h1⟩ | ⟨l1, e1, h1⟩
    · obtain ⟨l, e, h⟩ := forR_bk (xs := xs) (l0 := l1) (fun i => I (i + 1)) Q h1 (fun i l y hy hi => hs (i + 1) l y (by simpa using hy) hi) hq
      exact ⟨l, by show (f x l0).bind _ = _; rw [e1]; exact e, h⟩
    · exact ⟨l1, by show (f x l0).bind _ = _; rw [e1]; rfl, h1⟩
/-- a while: a measure that gets less -/
theorem whP_ok {L : Type} {t : L → Option Bool} {f : L → Option L} (I : L → Prop) (mu : L → Nat) : ∀ {n : Nat} {l0 : L}, mu l0 < n → I l0 → (∀ l, I l → ∃ b, t l = some b ∧ (b = true → ∃ l', f l = some l' ∧ I l' ∧ mu l' < mu l)) → ∃ l, whP t f n l0 = some l ∧ I l ∧ t l = some false
  | 0, l0, h, _, _ => absurd h (Nat.not_lt_zero _)
  | n + 1, l0, h, hI, hs => by
    obtain ⟨b, e1, h1⟩ := hs l0 hI
    cases b with
    | false => exact ⟨l0, by show (t l0).bind _ = _; rw [e1]; rfl, hI, e1⟩
    | true =>
      obtain ⟨l', e2, h2, h3⟩ := h1 rfl
      obtain ⟨l, e, h⟩ := whP_ok I mu (n := n) (l0 := l') (by omega) h2 hs
      exact ⟨l, by show (t l0).bind _ = _; rw [e1]; show (f l0).bind _ = _; rw [e2]; exact e, h⟩
theorem mapO_ok {τ υ : Type} {f : τ → Option υ} {g : τ → υ} : ∀ {xs : List τ}, (∀ x ∈ xs, f x = some (g x)) → mapO f xs = some (xs.map g)
  | [], _ => rfl
  | x :: xs, h => by
    show (f x).bind _ = _
    rw [h x List.mem_cons_self]
    show (mapO f xs).bind _ = _
    rw [mapO_ok fun y hy => h y (List.mem_cons_of_mem _ hy)]
    rfl
/-! the same data -/
theorem same_I (n : Nat) (i j : Int) : same n (kI i) (kI j) = some (decide (i = j)) := by cases n <;> rfl
theorem same_B (n : Nat) (i j : Bool) : same n (kB i) (kB j) = some (i == j) := by cases n <;> rfl
theorem forR_all {τ : Type} {f : τ → Unit → Option (Fl Unit Bool)} {e : τ → Bool} : ∀ {xs : List τ}, (∀ x ∈ xs, f x () = some (if e x = true then .nx () else .rt false)) → forR f xs () = some (if xs.all e = true then .nx () else .rt false)
  | [], _ => rfl
  | x :: xs, h => by
    have ih := forR_all (f := f) (e := e) (xs := xs) fun y hy => h y (List.mem_cons_of_mem _ hy)
    show (f x ()).bind _ = _
    rw [h x List.mem_cons_self, List.all_cons]
    cases he : e x with
    | false => rfl
    | true => exact ih
theorem same_loop {n : Nat} {as ds : List D} {e : Nat → Bool} (h : ∀ i u v, as[i]? = some u → ds[i]? = some v → same n u v = some (e i)) (hl : as.length = ds.length) (hs : ds.length ≤ 16777216) : same (n + 1) (.tuple as) (.tuple ds) = some ((List.range ds.length).all e) := by
  rw [same_tup, if_neg (by simp [hl]), rngM_nat hs]
  show (forR _ (rng 0 ds.length) ()).bind _ = _
  rw [forR_all (e := fun x => e x.toNat) fun x hx => ?_]
  · have er : (rng 0 (ds.length : Int)).all (fun x => e x.toNat) = (List.range ds.length).all e := by
      unfold rng
      rw [List.all_map]
      have : (fun (x : Int) => e x.toNat) ∘ (fun (i : Nat) => (0 : Int) + (i : Int)) = e := by
        funext i; simp
      rw [this]; simp
    rw [er]
    cases (List.range ds.length).all e <;> rfl
  · obtain ⟨i, hi⟩ := List.mem_iff_getElem?.mp hx
    obtain ⟨h1, h2, h3⟩ := rng_get hi
    rw [Int.zero_add] at h1
    subst h1
    have ha1 : i < as.length := by omega
    have ha2 : i < ds.length := by omega
    show Option.bind _ _ = _
    rw [atI_eq ha1, atI_eq ha2]
    show (Option.bind (same n as[i] ds[i]) _).bind _ = _
    rw [h i _ _ (List.getElem?_eq_getElem ha1) (List.getElem?_eq_getElem ha2)]
    show _ = some (if e (i : Int).toNat = true then _ else _)
    rw [Int.toNat_natCast]
    cases e i <;> rfl
theorem same_2 {α β : Type} {k1 : α → D} {k2 : β → D} {n : Nat} {x y : α × β} {e1 e2 : Bool} (h1 : same n (k1 x.1) (k1 y.1) = some e1) (h2 : same n (k2 x.2) (k2 y.2) = some e2) : same (n + 1) (kT2 k1 k2 x) (kT2 k1 k2 y) = some (e1 && e2) := by
  have := same_loop (n := n) (as := [k1 x.1, k2 x.2]) (ds := [k1 y.1, k2 y.2]) (e := fun i => if i = 0 then e1 else e2) (fun i u v hu hv => ?_) rfl (Nat.le_of_ble_eq_true rfl)
  · show same (n + 1) (.tuple _) (.tuple _) = _
    rw [this]
    have r2 : List.range [k1 y.1, k2 y.2].length = [0, 1] := rfl
    rw [r2]; simp
  · match i, hu, hv with
    | 0, hu, hv => cases hu; cases hv; exact h1
    | 1, hu, hv => cases hu; cases hv; exact h2
theorem same_3 {α β γ : Type} {k1 : α → D} {k2 : β → D} {k3 : γ → D} {n : Nat} {x y : α × β × γ} {e1 e2 e3 : Bool} (h1 : same n (k1 x.1) (k1 y.1) = some e1) (h2 : same n (k2 x.2.1) (k2 y.2.1) = some e2) (h3 : same n (k3 x.2.2) (k3 y.2.2) = some e3) : same (n + 1) (kT3 k1 k2 k3 x) (kT3 k1 k2 k3 y) = some (e1 && (e2 && e3)) := by
  have := same_loop (n := n) (as := [k1 x.1, k2 x.2.1, k3 x.2.2]) (ds := [k1 y.1, k2 y.2.1, k3 y.2.2]) (e := fun i => if i = 0 then e1 else if i = 1 then e2 else e3) (fun i u v hu hv => ?_) rfl (Nat.le_of_ble_eq_true rfl)
  · show same (n + 1) (.tuple _) (.tuple _) = _
    rw [this]
    have r2 : List.range [k1 y.1, k2 y.2.1, k3 y.2.2].length = [0, 1, 2] := rfl
    rw [r2]; simp
  · match i, hu, hv with
    | 0, hu, hv => cases hu; cases hv; exact h1
    | 1, hu, hv => cases hu; cases hv; exact h2
    | 2, hu, hv => cases hu; cases hv; exact h3
theorem same_rI (n : Nat) (i : Int) : same n (kI i) (kI i) = some true := by rw [same_I]; simp
theorem same_rB (n : Nat) (i : Bool) : same n (kB i) (kB i) = some true := by rw [same_B]; simp
theorem same_rO {α : Type} {k : α → D} {n : Nat} (h : ∀ x, same n (k x) (k x) = some true) : ∀ o : Option α, same n (kO k o) (kO k o) = some true
  | .none => by cases n <;> rfl
  | .some x => h x
theorem same_r2 {α β : Type} {k1 : α → D} {k2 : β → D} {n : Nat} (h1 : ∀ x, same n (k1 x) (k1 x) = some true) (h2 : ∀ x, same n (k2 x) (k2 x) = some true) (x : α × β) : same (n + 1) (kT2 k1 k2 x) (kT2 k1 k2 x) = some true := same_2 (h1 _) (h2 _)
theorem same_r3 {α β γ : Type} {k1 : α → D} {k2 : β → D} {k3 : γ → D} {n : Nat} (h1 : ∀ x, same n (k1 x) (k1 x) = some true) (h2 : ∀ x, same n (k2 x) (k2 x) = some true) (h3 : ∀ x, same n (k3 x) (k3 x) = some true) (x : α × β × γ) : same (n + 1) (kT3 k1 k2 k3 x) (kT3 k1 k2 k3 x) = some true := same_3 (h1 _) (h2 _) (h3 _)
theorem same_rU {α : Type} {k : α → D} {n : Nat} (h : ∀ x, same n (k x) (k x) = some true) (xs : List α) (hl : xs.length ≤ 16777216) : same (n + 1) (kU k xs) (kU k xs) = some true := by
  show same (n + 1) (.tuple _) (.tuple _) = _
  rw [same_loop (e := fun _ => true) (fun i u v hu hv => ?_) rfl (by simpa using hl)]
  · simp
  · rw [hu] at hv; cases hv
    rw [List.getElem?_map] at hu
    cases e : xs[i]? with
    | none => rw [e] at hu; cases hu
    | some x => rw [e] at hu; cases hu; exact h x
/-! drawing -/
def takeD (ds : List Int) (m : Int) : Int × List Int := match ds.getLast? with
  | none => (0, ds)
  | some x => (x % m, ds.dropLast)
theorem takeD_lt {ds : List Int} {m : Int} (h : 0 < m) : 0 ≤ (takeD ds m).1 ∧ (takeD ds m).1 < m := by
  unfold takeD
  split
  · exact ⟨Int.le_refl _, h⟩
  · exact ⟨Int.emod_nonneg _ (by omega), Int.emod_lt_of_pos _ h⟩
end M3

set_option Elab.async false
set_option linter.all false
set_option maxRecDepth 100000
set_option maxHeartbeats 4000000
namespace K93
open PySem PySem.Spec PyProof.Rows L2 M3
abbrev topS (i : Nat) : Stmt := PySem.Challenge.pw_roundline_k93_whole_gears_as_services.main.body.getD i (.Pass ⟨0, 0, 0, 0⟩)
structure Fa (mg : Str → Option Value) : Prop where
  n_abs : mg "abs" = none
  n_bool : mg "bool" = none
  n_int : mg "int" = none
  n_isinstance : mg "isinstance" = none
  n_len : mg "len" = none
  n_list : mg "list" = none
  n_max : mg "max" = none
  n_min : mg "min" = none
  n_range : mg "range" = none
  n_str : mg "str" = none
  n_sum : mg "sum" = none
  n_tuple : mg "tuple" = none
  g_gcd : mg "gcd" = some (.builtin "math.gcd")
def F_fraction (n1 : Int) (d2 : Int) : Option (Int × Int) :=
  (some ((Nat.gcd n1.natAbs d2.natAbs : Int))).bind fun (divisor3 : Int) => (if (decide (d2 < (0 : Int))) = true then ((some ((-(divisor3)))).bind fun (divisor9 : Int) => some divisor9) else (some divisor3)).bind fun (j8 : Int) => ((fdivM n1 j8).bind fun z10 => (fdivM d2 j8).bind fun z11 => some (z10, z11)).bind fun z13 => some ((fun (z12 : (Int × Int)) => (z12.1, z12.2)) z13)
abbrev s_fraction : Stmt := topS 2
theorem sc_fraction : FnScope ["n", "d", "divisor"] ["n", "d"] (defScope s_fraction) := ⟨rfl, rfl, rfl, by decide +kernel, rfl, by decide +kernel, by decide +kernel⟩
abbrev ca_fraction := (fun (b : (Int × Int)) => (⟨0, [some (.im (kI b.1)), some (.im (kI b.2))], []⟩ : Ct))
abbrev FF_fraction := (fun (b : (Int × Int)) => F_fraction b.1 b.2)
abbrev rs_fraction : (Int × Int) → Sl := (fun (g : (Int × Int)) => .im ((kT2 kI kI) g))
abbrev cr_fraction : (Int × Int) → Ct := (fun (_ : (Int × Int)) => (⟨0, [], []⟩ : Ct))
abbrev ps_fraction : List Str := ["n", "d"]
set_option maxHeartbeats 4000000 in
theorem ok_fraction {P : Program} {w : World} {K : PySem.W.Frag} {mg : Str → Option Value} {base : Heap} {f : Addr} {fd : FuncData} (FU : Fun K "fraction" "fraction" s_fraction f fd) (T : Fa mg) :
    FnOk P w K mg base CX0 1 f fd ps_fraction (PrF K ca_fraction FF_fraction rs_fraction cr_fraction) := by
  have sc := sc_fraction
  refine fn_ok FU sc_fraction (fun _ => rfl) (fun cdv A outer s H E B b hr => ?_)
  obtain ⟨n1, d2⟩ := b
  show MB _ B (⟨0, [some (.im (kI n1)), some (.im (kI d2)), none], []⟩ : Ct) _ (F_fraction n1 d2) _
  unfold F_fraction
  exact (mb_cons (ms_set 2 sc.nd (mp (k := kI) (x := (Nat.gcd n1.natAbs d2.natAbs : Int)) (mv_gcd (by rfl) T.g_gcd (mai_cons (d := kI n1) (mv_name 0 rfl) (mai_cons (d := kI d2) (mv_name 1 rfl) mai_nil))))) (fun divisor3 => (mb_cons (c1 := (fun (j8 : Int) => (⟨0, [some (.im (kI n1)), some (.im (kI d2)), some (.im (kI j8))], []⟩ : Ct))) (ms_ifV (mtv_cmp op_lt (mv_name 1 rfl) mv_int (o2_b rfl)) (mb_cons (ms_set 2 sc.nd (mp (k := kI) (x := (-(divisor3))) (mv_neg (mv_name 2 rfl)))) (fun divisor9 => (mb_end (w := divisor9) (c' := (⟨0, [some (.im (kI n1)), some (.im (kI d2)), some (.im (kI divisor9))], []⟩ : Ct)) (Wk.rm [] [true, true, true] rfl) rfl))) (mb_end (w := divisor3) (c' := (⟨0, [some (.im (kI n1)), some (.im (kI d2)), some (.im (kI divisor3))], []⟩ : Ct)) (Wk.rm [] [true, true, true] rfl) rfl)) (fun j8 => (mb_one (ms_retQ (k := (kT2 kI kI)) (mp_re (k2 := (kT2 kI kI)) (f := (fun (z12 : (Int × Int)) => (z12.1, z12.2))) (mp_tup (r := (fun (z12 : (Int × Int)) => [kI z12.1, kI z12.2])) (map_consPP (k1 := kI) (mp_opVV (k := kI) op_fdivA (mv_name 0 rfl) (mv_name 2 rfl) o2_fdivM) (map_consP (k1 := kI) (mp_opVV (k := kI) op_fdivA (mv_name 1 rfl) (mv_name 2 rfl) o2_fdivM) mai_nil)))) (fun _ => rfl)))))))
def F_times_of (one15 : (Int × Int)) (other16 : (Int × Int)) : Option (Int × Int) :=
  ((mulM one15.1 other16.1).bind fun z17 => (mulM one15.2 other16.2).bind fun z18 => some (z17, z18)).bind fun z19 => F_fraction z19.1 z19.2
abbrev s_times_of : Stmt := topS 3
theorem sc_times_of : FnScope ["one", "other"] ["one", "other"] (defScope s_times_of) := ⟨rfl, rfl, rfl, by decide +kernel, rfl, by decide +kernel, by decide +kernel⟩
abbrev ca_times_of := (fun (b : ((Int × Int) × (Int × Int))) => (⟨0, [some (.im ((kT2 kI kI) b.1)), some (.im ((kT2 kI kI) b.2))], []⟩ : Ct))
abbrev FF_times_of := (fun (b : ((Int × Int) × (Int × Int))) => F_times_of b.1 b.2)
abbrev rs_times_of : (Int × Int) → Sl := (fun (g : (Int × Int)) => .im ((kT2 kI kI) g))
abbrev cr_times_of : (Int × Int) → Ct := (fun (_ : (Int × Int)) => (⟨0, [], []⟩ : Ct))
abbrev ps_times_of : List Str := ["one", "other"]
set_option maxHeartbeats 4000000 in
theorem ok_times_of {P : Program} {w : World} {K : PySem.W.Frag} {mg : Str → Option Value} {base : Heap} {f : Addr} {fd : FuncData} (FU : Fun K "times_of" "times_of" s_times_of f fd) (T : Fa mg) {f_fraction : Addr} {fd_fraction : FuncData} (C_fraction : Own P w K mg base 1 "fraction" f_fraction fd_fraction ps_fraction ca_fraction FF_fraction rs_fraction cr_fraction) :
    FnOk P w K mg base CX0 2 f fd ps_times_of (PrF K ca_times_of FF_times_of rs_times_of cr_times_of) := by
  have sc := sc_times_of
  refine fn_ok FU sc_times_of (fun _ => rfl) (fun cdv A outer s H E B b hr => ?_)
  obtain ⟨one15, other16⟩ := b
  have D_fraction : Df P w K mg base (A.deeper (envOfC "times_of" (defScope s_times_of) s.heap.objs.size f cdv)) 1 "fraction" f_fraction fd_fraction ps_fraction ca_fraction FF_fraction rs_fraction cr_fraction := ⟨C_fraction.G, hr.mono (by decide), C_fraction.hm, C_fraction.hk, C_fraction.hb⟩
  show MB _ B (⟨0, [some (.im ((kT2 kI kI) one15)), some (.im ((kT2 kI kI) other16))], []⟩ : Ct) _ (F_times_of one15 other16) _
  unfold F_times_of
  exact (mb_one (ms_retQ (k := (kT2 kI kI)) (mp_callP (F := FF_fraction) (k := (kT2 kI kI)) (fun (z19 : (Int × Int)) => (z19.1, z19.2)) D_fraction (by rfl) (map_consPP (k1 := kI) (mp_opVV (k := kI) op_mulA (mv_ix ix_lt (mv_name 0 rfl) mv_int (o2_ixD .tup rfl)) (mv_ix ix_lt (mv_name 1 rfl) mv_int (o2_ixD .tup rfl)) o2_mulM) (map_consP (k1 := kI) (mp_opVV (k := kI) op_mulA (mv_ix ix_lt (mv_name 0 rfl) mv_int (o2_ixD .tup rfl)) (mv_ix ix_lt (mv_name 1 rfl) mv_int (o2_ixD .tup rfl)) o2_mulM) mai_nil))) (fun _ => rfl)))
def F_divided_by (one21 : (Int × Int)) (other22 : (Int × Int)) : Option (Int × Int) :=
  ((mulM one21.1 other22.2).bind fun z23 => (mulM one21.2 other22.1).bind fun z24 => some (z23, z24)).bind fun z25 => F_fraction z25.1 z25.2
abbrev s_divided_by : Stmt := topS 4
theorem sc_divided_by : FnScope ["one", "other"] ["one", "other"] (defScope s_divided_by) := ⟨rfl, rfl, rfl, by decide +kernel, rfl, by decide +kernel, by decide +kernel⟩
abbrev ca_divided_by := (fun (b : ((Int × Int) × (Int × Int))) => (⟨0, [some (.im ((kT2 kI kI) b.1)), some (.im ((kT2 kI kI) b.2))], []⟩ : Ct))
abbrev FF_divided_by := (fun (b : ((Int × Int) × (Int × Int))) => F_divided_by b.1 b.2)
abbrev rs_divided_by : (Int × Int) → Sl := (fun (g : (Int × Int)) => .im ((kT2 kI kI) g))
abbrev cr_divided_by : (Int × Int) → Ct := (fun (_ : (Int × Int)) => (⟨0, [], []⟩ : Ct))
abbrev ps_divided_by : List Str := ["one", "other"]
set_option maxHeartbeats 4000000 in
theorem ok_divided_by {P : Program} {w : World} {K : PySem.W.Frag} {mg : Str → Option Value} {base : Heap} {f : Addr} {fd : FuncData} (FU : Fun K "divided_by" "divided_by" s_divided_by f fd) (T : Fa mg) {f_fraction : Addr} {fd_fraction : FuncData} (C_fraction : Own P w K mg base 1 "fraction" f_fraction fd_fraction ps_fraction ca_fraction FF_fraction rs_fraction cr_fraction) :
    FnOk P w K mg base CX0 2 f fd ps_divided_by (PrF K ca_divided_by FF_divided_by rs_divided_by cr_divided_by) := by
  have sc := sc_divided_by
  refine fn_ok FU sc_divided_by (fun _ => rfl) (fun cdv A outer s H E B b hr => ?_)
  obtain ⟨one21, other22⟩ := b
  have D_fraction : Df P w K mg base (A.deeper (envOfC "divided_by" (defScope s_divided_by) s.heap.objs.size f cdv)) 1 "fraction" f_fraction fd_fraction ps_fraction ca_fraction FF_fraction rs_fraction cr_fraction := ⟨C_fraction.G, hr.mono (by decide), C_fraction.hm, C_fraction.hk, C_fraction.hb⟩
  show MB _ B (⟨0, [some (.im ((kT2 kI kI) one21)), some (.im ((kT2 kI kI) other22))], []⟩ : Ct) _ (F_divided_by one21 other22) _
  unfold F_divided_by
  exact (mb_one (ms_retQ (k := (kT2 kI kI)) (mp_callP (F := FF_fraction) (k := (kT2 kI kI)) (fun (z25 : (Int × Int)) => (z25.1, z25.2)) D_fraction (by rfl) (map_consPP (k1 := kI) (mp_opVV (k := kI) op_mulA (mv_ix ix_lt (mv_name 0 rfl) mv_int (o2_ixD .tup rfl)) (mv_ix ix_lt (mv_name 1 rfl) mv_int (o2_ixD .tup rfl)) o2_mulM) (map_consP (k1 := kI) (mp_opVV (k := kI) op_mulA (mv_ix ix_lt (mv_name 0 rfl) mv_int (o2_ixD .tup rfl)) (mv_ix ix_lt (mv_name 1 rfl) mv_int (o2_ixD .tup rfl)) o2_mulM) mai_nil))) (fun _ => rfl)))
def F_ratio_of (pairs27 : (List (Int × Int))) : Option (Int × Int) :=
  (some (((1 : Int), (1 : Int)))).bind fun (found28 : (Int × Int)) => (((some ())).bind fun z33 => forP (fun (x30 : (Int × Int)) (l29 : (Int × Int)) => ((F_fraction (-(x30.1)) x30.2).bind fun z31 => F_times_of l29 z31).bind fun (found32 : (Int × Int)) => some found32) pairs27 found28).bind fun (l34 : (Int × Int)) => some (l34)
abbrev s_ratio_of : Stmt := topS 6
theorem sc_ratio_of : FnScope ["pairs", "found", "driving", "driven"] ["pairs"] (defScope s_ratio_of) := ⟨rfl, rfl, rfl, by decide +kernel, rfl, by decide +kernel, by decide +kernel⟩
abbrev ca_ratio_of := (fun (b : (List (Int × Int))) => (⟨0, [some (.im ((kU (kT2 kI kI)) b))], []⟩ : Ct))
abbrev FF_ratio_of := (fun (b : (List (Int × Int))) => F_ratio_of b)
abbrev rs_ratio_of : (Int × Int) → Sl := (fun (g : (Int × Int)) => .im ((kT2 kI kI) g))
abbrev cr_ratio_of : (Int × Int) → Ct := (fun (_ : (Int × Int)) => (⟨0, [], []⟩ : Ct))
abbrev ps_ratio_of : List Str := ["pairs"]
set_option maxHeartbeats 4000000 in
theorem ok_ratio_of {P : Program} {w : World} {K : PySem.W.Frag} {mg : Str → Option Value} {base : Heap} {f : Addr} {fd : FuncData} (FU : Fun K "ratio_of" "ratio_of" s_ratio_of f fd) (T : Fa mg) {f_times_of : Addr} {fd_times_of : FuncData} (C_times_of : Own P w K mg base 2 "times_of" f_times_of fd_times_of ps_times_of ca_times_of FF_times_of rs_times_of cr_times_of) {f_fraction : Addr} {fd_fraction : FuncData} (C_fraction : Own P w K mg base 1 "fraction" f_fraction fd_fraction ps_fraction ca_fraction FF_fraction rs_fraction cr_fraction) :
    FnOk P w K mg base CX0 3 f fd ps_ratio_of (PrF K ca_ratio_of FF_ratio_of rs_ratio_of cr_ratio_of) := by
  have sc := sc_ratio_of
  refine fn_ok FU sc_ratio_of (fun _ => rfl) (fun cdv A outer s H E B pairs27 hr => ?_)
  have D_times_of : Df P w K mg base (A.deeper (envOfC "ratio_of" (defScope s_ratio_of) s.heap.objs.size f cdv)) 2 "times_of" f_times_of fd_times_of ps_times_of ca_times_of FF_times_of rs_times_of cr_times_of := ⟨C_times_of.G, hr.mono (by decide), C_times_of.hm, C_times_of.hk, C_times_of.hb⟩
  have D_fraction : Df P w K mg base (A.deeper (envOfC "ratio_of" (defScope s_ratio_of) s.heap.objs.size f cdv)) 1 "fraction" f_fraction fd_fraction ps_fraction ca_fraction FF_fraction rs_fraction cr_fraction := ⟨C_fraction.G, hr.mono (by decide), C_fraction.hm, C_fraction.hk, C_fraction.hb⟩
  show MB _ B (⟨0, [some (.im ((kU (kT2 kI kI)) pairs27)), none, none, none], []⟩ : Ct) _ (F_ratio_of pairs27) _
  unfold F_ratio_of
  exact (mb_cons (ms_set 1 sc.nd (mp (k := (kT2 kI kI)) (x := ((1 : Int), (1 : Int))) (mv_as (s' := .im ((kT2 kI kI) ((1 : Int), (1 : Int)))) (mv_tup (mai_cons (d := kI (1 : Int)) mv_int (mai_cons (d := kI (1 : Int)) mv_int mai_nil)))))) (fun found28 => (mb_cons (ms_forP (xs := fun (z33 : Unit) => pairs27) (k := (kT2 kI kI)) (ca := fun (z33 : Unit) => (⟨0, [some (.im ((kU (kT2 kI kI)) pairs27)), some (.im ((kT2 kI kI) found28)), none, none], []⟩ : Ct)) (cL := (fun (l29 : (Int × Int)) => (⟨0, [some (.im ((kU (kT2 kI kI)) pairs27)), some (.im ((kT2 kI kI) l29)), none, none], []⟩ : Ct))) (l0 := fun (z33 : Unit) => found28) (cT := (fun (x30 : (Int × Int)) (l29 : (Int × Int)) => (⟨0, [some (.im ((kU (kT2 kI kI)) pairs27)), some (.im ((kT2 kI kI) l29)), some (.im (kI x30.1)), some (.im (kI x30.2))], []⟩ : Ct))) (fB := (fun (x30 : (Int × Int)) (l29 : (Int × Int)) => ((F_fraction (-(x30.1)) x30.2).bind fun z31 => F_times_of l29 z31).bind fun (found32 : (Int × Int)) => some found32)) PassesOwn.never rfl (mi_tV (k := (kT2 kI kI)) (xs := pairs27) (mv_name 0 rfl)) (pg_tup (n := 2) rfl (pgs_cons (pg_name (i := 2) sc.nd rfl (by first | exact Or.inl rfl | exact Or.inr rfl)) (pgs_cons (pg_name (i := 3) sc.nd rfl (by first | exact Or.inl rfl | exact Or.inr rfl)) pgs_nil))) (fun _ => (Wk.rm [] [true, true, false, false] rfl)) (fun _ _ => (tg_tup (tgs_cons (tg_name 2) (tgs_cons (tg_name 3) tgs_nil)))) (fun x30 l29 => (mb_cons (ms_set 1 sc.nd (mp_callP (F := FF_times_of) (k := (kT2 kI kI)) (fun (z31 : (Int × Int)) => (l29, z31)) D_times_of (by rfl) (map_consV (d := (kT2 kI kI) l29) (mv_name 1 rfl) (map_consP (k1 := (kT2 kI kI)) (mp_call (F := FF_fraction) (k := (kT2 kI kI)) ((-(x30.1)), x30.2) D_fraction (by rfl) (mai_cons (d := kI (-(x30.1))) (mv_neg (mv_name 2 rfl)) (mai_cons (d := kI x30.2) (mv_name 3 rfl) mai_nil))) mai_nil)))) (fun found32 => (mb_end (w := found32) (c' := (⟨0, [some (.im ((kU (kT2 kI kI)) pairs27)), some (.im ((kT2 kI kI) found32)), none, none], []⟩ : Ct)) (Wk.rm [] [true, true, false, false] rfl) rfl))))) (fun l34 => (mb_one (ms_retV (w := l34) (mv_name 1 rfl) rfl))))))
def F_turns_until (pairs35 : (List (Int × Int))) : Option Int :=
  ((rngM (1 : Int) ((pairs35.length : Int) + (1 : Int))).bind fun z42 => forP (fun (x37 : Int) (l36 : Int) => ((F_ratio_of (cutL pairs35 none (some x37))).bind fun z38 => some (z38.2)).bind fun (below39 : Int) => ((mulM l36 below39).bind fun z40 => fdivM z40 (Nat.gcd l36.natAbs below39.natAbs : Int)).bind fun (found41 : Int) => some found41) z42 (1 : Int)).bind fun (l43 : Int) => some (l43)
abbrev s_turns_until : Stmt := topS 7
theorem sc_turns_until : FnScope ["pairs", "found", "many", "below"] ["pairs"] (defScope s_turns_until) := ⟨rfl, rfl, rfl, by decide +kernel, rfl, by decide +kernel, by decide +kernel⟩
abbrev ca_turns_until := (fun (b : (List (Int × Int))) => (⟨0, [some (.im ((kU (kT2 kI kI)) b))], []⟩ : Ct))
abbrev FF_turns_until := (fun (b : (List (Int × Int))) => F_turns_until b)
abbrev rs_turns_until : Int → Sl := (fun (g : Int) => .im (kI g))
abbrev cr_turns_until : Int → Ct := (fun (_ : Int) => (⟨0, [], []⟩ : Ct))
abbrev ps_turns_until : List Str := ["pairs"]
set_option maxHeartbeats 4000000 in
theorem ok_turns_until {P : Program} {w : World} {K : PySem.W.Frag} {mg : Str → Option Value} {base : Heap} {f : Addr} {fd : FuncData} (FU : Fun K "turns_until" "turns_until" s_turns_until f fd) (T : Fa mg) {f_ratio_of : Addr} {fd_ratio_of : FuncData} (C_ratio_of : Own P w K mg base 3 "ratio_of" f_ratio_of fd_ratio_of ps_ratio_of ca_ratio_of FF_ratio_of rs_ratio_of cr_ratio_of) :
    FnOk P w K mg base CX0 4 f fd ps_turns_until (PrF K ca_turns_until FF_turns_until rs_turns_until cr_turns_until) := by
  have sc := sc_turns_until
  refine fn_ok FU sc_turns_until (fun _ => rfl) (fun cdv A outer s H E B pairs35 hr => ?_)
  have D_ratio_of : Df P w K mg base (A.deeper (envOfC "turns_until" (defScope s_turns_until) s.heap.objs.size f cdv)) 3 "ratio_of" f_ratio_of fd_ratio_of ps_ratio_of ca_ratio_of FF_ratio_of rs_ratio_of cr_ratio_of := ⟨C_ratio_of.G, hr.mono (by decide), C_ratio_of.hm, C_ratio_of.hk, C_ratio_of.hb⟩
  show MB _ B (⟨0, [some (.im ((kU (kT2 kI kI)) pairs35)), none, none, none], []⟩ : Ct) _ (F_turns_until pairs35) _
  unfold F_turns_until
  exact (mb_consV (ms_setV 1 sc.nd mv_int) (mb_cons (ms_forP (xs := fun (z42 : List Int) => z42) (k := kI) (ca := fun (z42 : List Int) => (⟨0, [some (.im ((kU (kT2 kI kI)) pairs35)), some (.im (kI (1 : Int))), none, none], []⟩ : Ct)) (cL := (fun (l36 : Int) => (⟨0, [some (.im ((kU (kT2 kI kI)) pairs35)), some (.im (kI l36)), none, none], []⟩ : Ct))) (l0 := fun (z42 : List Int) => (1 : Int)) (cT := (fun (x37 : Int) (l36 : Int) => (⟨0, [some (.im ((kU (kT2 kI kI)) pairs35)), some (.im (kI l36)), some (.im (kI x37)), none], []⟩ : Ct))) (fB := (fun (x37 : Int) (l36 : Int) => ((F_ratio_of (cutL pairs35 none (some x37))).bind fun z38 => some (z38.2)).bind fun (below39 : Int) => ((mulM l36 below39).bind fun z40 => fdivM z40 (Nat.gcd l36.natAbs below39.natAbs : Int)).bind fun (found41 : Int) => some found41)) PassesOwn.never rfl (mi_r2V (by rfl) T.n_range (mai_cons (d := kI (1 : Int)) mv_int (mai_cons (d := kI ((pairs35.length : Int) + (1 : Int))) (mv_op op_add (mv_len (k := (kT2 kI kI)) (xs := pairs35) (by rfl) T.n_len (mv_name 0 rfl) .tup) mv_int o2_add) mai_nil))) (pg_name (i := 2) sc.nd rfl (by first | exact Or.inl rfl | exact Or.inr rfl)) (fun _ => (Wk.rm [] [true, true, false, false] rfl)) (fun _ _ => (tg_name 2)) (fun x37 l36 => (mb_cons (ms_set 3 sc.nd (mp_ixPV (k1 := (kT2 kI kI)) (k := kI) (f := fun z38 => some (z38.2)) ix_lt (mp_call (F := FF_ratio_of) (k := (kT2 kI kI)) (cutL pairs35 none (some x37)) D_ratio_of (by rfl) (mai_cons (d := (kU (kT2 kI kI)) (cutL pairs35 none (some x37))) (me_slice (r1 := (fun (_ : Unit) => .im ((kU (kT2 kI kI)) pairs35))) (l := fun _ _ => none) (u := fun _ _ _ => (some x37)) (mo := fun _ _ _ => some ()) (rs := fun _ => .im ((kU (kT2 kI kI)) (cutL pairs35 none (some x37)))) (c1 := fun _ => _) (c2 := fun _ _ => _) (c3 := fun _ _ _ => _) (c' := fun _ => _) sl_tupA (mv_name 0 rfl) (fun _ => mo_none) (fun _ _ => (mo_some (m := some ()) (x := fun _ => x37) (mv_name 2 rfl))) (fun _ _ _ => (os_tup (k := (kT2 kI kI))))) mai_nil)) mv_int (fun z38 => (o2_ixD .tup rfl).up))) (fun below39 => (mb_cons (ms_set 1 sc.nd (mp_opPV (k1 := kI) (k := kI) (f := fun z40 => fdivM z40 (Nat.gcd l36.natAbs below39.natAbs : Int)) op_fdivA (mp_opVV (k := kI) op_mulA (mv_name 1 rfl) (mv_name 3 rfl) o2_mulM) (mv_gcd (by rfl) T.g_gcd (mai_cons (d := kI l36) (mv_name 1 rfl) (mai_cons (d := kI below39) (mv_name 3 rfl) mai_nil))) (fun z40 => o2_fdivM))) (fun found41 => (mb_end (w := found41) (c' := (⟨0, [some (.im ((kU (kT2 kI kI)) pairs35)), some (.im (kI found41)), none, none], []⟩ : Ct)) (Wk.rm [] [true, true, false, false] rfl) rfl))))))) (fun l43 => (mb_one (ms_retV (w := l43) (mv_name 1 rfl) rfl)))))
def F_reduced_gear (pairs44 : (List (Int × Int))) : Option (Int × Int × Int) :=
  (F_ratio_of pairs44).bind fun (z45 : (Int × Int)) => some (((z45.1.natAbs : Int), z45.2, (if (decide ((0 : Int) < z45.1)) = true then (1 : Int) else (-1 : Int))))
abbrev s_reduced_gear : Stmt := topS 8
theorem sc_reduced_gear : FnScope ["pairs", "n", "d"] ["pairs"] (defScope s_reduced_gear) := ⟨rfl, rfl, rfl, by decide +kernel, rfl, by decide +kernel, by decide +kernel⟩
abbrev ca_reduced_gear := (fun (b : (List (Int × Int))) => (⟨0, [some (.im ((kU (kT2 kI kI)) b))], []⟩ : Ct))
abbrev FF_reduced_gear := (fun (b : (List (Int × Int))) => F_reduced_gear b)
abbrev rs_reduced_gear : (Int × Int × Int) → Sl := (fun (g : (Int × Int × Int)) => .im ((kT3 kI kI kI) g))
abbrev cr_reduced_gear : (Int × Int × Int) → Ct := (fun (_ : (Int × Int × Int)) => (⟨0, [], []⟩ : Ct))
abbrev ps_reduced_gear : List Str := ["pairs"]
set_option maxHeartbeats 4000000 in
theorem ok_reduced_gear {P : Program} {w : World} {K : PySem.W.Frag} {mg : Str → Option Value} {base : Heap} {f : Addr} {fd : FuncData} (FU : Fun K "reduced_gear" "reduced_gear" s_reduced_gear f fd) (T : Fa mg) {f_ratio_of : Addr} {fd_ratio_of : FuncData} (C_ratio_of : Own P w K mg base 3 "ratio_of" f_ratio_of fd_ratio_of ps_ratio_of ca_ratio_of FF_ratio_of rs_ratio_of cr_ratio_of) :
    FnOk P w K mg base CX0 4 f fd ps_reduced_gear (PrF K ca_reduced_gear FF_reduced_gear rs_reduced_gear cr_reduced_gear) := by
  have sc := sc_reduced_gear
  refine fn_ok FU sc_reduced_gear (fun _ => rfl) (fun cdv A outer s H E B pairs44 hr => ?_)
  have D_ratio_of : Df P w K mg base (A.deeper (envOfC "reduced_gear" (defScope s_reduced_gear) s.heap.objs.size f cdv)) 3 "ratio_of" f_ratio_of fd_ratio_of ps_ratio_of ca_ratio_of FF_ratio_of rs_ratio_of cr_ratio_of := ⟨C_ratio_of.G, hr.mono (by decide), C_ratio_of.hm, C_ratio_of.hk, C_ratio_of.hb⟩
  show MB _ B (⟨0, [some (.im ((kU (kT2 kI kI)) pairs44)), none, none], []⟩ : Ct) _ (F_reduced_gear pairs44) _
  unfold F_reduced_gear
  exact (mb_cons (ms_unp (d := fun z => (kT2 kI kI) z) (ca := fun _ => (⟨0, [some (.im ((kU (kT2 kI kI)) pairs44)), none, none], []⟩ : Ct)) (cb := fun z45 => (⟨0, [some (.im ((kU (kT2 kI kI)) pairs44)), some (.im (kI z45.1)), some (.im (kI z45.2))], []⟩ : Ct)) (mp_call (F := FF_ratio_of) (k := (kT2 kI kI)) pairs44 D_ratio_of (by rfl) (mai_cons (d := (kU (kT2 kI kI)) pairs44) (mv_name 0 rfl) mai_nil)) (pg_tup (n := 2) rfl (pgs_cons (pg_name (i := 1) sc.nd rfl (by first | exact Or.inl rfl | exact Or.inr rfl)) (pgs_cons (pg_name (i := 2) sc.nd rfl (by first | exact Or.inl rfl | exact Or.inr rfl)) pgs_nil))) (fun _ => (tg_tup (tgs_cons (tg_name 1) (tgs_cons (tg_name 2) tgs_nil))))) (fun z45 => (mb_one (ms_retV (w := ((z45.1.natAbs : Int), z45.2, (if (decide ((0 : Int) < z45.1)) = true then (1 : Int) else (-1 : Int)))) (mv_as (s' := .im ((kT3 kI kI kI) ((z45.1.natAbs : Int), z45.2, (if (decide ((0 : Int) < z45.1)) = true then (1 : Int) else (-1 : Int))))) (mv_tup (mai_cons (d := kI (z45.1.natAbs : Int)) (mv_callB call_abs (by rfl) T.n_abs bt_abs (mai_cons (d := kI z45.1) (mv_name 1 rfl) mai_nil) oa_abs) (mai_cons (d := kI z45.2) (mv_name 2 rfl) (mai_cons (d := kI (if (decide ((0 : Int) < z45.1)) = true then (1 : Int) else (-1 : Int))) (mv_ifx (k := kI) (x := (1 : Int)) (y := (-1 : Int)) (mtv_cmp op_gt (mv_name 1 rfl) mv_int (o2_b rfl)) mv_int (mv_neg (i := (1 : Int)) mv_int)) mai_nil))))) rfl))))
def F_meets_again (one46 : Int) (other47 : Int) : Option Int :=
  (mulM one46 other47).bind fun z48 => fdivM z48 (Nat.gcd one46.natAbs other47.natAbs : Int)
abbrev s_meets_again : Stmt := topS 9
theorem sc_meets_again : FnScope ["one", "other"] ["one", "other"] (defScope s_meets_again) := ⟨rfl, rfl, rfl, by decide +kernel, rfl, by decide +kernel, by decide +kernel⟩
abbrev ca_meets_again := (fun (b : (Int × Int)) => (⟨0, [some (.im (kI b.1)), some (.im (kI b.2))], []⟩ : Ct))
abbrev FF_meets_again := (fun (b : (Int × Int)) => F_meets_again b.1 b.2)
abbrev rs_meets_again : Int → Sl := (fun (g : Int) => .im (kI g))
abbrev cr_meets_again : Int → Ct := (fun (_ : Int) => (⟨0, [], []⟩ : Ct))
abbrev ps_meets_again : List Str := ["one", "other"]
set_option maxHeartbeats 4000000 in
theorem ok_meets_again {P : Program} {w : World} {K : PySem.W.Frag} {mg : Str → Option Value} {base : Heap} {f : Addr} {fd : FuncData} (FU : Fun K "meets_again" "meets_again" s_meets_again f fd) (T : Fa mg) :
    FnOk P w K mg base CX0 1 f fd ps_meets_again (PrF K ca_meets_again FF_meets_again rs_meets_again cr_meets_again) := by
  have sc := sc_meets_again
  refine fn_ok FU sc_meets_again (fun _ => rfl) (fun cdv A outer s H E B b hr => ?_)
  obtain ⟨one46, other47⟩ := b
  show MB _ B (⟨0, [some (.im (kI one46)), some (.im (kI other47))], []⟩ : Ct) _ (F_meets_again one46 other47) _
  unfold F_meets_again
  exact (mb_one (ms_retQ (k := kI) (mp_opPV (k1 := kI) (k := kI) (f := fun z48 => fdivM z48 (Nat.gcd one46.natAbs other47.natAbs : Int)) op_fdivA (mp_opVV (k := kI) op_mulA (mv_name 0 rfl) (mv_name 1 rfl) o2_mulM) (mv_gcd (by rfl) T.g_gcd (mai_cons (d := kI one46) (mv_name 0 rfl) (mai_cons (d := kI other47) (mv_name 1 rfl) mai_nil))) (fun z48 => o2_fdivM)) (fun _ => rfl)))
def F_departs_at (service50 : (Int × Int)) (minute51 : Int) : Option Bool :=
  (some (service50)).bind fun (z52 : (Int × Int)) => (modM (minute51 - z52.1) z52.2).bind fun z53 => some (decide (z53 = (0 : Int)))
abbrev s_departs_at : Stmt := topS 11
theorem sc_departs_at : FnScope ["service", "minute", "first", "every"] ["service", "minute"] (defScope s_departs_at) := ⟨rfl, rfl, rfl, by decide +kernel, rfl, by decide +kernel, by decide +kernel⟩
abbrev ca_departs_at := (fun (b : ((Int × Int) × Int)) => (⟨0, [some (.im ((kT2 kI kI) b.1)), some (.im (kI b.2))], []⟩ : Ct))
abbrev FF_departs_at := (fun (b : ((Int × Int) × Int)) => F_departs_at b.1 b.2)
abbrev rs_departs_at : Bool → Sl := (fun (g : Bool) => .im (kB g))
abbrev cr_departs_at : Bool → Ct := (fun (_ : Bool) => (⟨0, [], []⟩ : Ct))
abbrev ps_departs_at : List Str := ["service", "minute"]
set_option maxHeartbeats 4000000 in
theorem ok_departs_at {P : Program} {w : World} {K : PySem.W.Frag} {mg : Str → Option Value} {base : Heap} {f : Addr} {fd : FuncData} (FU : Fun K "departs_at" "departs_at" s_departs_at f fd) (T : Fa mg) :
    FnOk P w K mg base CX0 1 f fd ps_departs_at (PrF K ca_departs_at FF_departs_at rs_departs_at cr_departs_at) := by
  have sc := sc_departs_at
  refine fn_ok FU sc_departs_at (fun _ => rfl) (fun cdv A outer s H E B b hr => ?_)
  obtain ⟨service50, minute51⟩ := b
  show MB _ B (⟨0, [some (.im ((kT2 kI kI) service50)), some (.im (kI minute51)), none, none], []⟩ : Ct) _ (F_departs_at service50 minute51) _
  unfold F_departs_at
  exact (mb_cons (ms_unp (d := fun z => (kT2 kI kI) z) (ca := fun _ => (⟨0, [some (.im ((kT2 kI kI) service50)), some (.im (kI minute51)), none, none], []⟩ : Ct)) (cb := fun z52 => (⟨0, [some (.im ((kT2 kI kI) service50)), some (.im (kI minute51)), some (.im (kI z52.1)), some (.im (kI z52.2))], []⟩ : Ct)) (mp (k := (kT2 kI kI)) (x := service50) (mv_name 0 rfl)) (pg_tup (n := 2) rfl (pgs_cons (pg_name (i := 2) sc.nd rfl (by first | exact Or.inl rfl | exact Or.inr rfl)) (pgs_cons (pg_name (i := 3) sc.nd rfl (by first | exact Or.inl rfl | exact Or.inr rfl)) pgs_nil))) (fun _ => (tg_tup (tgs_cons (tg_name 2) (tgs_cons (tg_name 3) tgs_nil))))) (fun z52 => (mb_one (ms_retQ (k := kB) (mp_cmpPV (k1 := kI) (k := kB) (f := fun z53 => some (decide (z53 = (0 : Int)))) op_eq (mp_opVV (k := kI) op_modA (mv_op op_sub (mv_name 1 rfl) (mv_name 2 rfl) o2_sub) (mv_name 3 rfl) o2_modM) mv_int (fun z53 => o2_eqI.up)) (fun _ => rfl)))))
def F_wait_for (service55 : (Int × Int)) (minute56 : Int) : Option Int :=
  (some (service55)).bind fun (z57 : (Int × Int)) => modM (z57.1 - minute56) z57.2
abbrev s_wait_for : Stmt := topS 12
theorem sc_wait_for : FnScope ["service", "minute", "first", "every"] ["service", "minute"] (defScope s_wait_for) := ⟨rfl, rfl, rfl, by decide +kernel, rfl, by decide +kernel, by decide +kernel⟩
abbrev ca_wait_for := (fun (b : ((Int × Int) × Int)) => (⟨0, [some (.im ((kT2 kI kI) b.1)), some (.im (kI b.2))], []⟩ : Ct))
abbrev FF_wait_for := (fun (b : ((Int × Int) × Int)) => F_wait_for b.1 b.2)
abbrev rs_wait_for : Int → Sl := (fun (g : Int) => .im (kI g))
abbrev cr_wait_for : Int → Ct := (fun (_ : Int) => (⟨0, [], []⟩ : Ct))
abbrev ps_wait_for : List Str := ["service", "minute"]
set_option maxHeartbeats 4000000 in
theorem ok_wait_for {P : Program} {w : World} {K : PySem.W.Frag} {mg : Str → Option Value} {base : Heap} {f : Addr} {fd : FuncData} (FU : Fun K "wait_for" "wait_for" s_wait_for f fd) (T : Fa mg) :
    FnOk P w K mg base CX0 1 f fd ps_wait_for (PrF K ca_wait_for FF_wait_for rs_wait_for cr_wait_for) := by
  have sc := sc_wait_for
  refine fn_ok FU sc_wait_for (fun _ => rfl) (fun cdv A outer s H E B b hr => ?_)
  obtain ⟨service55, minute56⟩ := b
  show MB _ B (⟨0, [some (.im ((kT2 kI kI) service55)), some (.im (kI minute56)), none, none], []⟩ : Ct) _ (F_wait_for service55 minute56) _
  unfold F_wait_for
  exact (mb_cons (ms_unp (d := fun z => (kT2 kI kI) z) (ca := fun _ => (⟨0, [some (.im ((kT2 kI kI) service55)), some (.im (kI minute56)), none, none], []⟩ : Ct)) (cb := fun z57 => (⟨0, [some (.im ((kT2 kI kI) service55)), some (.im (kI minute56)), some (.im (kI z57.1)), some (.im (kI z57.2))], []⟩ : Ct)) (mp (k := (kT2 kI kI)) (x := service55) (mv_name 0 rfl)) (pg_tup (n := 2) rfl (pgs_cons (pg_name (i := 2) sc.nd rfl (by first | exact Or.inl rfl | exact Or.inr rfl)) (pgs_cons (pg_name (i := 3) sc.nd rfl (by first | exact Or.inl rfl | exact Or.inr rfl)) pgs_nil))) (fun _ => (tg_tup (tgs_cons (tg_name 2) (tgs_cons (tg_name 3) tgs_nil))))) (fun z57 => (mb_one (ms_retQ (k := kI) (mp_opVV (k := kI) op_modA (mv_op op_sub (mv_name 2 rfl) (mv_name 1 rfl) o2_sub) (mv_name 3 rfl) o2_modM) (fun _ => rfl)))))
def F_next_of (services59 : (List (Int × Int))) (minute60 : Int) : Option Int :=
  ((((some ())).bind fun z70 => mapO (fun x67 => F_wait_for x67 minute60) services59).bind fun z72 => minO z72).bind fun z73 => some ((minute60 + z73))
abbrev s_next_of : Stmt := topS 13
theorem sc_next_of : FnScope ["services", "minute", "service"] ["services", "minute"] (defScope s_next_of) := ⟨rfl, rfl, rfl, by decide +kernel, rfl, by decide +kernel, by decide +kernel⟩
abbrev ca_next_of := (fun (b : ((List (Int × Int)) × Int)) => (⟨0, [some (.im ((kU (kT2 kI kI)) b.1)), some (.im (kI b.2))], []⟩ : Ct))
abbrev FF_next_of := (fun (b : ((List (Int × Int)) × Int)) => F_next_of b.1 b.2)
abbrev rs_next_of : Int → Sl := (fun (g : Int) => .im (kI g))
abbrev cr_next_of : Int → Ct := (fun (_ : Int) => (⟨0, [], []⟩ : Ct))
abbrev ps_next_of : List Str := ["services", "minute"]
set_option maxHeartbeats 4000000 in
theorem ok_next_of {P : Program} {w : World} {K : PySem.W.Frag} {mg : Str → Option Value} {base : Heap} {f : Addr} {fd : FuncData} (FU : Fun K "next_of" "next_of" s_next_of f fd) (T : Fa mg) {f_wait_for : Addr} {fd_wait_for : FuncData} (C_wait_for : Own P w K mg base 1 "wait_for" f_wait_for fd_wait_for ps_wait_for ca_wait_for FF_wait_for rs_wait_for cr_wait_for) :
    FnOk P w K mg base CX0 2 f fd ps_next_of (PrF K ca_next_of FF_next_of rs_next_of cr_next_of) := by
  have sc := sc_next_of
  refine fn_ok FU sc_next_of (fun _ => rfl) (fun cdv A outer s H E B b hr => ?_)
  obtain ⟨services59, minute60⟩ := b
  have D_wait_for : Df P w K mg base (A.deeper (envOfC "next_of" (defScope s_next_of) s.heap.objs.size f cdv)) 1 "wait_for" f_wait_for fd_wait_for ps_wait_for ca_wait_for FF_wait_for rs_wait_for cr_wait_for := ⟨C_wait_for.G, hr.mono (by decide), C_wait_for.hm, C_wait_for.hk, C_wait_for.hb⟩
  show MB _ B (⟨0, [some (.im ((kU (kT2 kI kI)) services59)), some (.im (kI minute60)), none], []⟩ : Ct) _ (F_next_of services59 minute60) _
  unfold F_next_of
  exact (mb_one (ms_retQ (k := kI) (mp_opVP (k2 := kI) (k := kI) (f := fun z73 => some ((minute60 + z73))) op_add (mv_name 1 rfl) (mp_callB (k := kI) (f := fun z72 => minO z72) (cr_min rfl) (by rfl) T.n_min bt_min (map_consP (k1 := (kL kI)) (me_lc (own := [("service", 2)]) (k0 := (kT2 kI kI)) (k := kI) (is := [2]) (cT := (fun (ys68 : List Int) (x67 : (Int × Int)) => (⟨0, [some (.im ((kU (kT2 kI kI)) services59)), some (.im (kI minute60)), some (.im ((kT2 kI kI) x67))], [ys68.map kI]⟩ : Ct))) (me := fun x67 => F_wait_for x67 minute60) (c' := fun _ => (⟨0, [some (.im ((kU (kT2 kI kI)) services59)), some (.im (kI minute60)), none], []⟩ : Ct)) (r' := fun z71 => .im (kL kI z71)) rfl sc.nd (mi_tV (k := (kT2 kI kI)) (xs := services59) (mv_name 0 rfl)) (blkOk_by (own := [("service", 2)]) (N := ["services", "minute", "service"]) (sc := defScope s_next_of) (by decide +kernel)) (fun _ _ _ _ _ => (pg_name (i := 2) sc.nd rfl (by first | exact Or.inl rfl | exact Or.inr rfl))) (fun _ _ => (tw_name 2)) (fun ys68 x67 => (fun _ _ _ _ _ => (mp_call (F := FF_wait_for) (k := kI) (x67, minute60) D_wait_for (by rfl) (mai_cons (d := (kT2 kI kI) x67) (mv_name 2 rfl) (mai_cons (d := kI minute60) (mv_name 1 rfl) mai_nil))))) (fun _ => .im)) mai_nil) (fun _ => (oa_minL .im))) (fun z73 => o2_add.up)) (fun _ => rfl)))
def F_round_of (services75 : (List (Int × Int))) : Option Int :=
  (((some ())).bind fun z80 => forP (fun (x77 : (Int × Int)) (l76 : Int) => ((mulM l76 x77.2).bind fun z78 => fdivM z78 (Nat.gcd l76.natAbs x77.2.natAbs : Int)).bind fun (found79 : Int) => some found79) services75 (1 : Int)).bind fun (l81 : Int) => some (l81)
abbrev s_round_of : Stmt := topS 14
theorem sc_round_of : FnScope ["services", "found", "first", "every"] ["services"] (defScope s_round_of) := ⟨rfl, rfl, rfl, by decide +kernel, rfl, by decide +kernel, by decide +kernel⟩
abbrev ca_round_of := (fun (b : (List (Int × Int))) => (⟨0, [some (.im ((kU (kT2 kI kI)) b))], []⟩ : Ct))
abbrev FF_round_of := (fun (b : (List (Int × Int))) => F_round_of b)
abbrev rs_round_of : Int → Sl := (fun (g : Int) => .im (kI g))
abbrev cr_round_of : Int → Ct := (fun (_ : Int) => (⟨0, [], []⟩ : Ct))
abbrev ps_round_of : List Str := ["services"]
set_option maxHeartbeats 4000000 in
theorem ok_round_of {P : Program} {w : World} {K : PySem.W.Frag} {mg : Str → Option Value} {base : Heap} {f : Addr} {fd : FuncData} (FU : Fun K "round_of" "round_of" s_round_of f fd) (T : Fa mg) :
    FnOk P w K mg base CX0 1 f fd ps_round_of (PrF K ca_round_of FF_round_of rs_round_of cr_round_of) := by
  have sc := sc_round_of
  refine fn_ok FU sc_round_of (fun _ => rfl) (fun cdv A outer s H E B services75 hr => ?_)
  show MB _ B (⟨0, [some (.im ((kU (kT2 kI kI)) services75)), none, none, none], []⟩ : Ct) _ (F_round_of services75) _
  unfold F_round_of
  exact (mb_consV (ms_setV 1 sc.nd mv_int) (mb_cons (ms_forP (xs := fun (z80 : Unit) => services75) (k := (kT2 kI kI)) (ca := fun (z80 : Unit) => (⟨0, [some (.im ((kU (kT2 kI kI)) services75)), some (.im (kI (1 : Int))), none, none], []⟩ : Ct)) (cL := (fun (l76 : Int) => (⟨0, [some (.im ((kU (kT2 kI kI)) services75)), some (.im (kI l76)), none, none], []⟩ : Ct))) (l0 := fun (z80 : Unit) => (1 : Int)) (cT := (fun (x77 : (Int × Int)) (l76 : Int) => (⟨0, [some (.im ((kU (kT2 kI kI)) services75)), some (.im (kI l76)), some (.im (kI x77.1)), some (.im (kI x77.2))], []⟩ : Ct))) (fB := (fun (x77 : (Int × Int)) (l76 : Int) => ((mulM l76 x77.2).bind fun z78 => fdivM z78 (Nat.gcd l76.natAbs x77.2.natAbs : Int)).bind fun (found79 : Int) => some found79)) PassesOwn.never rfl (mi_tV (k := (kT2 kI kI)) (xs := services75) (mv_name 0 rfl)) (pg_tup (n := 2) rfl (pgs_cons (pg_name (i := 2) sc.nd rfl (by first | exact Or.inl rfl | exact Or.inr rfl)) (pgs_cons (pg_name (i := 3) sc.nd rfl (by first | exact Or.inl rfl | exact Or.inr rfl)) pgs_nil))) (fun _ => (Wk.rm [] [true, true, false, false] rfl)) (fun _ _ => (tg_tup (tgs_cons (tg_name 2) (tgs_cons (tg_name 3) tgs_nil)))) (fun x77 l76 => (mb_cons (ms_set 1 sc.nd (mp_opPV (k1 := kI) (k := kI) (f := fun z78 => fdivM z78 (Nat.gcd l76.natAbs x77.2.natAbs : Int)) op_fdivA (mp_opVV (k := kI) op_mulA (mv_name 1 rfl) (mv_name 3 rfl) o2_mulM) (mv_gcd (by rfl) T.g_gcd (mai_cons (d := kI l76) (mv_name 1 rfl) (mai_cons (d := kI x77.2) (mv_name 3 rfl) mai_nil))) (fun z78 => o2_fdivM))) (fun found79 => (mb_end (w := found79) (c' := (⟨0, [some (.im ((kU (kT2 kI kI)) services75)), some (.im (kI found79)), none, none], []⟩ : Ct)) (Wk.rm [] [true, true, false, false] rfl) rfl))))) (fun l81 => (mb_one (ms_retV (w := l81) (mv_name 1 rfl) rfl)))))
def F_inverse (number82 : Int) (modulus83 : Int) : Option Int :=
  (modM number82 modulus83).bind fun (z84 : Int) => (some (((1 : Int), (0 : Int)))).bind fun (z86 : (Int × Int)) => (whP (fun (l87 : (Int × Int × Int × Int)) => some (decide ((0 : Int) < l87.2.1))) (fun (l87 : (Int × Int × Int × Int)) => (fdivM l87.1 l87.2.1).bind fun (whole88 : Int) => ((mulM whole88 l87.2.1).bind fun z89 => some ((l87.1 - z89))).bind fun (z90 : Int) => ((mulM whole88 l87.2.2.2).bind fun z92 => some ((l87.2.2.1 - z92))).bind fun (z93 : Int) => some (l87.2.1, z90, l87.2.2.2, z93)) ((modulus83).toNat + 2) (z84, modulus83, z86.1, z86.2)).bind fun (l95 : (Int × Int × Int × Int)) => modM l95.2.2.1 modulus83
abbrev s_inverse : Stmt := topS 15
theorem sc_inverse : FnScope ["number", "modulus", "one", "other", "found", "later", "whole"] ["number", "modulus"] (defScope s_inverse) := ⟨rfl, rfl, rfl, by decide +kernel, rfl, by decide +kernel, by decide +kernel⟩
abbrev ca_inverse := (fun (b : (Int × Int)) => (⟨0, [some (.im (kI b.1)), some (.im (kI b.2))], []⟩ : Ct))
abbrev FF_inverse := (fun (b : (Int × Int)) => F_inverse b.1 b.2)
abbrev rs_inverse : Int → Sl := (fun (g : Int) => .im (kI g))
abbrev cr_inverse : Int → Ct := (fun (_ : Int) => (⟨0, [], []⟩ : Ct))
abbrev ps_inverse : List Str := ["number", "modulus"]
set_option maxHeartbeats 4000000 in
theorem ok_inverse {P : Program} {w : World} {K : PySem.W.Frag} {mg : Str → Option Value} {base : Heap} {f : Addr} {fd : FuncData} (FU : Fun K "inverse" "inverse" s_inverse f fd) (T : Fa mg) :
    FnOk P w K mg base CX0 1 f fd ps_inverse (PrF K ca_inverse FF_inverse rs_inverse cr_inverse) := by
  have sc := sc_inverse
  refine fn_ok FU sc_inverse (fun _ => rfl) (fun cdv A outer s H E B b hr => ?_)
  obtain ⟨number82, modulus83⟩ := b
  show MB _ B (⟨0, [some (.im (kI number82)), some (.im (kI modulus83)), none, none, none, none, none], []⟩ : Ct) _ (F_inverse number82 modulus83) _
  unfold F_inverse
  exact (mb_cons (ms_par (r1 := fun (z85 : Int) => .im (kI z85)) (r2 := fun (z85 : Int) => .im (kI modulus83)) (ca := fun _ => (⟨0, [some (.im (kI number82)), some (.im (kI modulus83)), none, none, none, none, none], []⟩ : Ct)) 2 3 rfl sc.nd (map_consP (k1 := kI) (mp_opVV (k := kI) op_modA (mv_name 0 rfl) (mv_name 1 rfl) o2_modM) (mai_cons (d := kI modulus83) (mv_name 1 rfl) mai_nil))) (fun z84 => (mb_cons (ms_unp (d := fun z => (kT2 kI kI) z) (ca := fun _ => (⟨0, [some (.im (kI number82)), some (.im (kI modulus83)), some (.im (kI z84)), some (.im (kI modulus83)), none, none, none], []⟩ : Ct)) (cb := fun z86 => (⟨0, [some (.im (kI number82)), some (.im (kI modulus83)), some (.im (kI z84)), some (.im (kI modulus83)), some (.im (kI z86.1)), some (.im (kI z86.2)), none], []⟩ : Ct)) (mp (k := (kT2 kI kI)) (x := ((1 : Int), (0 : Int))) (mv_as (s' := .im ((kT2 kI kI) ((1 : Int), (0 : Int)))) (mv_tup (mai_cons (d := kI (1 : Int)) mv_int (mai_cons (d := kI (0 : Int)) mv_int mai_nil))))) (pg_tup (n := 2) rfl (pgs_cons (pg_name (i := 4) sc.nd rfl (by first | exact Or.inl rfl | exact Or.inr rfl)) (pgs_cons (pg_name (i := 5) sc.nd rfl (by first | exact Or.inl rfl | exact Or.inr rfl)) pgs_nil))) (fun _ => (tg_tup (tgs_cons (tg_name 4) (tgs_cons (tg_name 5) tgs_nil))))) (fun z86 => (mb_cons (ms_whP (cL := (fun (l87 : (Int × Int × Int × Int)) => (⟨0, [some (.im (kI number82)), some (.im (kI modulus83)), some (.im (kI l87.1)), some (.im (kI l87.2.1)), some (.im (kI l87.2.2.1)), some (.im (kI l87.2.2.2)), none], []⟩ : Ct))) (l0 := (z84, modulus83, z86.1, z86.2)) (tB := fun l87 => some (decide ((0 : Int) < l87.2.1))) (fB := fun l87 => (fdivM l87.1 l87.2.1).bind fun (whole88 : Int) => ((mulM whole88 l87.2.1).bind fun z89 => some ((l87.1 - z89))).bind fun (z90 : Int) => ((mulM whole88 l87.2.2.2).bind fun z92 => some ((l87.2.2.1 - z92))).bind fun (z93 : Int) => some (l87.2.1, z90, l87.2.2.2, z93)) ((modulus83).toNat + 2) PassesOwn.never (Wk.rm [] [true, true, true, true, true, true, false] rfl) (fun l87 => (mtp (mtv_cmp op_gt (mv_name 3 rfl) mv_int (o2_b rfl)))) (fun l87 => (mb_cons (ms_set 6 sc.nd (mp_opVV (k := kI) op_fdivA (mv_name 2 rfl) (mv_name 3 rfl) o2_fdivM)) (fun whole88 => (mb_cons (ms_par (r1 := fun (z91 : Int) => .im (kI l87.2.1)) (r2 := fun (z91 : Int) => .im (kI z91)) (ca := fun _ => (⟨0, [some (.im (kI number82)), some (.im (kI modulus83)), some (.im (kI l87.1)), some (.im (kI l87.2.1)), some (.im (kI l87.2.2.1)), some (.im (kI l87.2.2.2)), some (.im (kI whole88))], []⟩ : Ct)) 2 3 rfl sc.nd (map_consV (d := kI l87.2.1) (mv_name 3 rfl) (map_consP (k1 := kI) (mp_opVP (k2 := kI) (k := kI) (f := fun z89 => some ((l87.1 - z89))) op_sub (mv_name 2 rfl) (mp_opVV (k := kI) op_mulA (mv_name 6 rfl) (mv_name 3 rfl) o2_mulM) (fun z89 => o2_sub.up)) mai_nil))) (fun z90 => (mb_cons (ms_par (r1 := fun (z94 : Int) => .im (kI l87.2.2.2)) (r2 := fun (z94 : Int) => .im (kI z94)) (ca := fun _ => (⟨0, [some (.im (kI number82)), some (.im (kI modulus83)), some (.im (kI l87.2.1)), some (.im (kI z90)), some (.im (kI l87.2.2.1)), some (.im (kI l87.2.2.2)), some (.im (kI whole88))], []⟩ : Ct)) 4 5 rfl sc.nd (map_consV (d := kI l87.2.2.2) (mv_name 5 rfl) (map_consP (k1 := kI) (mp_opVP (k2 := kI) (k := kI) (f := fun z92 => some ((l87.2.2.1 - z92))) op_sub (mv_name 4 rfl) (mp_opVV (k := kI) op_mulA (mv_name 6 rfl) (mv_name 5 rfl) o2_mulM) (fun z92 => o2_sub.up)) mai_nil))) (fun z93 => (mb_end (w := (l87.2.1, z90, l87.2.2.2, z93)) (c' := (⟨0, [some (.im (kI number82)), some (.im (kI modulus83)), some (.im (kI l87.2.1)), some (.im (kI z90)), some (.im (kI l87.2.2.2)), some (.im (kI z93)), none], []⟩ : Ct)) (Wk.rm [] [true, true, true, true, true, true, false] rfl) rfl))))))))) (fun l95 => (mb_one (ms_retQ (k := kI) (mp_opVV (k := kI) op_modA (mv_name 4 rfl) (mv_name 1 rfl) o2_modM) (fun _ => rfl)))))))))
def F_meet_at (one97 : (Int × Int)) (other98 : (Int × Int)) : Option (Option Int) :=
  (some ((Nat.gcd one97.2.natAbs other98.2.natAbs : Int))).bind fun (common99 : Int) => ((modM (other98.1 - one97.1) common99).bind fun z100 => some (!decide (z100 = (0 : Int)))).bind fun z102 => if z102 = true then (some ((none : (Option Int)))) else ((fdivM other98.2 common99).bind fun (modulus104 : Int) => (((fdivM (other98.1 - one97.1) common99).bind fun z107 => ((fdivM one97.2 common99).bind fun z106 => F_inverse z106 modulus104).bind fun z108 => mulM z107 z108).bind fun z109 => modM z109 modulus104).bind fun (times110 : Int) => (((mulM times110 one97.2).bind fun z111 => some ((one97.1 + z111))).bind fun z112 => (mulM one97.2 modulus104).bind fun z113 => modM z112 z113).bind fun p114 => some (some p114))
abbrev s_meet_at : Stmt := topS 16
theorem sc_meet_at : FnScope ["one", "other", "common", "modulus", "times"] ["one", "other"] (defScope s_meet_at) := ⟨rfl, rfl, rfl, by decide +kernel, rfl, by decide +kernel, by decide +kernel⟩
abbrev ca_meet_at := (fun (b : ((Int × Int) × (Int × Int))) => (⟨0, [some (.im ((kT2 kI kI) b.1)), some (.im ((kT2 kI kI) b.2))], []⟩ : Ct))
abbrev FF_meet_at := (fun (b : ((Int × Int) × (Int × Int))) => F_meet_at b.1 b.2)
abbrev rs_meet_at : (Option Int) → Sl := (fun (g : (Option Int)) => .im ((kO kI) g))
abbrev cr_meet_at : (Option Int) → Ct := (fun (_ : (Option Int)) => (⟨0, [], []⟩ : Ct))
abbrev ps_meet_at : List Str := ["one", "other"]
set_option maxHeartbeats 4000000 in
theorem ok_meet_at {P : Program} {w : World} {K : PySem.W.Frag} {mg : Str → Option Value} {base : Heap} {f : Addr} {fd : FuncData} (FU : Fun K "meet_at" "meet_at" s_meet_at f fd) (T : Fa mg) {f_inverse : Addr} {fd_inverse : FuncData} (C_inverse : Own P w K mg base 1 "inverse" f_inverse fd_inverse ps_inverse ca_inverse FF_inverse rs_inverse cr_inverse) :
    FnOk P w K mg base CX0 2 f fd ps_meet_at (PrF K ca_meet_at FF_meet_at rs_meet_at cr_meet_at) := by
  have sc := sc_meet_at
  refine fn_ok FU sc_meet_at (fun _ => rfl) (fun cdv A outer s H E B b hr => ?_)
  obtain ⟨one97, other98⟩ := b
  have D_inverse : Df P w K mg base (A.deeper (envOfC "meet_at" (defScope s_meet_at) s.heap.objs.size f cdv)) 1 "inverse" f_inverse fd_inverse ps_inverse ca_inverse FF_inverse rs_inverse cr_inverse := ⟨C_inverse.G, hr.mono (by decide), C_inverse.hm, C_inverse.hk, C_inverse.hb⟩
  show MB _ B (⟨0, [some (.im ((kT2 kI kI) one97)), some (.im ((kT2 kI kI) other98)), none, none, none], []⟩ : Ct) _ (F_meet_at one97 other98) _
  unfold F_meet_at
  exact (mb_cons (ms_set 2 sc.nd (mp (k := kI) (x := (Nat.gcd one97.2.natAbs other98.2.natAbs : Int)) (mv_gcd (by rfl) T.g_gcd (mai_cons (d := kI one97.2) (mv_ix ix_lt (mv_name 0 rfl) mv_int (o2_ixD .tup rfl)) (mai_cons (d := kI other98.2) (mv_ix ix_lt (mv_name 1 rfl) mv_int (o2_ixD .tup rfl)) mai_nil))))) (fun common99 => (mb_ixP (mtp_cmpPV (k1 := kI) (f := fun z100 => !decide (z100 = (0 : Int))) op_ne (mp_opVV (k := kI) op_modA (mv_op op_sub (mv_ix ix_lt (mv_name 1 rfl) mv_int (o2_ixD .tup rfl)) (mv_ix ix_lt (mv_name 0 rfl) mv_int (o2_ixD .tup rfl)) o2_sub) (mv_name 2 rfl) o2_modM) mv_int (fun z100 => o2_neI)) (mb_one (ms_retV (w := (none : (Option Int))) (mv_as (s' := .im ((kO kI) none)) mv_non) rfl)) (by repeat' (first | exact out_rt | exact out_some (by intro _ h; cases h) | refine out_elim (fun _ => ?_) (fun _ => ?_) | refine out_bind (fun _ => ?_) | refine out_ite ?_ ?_)) (mb_cons (ms_set 3 sc.nd (mp_opVV (k := kI) op_fdivA (mv_ix ix_lt (mv_name 1 rfl) mv_int (o2_ixD .tup rfl)) (mv_name 2 rfl) o2_fdivM)) (fun modulus104 => (mb_cons (ms_set 4 sc.nd (mp_opPV (k1 := kI) (k := kI) (f := fun z109 => modM z109 modulus104) op_modA (mp_opPP (k1 := kI) (k2 := kI) (k := kI) (f := fun z107 z108 => mulM z107 z108) op_mulA (mp_opVV (k := kI) op_fdivA (mv_op op_sub (mv_ix ix_lt (mv_name 1 rfl) mv_int (o2_ixD .tup rfl)) (mv_ix ix_lt (mv_name 0 rfl) mv_int (o2_ixD .tup rfl)) o2_sub) (mv_name 2 rfl) o2_fdivM) (mp_callP (F := FF_inverse) (k := kI) (fun (z106 : Int) => (z106, modulus104)) D_inverse (by rfl) (map_consP (k1 := kI) (mp_opVV (k := kI) op_fdivA (mv_ix ix_lt (mv_name 0 rfl) mv_int (o2_ixD .tup rfl)) (mv_name 2 rfl) o2_fdivM) (mai_cons (d := kI modulus104) (mv_name 3 rfl) mai_nil))) (fun z107 z108 => o2_mulM)) (mv_name 3 rfl) (fun z109 => o2_modM))) (fun times110 => (mb_one (ms_retQ (k := (kO kI)) (mp_toO (k := kI) (mp_opPP (k1 := kI) (k2 := kI) (k := kI) (f := fun z112 z113 => modM z112 z113) op_modA (mp_opVP (k2 := kI) (k := kI) (f := fun z111 => some ((one97.1 + z111))) op_add (mv_ix ix_lt (mv_name 0 rfl) mv_int (o2_ixD .tup rfl)) (mp_opVV (k := kI) op_mulA (mv_name 4 rfl) (mv_ix ix_lt (mv_name 0 rfl) mv_int (o2_ixD .tup rfl)) o2_mulM) (fun z111 => o2_add.up)) (mp_opVV (k := kI) op_mulA (mv_ix ix_lt (mv_name 0 rfl) mv_int (o2_ixD .tup rfl)) (mv_name 3 rfl) o2_mulM) (fun z112 z113 => o2_modM))) (fun _ => rfl))))))))))
def F_before_minute (service116 : (Int × Int)) (minute117 : Int) : Option Int :=
  (some (service116)).bind fun (z118 : (Int × Int)) => (fdivM (z118.1 - minute117) z118.2).bind fun z119 => some (-z119)
abbrev s_before_minute : Stmt := topS 17
theorem sc_before_minute : FnScope ["service", "minute", "first", "every"] ["service", "minute"] (defScope s_before_minute) := ⟨rfl, rfl, rfl, by decide +kernel, rfl, by decide +kernel, by decide +kernel⟩
abbrev ca_before_minute := (fun (b : ((Int × Int) × Int)) => (⟨0, [some (.im ((kT2 kI kI) b.1)), some (.im (kI b.2))], []⟩ : Ct))
abbrev FF_before_minute := (fun (b : ((Int × Int) × Int)) => F_before_minute b.1 b.2)
abbrev rs_before_minute : Int → Sl := (fun (g : Int) => .im (kI g))
abbrev cr_before_minute : Int → Ct := (fun (_ : Int) => (⟨0, [], []⟩ : Ct))
abbrev ps_before_minute : List Str := ["service", "minute"]
set_option maxHeartbeats 4000000 in
theorem ok_before_minute {P : Program} {w : World} {K : PySem.W.Frag} {mg : Str → Option Value} {base : Heap} {f : Addr} {fd : FuncData} (FU : Fun K "before_minute" "before_minute" s_before_minute f fd) (T : Fa mg) :
    FnOk P w K mg base CX0 1 f fd ps_before_minute (PrF K ca_before_minute FF_before_minute rs_before_minute cr_before_minute) := by
  have sc := sc_before_minute
  refine fn_ok FU sc_before_minute (fun _ => rfl) (fun cdv A outer s H E B b hr => ?_)
  obtain ⟨service116, minute117⟩ := b
  show MB _ B (⟨0, [some (.im ((kT2 kI kI) service116)), some (.im (kI minute117)), none, none], []⟩ : Ct) _ (F_before_minute service116 minute117) _
  unfold F_before_minute
  exact (mb_cons (ms_unp (d := fun z => (kT2 kI kI) z) (ca := fun _ => (⟨0, [some (.im ((kT2 kI kI) service116)), some (.im (kI minute117)), none, none], []⟩ : Ct)) (cb := fun z118 => (⟨0, [some (.im ((kT2 kI kI) service116)), some (.im (kI minute117)), some (.im (kI z118.1)), some (.im (kI z118.2))], []⟩ : Ct)) (mp (k := (kT2 kI kI)) (x := service116) (mv_name 0 rfl)) (pg_tup (n := 2) rfl (pgs_cons (pg_name (i := 2) sc.nd rfl (by first | exact Or.inl rfl | exact Or.inr rfl)) (pgs_cons (pg_name (i := 3) sc.nd rfl (by first | exact Or.inl rfl | exact Or.inr rfl)) pgs_nil))) (fun _ => (tg_tup (tgs_cons (tg_name 2) (tgs_cons (tg_name 3) tgs_nil))))) (fun z118 => (mb_one (ms_retQ (k := kI) (mp_neg (x := fun z => z) (mp_opVV (k := kI) op_fdivA (mv_op op_sub (mv_name 2 rfl) (mv_name 1 rfl) o2_sub) (mv_name 3 rfl) o2_fdivM)) (fun _ => rfl)))))
def F_departures_in (services121 : (List (Int × Int))) (first122 : Int) (end123 : Int) : Option Int :=
  if (decide (end123 ≤ first122)) = true then (some ((0 : Int))) else ((((some ())).bind fun z134 => mapO (fun x127 => (F_before_minute x127 end123).bind fun z132 => (F_before_minute x127 first122).bind fun z133 => some ((z132 - z133))) services121).bind fun z136 => some (z136.sum))
abbrev s_departures_in : Stmt := topS 18
theorem sc_departures_in : FnScope ["services", "first", "end", "service"] ["services", "first", "end"] (defScope s_departures_in) := ⟨rfl, rfl, rfl, by decide +kernel, rfl, by decide +kernel, by decide +kernel⟩
abbrev ca_departures_in := (fun (b : ((List (Int × Int)) × Int × Int)) => (⟨0, [some (.im ((kU (kT2 kI kI)) b.1)), some (.im (kI b.2.1)), some (.im (kI b.2.2))], []⟩ : Ct))
abbrev FF_departures_in := (fun (b : ((List (Int × Int)) × Int × Int)) => F_departures_in b.1 b.2.1 b.2.2)
abbrev rs_departures_in : Int → Sl := (fun (g : Int) => .im (kI g))
abbrev cr_departures_in : Int → Ct := (fun (_ : Int) => (⟨0, [], []⟩ : Ct))
abbrev ps_departures_in : List Str := ["services", "first", "end"]
set_option maxHeartbeats 4000000 in
theorem ok_departures_in {P : Program} {w : World} {K : PySem.W.Frag} {mg : Str → Option Value} {base : Heap} {f : Addr} {fd : FuncData} (FU : Fun K "departures_in" "departures_in" s_departures_in f fd) (T : Fa mg) {f_before_minute : Addr} {fd_before_minute : FuncData} (C_before_minute : Own P w K mg base 1 "before_minute" f_before_minute fd_before_minute ps_before_minute ca_before_minute FF_before_minute rs_before_minute cr_before_minute) :
    FnOk P w K mg base CX0 2 f fd ps_departures_in (PrF K ca_departures_in FF_departures_in rs_departures_in cr_departures_in) := by
  have sc := sc_departures_in
  refine fn_ok FU sc_departures_in (fun _ => rfl) (fun cdv A outer s H E B b hr => ?_)
  obtain ⟨services121, first122, end123⟩ := b
  have D_before_minute : Df P w K mg base (A.deeper (envOfC "departures_in" (defScope s_departures_in) s.heap.objs.size f cdv)) 1 "before_minute" f_before_minute fd_before_minute ps_before_minute ca_before_minute FF_before_minute rs_before_minute cr_before_minute := ⟨C_before_minute.G, hr.mono (by decide), C_before_minute.hm, C_before_minute.hk, C_before_minute.hb⟩
  show MB _ B (⟨0, [some (.im ((kU (kT2 kI kI)) services121)), some (.im (kI first122)), some (.im (kI end123)), none], []⟩ : Ct) _ (F_departures_in services121 first122 end123) _
  unfold F_departures_in
  exact (mb_ixV (mtv_cmp op_le (mv_name 2 rfl) (mv_name 1 rfl) (o2_b rfl)) (mb_one (ms_retV (w := (0 : Int)) mv_int rfl)) (by repeat' (first | exact out_rt | exact out_some (by intro _ h; cases h) | refine out_elim (fun _ => ?_) (fun _ => ?_) | refine out_bind (fun _ => ?_) | refine out_ite ?_ ?_)) (mb_one (ms_retQ (k := kI) (mp_callB (k := kI) (f := fun z136 => some (z136.sum)) (cr_sum rfl) (by rfl) T.n_sum bt_sum (map_consP (k1 := (kL kI)) (me_lc (own := [("service", 3)]) (k0 := (kT2 kI kI)) (k := kI) (is := [3]) (cT := (fun (ys128 : List Int) (x127 : (Int × Int)) => (⟨0, [some (.im ((kU (kT2 kI kI)) services121)), some (.im (kI first122)), some (.im (kI end123)), some (.im ((kT2 kI kI) x127))], [ys128.map kI]⟩ : Ct))) (me := fun x127 => (F_before_minute x127 end123).bind fun z132 => (F_before_minute x127 first122).bind fun z133 => some ((z132 - z133))) (c' := fun _ => (⟨0, [some (.im ((kU (kT2 kI kI)) services121)), some (.im (kI first122)), some (.im (kI end123)), none], []⟩ : Ct)) (r' := fun z135 => .im (kL kI z135)) rfl sc.nd (mi_tV (k := (kT2 kI kI)) (xs := services121) (mv_name 0 rfl)) (blkOk_by (own := [("service", 3)]) (N := ["services", "first", "end", "service"]) (sc := defScope s_departures_in) (by decide +kernel)) (fun _ _ _ _ _ => (pg_name (i := 3) sc.nd rfl (by first | exact Or.inl rfl | exact Or.inr rfl))) (fun _ _ => (tw_name 3)) (fun ys128 x127 => (fun _ _ _ _ _ => (mp_opPP (k1 := kI) (k2 := kI) (k := kI) (f := fun z132 z133 => some ((z132 - z133))) op_sub (mp_call (F := FF_before_minute) (k := kI) (x127, end123) D_before_minute (by rfl) (mai_cons (d := (kT2 kI kI) x127) (mv_name 3 rfl) (mai_cons (d := kI end123) (mv_name 2 rfl) mai_nil))) (mp_call (F := FF_before_minute) (k := kI) (x127, first122) D_before_minute (by rfl) (mai_cons (d := (kT2 kI kI) x127) (mv_name 3 rfl) (mai_cons (d := kI first122) (mv_name 1 rfl) mai_nil))) (fun z132 z133 => o2_sub.up)))) (fun _ => .im)) mai_nil) (fun _ => (oa_sum .im).up)) (fun _ => rfl))))
def F__law_draws (script138 : (List Int)) (many139 : Int) : Option (List Int) :=
  (((some ())).bind fun z148 => mapO (fun x145 => some (x145)) script138).bind fun (cells150 : (List Int)) => (if (decide ((cells150.length : Int) = (0 : Int))) = true then ((roomM cells150.length).bind fun (_z156 : Unit) => some (cells150 ++ [(0 : Int)])) else (some cells150)).bind fun (j155 : (List Int)) => ((rngM 0 many139).bind fun z192 => forP (fun (x158 : Int) (l157 : ((List Int) × (List Int))) => (modM x158 (j155.length : Int)).bind fun (at159 : Int) => (((atI j155 at159).bind fun z160 => some (decide ((1000000000000000000 : Int) ≤ z160))).bind fun z162 => if z162 = true then ((atI l157.1 at159).bind fun z161 => some (decide ((0 : Int) < z161))) else some false).bind fun z164 => if z164 = true then (((((atI l157.1 at159).bind fun z166 => some (z166)).bind fun z167 => some ((z167 % (1000 : Int)))).bind fun z169 => (roomM l157.2.length).map fun _ => z169).bind fun (z168 : Int) => (((atI l157.1 at159).bind fun z170 => some ((z170 / (1000 : Int)))).bind fun z172 => (some (at159)).bind fun z173 => (setI l157.1 z173 z172).map fun ys174 => (z172, ys174)).bind fun (z171 : Int × List Int) => some (z171.2, (l157.2 ++ [z168]))) else (((((((atI j155 at159).bind fun z178 => some ((z178 * (48271 : Int)))).bind fun z179 => some ((z179 + (x158 * (69621 : Int))))).bind fun z180 => some ((z180 + (11 : Int)))).bind fun z181 => some (z181)).bind fun z182 => some ((z182 % (2147483647 : Int)))).bind fun (once183 : Int) => ((((((mulM once183 once183).bind fun z186 => some ((z186 + ((3 : Int) * once183)))).bind fun z187 => some ((z187 + x158))).bind fun z188 => some (z188)).bind fun z189 => some ((z189 % (1000003 : Int)))).bind fun z191 => (roomM l157.2.length).map fun _ => z191).bind fun (z190 : Int) => some (l157.1, (l157.2 ++ [z190])))) z192 (j155, ([] : List Int))).bind fun (l193 : ((List Int) × (List Int))) => some (l193.2.reverse)
abbrev s__law_draws : Stmt := topS 20
theorem sc__law_draws : FnScope ["script", "many", "cells", "rest", "draws", "k", "at", "cell", "once"] ["script", "many"] (defScope s__law_draws) := ⟨rfl, rfl, rfl, by decide +kernel, rfl, by decide +kernel, by decide +kernel⟩
abbrev ca__law_draws := (fun (b : ((List Int) × Int)) => (⟨0, [some (.im ((kL kI) b.1)), some (.im (kI b.2))], []⟩ : Ct))
abbrev FF__law_draws := (fun (b : ((List Int) × Int)) => F__law_draws b.1 b.2)
abbrev rs__law_draws : (List Int) → Sl := (fun (_ : (List Int)) => .rf 0)
abbrev cr__law_draws : (List Int) → Ct := (fun (g : (List Int)) => (⟨0, [], [g.map kI]⟩ : Ct))
abbrev ps__law_draws : List Str := ["script", "many"]
set_option maxHeartbeats 4000000 in
theorem ok__law_draws {P : Program} {w : World} {K : PySem.W.Frag} {mg : Str → Option Value} {base : Heap} {f : Addr} {fd : FuncData} (FU : Fun K "_law_draws" "_law_draws" s__law_draws f fd) (T : Fa mg) :
    FnOk P w K mg base CX0 1 f fd ps__law_draws (PrF K ca__law_draws FF__law_draws rs__law_draws cr__law_draws) := by
  have sc := sc__law_draws
  refine fn_ok FU sc__law_draws (fun _ => rfl) (fun cdv A outer s H E B b hr => ?_)
  obtain ⟨script138, many139⟩ := b
  show MB _ B (⟨0, [some (.im ((kL kI) script138)), some (.im (kI many139)), none, none, none, none, none, none, none], []⟩ : Ct) _ (F__law_draws script138 many139) _
  unfold F__law_draws
  exact (mb_cons (ms_lc 2 (own := [("cell", 7)]) (k0 := kI) (k := kI) (is := [7]) (cT := (fun (ys146 : List Int) (x145 : Int) => (⟨0, [some (.im ((kL kI) script138)), some (.im (kI many139)), none, none, none, none, none, some (.im (kI x145)), none], [ys146.map kI]⟩ : Ct))) (me := fun x145 => some (x145)) (c' := fun z149 => (⟨0, [some (.im ((kL kI) script138)), some (.im (kI many139)), none, none, none, none, none, none, none], [z149.map kI]⟩ : Ct)) (r' := fun _ => .rf 0) rfl sc.nd (mi_lV (k := kI) (xs := script138) (mv_name 0 rfl)) (blkOk_by (own := [("cell", 7)]) (N := ["script", "many", "cells", "rest", "draws", "k", "at", "cell", "once"]) (sc := defScope s__law_draws) (by decide +kernel)) (fun _ _ _ _ _ => (pg_name (i := 7) sc.nd rfl (by first | exact Or.inl rfl | exact Or.inr rfl))) (fun _ _ => (tw_name 7)) (fun ys146 x145 => (fun _ _ _ _ _ => (mp (k := kI) (x := x145) (mv_callTy call_int1 (by rfl) T.n_int bt_int (mai_cons (d := kI x145) (mv_name 7 rfl) mai_nil) oa_int)))) (fun _ => .rf) (sw_true rfl rfl rfl (by decide +kernel))) (fun cells150 => (mb_cons (c1 := (fun (j155 : (List Int)) => (⟨0, [some (.im ((kL kI) script138)), some (.im (kI many139)), some (.rf 0), none, none, none, none, none, none], [j155.map kI]⟩ : Ct))) (ms_ifV (mtv_cmp op_eq (mv_len (k := kI) (xs := cells150) (by rfl) T.n_len (mv_name 2 rfl) (.rf rfl)) mv_int o2_eqI) (mb_cons (ms_expr (mv_append (k := kI) (xs := cells150) (x := (0 : Int)) (mv_name 2 rfl) mv_int rfl)) (fun _z156 => (mb_end (w := (cells150 ++ [(0 : Int)])) (c' := (⟨0, [some (.im ((kL kI) script138)), some (.im (kI many139)), some (.rf 0), none, none, none, none, none, none], [((cells150 ++ [(0 : Int)])).map kI]⟩ : Ct)) (Wk.rm [0] [true, true, true, false, false, false, false, false, false] rfl) rfl))) (mb_end (w := cells150) (c' := (⟨0, [some (.im ((kL kI) script138)), some (.im (kI many139)), some (.rf 0), none, none, none, none, none, none], [cells150.map kI]⟩ : Ct)) (Wk.rm [0] [true, true, true, false, false, false, false, false, false] rfl) rfl)) (fun j155 => (mb_consV (ms_set 3 sc.nd (me_callTy (mo := fun _ => some ()) (r := fun _ => _) (ca := fun _ => _) (rs := fun _ => .rf 1) (c' := fun _ => (⟨0, [some (.im ((kL kI) script138)), some (.im (kI many139)), some (.rf 0), none, none, none, none, none, none], [j155.map kI, j155.map kI]⟩ : Ct)) call_list_of (by rfl) T.n_list bt_list (mav_cons (mv_name 2 rfl) ma_nil) (fun _ => oa_list (.rf rfl) .rf))) (mb_consV (ms_set 4 sc.nd (mn_lst (ds := ([] : List Int).map kI) mai_nil)) (mb_cons (ms_forP (xs := fun (z192 : List Int) => z192) (k := kI) (ca := fun (z192 : List Int) => (⟨0, [some (.im ((kL kI) script138)), some (.im (kI many139)), some (.rf 0), some (.rf 1), some (.rf 2), none, none, none, none], [j155.map kI, j155.map kI, (([] : List Int)).map kI]⟩ : Ct)) (cL := (fun (l157 : ((List Int) × (List Int))) => (⟨0, [some (.im ((kL kI) script138)), some (.im (kI many139)), some (.rf 0), some (.rf 1), some (.rf 2), none, none, none, none], [j155.map kI, l157.1.map kI, l157.2.map kI]⟩ : Ct))) (l0 := fun (z192 : List Int) => (j155, ([] : List Int))) (cT := (fun (x158 : Int) (l157 : ((List Int) × (List Int))) => (⟨0, [some (.im ((kL kI) script138)), some (.im (kI many139)), some (.rf 0), some (.rf 1), some (.rf 2), some (.im (kI x158)), none, none, none], [j155.map kI, l157.1.map kI, l157.2.map kI]⟩ : Ct))) (fB := (fun (x158 : Int) (l157 : ((List Int) × (List Int))) => (modM x158 (j155.length : Int)).bind fun (at159 : Int) => (((atI j155 at159).bind fun z160 => some (decide ((1000000000000000000 : Int) ≤ z160))).bind fun z162 => if z162 = true then ((atI l157.1 at159).bind fun z161 => some (decide ((0 : Int) < z161))) else some false).bind fun z164 => if z164 = true then (((((atI l157.1 at159).bind fun z166 => some (z166)).bind fun z167 => some ((z167 % (1000 : Int)))).bind fun z169 => (roomM l157.2.length).map fun _ => z169).bind fun (z168 : Int) => (((atI l157.1 at159).bind fun z170 => some ((z170 / (1000 : Int)))).bind fun z172 => (some (at159)).bind fun z173 => (setI l157.1 z173 z172).map fun ys174 => (z172, ys174)).bind fun (z171 : Int × List Int) => some (z171.2, (l157.2 ++ [z168]))) else (((((((atI j155 at159).bind fun z178 => some ((z178 * (48271 : Int)))).bind fun z179 => some ((z179 + (x158 * (69621 : Int))))).bind fun z180 => some ((z180 + (11 : Int)))).bind fun z181 => some (z181)).bind fun z182 => some ((z182 % (2147483647 : Int)))).bind fun (once183 : Int) => ((((((mulM once183 once183).bind fun z186 => some ((z186 + ((3 : Int) * once183)))).bind fun z187 => some ((z187 + x158))).bind fun z188 => some (z188)).bind fun z189 => some ((z189 % (1000003 : Int)))).bind fun z191 => (roomM l157.2.length).map fun _ => z191).bind fun (z190 : Int) => some (l157.1, (l157.2 ++ [z190]))))) PassesOwn.never rfl (mi_r1V (by rfl) T.n_range (mai_cons (d := kI many139) (mv_name 1 rfl) mai_nil)) (pg_name (i := 5) sc.nd rfl (by first | exact Or.inl rfl | exact Or.inr rfl)) (fun _ => (Wk.rm [0, 1, 2] [true, true, true, true, true, false, false, false, false] rfl)) (fun _ _ => (tg_name 5)) (fun x158 l157 => (mb_cons (ms_set 6 sc.nd (mp_opVV (k := kI) op_modA (mv_name 5 rfl) (mv_len (k := kI) (xs := j155) (by rfl) T.n_len (mv_name 2 rfl) (.rf rfl)) o2_modM)) (fun at159 => (mb_one (ms_ifP (PW.pt (mwp_and (mtp_cmpPV (k1 := kI) (f := fun z160 => decide ((1000000000000000000 : Int) ≤ z160)) op_ge (mp_ixVV (k := kI) ix_lt (mv_name 2 rfl) (mv_name 6 rfl) (o2_ix (k := kI) (.rf rfl))) (mv_op op_pow mv_int mv_int (o2_c (C := CPow) (x := (10 : Int)) (y := (18 : Int)) (z := (1000000000000000000 : Int)) ⟨by decide, by decide, by decide⟩ (by decide))) (fun z160 => (o2_b rfl))) (mw_and1 (mtp_cmpPV (k1 := kI) (f := fun z161 => decide ((0 : Int) < z161)) op_gt (mp_ixVV (k := kI) ix_lt (mv_name 3 rfl) (mv_name 6 rfl) (o2_ix (k := kI) (.rf rfl))) mv_int (fun z161 => (o2_b rfl)))))) (mb_cons (ms_expr (me_append (k := kI) (xs := fun _ => l157.2) (x := fun z => z) (ca := fun _ => (⟨0, [some (.im ((kL kI) script138)), some (.im (kI many139)), some (.rf 0), some (.rf 1), some (.rf 2), some (.im (kI x158)), some (.im (kI at159)), none, none], [j155.map kI, l157.1.map kI, l157.2.map kI]⟩ : Ct)) (mv_name 4 rfl) (mp_opPV (k1 := kI) (k := kI) (f := fun z167 => some ((z167 % (1000 : Int)))) op_mod (mp_callTy (k := kI) (f := fun (z166 : Int) => some (z166)) call_int1 (by rfl) T.n_int bt_int (map_consP (k1 := kI) (mp_ixVV (k := kI) ix_lt (mv_name 3 rfl) (mv_name 6 rfl) (o2_ix (k := kI) (.rf rfl))) mai_nil) (fun _ => oa_int.up)) mv_int (fun z167 => (o2_c (C := fun _ j => 0 < j) (by decide) rfl).up)) rfl (fun _ => rfl))) (fun z168 => (mb_cons (ms_setS (k := kI) (xs := fun _ => l157.1) (x := fun z => z) (i := fun _ z => z) (j := 1) (mp_opPV (k1 := kI) (k := kI) (f := fun z170 => some ((z170 / (1000 : Int)))) op_fdiv (mp_ixVV (k := kI) ix_lt (mv_name 3 rfl) (mv_name 6 rfl) (o2_ix (k := kI) (.rf rfl))) mv_int (fun z170 => (o2_c (C := CDiv) ⟨by decide, by decide⟩ rfl).up)) (fun _ => mv_name 3 rfl) (fun _ => (mp (k := kI) (x := at159) (mv_name 6 rfl))) (fun _ => rfl)) (fun z171 => (mb_end (w := (z171.2, (l157.2 ++ [z168]))) (c' := (⟨0, [some (.im ((kL kI) script138)), some (.im (kI many139)), some (.rf 0), some (.rf 1), some (.rf 2), none, none, none, none], [j155.map kI, z171.2.map kI, ((l157.2 ++ [z168])).map kI]⟩ : Ct)) (Wk.rm [0, 1, 2] [true, true, true, true, true, false, false, false, false] rfl) rfl))))) (mb_cons (ms_set 8 sc.nd (mp_opPV (k1 := kI) (k := kI) (f := fun z182 => some ((z182 % (2147483647 : Int)))) op_mod (mp_callTy (k := kI) (f := fun (z181 : Int) => some (z181)) call_int1 (by rfl) T.n_int bt_int (map_consP (k1 := kI) (mp_opPV (k1 := kI) (k := kI) (f := fun z180 => some ((z180 + (11 : Int)))) op_add (mp_opPV (k1 := kI) (k := kI) (f := fun z179 => some ((z179 + (x158 * (69621 : Int))))) op_add (mp_opPV (k1 := kI) (k := kI) (f := fun z178 => some ((z178 * (48271 : Int)))) op_mul (mp_ixVV (k := kI) ix_lt (mv_name 2 rfl) (mv_name 6 rfl) (o2_ix (k := kI) (.rf rfl))) mv_int (fun z178 => (o2_c (C := CMul) (.inr ⟨by decide, by decide⟩) rfl).up)) (mv_op op_mul (mv_name 5 rfl) mv_int (o2_c (C := CMul) (.inr ⟨by decide, by decide⟩) rfl)) (fun z179 => o2_add.up)) mv_int (fun z180 => o2_add.up)) mai_nil) (fun _ => oa_int.up)) mv_int (fun z182 => (o2_c (C := fun _ j => 0 < j) (by decide) rfl).up))) (fun once183 => (mb_cons (ms_expr (me_append (k := kI) (xs := fun _ => l157.2) (x := fun z => z) (ca := fun _ => (⟨0, [some (.im ((kL kI) script138)), some (.im (kI many139)), some (.rf 0), some (.rf 1), some (.rf 2), some (.im (kI x158)), some (.im (kI at159)), none, some (.im (kI once183))], [j155.map kI, l157.1.map kI, l157.2.map kI]⟩ : Ct)) (mv_name 4 rfl) (mp_opPV (k1 := kI) (k := kI) (f := fun z189 => some ((z189 % (1000003 : Int)))) op_mod (mp_callTy (k := kI) (f := fun (z188 : Int) => some (z188)) call_int1 (by rfl) T.n_int bt_int (map_consP (k1 := kI) (mp_opPV (k1 := kI) (k := kI) (f := fun z187 => some ((z187 + x158))) op_add (mp_opPV (k1 := kI) (k := kI) (f := fun z186 => some ((z186 + ((3 : Int) * once183)))) op_add (mp_opVV (k := kI) op_mulA (mv_name 8 rfl) (mv_name 8 rfl) o2_mulM) (mv_op op_mul mv_int (mv_name 8 rfl) (o2_c (C := CMul) (.inl ⟨by decide, by decide⟩) rfl)) (fun z186 => o2_add.up)) (mv_name 5 rfl) (fun z187 => o2_add.up)) mai_nil) (fun _ => oa_int.up)) mv_int (fun z189 => (o2_c (C := fun _ j => 0 < j) (by decide) rfl).up)) rfl (fun _ => rfl))) (fun z190 => (mb_end (w := (l157.1, (l157.2 ++ [z190]))) (c' := (⟨0, [some (.im ((kL kI) script138)), some (.im (kI many139)), some (.rf 0), some (.rf 1), some (.rf 2), none, none, none, none], [j155.map kI, l157.1.map kI, ((l157.2 ++ [z190])).map kI]⟩ : Ct)) (Wk.rm [0, 1, 2] [true, true, true, true, true, false, false, false, false] rfl) rfl))))))))))) (fun l193 => (mb_consV (ms_expr (me_rev (k := kI) (xs := l193.2) (mv_name 4 rfl) rfl)) (mb_one (ms_retL (w := l193.2.reverse) (mv_name 4 rfl) rfl rfl)))))))))))
def F__law_take (draws194 : List Int) (many195 : Int) : Option (Int × List Int) :=
  if (decide ((draws194.length : Int) = (0 : Int))) = true then (some (((0 : Int), draws194))) else (((((((draws194).getLast?.map fun x => (x, (draws194).dropLast))).bind fun z204 => (some ((), z204.2)).bind fun z205 => some ((z204.1, z205.1), z205.2)).bind fun z208 => (some (z208.1.1)).bind fun z209 => some (z209, z208.2)).bind fun z214 => (some (many195, z214.2)).bind fun z215 => (modM z214.1 z215.1).bind fun z217 => some (z217, z215.2)).bind fun z219 => some ((z219.1, z219.2)))
abbrev s__law_take : Stmt := topS 21
theorem sc__law_take : FnScope ["draws", "many"] ["draws", "many"] (defScope s__law_take) := ⟨rfl, rfl, rfl, by decide +kernel, rfl, by decide +kernel, by decide +kernel⟩
abbrev ca__law_take := (fun (b : (List Int × Int)) => (⟨1, [some (.rf 0), some (.im (kI b.2))], [b.1.map kI]⟩ : Ct))
abbrev FF__law_take := (fun (b : (List Int × Int)) => F__law_take b.1 b.2)
abbrev rs__law_take : (Int × List Int) → Sl := (fun (g : (Int × List Int)) => .im (kI g.1))
abbrev cr__law_take : (Int × List Int) → Ct := (fun (g : (Int × List Int)) => (⟨1, [], [g.2.map kI]⟩ : Ct))
abbrev ps__law_take : List Str := ["draws", "many"]
set_option maxHeartbeats 4000000 in
theorem ok__law_take {P : Program} {w : World} {K : PySem.W.Frag} {mg : Str → Option Value} {base : Heap} {f : Addr} {fd : FuncData} (FU : Fun K "_law_take" "_law_take" s__law_take f fd) (T : Fa mg) :
    FnOk P w K mg base CX0 1 f fd ps__law_take (PrF K ca__law_take FF__law_take rs__law_take cr__law_take) := by
  have sc := sc__law_take
  refine fn_ok FU sc__law_take (fun _ => rfl) (fun cdv A outer s H E B b hr => ?_)
  obtain ⟨draws194, many195⟩ := b
  show MB _ B (⟨1, [some (.rf 0), some (.im (kI many195))], [draws194.map kI]⟩ : Ct) _ (F__law_take draws194 many195) _
  unfold F__law_take
  exact (mb_ixV (mtv_cmp op_eq (mv_len (k := kI) (xs := draws194) (by rfl) T.n_len (mv_name 0 rfl) (.rf rfl)) mv_int o2_eqI) (mb_one (ms_retV (w := ((0 : Int), draws194)) mv_int rfl)) (by repeat' (first | exact out_rt | exact out_some (by intro _ h; cases h) | refine out_elim (fun _ => ?_) (fun _ => ?_) | refine out_bind (fun _ => ?_) | refine out_ite ?_ ?_)) (mb_one (ms_retX (cx := (fun (dr222 : List Int) => (⟨1, [some (.rf 0), some (.im (kI many195))], [dr222.map kI]⟩ : Ct))) (k := kI) (f := fun z220 ds221 => (z220, ds221)) (mx_op (cx := (fun (dr218 : List Int) => (⟨1, [some (.rf 0), some (.im (kI many195))], [dr218.map kI]⟩ : Ct))) (t1 := fun (z : Int) => .im (kI z)) (t2 := fun (z : Int) => .im (kI z)) (k := kI) (f := fun z214 z215 => modM z214 z215) op_modA (mx_callTy (cx := (fun (dr211 : List Int) => (⟨1, [some (.rf 0), some (.im (kI many195))], [dr211.map kI]⟩ : Ct))) (k := kI) (f := fun (z210 : (Int × Unit)) => some (z210.1)) call_int1 (by rfl) T.n_int bt_int (max_cons (cx := (fun (dr207 : List Int) => (⟨1, [some (.rf 0), some (.im (kI many195))], [dr207.map kI]⟩ : Ct))) (t1 := fun (z : Int) => .im (kI z)) (m2 := fun z204 ds206 => some ((), ds206)) (mx_pop (cx := (fun (dr201 : List Int) => (⟨1, [some (.rf 0), some (.im (kI many195))], [dr201.map kI]⟩ : Ct))) (ds := draws194) (mv_name 0 rfl)) (fun z204 ds206 => (max_nil (cx := (fun (dr203 : List Int) => (⟨1, [some (.rf 0), some (.im (kI many195))], [dr203.map kI]⟩ : Ct)))))) (fun _ _ => oa_int.up)) (fun z214 ds216 => (mx_V (cx := (fun (dr213 : List Int) => (⟨1, [some (.rf 0), some (.im (kI many195))], [dr213.map kI]⟩ : Ct))) (ds := ds216) (k := kI) (v := many195) (mv_name 1 rfl))) (fun z214 z215 ds216 => o2_modM)) (fun _ _ => rfl))))
def F__law_cell (script223 : (List Int)) (at224 : Int) : Option Int :=
  if (decide ((script223.length : Int) = (0 : Int))) = true then (some ((0 : Int))) else ((((modM at224 (script223.length : Int)).bind fun z229 => atI script223 z229).bind fun z230 => some (z230)).bind fun (cell231 : Int) => (atI [(1 : Int), (-1 : Int)] (if (decide (cell231 < (0 : Int))) = true then 1 else 0 : Int)).bind fun z232 => mulM ((cell231.natAbs : Int) % (1000000000000000000000000000000000000000000000000000000000000 : Int)) z232)
abbrev s__law_cell : Stmt := topS 22
theorem sc__law_cell : FnScope ["script", "at", "cell"] ["script", "at"] (defScope s__law_cell) := ⟨rfl, rfl, rfl, by decide +kernel, rfl, by decide +kernel, by decide +kernel⟩
abbrev ca__law_cell := (fun (b : ((List Int) × Int)) => (⟨0, [some (.im ((kL kI) b.1)), some (.im (kI b.2))], []⟩ : Ct))
abbrev FF__law_cell := (fun (b : ((List Int) × Int)) => F__law_cell b.1 b.2)
abbrev rs__law_cell : Int → Sl := (fun (g : Int) => .im (kI g))
abbrev cr__law_cell : Int → Ct := (fun (_ : Int) => (⟨0, [], []⟩ : Ct))
abbrev ps__law_cell : List Str := ["script", "at"]
set_option maxHeartbeats 4000000 in
theorem ok__law_cell {P : Program} {w : World} {K : PySem.W.Frag} {mg : Str → Option Value} {base : Heap} {f : Addr} {fd : FuncData} (FU : Fun K "_law_cell" "_law_cell" s__law_cell f fd) (T : Fa mg) :
    FnOk P w K mg base CX0 1 f fd ps__law_cell (PrF K ca__law_cell FF__law_cell rs__law_cell cr__law_cell) := by
  have sc := sc__law_cell
  refine fn_ok FU sc__law_cell (fun _ => rfl) (fun cdv A outer s H E B b hr => ?_)
  obtain ⟨script223, at224⟩ := b
  show MB _ B (⟨0, [some (.im ((kL kI) script223)), some (.im (kI at224)), none], []⟩ : Ct) _ (F__law_cell script223 at224) _
  unfold F__law_cell
  exact (mb_ixV (mtv_cmp op_eq (mv_len (k := kI) (xs := script223) (by rfl) T.n_len (mv_name 0 rfl) .im) mv_int o2_eqI) (mb_one (ms_retV (w := (0 : Int)) mv_int rfl)) (by repeat' (first | exact out_rt | exact out_some (by intro _ h; cases h) | refine out_elim (fun _ => ?_) (fun _ => ?_) | refine out_bind (fun _ => ?_) | refine out_ite ?_ ?_)) (mb_cons (ms_set 2 sc.nd (mp_callTy (k := kI) (f := fun (z230 : Int) => some (z230)) call_int1 (by rfl) T.n_int bt_int (map_consP (k1 := kI) (mp_ixVP (k2 := kI) (k := kI) (f := fun z229 => atI script223 z229) ix_lt (mv_name 0 rfl) (mp_opVV (k := kI) op_modA (mv_callTy call_int1 (by rfl) T.n_int bt_int (mai_cons (d := kI at224) (mv_name 1 rfl) mai_nil) oa_int) (mv_len (k := kI) (xs := script223) (by rfl) T.n_len (mv_name 0 rfl) .im) o2_modM) (fun z229 => (o2_ix (k := kI) .im))) mai_nil) (fun _ => oa_int.up))) (fun cell231 => (mb_one (ms_retQ (k := kI) (mp_opVP (k2 := kI) (k := kI) (f := fun z232 => mulM ((cell231.natAbs : Int) % (1000000000000000000000000000000000000000000000000000000000000 : Int)) z232) op_mulA (mv_op op_mod (mv_callB call_abs (by rfl) T.n_abs bt_abs (mai_cons (d := kI cell231) (mv_name 2 rfl) mai_nil) oa_abs) (mv_op op_pow mv_int mv_int (o2_c (C := CPow) (x := (10 : Int)) (y := (60 : Int)) (z := (1000000000000000000000000000000000000000000000000000000000000 : Int)) ⟨by decide, by decide, by decide⟩ (by decide))) (o2_c (C := fun _ j => 0 < j) (by decide) rfl)) (mp_ixVV (k := kI) ix_lt (mv_as (s' := .im ((kL kI) [(1 : Int), (-1 : Int)])) (mv_lst (mai_cons (d := kI (1 : Int)) mv_int (mai_cons (d := kI (-1 : Int)) (mv_neg (i := (1 : Int)) mv_int) mai_nil)))) (mv_callTy call_int1 (by rfl) T.n_int bt_int (mai_cons (d := kB (decide (cell231 < (0 : Int)))) (mv_cmp op_lt (mv_name 2 rfl) mv_int (o2_b rfl)) mai_nil) oa_intB) (o2_ix (k := kI) .im)) (fun z232 => o2_mulM)) (fun _ => rfl))))))
def F__law_same (a d : D) : Option Bool := same 3 a d
abbrev s__law_same : Stmt := topS 23
theorem sc__law_same : FnScope ["actual", "due", "k"] ["actual", "due"] (defScope s__law_same) := ⟨rfl, rfl, rfl, by decide +kernel, rfl, by decide +kernel, by decide +kernel⟩
abbrev ca__law_same := (fun (b : (D × D)) => (⟨0, [some (.im (kD b.1)), some (.im (kD b.2))], []⟩ : Ct))
abbrev FF__law_same := (fun (b : (D × D)) => F__law_same b.1 b.2)
abbrev rs__law_same : Bool → Sl := (fun (g : Bool) => .im (kB g))
abbrev cr__law_same : Bool → Ct := (fun (_ : Bool) => (⟨0, [], []⟩ : Ct))
abbrev ps__law_same : List Str := ["actual", "due"]
abbrev FS (n : Nat) := fun (b : D × D) => same n b.1 b.2
set_option maxHeartbeats 4000000 in
theorem ok_same {P : Program} {w : World} {K : PySem.W.Frag} {mg : Str → Option Value} {base : Heap} {f : Addr} {fd : FuncData} (FU : Fun K "_law_same" "_law_same" s__law_same f fd) (T : Fa mg) (hm : mg "_law_same" = some (.ref f)) (hk : PySem.W.keepIn K (.ref f) = true) (hb : Binds K fd ["actual", "due"] []) : ∀ n : Nat,
    FnOk P w K mg base CX0 (n + 1) f fd ps__law_same (PrF K ca__law_same (FS n) rs__law_same cr__law_same) := by
  have sc := sc__law_same
  have step : ∀ n : Nat, (∀ m, n = m + 1 → FnOk P w K mg base CX0 (m + 1) f fd ps__law_same (PrF K ca__law_same (FS m) rs__law_same cr__law_same)) → FnOk P w K mg base CX0 (n + 1) f fd ps__law_same (PrF K ca__law_same (FS n) rs__law_same cr__law_same) := by
    intro n IH
    refine fn_ok FU sc__law_same (fun _ => rfl) (fun cdv A outer s H E B b hr => ?_)
    obtain ⟨a, d⟩ := b
    show MB _ B (⟨0, [some (.im a), some (.im d), none], []⟩ : Ct) _ (same n a d) _
    cases d with
    | none  =>
      cases n <;> exact mb_eq (mb_ixF (mtv_val (mv_isi (T := "bool") (by rfl) T.n_isinstance rfl (mv_name 1 rfl) (by rfl) T.n_bool bt_bool kit_NoneType_bool)) (mb_ixF (mtv_val (mv_isi (T := "int") (by rfl) T.n_isinstance rfl (mv_name 1 rfl) (by rfl) T.n_int bt_int kit_NoneType_int)) (mb_ixF (mtv_val (mv_isi (T := "str") (by rfl) T.n_isinstance rfl (mv_name 1 rfl) (by rfl) T.n_str bt_str kit_NoneType_str)) (mb_ixT (mtv_cmp op_isN (mv_name 1 rfl) mv_non o2_isN) (mb_one (ms_retV (w := isNn a) (mv_cmp op_isN (mv_name 0 rfl) mv_non o2_isN) rfl)) out_rt))))
    | bool b =>
      cases a with
      | none  =>
        cases n <;> exact mb_eq (mb_ixT (mtv_val (mv_isi (T := "bool") (by rfl) T.n_isinstance rfl (mv_name 1 rfl) (by rfl) T.n_bool bt_bool kit_bool_bool)) (mb_one (ms_retQ (k := kB) (mp_and (mp (k := kB) (x := false) (mv_isi (T := "bool") (by rfl) T.n_isinstance rfl (mv_name 0 rfl) (by rfl) T.n_bool bt_bool kit_NoneType_bool)) me_none) (fun _ => rfl))) out_rt)
      | bool c =>
        cases n <;> exact mb_eq (mb_ixT (mtv_val (mv_isi (T := "bool") (by rfl) T.n_isinstance rfl (mv_name 1 rfl) (by rfl) T.n_bool bt_bool kit_bool_bool)) (mb_one (ms_retV (w := (true && (c == b))) (mv_and (mv_isi (T := "bool") (by rfl) T.n_isinstance rfl (mv_name 0 rfl) (by rfl) T.n_bool bt_bool kit_bool_bool) (mv_one (mv_cmp op_eq (mv_name 0 rfl) (mv_name 1 rfl) o2_eqB))) rfl)) out_rt)
      | int j =>
        cases n <;> exact mb_eq (mb_ixT (mtv_val (mv_isi (T := "bool") (by rfl) T.n_isinstance rfl (mv_name 1 rfl) (by rfl) T.n_bool bt_bool kit_bool_bool)) (mb_one (ms_retQ (k := kB) (mp_and (mp (k := kB) (x := false) (mv_isi (T := "bool") (by rfl) T.n_isinstance rfl (mv_name 0 rfl) (by rfl) T.n_bool bt_bool kit_int_bool)) me_none) (fun _ => rfl))) out_rt)
      | str u =>
        cases n <;> exact mb_eq (mb_ixT (mtv_val (mv_isi (T := "bool") (by rfl) T.n_isinstance rfl (mv_name 1 rfl) (by rfl) T.n_bool bt_bool kit_bool_bool)) (mb_one (ms_retQ (k := kB) (mp_and (mp (k := kB) (x := false) (mv_isi (T := "bool") (by rfl) T.n_isinstance rfl (mv_name 0 rfl) (by rfl) T.n_bool bt_bool kit_str_bool)) me_none) (fun _ => rfl))) out_rt)
      | list l =>
        cases n <;> exact mb_eq (mb_ixT (mtv_val (mv_isi (T := "bool") (by rfl) T.n_isinstance rfl (mv_name 1 rfl) (by rfl) T.n_bool bt_bool kit_bool_bool)) (mb_one (ms_retQ (k := kB) (mp_and (mp (k := kB) (x := false) (mv_isi (T := "bool") (by rfl) T.n_isinstance rfl (mv_name 0 rfl) (by rfl) T.n_bool bt_bool kit_list_bool)) me_none) (fun _ => rfl))) out_rt)
      | tuple l =>
        cases n <;> exact mb_eq (mb_ixT (mtv_val (mv_isi (T := "bool") (by rfl) T.n_isinstance rfl (mv_name 1 rfl) (by rfl) T.n_bool bt_bool kit_bool_bool)) (mb_one (ms_retQ (k := kB) (mp_and (mp (k := kB) (x := false) (mv_isi (T := "bool") (by rfl) T.n_isinstance rfl (mv_name 0 rfl) (by rfl) T.n_bool bt_bool kit_tuple_bool)) me_none) (fun _ => rfl))) out_rt)
      | dict l =>
        cases n <;> exact mb_eq (mb_ixT (mtv_val (mv_isi (T := "bool") (by rfl) T.n_isinstance rfl (mv_name 1 rfl) (by rfl) T.n_bool bt_bool kit_bool_bool)) (mb_one (ms_retQ (k := kB) (mp_and (mp (k := kB) (x := false) (mv_isi (T := "bool") (by rfl) T.n_isinstance rfl (mv_name 0 rfl) (by rfl) T.n_bool bt_bool kit_dict_bool)) me_none) (fun _ => rfl))) out_rt)
    | int b =>
      cases a with
      | none  =>
        cases n <;> exact mb_eq (mb_ixF (mtv_val (mv_isi (T := "bool") (by rfl) T.n_isinstance rfl (mv_name 1 rfl) (by rfl) T.n_bool bt_bool kit_int_bool)) (mb_ixT (mtv_val (mv_isi (T := "int") (by rfl) T.n_isinstance rfl (mv_name 1 rfl) (by rfl) T.n_int bt_int kit_int_int)) (mb_one (ms_retQ (k := kB) (mp_and (mp (k := kB) (x := false) (mv_isi (T := "int") (by rfl) T.n_isinstance rfl (mv_name 0 rfl) (by rfl) T.n_int bt_int kit_NoneType_int)) me_none) (fun _ => rfl))) out_rt))
      | bool c =>
        cases n <;> exact mb_eq (mb_ixF (mtv_val (mv_isi (T := "bool") (by rfl) T.n_isinstance rfl (mv_name 1 rfl) (by rfl) T.n_bool bt_bool kit_int_bool)) (mb_ixT (mtv_val (mv_isi (T := "int") (by rfl) T.n_isinstance rfl (mv_name 1 rfl) (by rfl) T.n_int bt_int kit_int_int)) (mb_one (ms_retQ (k := kB) (mp_and (mp (k := kB) (x := true) (mv_isi (T := "int") (by rfl) T.n_isinstance rfl (mv_name 0 rfl) (by rfl) T.n_int bt_int kit_bool_int)) (mp_and (mp (k := kB) (x := !true) (mv_not (mv_isi (T := "bool") (by rfl) T.n_isinstance rfl (mv_name 0 rfl) (by rfl) T.n_bool bt_bool kit_bool_bool))) me_none)) (fun _ => rfl))) out_rt))
      | int j =>
        cases n <;> exact mb_eq (mb_ixF (mtv_val (mv_isi (T := "bool") (by rfl) T.n_isinstance rfl (mv_name 1 rfl) (by rfl) T.n_bool bt_bool kit_int_bool)) (mb_ixT (mtv_val (mv_isi (T := "int") (by rfl) T.n_isinstance rfl (mv_name 1 rfl) (by rfl) T.n_int bt_int kit_int_int)) (mb_one (ms_retV (w := (true && (!false && decide (j = b)))) (mv_and (mv_isi (T := "int") (by rfl) T.n_isinstance rfl (mv_name 0 rfl) (by rfl) T.n_int bt_int kit_int_int) (mv_and (mv_not (mv_isi (T := "bool") (by rfl) T.n_isinstance rfl (mv_name 0 rfl) (by rfl) T.n_bool bt_bool kit_int_bool)) (mv_one (mv_cmp op_eq (mv_name 0 rfl) (mv_name 1 rfl) o2_eqI)))) rfl)) out_rt))
      | str u =>
        cases n <;> exact mb_eq (mb_ixF (mtv_val (mv_isi (T := "bool") (by rfl) T.n_isinstance rfl (mv_name 1 rfl) (by rfl) T.n_bool bt_bool kit_int_bool)) (mb_ixT (mtv_val (mv_isi (T := "int") (by rfl) T.n_isinstance rfl (mv_name 1 rfl) (by rfl) T.n_int bt_int kit_int_int)) (mb_one (ms_retQ (k := kB) (mp_and (mp (k := kB) (x := false) (mv_isi (T := "int") (by rfl) T.n_isinstance rfl (mv_name 0 rfl) (by rfl) T.n_int bt_int kit_str_int)) me_none) (fun _ => rfl))) out_rt))
      | list l =>
        cases n <;> exact mb_eq (mb_ixF (mtv_val (mv_isi (T := "bool") (by rfl) T.n_isinstance rfl (mv_name 1 rfl) (by rfl) T.n_bool bt_bool kit_int_bool)) (mb_ixT (mtv_val (mv_isi (T := "int") (by rfl) T.n_isinstance rfl (mv_name 1 rfl) (by rfl) T.n_int bt_int kit_int_int)) (mb_one (ms_retQ (k := kB) (mp_and (mp (k := kB) (x := false) (mv_isi (T := "int") (by rfl) T.n_isinstance rfl (mv_name 0 rfl) (by rfl) T.n_int bt_int kit_list_int)) me_none) (fun _ => rfl))) out_rt))
      | tuple l =>
        cases n <;> exact mb_eq (mb_ixF (mtv_val (mv_isi (T := "bool") (by rfl) T.n_isinstance rfl (mv_name 1 rfl) (by rfl) T.n_bool bt_bool kit_int_bool)) (mb_ixT (mtv_val (mv_isi (T := "int") (by rfl) T.n_isinstance rfl (mv_name 1 rfl) (by rfl) T.n_int bt_int kit_int_int)) (mb_one (ms_retQ (k := kB) (mp_and (mp (k := kB) (x := false) (mv_isi (T := "int") (by rfl) T.n_isinstance rfl (mv_name 0 rfl) (by rfl) T.n_int bt_int kit_tuple_int)) me_none) (fun _ => rfl))) out_rt))
      | dict l =>
        cases n <;> exact mb_eq (mb_ixF (mtv_val (mv_isi (T := "bool") (by rfl) T.n_isinstance rfl (mv_name 1 rfl) (by rfl) T.n_bool bt_bool kit_int_bool)) (mb_ixT (mtv_val (mv_isi (T := "int") (by rfl) T.n_isinstance rfl (mv_name 1 rfl) (by rfl) T.n_int bt_int kit_int_int)) (mb_one (ms_retQ (k := kB) (mp_and (mp (k := kB) (x := false) (mv_isi (T := "int") (by rfl) T.n_isinstance rfl (mv_name 0 rfl) (by rfl) T.n_int bt_int kit_dict_int)) me_none) (fun _ => rfl))) out_rt))
    | str b =>
      cases n <;> cases a <;> exact mb_none
    | list b =>
      cases n <;> cases a <;> exact mb_none
    | tuple b =>
      cases n with
      | zero => cases a <;> exact mb_none
      | succ n =>
        cases a with
        | none  =>
          exact mb_eq (mb_ixF (mtv_val (mv_isi (T := "bool") (by rfl) T.n_isinstance rfl (mv_name 1 rfl) (by rfl) T.n_bool bt_bool kit_tuple_bool)) (mb_ixF (mtv_val (mv_isi (T := "int") (by rfl) T.n_isinstance rfl (mv_name 1 rfl) (by rfl) T.n_int bt_int kit_tuple_int)) (mb_ixF (mtv_val (mv_isi (T := "str") (by rfl) T.n_isinstance rfl (mv_name 1 rfl) (by rfl) T.n_str bt_str kit_tuple_str)) (mb_ixF (mtv_cmp op_isN (mv_name 1 rfl) mv_non o2_isN) (mb_ixP (PW.pt (mwp_or (mtp (mtv_not (mtv_val (mv_isi (T := "tuple") (by rfl) T.n_isinstance rfl (mv_name 0 rfl) (by rfl) T.n_tuple bt_tuple kit_NoneType_tuple)))) mw_none)) (mb_one (ms_retV (w := false) mv_bl rfl)) out_rt mb_none)))))
        | bool c =>
          exact mb_eq (mb_ixF (mtv_val (mv_isi (T := "bool") (by rfl) T.n_isinstance rfl (mv_name 1 rfl) (by rfl) T.n_bool bt_bool kit_tuple_bool)) (mb_ixF (mtv_val (mv_isi (T := "int") (by rfl) T.n_isinstance rfl (mv_name 1 rfl) (by rfl) T.n_int bt_int kit_tuple_int)) (mb_ixF (mtv_val (mv_isi (T := "str") (by rfl) T.n_isinstance rfl (mv_name 1 rfl) (by rfl) T.n_str bt_str kit_tuple_str)) (mb_ixF (mtv_cmp op_isN (mv_name 1 rfl) mv_non o2_isN) (mb_ixP (PW.pt (mwp_or (mtp (mtv_not (mtv_val (mv_isi (T := "tuple") (by rfl) T.n_isinstance rfl (mv_name 0 rfl) (by rfl) T.n_tuple bt_tuple kit_bool_tuple)))) mw_none)) (mb_one (ms_retV (w := false) mv_bl rfl)) out_rt mb_none)))))
        | int j =>
          exact mb_eq (mb_ixF (mtv_val (mv_isi (T := "bool") (by rfl) T.n_isinstance rfl (mv_name 1 rfl) (by rfl) T.n_bool bt_bool kit_tuple_bool)) (mb_ixF (mtv_val (mv_isi (T := "int") (by rfl) T.n_isinstance rfl (mv_name 1 rfl) (by rfl) T.n_int bt_int kit_tuple_int)) (mb_ixF (mtv_val (mv_isi (T := "str") (by rfl) T.n_isinstance rfl (mv_name 1 rfl) (by rfl) T.n_str bt_str kit_tuple_str)) (mb_ixF (mtv_cmp op_isN (mv_name 1 rfl) mv_non o2_isN) (mb_ixP (PW.pt (mwp_or (mtp (mtv_not (mtv_val (mv_isi (T := "tuple") (by rfl) T.n_isinstance rfl (mv_name 0 rfl) (by rfl) T.n_tuple bt_tuple kit_int_tuple)))) mw_none)) (mb_one (ms_retV (w := false) mv_bl rfl)) out_rt mb_none)))))
        | str u =>
          exact mb_eq (mb_ixF (mtv_val (mv_isi (T := "bool") (by rfl) T.n_isinstance rfl (mv_name 1 rfl) (by rfl) T.n_bool bt_bool kit_tuple_bool)) (mb_ixF (mtv_val (mv_isi (T := "int") (by rfl) T.n_isinstance rfl (mv_name 1 rfl) (by rfl) T.n_int bt_int kit_tuple_int)) (mb_ixF (mtv_val (mv_isi (T := "str") (by rfl) T.n_isinstance rfl (mv_name 1 rfl) (by rfl) T.n_str bt_str kit_tuple_str)) (mb_ixF (mtv_cmp op_isN (mv_name 1 rfl) mv_non o2_isN) (mb_ixP (PW.pt (mwp_or (mtp (mtv_not (mtv_val (mv_isi (T := "tuple") (by rfl) T.n_isinstance rfl (mv_name 0 rfl) (by rfl) T.n_tuple bt_tuple kit_str_tuple)))) mw_none)) (mb_one (ms_retV (w := false) mv_bl rfl)) out_rt mb_none)))))
        | list l =>
          exact mb_eq (mb_ixF (mtv_val (mv_isi (T := "bool") (by rfl) T.n_isinstance rfl (mv_name 1 rfl) (by rfl) T.n_bool bt_bool kit_tuple_bool)) (mb_ixF (mtv_val (mv_isi (T := "int") (by rfl) T.n_isinstance rfl (mv_name 1 rfl) (by rfl) T.n_int bt_int kit_tuple_int)) (mb_ixF (mtv_val (mv_isi (T := "str") (by rfl) T.n_isinstance rfl (mv_name 1 rfl) (by rfl) T.n_str bt_str kit_tuple_str)) (mb_ixF (mtv_cmp op_isN (mv_name 1 rfl) mv_non o2_isN) (mb_ixP (PW.pt (mwp_or (mtp (mtv_not (mtv_val (mv_isi (T := "tuple") (by rfl) T.n_isinstance rfl (mv_name 0 rfl) (by rfl) T.n_tuple bt_tuple kit_list_tuple)))) mw_none)) (mb_one (ms_retV (w := false) mv_bl rfl)) out_rt mb_none)))))
        | tuple l =>
          have D__law_same : Df P w K mg base (A.deeper (envOfC "_law_same" (defScope s__law_same) s.heap.objs.size f cdv)) (n + 1) "_law_same" f fd ps__law_same ca__law_same (FS n) rs__law_same cr__law_same := ⟨IH n rfl, hr, hm, hk, hb⟩
          rw [tup_kD l, tup_kD b]
          show MB _ B (⟨0, [some (.im (kU kD l)), some (.im (kU kD b)), none], []⟩ : Ct) _ _ _
          rw [same_tup, show List.map kD l = l from List.map_id l, show List.map kD b = b from List.map_id b]
          exact (mb_ixF (mtv_val (mv_isi (T := "bool") (by rfl) T.n_isinstance rfl (mv_name 1 rfl) (by rfl) T.n_bool bt_bool kit_tuple_bool)) (mb_ixF (mtv_val (mv_isi (T := "int") (by rfl) T.n_isinstance rfl (mv_name 1 rfl) (by rfl) T.n_int bt_int kit_tuple_int)) (mb_ixF (mtv_val (mv_isi (T := "str") (by rfl) T.n_isinstance rfl (mv_name 1 rfl) (by rfl) T.n_str bt_str kit_tuple_str)) (mb_ixF (mtv_cmp op_isN (mv_name 1 rfl) mv_non o2_isN) (mb_ixV (b := !decide ((l.length : Int) = (b.length : Int))) (mtv_orT (mtv_val (mv_isi (T := "tuple") (by rfl) T.n_isinstance rfl (mv_name 0 rfl) (by rfl) T.n_tuple bt_tuple kit_tuple_tuple)) (mtv_cmp op_ne (mv_len (k := kD) (xs := l) (by rfl) T.n_len (mv_name 0 rfl) .tup) (mv_len (k := kD) (xs := b) (by rfl) T.n_len (mv_name 1 rfl) .tup) o2_neI)) (mb_one (ms_retV (w := false) mv_bl rfl)) out_rt (mb_loop (j := fun r245 => r245) (ms_for (R := Bool) (sr := rs__law_same) (cr := cr__law_same) (xs := fun (z243 : List Int) => z243) (k := kI) (ca := fun (z243 : List Int) => (⟨0, [some (.im ((kU kD) l)), some (.im ((kU kD) b)), none], []⟩ : Ct)) (cL := (fun (l234 : Unit) => (⟨0, [some (.im ((kU kD) l)), some (.im ((kU kD) b)), none], []⟩ : Ct))) (l0 := fun (z243 : List Int) => ()) (cT := (fun (x235 : Int) (l234 : Unit) => (⟨0, [some (.im ((kU kD) l)), some (.im ((kU kD) b)), some (.im (kI x235))], []⟩ : Ct))) (fB := (fun (x235 : Int) (l234 : Unit) => ((((atI l x235).bind fun z236 => (atI b x235).bind fun z237 => some (z236, z237)).bind fun z238 => same n z238.1 z238.2).bind fun z239 => some (!z239)).bind fun z241 => if z241 = true then (some (Fl.rt (false))) else (some (Fl.nx ())))) PassesOwn.never rfl (mi_r1V (by rfl) T.n_range (mai_cons (d := kI (b.length : Int)) (mv_len (k := kD) (xs := b) (by rfl) T.n_len (mv_name 1 rfl) .tup) mai_nil)) (pg_name (i := 2) sc.nd rfl (by first | exact Or.inl rfl | exact Or.inr rfl)) (fun _ => (Wk.rm [] [true, true, false] rfl)) (fun _ _ => (tg_name 2)) (fun x235 l234 => (mb_one (ms_ifP (mtp_not (mt_val (b := fun b => b) (mp_callP (F := (FS n)) (k := kB) (fun (z238 : (D × D)) => (z238.1, z238.2)) D__law_same (by rfl) (map_consPP (k1 := kD) (mp_ixVV (k := kD) ix_lt (mv_name 0 rfl) (mv_name 2 rfl) (o2_ix (k := kD) .tup)) (map_consP (k1 := kD) (mp_ixVV (k := kD) ix_lt (mv_name 1 rfl) (mv_name 2 rfl) (o2_ix (k := kD) .tup)) mai_nil))))) (mb_one (ms_retV (w := Fl.rt (false)) mv_bl rfl)) (mb_end (w := (Fl.nx ())) (c' := (⟨0, [some (.im ((kU kD) l)), some (.im ((kU kD) b)), none], []⟩ : Ct)) (Wk.rm [] [true, true, false] rfl) rfl))))) (fun l244 => (mb_one (ms_retV (w := true) mv_bl rfl)))))))))
        | dict l =>
          exact mb_eq (mb_ixF (mtv_val (mv_isi (T := "bool") (by rfl) T.n_isinstance rfl (mv_name 1 rfl) (by rfl) T.n_bool bt_bool kit_tuple_bool)) (mb_ixF (mtv_val (mv_isi (T := "int") (by rfl) T.n_isinstance rfl (mv_name 1 rfl) (by rfl) T.n_int bt_int kit_tuple_int)) (mb_ixF (mtv_val (mv_isi (T := "str") (by rfl) T.n_isinstance rfl (mv_name 1 rfl) (by rfl) T.n_str bt_str kit_tuple_str)) (mb_ixF (mtv_cmp op_isN (mv_name 1 rfl) mv_non o2_isN) (mb_ixP (PW.pt (mwp_or (mtp (mtv_not (mtv_val (mv_isi (T := "tuple") (by rfl) T.n_isinstance rfl (mv_name 0 rfl) (by rfl) T.n_tuple bt_tuple kit_dict_tuple)))) mw_none)) (mb_one (ms_retV (w := false) mv_bl rfl)) out_rt mb_none)))))
    | dict b =>
      cases n <;> cases a <;> exact mb_none
  intro n
  induction n with
  | zero => exact step 0 fun m e => by omega
  | succ n ih => exact step (n + 1) fun m e => by cases e; exact ih
theorem ok__law_same {P : Program} {w : World} {K : PySem.W.Frag} {mg : Str → Option Value} {base : Heap} {f : Addr} {fd : FuncData} (FU : Fun K "_law_same" "_law_same" s__law_same f fd) (T : Fa mg) (hm : mg "_law_same" = some (.ref f)) (hk : PySem.W.keepIn K (.ref f) = true) (hb : Binds K fd ["actual", "due"] []) : FnOk P w K mg base CX0 4 f fd ps__law_same (PrF K ca__law_same FF__law_same rs__law_same cr__law_same) := ok_same FU T hm hk hb 3

def F__law_divisor (one246 : Int) (other247 : Int) : Option Int :=
  ((rngM 0 ((((2 : Int) * (Builtin.Int.intBits one246 : Int)) + ((2 : Int) * (Builtin.Int.intBits other247 : Int))) + (2 : Int))).bind fun z254 => forR (R := Int) (fun (x249 : Int) (l248 : (Int × Int)) => if (decide (l248.2 = (0 : Int))) = true then (some (Fl.bk (l248.1, l248.2))) else ((modM l248.1 l248.2).bind fun (rest253 : Int) => some (Fl.nx (l248.2, rest253)))) z254 (one246, other247)).bind (Fl.elim (fun (l255 : (Int × Int)) => some (l255.1)) (fun r256 => some (r256)))
abbrev s__law_divisor : Stmt := topS 24
theorem sc__law_divisor : FnScope ["one", "other", "turn", "rest"] ["one", "other"] (defScope s__law_divisor) := ⟨rfl, rfl, rfl, by decide +kernel, rfl, by decide +kernel, by decide +kernel⟩
abbrev ca__law_divisor := (fun (b : (Int × Int)) => (⟨0, [some (.im (kI b.1)), some (.im (kI b.2))], []⟩ : Ct))
abbrev FF__law_divisor := (fun (b : (Int × Int)) => F__law_divisor b.1 b.2)
abbrev rs__law_divisor : Int → Sl := (fun (g : Int) => .im (kI g))
abbrev cr__law_divisor : Int → Ct := (fun (_ : Int) => (⟨0, [], []⟩ : Ct))
abbrev ps__law_divisor : List Str := ["one", "other"]
set_option maxHeartbeats 4000000 in
theorem ok__law_divisor {P : Program} {w : World} {K : PySem.W.Frag} {mg : Str → Option Value} {base : Heap} {f : Addr} {fd : FuncData} (FU : Fun K "_law_divisor" "_law_divisor" s__law_divisor f fd) (T : Fa mg) :
    FnOk P w K mg base CX0 1 f fd ps__law_divisor (PrF K ca__law_divisor FF__law_divisor rs__law_divisor cr__law_divisor) := by
  have sc := sc__law_divisor
  refine fn_ok FU sc__law_divisor (fun _ => rfl) (fun cdv A outer s H E B b hr => ?_)
  obtain ⟨one246, other247⟩ := b
  show MB _ B (⟨0, [some (.im (kI one246)), some (.im (kI other247)), none, none], []⟩ : Ct) _ (F__law_divisor one246 other247) _
  unfold F__law_divisor
  exact (mb_loop (j := fun r256 => r256) (ms_for (R := Int) (sr := rs__law_divisor) (cr := cr__law_divisor) (xs := fun (z254 : List Int) => z254) (k := kI) (ca := fun (z254 : List Int) => (⟨0, [some (.im (kI one246)), some (.im (kI other247)), none, none], []⟩ : Ct)) (cL := (fun (l248 : (Int × Int)) => (⟨0, [some (.im (kI l248.1)), some (.im (kI l248.2)), none, none], []⟩ : Ct))) (l0 := fun (z254 : List Int) => (one246, other247)) (cT := (fun (x249 : Int) (l248 : (Int × Int)) => (⟨0, [some (.im (kI l248.1)), some (.im (kI l248.2)), some (.im (kI x249)), none], []⟩ : Ct))) (fB := (fun (x249 : Int) (l248 : (Int × Int)) => if (decide (l248.2 = (0 : Int))) = true then (some (Fl.bk (l248.1, l248.2))) else ((modM l248.1 l248.2).bind fun (rest253 : Int) => some (Fl.nx (l248.2, rest253))))) PassesOwn.never rfl (mi_r1V (by rfl) T.n_range (mai_cons (d := kI ((((2 : Int) * (Builtin.Int.intBits one246 : Int)) + ((2 : Int) * (Builtin.Int.intBits other247 : Int))) + (2 : Int))) (mv_op op_add (mv_op op_add (mv_op op_mul mv_int (mv_bits (mv_name 0 rfl)) (o2_c (C := CMul) (.inl ⟨by decide, by decide⟩) rfl)) (mv_op op_mul mv_int (mv_bits (mv_name 1 rfl)) (o2_c (C := CMul) (.inl ⟨by decide, by decide⟩) rfl)) o2_add) mv_int o2_add) mai_nil)) (pg_name (i := 2) sc.nd rfl (by first | exact Or.inl rfl | exact Or.inr rfl)) (fun _ => (Wk.rm [] [true, true, false, false] rfl)) (fun _ _ => (tg_name 2)) (fun x249 l248 => (mb_ixV (mtv_cmp op_eq (mv_name 1 rfl) mv_int o2_eqI) (mb_one (ms_break (w := (Fl.bk (l248.1, l248.2))) (c' := (⟨0, [some (.im (kI l248.1)), some (.im (kI l248.2)), none, none], []⟩ : Ct)) (Wk.rm [] [true, true, false, false] rfl) rfl)) (by repeat' (first | exact out_rt | exact out_some (by intro _ h; cases h) | refine out_elim (fun _ => ?_) (fun _ => ?_) | refine out_bind (fun _ => ?_) | refine out_ite ?_ ?_)) (mb_cons (ms_set 3 sc.nd (mp_opVV (k := kI) op_modA (mv_callTy call_int1 (by rfl) T.n_int bt_int (mai_cons (d := kI l248.1) (mv_name 0 rfl) mai_nil) oa_int) (mv_name 1 rfl) o2_modM)) (fun rest253 => (mb_consV (ms_setV 0 sc.nd (mv_name 1 rfl)) (mb_consV (ms_setV 1 sc.nd (mv_name 3 rfl)) (mb_end (w := (Fl.nx (l248.2, rest253))) (c' := (⟨0, [some (.im (kI l248.2)), some (.im (kI rest253)), none, none], []⟩ : Ct)) (Wk.rm [] [true, true, false, false] rfl) rfl)))))))) (fun l255 => (mb_one (ms_retV (w := l255.1) (mv_name 0 rfl) rfl))))
def F__law_lowest (n257 : Int) (d258 : Int) : Option (Int × Int) :=
  (F__law_divisor (n257.natAbs : Int) d258).bind fun (common259 : Int) => ((fdivM n257 common259).bind fun z260 => (fdivM d258 common259).bind fun z261 => some (z260, z261)).bind fun z263 => some ((fun (z262 : (Int × Int)) => (z262.1, z262.2)) z263)
abbrev s__law_lowest : Stmt := topS 25
theorem sc__law_lowest : FnScope ["n", "d", "common"] ["n", "d"] (defScope s__law_lowest) := ⟨rfl, rfl, rfl, by decide +kernel, rfl, by decide +kernel, by decide +kernel⟩
abbrev ca__law_lowest := (fun (b : (Int × Int)) => (⟨0, [some (.im (kI b.1)), some (.im (kI b.2))], []⟩ : Ct))
abbrev FF__law_lowest := (fun (b : (Int × Int)) => F__law_lowest b.1 b.2)
abbrev rs__law_lowest : (Int × Int) → Sl := (fun (g : (Int × Int)) => .im ((kT2 kI kI) g))
abbrev cr__law_lowest : (Int × Int) → Ct := (fun (_ : (Int × Int)) => (⟨0, [], []⟩ : Ct))
abbrev ps__law_lowest : List Str := ["n", "d"]
set_option maxHeartbeats 4000000 in
theorem ok__law_lowest {P : Program} {w : World} {K : PySem.W.Frag} {mg : Str → Option Value} {base : Heap} {f : Addr} {fd : FuncData} (FU : Fun K "_law_lowest" "_law_lowest" s__law_lowest f fd) (T : Fa mg) {f__law_divisor : Addr} {fd__law_divisor : FuncData} (C__law_divisor : Own P w K mg base 1 "_law_divisor" f__law_divisor fd__law_divisor ps__law_divisor ca__law_divisor FF__law_divisor rs__law_divisor cr__law_divisor) :
    FnOk P w K mg base CX0 2 f fd ps__law_lowest (PrF K ca__law_lowest FF__law_lowest rs__law_lowest cr__law_lowest) := by
  have sc := sc__law_lowest
  refine fn_ok FU sc__law_lowest (fun _ => rfl) (fun cdv A outer s H E B b hr => ?_)
  obtain ⟨n257, d258⟩ := b
  have D__law_divisor : Df P w K mg base (A.deeper (envOfC "_law_lowest" (defScope s__law_lowest) s.heap.objs.size f cdv)) 1 "_law_divisor" f__law_divisor fd__law_divisor ps__law_divisor ca__law_divisor FF__law_divisor rs__law_divisor cr__law_divisor := ⟨C__law_divisor.G, hr.mono (by decide), C__law_divisor.hm, C__law_divisor.hk, C__law_divisor.hb⟩
  show MB _ B (⟨0, [some (.im (kI n257)), some (.im (kI d258)), none], []⟩ : Ct) _ (F__law_lowest n257 d258) _
  unfold F__law_lowest
  exact (mb_cons (ms_set 2 sc.nd (mp_call (F := FF__law_divisor) (k := kI) ((n257.natAbs : Int), d258) D__law_divisor (by rfl) (mai_cons (d := kI (n257.natAbs : Int)) (mv_callB call_abs (by rfl) T.n_abs bt_abs (mai_cons (d := kI n257) (mv_name 0 rfl) mai_nil) oa_abs) (mai_cons (d := kI d258) (mv_name 1 rfl) mai_nil)))) (fun common259 => (mb_one (ms_retQ (k := (kT2 kI kI)) (mp_re (k2 := (kT2 kI kI)) (f := (fun (z262 : (Int × Int)) => (z262.1, z262.2))) (mp_tup (r := (fun (z262 : (Int × Int)) => [kI z262.1, kI z262.2])) (map_consPP (k1 := kI) (mp_opVV (k := kI) op_fdivA (mv_name 0 rfl) (mv_name 2 rfl) o2_fdivM) (map_consP (k1 := kI) (mp_opVV (k := kI) op_fdivA (mv_name 1 rfl) (mv_name 2 rfl) o2_fdivM) mai_nil)))) (fun _ => rfl)))))
def F__law_ratios (pairs265 : (List (Int × Int))) : Option (List (Int × Int)) :=
  (((some ())).bind fun z273 => forP (fun (x267 : (Int × Int)) (l266 : ((List (Int × Int)) × Int × Int)) => ((mulM l266.2.1 x267.1).bind fun z268 => some (((0 : Int) - z268))).bind fun (n269 : Int) => (mulM l266.2.2 x267.2).bind fun (d270 : Int) => ((F__law_lowest n269 d270).bind fun z272 => (roomM l266.1.length).map fun _ => z272).bind fun (z271 : (Int × Int)) => some ((l266.1 ++ [z271]), n269, d270)) pairs265 (([] : List (Int × Int)), (1 : Int), (1 : Int))).bind fun (l274 : ((List (Int × Int)) × Int × Int)) => some (l274.1)
abbrev s__law_ratios : Stmt := topS 27
theorem sc__law_ratios : FnScope ["pairs", "found", "n", "d", "driving", "driven"] ["pairs"] (defScope s__law_ratios) := ⟨rfl, rfl, rfl, by decide +kernel, rfl, by decide +kernel, by decide +kernel⟩
abbrev ca__law_ratios := (fun (b : (List (Int × Int))) => (⟨0, [some (.im ((kU (kT2 kI kI)) b))], []⟩ : Ct))
abbrev FF__law_ratios := (fun (b : (List (Int × Int))) => F__law_ratios b)
abbrev rs__law_ratios : (List (Int × Int)) → Sl := (fun (_ : (List (Int × Int))) => .rf 0)
abbrev cr__law_ratios : (List (Int × Int)) → Ct := (fun (g : (List (Int × Int))) => (⟨0, [], [g.map (kT2 kI kI)]⟩ : Ct))
abbrev ps__law_ratios : List Str := ["pairs"]
set_option maxHeartbeats 4000000 in
theorem ok__law_ratios {P : Program} {w : World} {K : PySem.W.Frag} {mg : Str → Option Value} {base : Heap} {f : Addr} {fd : FuncData} (FU : Fun K "_law_ratios" "_law_ratios" s__law_ratios f fd) (T : Fa mg) {f__law_lowest : Addr} {fd__law_lowest : FuncData} (C__law_lowest : Own P w K mg base 2 "_law_lowest" f__law_lowest fd__law_lowest ps__law_lowest ca__law_lowest FF__law_lowest rs__law_lowest cr__law_lowest) :
    FnOk P w K mg base CX0 3 f fd ps__law_ratios (PrF K ca__law_ratios FF__law_ratios rs__law_ratios cr__law_ratios) := by
  have sc := sc__law_ratios
  refine fn_ok FU sc__law_ratios (fun _ => rfl) (fun cdv A outer s H E B pairs265 hr => ?_)
  have D__law_lowest : Df P w K mg base (A.deeper (envOfC "_law_ratios" (defScope s__law_ratios) s.heap.objs.size f cdv)) 2 "_law_lowest" f__law_lowest fd__law_lowest ps__law_lowest ca__law_lowest FF__law_lowest rs__law_lowest cr__law_lowest := ⟨C__law_lowest.G, hr.mono (by decide), C__law_lowest.hm, C__law_lowest.hk, C__law_lowest.hb⟩
  show MB _ B (⟨0, [some (.im ((kU (kT2 kI kI)) pairs265)), none, none, none, none, none], []⟩ : Ct) _ (F__law_ratios pairs265) _
  unfold F__law_ratios
  exact (mb_consV (ms_set 1 sc.nd (mn_lst (ds := ([] : List (Int × Int)).map (kT2 kI kI)) mai_nil)) (mb_consV (ms_setV 2 sc.nd mv_int) (mb_consV (ms_setV 3 sc.nd mv_int) (mb_cons (ms_forP (xs := fun (z273 : Unit) => pairs265) (k := (kT2 kI kI)) (ca := fun (z273 : Unit) => (⟨0, [some (.im ((kU (kT2 kI kI)) pairs265)), some (.rf 0), some (.im (kI (1 : Int))), some (.im (kI (1 : Int))), none, none], [(([] : List (Int × Int))).map (kT2 kI kI)]⟩ : Ct)) (cL := (fun (l266 : ((List (Int × Int)) × Int × Int)) => (⟨0, [some (.im ((kU (kT2 kI kI)) pairs265)), some (.rf 0), some (.im (kI l266.2.1)), some (.im (kI l266.2.2)), none, none], [l266.1.map (kT2 kI kI)]⟩ : Ct))) (l0 := fun (z273 : Unit) => (([] : List (Int × Int)), (1 : Int), (1 : Int))) (cT := (fun (x267 : (Int × Int)) (l266 : ((List (Int × Int)) × Int × Int)) => (⟨0, [some (.im ((kU (kT2 kI kI)) pairs265)), some (.rf 0), some (.im (kI l266.2.1)), some (.im (kI l266.2.2)), some (.im (kI x267.1)), some (.im (kI x267.2))], [l266.1.map (kT2 kI kI)]⟩ : Ct))) (fB := (fun (x267 : (Int × Int)) (l266 : ((List (Int × Int)) × Int × Int)) => ((mulM l266.2.1 x267.1).bind fun z268 => some (((0 : Int) - z268))).bind fun (n269 : Int) => (mulM l266.2.2 x267.2).bind fun (d270 : Int) => ((F__law_lowest n269 d270).bind fun z272 => (roomM l266.1.length).map fun _ => z272).bind fun (z271 : (Int × Int)) => some ((l266.1 ++ [z271]), n269, d270))) PassesOwn.never rfl (mi_tV (k := (kT2 kI kI)) (xs := pairs265) (mv_name 0 rfl)) (pg_tup (n := 2) rfl (pgs_cons (pg_name (i := 4) sc.nd rfl (by first | exact Or.inl rfl | exact Or.inr rfl)) (pgs_cons (pg_name (i := 5) sc.nd rfl (by first | exact Or.inl rfl | exact Or.inr rfl)) pgs_nil))) (fun _ => (Wk.rm [0] [true, true, true, true, false, false] rfl)) (fun _ _ => (tg_tup (tgs_cons (tg_name 4) (tgs_cons (tg_name 5) tgs_nil)))) (fun x267 l266 => (mb_cons (ms_set 2 sc.nd (mp_opVP (k2 := kI) (k := kI) (f := fun z268 => some (((0 : Int) - z268))) op_sub mv_int (mp_opVV (k := kI) op_mulA (mv_name 2 rfl) (mv_name 4 rfl) o2_mulM) (fun z268 => o2_sub.up))) (fun n269 => (mb_cons (ms_set 3 sc.nd (mp_opVV (k := kI) op_mulA (mv_name 3 rfl) (mv_name 5 rfl) o2_mulM)) (fun d270 => (mb_cons (ms_expr (me_append (k := (kT2 kI kI)) (xs := fun _ => l266.1) (x := fun z => z) (ca := fun _ => (⟨0, [some (.im ((kU (kT2 kI kI)) pairs265)), some (.rf 0), some (.im (kI n269)), some (.im (kI d270)), some (.im (kI x267.1)), some (.im (kI x267.2))], [l266.1.map (kT2 kI kI)]⟩ : Ct)) (mv_name 1 rfl) (mp_call (F := FF__law_lowest) (k := (kT2 kI kI)) (n269, d270) D__law_lowest (by rfl) (mai_cons (d := kI n269) (mv_name 2 rfl) (mai_cons (d := kI d270) (mv_name 3 rfl) mai_nil))) rfl (fun _ => rfl))) (fun z271 => (mb_end (w := ((l266.1 ++ [z271]), n269, d270)) (c' := (⟨0, [some (.im ((kU (kT2 kI kI)) pairs265)), some (.rf 0), some (.im (kI n269)), some (.im (kI d270)), none, none], [((l266.1 ++ [z271])).map (kT2 kI kI)]⟩ : Ct)) (Wk.rm [0] [true, true, true, true, false, false] rfl) rfl))))))))) (fun l274 => (mb_one (ms_retL (w := l274.1) (mv_name 1 rfl) rfl rfl)))))))
def F__law_ratios_L (pairs275 : (List (Int × Int))) : Option (List (Int × Int)) :=
  (((some ())).bind fun z283 => forP (fun (x277 : (Int × Int)) (l276 : ((List (Int × Int)) × Int × Int)) => ((mulM l276.2.1 x277.1).bind fun z278 => some (((0 : Int) - z278))).bind fun (n279 : Int) => (mulM l276.2.2 x277.2).bind fun (d280 : Int) => ((F__law_lowest n279 d280).bind fun z282 => (roomM l276.1.length).map fun _ => z282).bind fun (z281 : (Int × Int)) => some ((l276.1 ++ [z281]), n279, d280)) pairs275 (([] : List (Int × Int)), (1 : Int), (1 : Int))).bind fun (l284 : ((List (Int × Int)) × Int × Int)) => some (l284.1)
abbrev s__law_ratios_L : Stmt := topS 27
theorem sc__law_ratios_L : FnScope ["pairs", "found", "n", "d", "driving", "driven"] ["pairs"] (defScope s__law_ratios_L) := ⟨rfl, rfl, rfl, by decide +kernel, rfl, by decide +kernel, by decide +kernel⟩
abbrev ca__law_ratios_L := (fun (b : (List (Int × Int))) => (⟨0, [some (.im ((kL (kT2 kI kI)) b))], []⟩ : Ct))
abbrev FF__law_ratios_L := (fun (b : (List (Int × Int))) => F__law_ratios_L b)
abbrev rs__law_ratios_L : (List (Int × Int)) → Sl := (fun (_ : (List (Int × Int))) => .rf 0)
abbrev cr__law_ratios_L : (List (Int × Int)) → Ct := (fun (g : (List (Int × Int))) => (⟨0, [], [g.map (kT2 kI kI)]⟩ : Ct))
abbrev ps__law_ratios_L : List Str := ["pairs"]
set_option maxHeartbeats 4000000 in
theorem ok__law_ratios_L {P : Program} {w : World} {K : PySem.W.Frag} {mg : Str → Option Value} {base : Heap} {f : Addr} {fd : FuncData} (FU : Fun K "_law_ratios" "_law_ratios" s__law_ratios_L f fd) (T : Fa mg) {f__law_lowest : Addr} {fd__law_lowest : FuncData} (C__law_lowest : Own P w K mg base 2 "_law_lowest" f__law_lowest fd__law_lowest ps__law_lowest ca__law_lowest FF__law_lowest rs__law_lowest cr__law_lowest) :
    FnOk P w K mg base CX0 3 f fd ps__law_ratios_L (PrF K ca__law_ratios_L FF__law_ratios_L rs__law_ratios_L cr__law_ratios_L) := by
  have sc := sc__law_ratios_L
  refine fn_ok FU sc__law_ratios_L (fun _ => rfl) (fun cdv A outer s H E B pairs275 hr => ?_)
  have D__law_lowest : Df P w K mg base (A.deeper (envOfC "_law_ratios" (defScope s__law_ratios_L) s.heap.objs.size f cdv)) 2 "_law_lowest" f__law_lowest fd__law_lowest ps__law_lowest ca__law_lowest FF__law_lowest rs__law_lowest cr__law_lowest := ⟨C__law_lowest.G, hr.mono (by decide), C__law_lowest.hm, C__law_lowest.hk, C__law_lowest.hb⟩
  show MB _ B (⟨0, [some (.im ((kL (kT2 kI kI)) pairs275)), none, none, none, none, none], []⟩ : Ct) _ (F__law_ratios_L pairs275) _
  unfold F__law_ratios_L
  exact (mb_consV (ms_set 1 sc.nd (mn_lst (ds := ([] : List (Int × Int)).map (kT2 kI kI)) mai_nil)) (mb_consV (ms_setV 2 sc.nd mv_int) (mb_consV (ms_setV 3 sc.nd mv_int) (mb_cons (ms_forP (xs := fun (z283 : Unit) => pairs275) (k := (kT2 kI kI)) (ca := fun (z283 : Unit) => (⟨0, [some (.im ((kL (kT2 kI kI)) pairs275)), some (.rf 0), some (.im (kI (1 : Int))), some (.im (kI (1 : Int))), none, none], [(([] : List (Int × Int))).map (kT2 kI kI)]⟩ : Ct)) (cL := (fun (l276 : ((List (Int × Int)) × Int × Int)) => (⟨0, [some (.im ((kL (kT2 kI kI)) pairs275)), some (.rf 0), some (.im (kI l276.2.1)), some (.im (kI l276.2.2)), none, none], [l276.1.map (kT2 kI kI)]⟩ : Ct))) (l0 := fun (z283 : Unit) => (([] : List (Int × Int)), (1 : Int), (1 : Int))) (cT := (fun (x277 : (Int × Int)) (l276 : ((List (Int × Int)) × Int × Int)) => (⟨0, [some (.im ((kL (kT2 kI kI)) pairs275)), some (.rf 0), some (.im (kI l276.2.1)), some (.im (kI l276.2.2)), some (.im (kI x277.1)), some (.im (kI x277.2))], [l276.1.map (kT2 kI kI)]⟩ : Ct))) (fB := (fun (x277 : (Int × Int)) (l276 : ((List (Int × Int)) × Int × Int)) => ((mulM l276.2.1 x277.1).bind fun z278 => some (((0 : Int) - z278))).bind fun (n279 : Int) => (mulM l276.2.2 x277.2).bind fun (d280 : Int) => ((F__law_lowest n279 d280).bind fun z282 => (roomM l276.1.length).map fun _ => z282).bind fun (z281 : (Int × Int)) => some ((l276.1 ++ [z281]), n279, d280))) PassesOwn.never rfl (mi_lV (k := (kT2 kI kI)) (xs := pairs275) (mv_name 0 rfl)) (pg_tup (n := 2) rfl (pgs_cons (pg_name (i := 4) sc.nd rfl (by first | exact Or.inl rfl | exact Or.inr rfl)) (pgs_cons (pg_name (i := 5) sc.nd rfl (by first | exact Or.inl rfl | exact Or.inr rfl)) pgs_nil))) (fun _ => (Wk.rm [0] [true, true, true, true, false, false] rfl)) (fun _ _ => (tg_tup (tgs_cons (tg_name 4) (tgs_cons (tg_name 5) tgs_nil)))) (fun x277 l276 => (mb_cons (ms_set 2 sc.nd (mp_opVP (k2 := kI) (k := kI) (f := fun z278 => some (((0 : Int) - z278))) op_sub mv_int (mp_opVV (k := kI) op_mulA (mv_name 2 rfl) (mv_name 4 rfl) o2_mulM) (fun z278 => o2_sub.up))) (fun n279 => (mb_cons (ms_set 3 sc.nd (mp_opVV (k := kI) op_mulA (mv_name 3 rfl) (mv_name 5 rfl) o2_mulM)) (fun d280 => (mb_cons (ms_expr (me_append (k := (kT2 kI kI)) (xs := fun _ => l276.1) (x := fun z => z) (ca := fun _ => (⟨0, [some (.im ((kL (kT2 kI kI)) pairs275)), some (.rf 0), some (.im (kI n279)), some (.im (kI d280)), some (.im (kI x277.1)), some (.im (kI x277.2))], [l276.1.map (kT2 kI kI)]⟩ : Ct)) (mv_name 1 rfl) (mp_call (F := FF__law_lowest) (k := (kT2 kI kI)) (n279, d280) D__law_lowest (by rfl) (mai_cons (d := kI n279) (mv_name 2 rfl) (mai_cons (d := kI d280) (mv_name 3 rfl) mai_nil))) rfl (fun _ => rfl))) (fun z281 => (mb_end (w := ((l276.1 ++ [z281]), n279, d280)) (c' := (⟨0, [some (.im ((kL (kT2 kI kI)) pairs275)), some (.rf 0), some (.im (kI n279)), some (.im (kI d280)), none, none], [((l276.1 ++ [z281])).map (kT2 kI kI)]⟩ : Ct)) (Wk.rm [0] [true, true, true, true, false, false] rfl) rfl))))))))) (fun l284 => (mb_one (ms_retL (w := l284.1) (mv_name 1 rfl) rfl rfl)))))))
def F__law_turns (pairs285 : (List (Int × Int))) : Option Int :=
  ((F__law_ratios pairs285).bind fun z291 => forP (fun (x287 : (Int × Int)) (l286 : Int) => ((mulM l286 x287.2).bind fun z288 => (F__law_divisor l286 x287.2).bind fun z289 => fdivM z288 z289).bind fun (turns290 : Int) => some turns290) z291 (1 : Int)).bind fun (l292 : Int) => some (l292)
abbrev s__law_turns : Stmt := topS 28
theorem sc__law_turns : FnScope ["pairs", "turns", "ratio"] ["pairs"] (defScope s__law_turns) := ⟨rfl, rfl, rfl, by decide +kernel, rfl, by decide +kernel, by decide +kernel⟩
abbrev ca__law_turns := (fun (b : (List (Int × Int))) => (⟨0, [some (.im ((kU (kT2 kI kI)) b))], []⟩ : Ct))
abbrev FF__law_turns := (fun (b : (List (Int × Int))) => F__law_turns b)
abbrev rs__law_turns : Int → Sl := (fun (g : Int) => .im (kI g))
abbrev cr__law_turns : Int → Ct := (fun (_ : Int) => (⟨0, [], []⟩ : Ct))
abbrev ps__law_turns : List Str := ["pairs"]
set_option maxHeartbeats 4000000 in
theorem ok__law_turns {P : Program} {w : World} {K : PySem.W.Frag} {mg : Str → Option Value} {base : Heap} {f : Addr} {fd : FuncData} (FU : Fun K "_law_turns" "_law_turns" s__law_turns f fd) (T : Fa mg) {f__law_ratios : Addr} {fd__law_ratios : FuncData} (C__law_ratios : Own P w K mg base 3 "_law_ratios" f__law_ratios fd__law_ratios ps__law_ratios ca__law_ratios FF__law_ratios rs__law_ratios cr__law_ratios) {f__law_divisor : Addr} {fd__law_divisor : FuncData} (C__law_divisor : Own P w K mg base 1 "_law_divisor" f__law_divisor fd__law_divisor ps__law_divisor ca__law_divisor FF__law_divisor rs__law_divisor cr__law_divisor) :
    FnOk P w K mg base CX0 4 f fd ps__law_turns (PrF K ca__law_turns FF__law_turns rs__law_turns cr__law_turns) := by
  have sc := sc__law_turns
  refine fn_ok FU sc__law_turns (fun _ => rfl) (fun cdv A outer s H E B pairs285 hr => ?_)
  have D__law_ratios : Df P w K mg base (A.deeper (envOfC "_law_turns" (defScope s__law_turns) s.heap.objs.size f cdv)) 3 "_law_ratios" f__law_ratios fd__law_ratios ps__law_ratios ca__law_ratios FF__law_ratios rs__law_ratios cr__law_ratios := ⟨C__law_ratios.G, hr.mono (by decide), C__law_ratios.hm, C__law_ratios.hk, C__law_ratios.hb⟩
  have D__law_divisor : Df P w K mg base (A.deeper (envOfC "_law_turns" (defScope s__law_turns) s.heap.objs.size f cdv)) 1 "_law_divisor" f__law_divisor fd__law_divisor ps__law_divisor ca__law_divisor FF__law_divisor rs__law_divisor cr__law_divisor := ⟨C__law_divisor.G, hr.mono (by decide), C__law_divisor.hm, C__law_divisor.hk, C__law_divisor.hb⟩
  show MB _ B (⟨0, [some (.im ((kU (kT2 kI kI)) pairs285)), none, none], []⟩ : Ct) _ (F__law_turns pairs285) _
  unfold F__law_turns
  exact (mb_consV (ms_setV 1 sc.nd mv_int) (mb_cons (ms_forP (xs := fun (z291 : List (Int × Int)) => z291) (k := (kT2 kI kI)) (ca := fun (z291 : List (Int × Int)) => (⟨0, [some (.im ((kU (kT2 kI kI)) pairs285)), some (.im (kI (1 : Int))), none], []⟩ : Ct)) (cL := (fun (l286 : Int) => (⟨0, [some (.im ((kU (kT2 kI kI)) pairs285)), some (.im (kI l286)), none], []⟩ : Ct))) (l0 := fun (z291 : List (Int × Int)) => (1 : Int)) (cT := (fun (x287 : (Int × Int)) (l286 : Int) => (⟨0, [some (.im ((kU (kT2 kI kI)) pairs285)), some (.im (kI l286)), some (.im ((kT2 kI kI) x287))], []⟩ : Ct))) (fB := (fun (x287 : (Int × Int)) (l286 : Int) => ((mulM l286 x287.2).bind fun z288 => (F__law_divisor l286 x287.2).bind fun z289 => fdivM z288 z289).bind fun (turns290 : Int) => some turns290)) PassesOwn.never rfl (mi_lP (k := (kT2 kI kI)) (mp_callL (F := FF__law_ratios) (L := fun g => g.map (kT2 kI kI)) pairs285 D__law_ratios (by rfl) (mai_cons (d := (kU (kT2 kI kI)) pairs285) (mv_name 0 rfl) mai_nil))) (pg_name (i := 2) sc.nd rfl (by first | exact Or.inl rfl | exact Or.inr rfl)) (fun _ => (Wk.rm [] [true, true, false] rfl)) (fun _ _ => (tg_name 2)) (fun x287 l286 => (mb_cons (ms_set 1 sc.nd (mp_opPP (k1 := kI) (k2 := kI) (k := kI) (f := fun z288 z289 => fdivM z288 z289) op_fdivA (mp_opVV (k := kI) op_mulA (mv_name 1 rfl) (mv_ix ix_lt (mv_name 2 rfl) mv_int (o2_ixD .tup rfl)) o2_mulM) (mp_call (F := FF__law_divisor) (k := kI) (l286, x287.2) D__law_divisor (by rfl) (mai_cons (d := kI l286) (mv_name 1 rfl) (mai_cons (d := kI x287.2) (mv_ix ix_lt (mv_name 2 rfl) mv_int (o2_ixD .tup rfl)) mai_nil))) (fun z288 z289 => o2_fdivM))) (fun turns290 => (mb_end (w := turns290) (c' := (⟨0, [some (.im ((kU (kT2 kI kI)) pairs285)), some (.im (kI turns290)), none], []⟩ : Ct)) (Wk.rm [] [true, true, false] rfl) rfl))))) (fun l292 => (mb_one (ms_retV (w := l292) (mv_name 1 rfl) rfl)))))
def F__law_turns_L (pairs293 : (List (Int × Int))) : Option Int :=
  ((F__law_ratios_L pairs293).bind fun z299 => forP (fun (x295 : (Int × Int)) (l294 : Int) => ((mulM l294 x295.2).bind fun z296 => (F__law_divisor l294 x295.2).bind fun z297 => fdivM z296 z297).bind fun (turns298 : Int) => some turns298) z299 (1 : Int)).bind fun (l300 : Int) => some (l300)
abbrev s__law_turns_L : Stmt := topS 28
theorem sc__law_turns_L : FnScope ["pairs", "turns", "ratio"] ["pairs"] (defScope s__law_turns_L) := ⟨rfl, rfl, rfl, by decide +kernel, rfl, by decide +kernel, by decide +kernel⟩
abbrev ca__law_turns_L := (fun (b : (List (Int × Int))) => (⟨0, [some (.im ((kL (kT2 kI kI)) b))], []⟩ : Ct))
abbrev FF__law_turns_L := (fun (b : (List (Int × Int))) => F__law_turns_L b)
abbrev rs__law_turns_L : Int → Sl := (fun (g : Int) => .im (kI g))
abbrev cr__law_turns_L : Int → Ct := (fun (_ : Int) => (⟨0, [], []⟩ : Ct))
abbrev ps__law_turns_L : List Str := ["pairs"]
set_option maxHeartbeats 4000000 in
theorem ok__law_turns_L {P : Program} {w : World} {K : PySem.W.Frag} {mg : Str → Option Value} {base : Heap} {f : Addr} {fd : FuncData} (FU : Fun K "_law_turns" "_law_turns" s__law_turns_L f fd) (T : Fa mg) {f__law_ratios : Addr} {fd__law_ratios : FuncData} (C__law_ratios : Own P w K mg base 3 "_law_ratios" f__law_ratios fd__law_ratios ps__law_ratios ca__law_ratios FF__law_ratios rs__law_ratios cr__law_ratios) {f__law_ratios_L : Addr} {fd__law_ratios_L : FuncData} (C__law_ratios_L : Own P w K mg base 3 "_law_ratios" f__law_ratios_L fd__law_ratios_L ps__law_ratios_L ca__law_ratios_L FF__law_ratios_L rs__law_ratios_L cr__law_ratios_L) {f__law_divisor : Addr} {fd__law_divisor : FuncData} (C__law_divisor : Own P w K mg base 1 "_law_divisor" f__law_divisor fd__law_divisor ps__law_divisor ca__law_divisor FF__law_divisor rs__law_divisor cr__law_divisor) :
    FnOk P w K mg base CX0 4 f fd ps__law_turns_L (PrF K ca__law_turns_L FF__law_turns_L rs__law_turns_L cr__law_turns_L) := by
  have sc := sc__law_turns_L
  refine fn_ok FU sc__law_turns_L (fun _ => rfl) (fun cdv A outer s H E B pairs293 hr => ?_)
  have D__law_ratios : Df P w K mg base (A.deeper (envOfC "_law_turns" (defScope s__law_turns_L) s.heap.objs.size f cdv)) 3 "_law_ratios" f__law_ratios fd__law_ratios ps__law_ratios ca__law_ratios FF__law_ratios rs__law_ratios cr__law_ratios := ⟨C__law_ratios.G, hr.mono (by decide), C__law_ratios.hm, C__law_ratios.hk, C__law_ratios.hb⟩
  have D__law_ratios_L : Df P w K mg base (A.deeper (envOfC "_law_turns" (defScope s__law_turns_L) s.heap.objs.size f cdv)) 3 "_law_ratios" f__law_ratios_L fd__law_ratios_L ps__law_ratios_L ca__law_ratios_L FF__law_ratios_L rs__law_ratios_L cr__law_ratios_L := ⟨C__law_ratios_L.G, hr.mono (by decide), C__law_ratios_L.hm, C__law_ratios_L.hk, C__law_ratios_L.hb⟩
  have D__law_divisor : Df P w K mg base (A.deeper (envOfC "_law_turns" (defScope s__law_turns_L) s.heap.objs.size f cdv)) 1 "_law_divisor" f__law_divisor fd__law_divisor ps__law_divisor ca__law_divisor FF__law_divisor rs__law_divisor cr__law_divisor := ⟨C__law_divisor.G, hr.mono (by decide), C__law_divisor.hm, C__law_divisor.hk, C__law_divisor.hb⟩
  show MB _ B (⟨0, [some (.im ((kL (kT2 kI kI)) pairs293)), none, none], []⟩ : Ct) _ (F__law_turns_L pairs293) _
  unfold F__law_turns_L
  exact (mb_consV (ms_setV 1 sc.nd mv_int) (mb_cons (ms_forP (xs := fun (z299 : List (Int × Int)) => z299) (k := (kT2 kI kI)) (ca := fun (z299 : List (Int × Int)) => (⟨0, [some (.im ((kL (kT2 kI kI)) pairs293)), some (.im (kI (1 : Int))), none], []⟩ : Ct)) (cL := (fun (l294 : Int) => (⟨0, [some (.im ((kL (kT2 kI kI)) pairs293)), some (.im (kI l294)), none], []⟩ : Ct))) (l0 := fun (z299 : List (Int × Int)) => (1 : Int)) (cT := (fun (x295 : (Int × Int)) (l294 : Int) => (⟨0, [some (.im ((kL (kT2 kI kI)) pairs293)), some (.im (kI l294)), some (.im ((kT2 kI kI) x295))], []⟩ : Ct))) (fB := (fun (x295 : (Int × Int)) (l294 : Int) => ((mulM l294 x295.2).bind fun z296 => (F__law_divisor l294 x295.2).bind fun z297 => fdivM z296 z297).bind fun (turns298 : Int) => some turns298)) PassesOwn.never rfl (mi_lP (k := (kT2 kI kI)) (mp_callL (F := FF__law_ratios_L) (L := fun g => g.map (kT2 kI kI)) pairs293 D__law_ratios_L (by rfl) (mai_cons (d := (kL (kT2 kI kI)) pairs293) (mv_name 0 rfl) mai_nil))) (pg_name (i := 2) sc.nd rfl (by first | exact Or.inl rfl | exact Or.inr rfl)) (fun _ => (Wk.rm [] [true, true, false] rfl)) (fun _ _ => (tg_name 2)) (fun x295 l294 => (mb_cons (ms_set 1 sc.nd (mp_opPP (k1 := kI) (k2 := kI) (k := kI) (f := fun z296 z297 => fdivM z296 z297) op_fdivA (mp_opVV (k := kI) op_mulA (mv_name 1 rfl) (mv_ix ix_lt (mv_name 2 rfl) mv_int (o2_ixD .tup rfl)) o2_mulM) (mp_call (F := FF__law_divisor) (k := kI) (l294, x295.2) D__law_divisor (by rfl) (mai_cons (d := kI l294) (mv_name 1 rfl) (mai_cons (d := kI x295.2) (mv_ix ix_lt (mv_name 2 rfl) mv_int (o2_ixD .tup rfl)) mai_nil))) (fun z296 z297 => o2_fdivM))) (fun turns298 => (mb_end (w := turns298) (c' := (⟨0, [some (.im ((kL (kT2 kI kI)) pairs293)), some (.im (kI turns298)), none], []⟩ : Ct)) (Wk.rm [] [true, true, false] rfl) rfl))))) (fun l300 => (mb_one (ms_retV (w := l300) (mv_name 1 rfl) rfl)))))
def F__law_gear (draws301 : List Int) (most302 : Int) : Option ((List (Int × Int)) × List Int) :=
  ((((((some ((), draws301)).bind fun z329 => ((some ((5 : Int), z329.2)).bind fun z325 => (some ((), z325.2)).bind fun z326 => some ((z325.1, z326.1), z326.2)).bind fun z330 => some ((z329.1, z330.1), z330.2)).bind fun z333 => F__law_take z333.2 z333.1.2.1).bind fun z339 => (some ((), z339.2)).bind fun z340 => some ((z339.1, z340.1), z340.2)).bind fun z343 => (rngM 0 z343.1.1).bind fun z344 => some (z344, z343.2)).bind fun z604 => forP (fun (x348 : Int) (l347 : ((List Int) × (List (Int × Int)))) => (((((some ((1 : Int), l347.1)).bind fun z518 => (((some ((), z518.2)).bind fun z510 => ((some ((12 : Int), z510.2)).bind fun z506 => (some ((), z506.2)).bind fun z507 => some ((z506.1, z507.1), z507.2)).bind fun z511 => some ((z510.1, z511.1), z511.2)).bind fun z514 => F__law_take z514.2 z514.1.2.1).bind fun z519 => (some ((z518.1 + z519.1))).bind fun z521 => some (z521, z519.2)).bind fun z588 => (((some ((1 : Int), z588.2)).bind fun z577 => (((some ((), z577.2)).bind fun z569 => ((some ((12 : Int), z569.2)).bind fun z565 => (some ((), z565.2)).bind fun z566 => some ((z565.1, z566.1), z566.2)).bind fun z570 => some ((z569.1, z570.1), z570.2)).bind fun z573 => F__law_take z573.2 z573.1.2.1).bind fun z578 => (some ((z577.1 + z578.1))).bind fun z580 => some (z580, z578.2)).bind fun z584 => (some ((), z584.2)).bind fun z585 => some ((z584.1, z585.1), z585.2)).bind fun z589 => some ((z588.1, z589.1), z589.2)).bind fun z593 => some ((fun (z592 : (Int × (Int × Unit))) => (z592.1, z592.2.1)) z593.1, z593.2)).bind fun z597 => (roomM l347.2.length).map fun _ => z597).bind fun (z596 : (Int × Int) × List Int) => ((F__law_turns_L (l347.2 ++ [z596.1])).bind fun z599 => some (decide (most302 < z599))).bind fun z601 => if z601 = true then (((l347.2 ++ [z596.1]).getLast?.map fun x => (x, (l347.2 ++ [z596.1]).dropLast)).bind fun (z603 : (Int × Int) × List (Int × Int)) => some (z596.2, z603.2)) else (some (z596.2, (l347.2 ++ [z596.1])))) z604.1 (z604.2, ([] : List (Int × Int)))).bind fun (l605 : ((List Int) × (List (Int × Int)))) => some ((l605.2, l605.1))
abbrev s__law_gear : Stmt := topS 26
theorem sc__law_gear : FnScope ["draws", "most", "pairs", "k"] ["draws", "most"] (defScope s__law_gear) := ⟨rfl, rfl, rfl, by decide +kernel, rfl, by decide +kernel, by decide +kernel⟩
abbrev ca__law_gear := (fun (b : (List Int × Int)) => (⟨1, [some (.rf 0), some (.im (kI b.2))], [b.1.map kI]⟩ : Ct))
abbrev FF__law_gear := (fun (b : (List Int × Int)) => F__law_gear b.1 b.2)
abbrev rs__law_gear : ((List (Int × Int)) × List Int) → Sl := (fun (g : ((List (Int × Int)) × List Int)) => .im ((kU (kT2 kI kI)) g.1))
abbrev cr__law_gear : ((List (Int × Int)) × List Int) → Ct := (fun (g : ((List (Int × Int)) × List Int)) => (⟨1, [], [g.2.map kI]⟩ : Ct))
abbrev ps__law_gear : List Str := ["draws", "most"]
set_option maxHeartbeats 4000000 in
theorem ok__law_gear {P : Program} {w : World} {K : PySem.W.Frag} {mg : Str → Option Value} {base : Heap} {f : Addr} {fd : FuncData} (FU : Fun K "_law_gear" "_law_gear" s__law_gear f fd) (T : Fa mg) {f__law_take : Addr} {fd__law_take : FuncData} (C__law_take : Own P w K mg base 1 "_law_take" f__law_take fd__law_take ps__law_take ca__law_take FF__law_take rs__law_take cr__law_take) {f__law_turns : Addr} {fd__law_turns : FuncData} (C__law_turns : Own P w K mg base 4 "_law_turns" f__law_turns fd__law_turns ps__law_turns ca__law_turns FF__law_turns rs__law_turns cr__law_turns) {f__law_turns_L : Addr} {fd__law_turns_L : FuncData} (C__law_turns_L : Own P w K mg base 4 "_law_turns" f__law_turns_L fd__law_turns_L ps__law_turns_L ca__law_turns_L FF__law_turns_L rs__law_turns_L cr__law_turns_L) :
    FnOk P w K mg base CX0 5 f fd ps__law_gear (PrF K ca__law_gear FF__law_gear rs__law_gear cr__law_gear) := by
  have sc := sc__law_gear
  refine fn_ok FU sc__law_gear (fun _ => rfl) (fun cdv A outer s H E B b hr => ?_)
  obtain ⟨draws301, most302⟩ := b
  have D__law_take : Df P w K mg base (A.deeper (envOfC "_law_gear" (defScope s__law_gear) s.heap.objs.size f cdv)) 1 "_law_take" f__law_take fd__law_take ps__law_take ca__law_take FF__law_take rs__law_take cr__law_take := ⟨C__law_take.G, hr.mono (by decide), C__law_take.hm, C__law_take.hk, C__law_take.hb⟩
  have D__law_turns : Df P w K mg base (A.deeper (envOfC "_law_gear" (defScope s__law_gear) s.heap.objs.size f cdv)) 4 "_law_turns" f__law_turns fd__law_turns ps__law_turns ca__law_turns FF__law_turns rs__law_turns cr__law_turns := ⟨C__law_turns.G, hr.mono (by decide), C__law_turns.hm, C__law_turns.hk, C__law_turns.hb⟩
  have D__law_turns_L : Df P w K mg base (A.deeper (envOfC "_law_gear" (defScope s__law_gear) s.heap.objs.size f cdv)) 4 "_law_turns" f__law_turns_L fd__law_turns_L ps__law_turns_L ca__law_turns_L FF__law_turns_L rs__law_turns_L cr__law_turns_L := ⟨C__law_turns_L.G, hr.mono (by decide), C__law_turns_L.hm, C__law_turns_L.hk, C__law_turns_L.hb⟩
  show MB _ B (⟨1, [some (.rf 0), some (.im (kI most302)), none, none], [draws301.map kI]⟩ : Ct) _ (F__law_gear draws301 most302) _
  unfold F__law_gear
  exact (mb_consV (ms_set 2 sc.nd (mn_lst (ds := ([] : List (Int × Int)).map (kT2 kI kI)) mai_nil)) (mb_cons (ms_forP (xs := fun (z604 : List Int × List Int) => z604.1) (k := kI) (ca := fun (z604 : List Int × List Int) => (⟨1, [some (.rf 0), some (.im (kI most302)), some (.rf 1), none], [z604.2.map kI, (([] : List (Int × Int))).map (kT2 kI kI)]⟩ : Ct)) (cL := (fun (l347 : ((List Int) × (List (Int × Int)))) => (⟨1, [some (.rf 0), some (.im (kI most302)), some (.rf 1), none], [l347.1.map kI, l347.2.map (kT2 kI kI)]⟩ : Ct))) (l0 := fun (z604 : List Int × List Int) => (z604.2, ([] : List (Int × Int)))) (cT := (fun (x348 : Int) (l347 : ((List Int) × (List (Int × Int)))) => (⟨1, [some (.rf 0), some (.im (kI most302)), some (.rf 1), some (.im (kI x348))], [l347.1.map kI, l347.2.map (kT2 kI kI)]⟩ : Ct))) (fB := (fun (x348 : Int) (l347 : ((List Int) × (List (Int × Int)))) => (((((some ((1 : Int), l347.1)).bind fun z518 => (((some ((), z518.2)).bind fun z510 => ((some ((12 : Int), z510.2)).bind fun z506 => (some ((), z506.2)).bind fun z507 => some ((z506.1, z507.1), z507.2)).bind fun z511 => some ((z510.1, z511.1), z511.2)).bind fun z514 => F__law_take z514.2 z514.1.2.1).bind fun z519 => (some ((z518.1 + z519.1))).bind fun z521 => some (z521, z519.2)).bind fun z588 => (((some ((1 : Int), z588.2)).bind fun z577 => (((some ((), z577.2)).bind fun z569 => ((some ((12 : Int), z569.2)).bind fun z565 => (some ((), z565.2)).bind fun z566 => some ((z565.1, z566.1), z566.2)).bind fun z570 => some ((z569.1, z570.1), z570.2)).bind fun z573 => F__law_take z573.2 z573.1.2.1).bind fun z578 => (some ((z577.1 + z578.1))).bind fun z580 => some (z580, z578.2)).bind fun z584 => (some ((), z584.2)).bind fun z585 => some ((z584.1, z585.1), z585.2)).bind fun z589 => some ((z588.1, z589.1), z589.2)).bind fun z593 => some ((fun (z592 : (Int × (Int × Unit))) => (z592.1, z592.2.1)) z593.1, z593.2)).bind fun z597 => (roomM l347.2.length).map fun _ => z597).bind fun (z596 : (Int × Int) × List Int) => ((F__law_turns_L (l347.2 ++ [z596.1])).bind fun z599 => some (decide (most302 < z599))).bind fun z601 => if z601 = true then (((l347.2 ++ [z596.1]).getLast?.map fun x => (x, (l347.2 ++ [z596.1]).dropLast)).bind fun (z603 : (Int × Int) × List (Int × Int)) => some (z596.2, z603.2)) else (some (z596.2, (l347.2 ++ [z596.1]))))) PassesOwn.never rfl (mi_r1X (cx := (fun (dr346 : List Int) => (⟨1, [some (.rf 0), some (.im (kI most302)), some (.rf 1), none], [dr346.map kI, (([] : List (Int × Int))).map (kT2 kI kI)]⟩ : Ct))) (b := fun (z345 : (Int × Unit)) => z345.1) (by rfl) T.n_range (max_cons (cx := (fun (dr342 : List Int) => (⟨1, [some (.rf 0), some (.im (kI most302)), some (.rf 1), none], [dr342.map kI, (([] : List (Int × Int))).map (kT2 kI kI)]⟩ : Ct))) (t1 := fun (z : Int) => .im (kI z)) (m2 := fun z339 ds341 => some ((), ds341)) (mx_callD (F := FF__law_take) (cx := (fun (dr336 : List Int) => (⟨1, [some (.rf 0), some (.im (kI most302)), some (.rf 1), none], [dr336.map kI, (([] : List (Int × Int))).map (kT2 kI kI)]⟩ : Ct))) (k := kI) (ss := (fun (z334 : (Unit × (Int × Unit))) => [.rf 0, .im (kI z334.2.1)])) (fun (z334 : (Unit × (Int × Unit))) (ds335 : List Int) => (ds335, z334.2.1)) D__law_take (by rfl) (max_cons (cx := (fun (dr332 : List Int) => (⟨1, [some (.rf 0), some (.im (kI most302)), some (.rf 1), none], [dr332.map kI, (([] : List (Int × Int))).map (kT2 kI kI)]⟩ : Ct))) (t1 := fun (_ : Unit) => .rf 0) (m2 := fun z329 ds331 => (some ((5 : Int), ds331)).bind fun z325 => (some ((), z325.2)).bind fun z326 => some ((z325.1, z326.1), z326.2)) (mx_S (cx := (fun (dr321 : List Int) => (⟨1, [some (.rf 0), some (.im (kI most302)), some (.rf 1), none], [dr321.map kI, (([] : List (Int × Int))).map (kT2 kI kI)]⟩ : Ct))) (ds := draws301) (s := .rf 0) (mv_name 0 rfl)) (fun z329 ds331 => (max_cons (cx := (fun (dr328 : List Int) => (⟨1, [some (.rf 0), some (.im (kI most302)), some (.rf 1), none], [dr328.map kI, (([] : List (Int × Int))).map (kT2 kI kI)]⟩ : Ct))) (t1 := fun (z : Int) => .im (kI z)) (m2 := fun z325 ds327 => some ((), ds327)) (mx_V (cx := (fun (dr323 : List Int) => (⟨1, [some (.rf 0), some (.im (kI most302)), some (.rf 1), none], [dr323.map kI, (([] : List (Int × Int))).map (kT2 kI kI)]⟩ : Ct))) (ds := ds331) (k := kI) (v := (5 : Int)) mv_int) (fun z325 ds327 => (max_nil (cx := (fun (dr324 : List Int) => (⟨1, [some (.rf 0), some (.im (kI most302)), some (.rf 1), none], [dr324.map kI, (([] : List (Int × Int))).map (kT2 kI kI)]⟩ : Ct)))))))) (hss := (fun _ s hs i e => by subst e; simpa using hs))) (fun z339 ds341 => (max_nil (cx := (fun (dr338 : List Int) => (⟨1, [some (.rf 0), some (.im (kI most302)), some (.rf 1), none], [dr338.map kI, (([] : List (Int × Int))).map (kT2 kI kI)]⟩ : Ct))))))) (pg_name (i := 3) sc.nd rfl (by first | exact Or.inl rfl | exact Or.inr rfl)) (fun _ => (Wk.rm [0, 1] [true, true, true, false] rfl)) (fun _ _ => (tg_name 3)) (fun x348 l347 => (mb_cons (ms_expr (me_append (k := (kT2 kI kI)) (xs := fun _ => l347.2) (x := fun (z : (Int × Int) × List Int) => z.1) (ca := fun (z : (Int × Int) × List Int) => (fun (dr598 : List Int) => (⟨1, [some (.rf 0), some (.im (kI most302)), some (.rf 1), some (.im (kI x348))], [dr598.map kI, l347.2.map (kT2 kI kI)]⟩ : Ct)) z.2) (mv_name 2 rfl) (mx_re (cx := (fun (dr594 : List Int) => (⟨1, [some (.rf 0), some (.im (kI most302)), some (.rf 1), some (.im (kI x348))], [dr594.map kI, l347.2.map (kT2 kI kI)]⟩ : Ct))) (k2 := (kT2 kI kI)) (f := (fun (z592 : (Int × (Int × Unit))) => (z592.1, z592.2.1))) (mx_tup (cx := (fun (dr595 : List Int) => (⟨1, [some (.rf 0), some (.im (kI most302)), some (.rf 1), some (.im (kI x348))], [dr595.map kI, l347.2.map (kT2 kI kI)]⟩ : Ct))) (r := (fun (z592 : (Int × (Int × Unit))) => [kI z592.1, kI z592.2.1])) (max_cons (cx := (fun (dr591 : List Int) => (⟨1, [some (.rf 0), some (.im (kI most302)), some (.rf 1), some (.im (kI x348))], [dr591.map kI, l347.2.map (kT2 kI kI)]⟩ : Ct))) (t1 := fun (z : Int) => .im (kI z)) (m2 := fun z588 ds590 => ((some ((1 : Int), ds590)).bind fun z577 => (((some ((), z577.2)).bind fun z569 => ((some ((12 : Int), z569.2)).bind fun z565 => (some ((), z565.2)).bind fun z566 => some ((z565.1, z566.1), z566.2)).bind fun z570 => some ((z569.1, z570.1), z570.2)).bind fun z573 => F__law_take z573.2 z573.1.2.1).bind fun z578 => (some ((z577.1 + z578.1))).bind fun z580 => some (z580, z578.2)).bind fun z584 => (some ((), z584.2)).bind fun z585 => some ((z584.1, z585.1), z585.2)) (mx_op (cx := (fun (dr522 : List Int) => (⟨1, [some (.rf 0), some (.im (kI most302)), some (.rf 1), some (.im (kI x348))], [dr522.map kI, l347.2.map (kT2 kI kI)]⟩ : Ct))) (t1 := fun (z : Int) => .im (kI z)) (t2 := fun (z : Int) => .im (kI z)) (k := kI) (f := fun z518 z519 => some ((z518 + z519))) op_add (mx_V (cx := (fun (dr500 : List Int) => (⟨1, [some (.rf 0), some (.im (kI most302)), some (.rf 1), some (.im (kI x348))], [dr500.map kI, l347.2.map (kT2 kI kI)]⟩ : Ct))) (ds := l347.1) (k := kI) (v := (1 : Int)) mv_int) (fun z518 ds520 => (mx_callD (F := FF__law_take) (cx := (fun (dr517 : List Int) => (⟨1, [some (.rf 0), some (.im (kI most302)), some (.rf 1), some (.im (kI x348))], [dr517.map kI, l347.2.map (kT2 kI kI)]⟩ : Ct))) (k := kI) (ss := (fun (z515 : (Unit × (Int × Unit))) => [.rf 0, .im (kI z515.2.1)])) (fun (z515 : (Unit × (Int × Unit))) (ds516 : List Int) => (ds516, z515.2.1)) D__law_take (by rfl) (max_cons (cx := (fun (dr513 : List Int) => (⟨1, [some (.rf 0), some (.im (kI most302)), some (.rf 1), some (.im (kI x348))], [dr513.map kI, l347.2.map (kT2 kI kI)]⟩ : Ct))) (t1 := fun (_ : Unit) => .rf 0) (m2 := fun z510 ds512 => (some ((12 : Int), ds512)).bind fun z506 => (some ((), z506.2)).bind fun z507 => some ((z506.1, z507.1), z507.2)) (mx_S (cx := (fun (dr502 : List Int) => (⟨1, [some (.rf 0), some (.im (kI most302)), some (.rf 1), some (.im (kI x348))], [dr502.map kI, l347.2.map (kT2 kI kI)]⟩ : Ct))) (ds := ds520) (s := .rf 0) (mv_name 0 rfl)) (fun z510 ds512 => (max_cons (cx := (fun (dr509 : List Int) => (⟨1, [some (.rf 0), some (.im (kI most302)), some (.rf 1), some (.im (kI x348))], [dr509.map kI, l347.2.map (kT2 kI kI)]⟩ : Ct))) (t1 := fun (z : Int) => .im (kI z)) (m2 := fun z506 ds508 => some ((), ds508)) (mx_V (cx := (fun (dr504 : List Int) => (⟨1, [some (.rf 0), some (.im (kI most302)), some (.rf 1), some (.im (kI x348))], [dr504.map kI, l347.2.map (kT2 kI kI)]⟩ : Ct))) (ds := ds512) (k := kI) (v := (12 : Int)) mv_int) (fun z506 ds508 => (max_nil (cx := (fun (dr505 : List Int) => (⟨1, [some (.rf 0), some (.im (kI most302)), some (.rf 1), some (.im (kI x348))], [dr505.map kI, l347.2.map (kT2 kI kI)]⟩ : Ct)))))))) (hss := (fun _ s hs i e => by subst e; simpa using hs)))) (fun z518 z519 ds520 => o2_add.up)) (fun z588 ds590 => (max_cons (cx := (fun (dr587 : List Int) => (⟨1, [some (.rf 0), some (.im (kI most302)), some (.rf 1), some (.im (kI x348))], [dr587.map kI, l347.2.map (kT2 kI kI)]⟩ : Ct))) (t1 := fun (z : Int) => .im (kI z)) (m2 := fun z584 ds586 => some ((), ds586)) (mx_op (cx := (fun (dr581 : List Int) => (⟨1, [some (.rf 0), some (.im (kI most302)), some (.rf 1), some (.im (kI x348))], [dr581.map kI, l347.2.map (kT2 kI kI)]⟩ : Ct))) (t1 := fun (z : Int) => .im (kI z)) (t2 := fun (z : Int) => .im (kI z)) (k := kI) (f := fun z577 z578 => some ((z577 + z578))) op_add (mx_V (cx := (fun (dr559 : List Int) => (⟨1, [some (.rf 0), some (.im (kI most302)), some (.rf 1), some (.im (kI x348))], [dr559.map kI, l347.2.map (kT2 kI kI)]⟩ : Ct))) (ds := ds590) (k := kI) (v := (1 : Int)) mv_int) (fun z577 ds579 => (mx_callD (F := FF__law_take) (cx := (fun (dr576 : List Int) => (⟨1, [some (.rf 0), some (.im (kI most302)), some (.rf 1), some (.im (kI x348))], [dr576.map kI, l347.2.map (kT2 kI kI)]⟩ : Ct))) (k := kI) (ss := (fun (z574 : (Unit × (Int × Unit))) => [.rf 0, .im (kI z574.2.1)])) (fun (z574 : (Unit × (Int × Unit))) (ds575 : List Int) => (ds575, z574.2.1)) D__law_take (by rfl) (max_cons (cx := (fun (dr572 : List Int) => (⟨1, [some (.rf 0), some (.im (kI most302)), some (.rf 1), some (.im (kI x348))], [dr572.map kI, l347.2.map (kT2 kI kI)]⟩ : Ct))) (t1 := fun (_ : Unit) => .rf 0) (m2 := fun z569 ds571 => (some ((12 : Int), ds571)).bind fun z565 => (some ((), z565.2)).bind fun z566 => some ((z565.1, z566.1), z566.2)) (mx_S (cx := (fun (dr561 : List Int) => (⟨1, [some (.rf 0), some (.im (kI most302)), some (.rf 1), some (.im (kI x348))], [dr561.map kI, l347.2.map (kT2 kI kI)]⟩ : Ct))) (ds := ds579) (s := .rf 0) (mv_name 0 rfl)) (fun z569 ds571 => (max_cons (cx := (fun (dr568 : List Int) => (⟨1, [some (.rf 0), some (.im (kI most302)), some (.rf 1), some (.im (kI x348))], [dr568.map kI, l347.2.map (kT2 kI kI)]⟩ : Ct))) (t1 := fun (z : Int) => .im (kI z)) (m2 := fun z565 ds567 => some ((), ds567)) (mx_V (cx := (fun (dr563 : List Int) => (⟨1, [some (.rf 0), some (.im (kI most302)), some (.rf 1), some (.im (kI x348))], [dr563.map kI, l347.2.map (kT2 kI kI)]⟩ : Ct))) (ds := ds571) (k := kI) (v := (12 : Int)) mv_int) (fun z565 ds567 => (max_nil (cx := (fun (dr564 : List Int) => (⟨1, [some (.rf 0), some (.im (kI most302)), some (.rf 1), some (.im (kI x348))], [dr564.map kI, l347.2.map (kT2 kI kI)]⟩ : Ct)))))))) (hss := (fun _ s hs i e => by subst e; simpa using hs)))) (fun z577 z578 ds579 => o2_add.up)) (fun z584 ds586 => (max_nil (cx := (fun (dr583 : List Int) => (⟨1, [some (.rf 0), some (.im (kI most302)), some (.rf 1), some (.im (kI x348))], [dr583.map kI, l347.2.map (kT2 kI kI)]⟩ : Ct)))))))))) rfl (fun _ => rfl))) (fun z596 => (mb_one (ms_ifP (mtp_cmpPV (k1 := kI) (f := fun z599 => decide (most302 < z599)) op_gt (mp_callT (F := FF__law_turns_L) (k := kI) (ss := [.rf 1]) (l347.2 ++ [z596.1]) D__law_turns_L (by rfl) (mav_cons (s1 := .rf 1) (mv_name 2 rfl) ma_nil) (fun _ => trivial)) (mv_name 1 rfl) (fun z599 => (o2_b rfl))) (mb_cons (ms_expr (me_pop (k := (kT2 kI kI)) (xs := (l347.2 ++ [z596.1])) (mv_name 2 rfl) rfl)) (fun z603 => (mb_end (w := (z596.2, z603.2)) (c' := (⟨1, [some (.rf 0), some (.im (kI most302)), some (.rf 1), none], [z596.2.map kI, z603.2.map (kT2 kI kI)]⟩ : Ct)) (Wk.rm [0, 1] [true, true, true, false] rfl) rfl))) (mb_end (w := (z596.2, (l347.2 ++ [z596.1]))) (c' := (⟨1, [some (.rf 0), some (.im (kI most302)), some (.rf 1), none], [z596.2.map kI, ((l347.2 ++ [z596.1])).map (kT2 kI kI)]⟩ : Ct)) (Wk.rm [0, 1] [true, true, true, false] rfl) rfl))))))) (fun l605 => (mb_one (ms_retV (w := (l605.2, l605.1)) (mv_as (s' := .im ((kU (kT2 kI kI)) l605.2)) (mv_callST call_tuple_of (by rfl) T.n_tuple bt_tuple (mv_name 2 rfl) (oa_tup (.rf rfl)))) rfl)))))
def F__law_axles (draws606 : List Int) (pairs607 : (List (Int × Int))) : Option (Bool × List Int) :=
  (F__law_ratios pairs607).bind fun (ratios608 : (List (Int × Int))) => (((((some ())).bind fun z622 => mapO (fun x619 => some (((0 : Int), x619.2))) ratios608).bind fun z624 => catM [((0 : Int), (1 : Int))] z624).bind fun z625 => some z625).bind fun (services626 : (List (Int × Int))) => (F_turns_until pairs607).bind fun (turns627 : Int) => (((((F__law_turns pairs607).bind fun p628 => some (kI p628)).bind fun z629 => F__law_same (kI turns627) z629).bind fun z630 => some (!z630)).bind fun z634 => if z634 = true then some true else ((((F_round_of services626).bind fun p631 => some (kI p631)).bind fun z632 => F__law_same z632 (kI turns627)).bind fun z633 => some (!z633))).bind fun z636 => if z636 = true then (some ((false, draws606))) else (((((((some ((), draws606)).bind fun z715 => ((some ((turns627 + (1 : Int)), z715.2)).bind fun z711 => (some ((), z711.2)).bind fun z712 => some ((z711.1, z712.1), z712.2)).bind fun z716 => some ((z715.1, z716.1), z716.2)).bind fun z719 => F__law_take z719.2 z719.1.2.1).bind fun z765 => ((some (turns627, z765.2)).bind fun z761 => ((some (((2 : Int) * turns627), z761.2)).bind fun z757 => ((some ((max (0 : Int) (turns627 - (1 : Int))), z757.2)).bind fun z753 => ((((some ((), z753.2)).bind fun z739 => ((some ((50 : Int), z739.2)).bind fun z735 => (some ((), z735.2)).bind fun z736 => some ((z735.1, z736.1), z736.2)).bind fun z740 => some ((z739.1, z740.1), z740.2)).bind fun z743 => F__law_take z743.2 z743.1.2.1).bind fun z749 => (some ((), z749.2)).bind fun z750 => some ((z749.1, z750.1), z750.2)).bind fun z754 => some ((z753.1, z754.1), z754.2)).bind fun z758 => some ((z757.1, z758.1), z758.2)).bind fun z762 => some ((z761.1, z762.1), z762.2)).bind fun z766 => some ((z765.1, z766.1), z766.2)).bind fun z770 => some ((fun (z769 : (Int × (Int × (Int × (Int × (Int × Unit)))))) => [z769.1, z769.2.1, z769.2.2.1, z769.2.2.2.1, z769.2.2.2.2.1]) z770.1, z770.2)).bind fun z823 => forR (R := (Bool × List Int)) (fun (x775 : Int) (l774 : (List Int)) => ((rngM 0 (ratios608.length : Int)).bind fun z814 => forR (R := (Bool × List Int)) (fun (x777 : Int) (l776 : Int) => ((F_ratio_of (cutL pairs607 none (some (x777 + (1 : Int))))).bind fun z778 => F_times_of (x775, (1 : Int)) z778).bind fun (made779 : (Int × Int)) => ((((((((atI ratios608 x777).bind fun z781 => some (z781.1)).bind fun z782 => mulM x775 z782).bind fun z784 => ((atI ratios608 x777).bind fun z783 => some (z783.2)).bind fun z785 => some (z784, z785)).bind fun z786 => F__law_lowest z786.1 z786.2).bind fun p787 => some ((kT2 kI kI) p787)).bind fun z788 => F__law_same ((kT2 kI kI) made779) z788).bind fun z789 => some (!z789)).bind fun z791 => if z791 = true then (some (Fl.rt ((false, l774)))) else (((((((atI ratios608 x777).bind fun z797 => some (z797.1)).bind fun z798 => mulM x775 z798).bind fun z799 => some (z799)).bind fun z802 => ((atI ratios608 x777).bind fun z801 => some (z801.2)).bind fun z803 => modM z802 z803).bind fun z804 => some (decide (z804 = (0 : Int)))).bind fun (home805 : Bool) => (((((atI services626 (x777 + (1 : Int))).bind fun z806 => F_departs_at z806 x775).bind fun p807 => some (kB p807)).bind fun z808 => F__law_same z808 (kB home805)).bind fun z809 => some (!z809)).bind fun z811 => if z811 = true then (some (Fl.rt ((false, l774)))) else ((some ((l776 + (if home805 = true then 1 else 0 : Int)))).bind fun (whole813 : Int) => some (Fl.nx whole813)))) z814 (0 : Int)).bind (Fl.elim (fun (l815 : Int) => (((modM x775 turns627).bind fun z817 => some (decide (z817 = (0 : Int)))).bind fun z818 => some (!(decide (l815 = (ratios608.length : Int)) == z818))).bind fun z820 => if z820 = true then (some (Fl.rt ((false, l774)))) else (some (Fl.nx l774))) (fun r822 => some (Fl.rt (r822))))) z823.1 z823.2).bind (Fl.elim (fun (l824 : (List Int)) => ((rngM 0 (ratios608.length : Int)).bind fun z839 => forR (R := (Bool × List Int)) (fun (x826 : Int) (l825 : Unit) => (((((F_departures_in (cutL services626 (some (x826 + (1 : Int))) (some (x826 + (2 : Int)))) (0 : Int) turns627).bind fun p827 => some (kI p827)).bind fun z832 => ((((atI ratios608 x826).bind fun z829 => some (z829.2)).bind fun z830 => fdivM turns627 z830).bind fun p831 => some (kI p831)).bind fun z833 => some (z832, z833)).bind fun z834 => F__law_same z834.1 z834.2).bind fun z835 => some (!z835)).bind fun z837 => if z837 = true then (some (Fl.rt ((false, l824)))) else (some (Fl.nx ()))) z839 ()).bind (Fl.elim (fun (l840 : Unit) => some ((true, l824))) (fun r841 => some (r841)))) (fun r842 => some (r842))))
abbrev s__law_axles : Stmt := topS 29
theorem sc__law_axles : FnScope ["draws", "pairs", "ratios", "services", "turns", "asked", "k", "whole", "made", "home", "ratio"] ["draws", "pairs"] (defScope s__law_axles) := ⟨rfl, rfl, rfl, by decide +kernel, rfl, by decide +kernel, by decide +kernel⟩
abbrev ca__law_axles := (fun (b : (List Int × (List (Int × Int)))) => (⟨1, [some (.rf 0), some (.im ((kU (kT2 kI kI)) b.2))], [b.1.map kI]⟩ : Ct))
abbrev FF__law_axles := (fun (b : (List Int × (List (Int × Int)))) => F__law_axles b.1 b.2)
abbrev rs__law_axles : (Bool × List Int) → Sl := (fun (g : (Bool × List Int)) => .im (kB g.1))
abbrev cr__law_axles : (Bool × List Int) → Ct := (fun (g : (Bool × List Int)) => (⟨1, [], [g.2.map kI]⟩ : Ct))
abbrev ps__law_axles : List Str := ["draws", "pairs"]
set_option maxHeartbeats 4000000 in
theorem ok__law_axles {P : Program} {w : World} {K : PySem.W.Frag} {mg : Str → Option Value} {base : Heap} {f : Addr} {fd : FuncData} (FU : Fun K "_law_axles" "_law_axles" s__law_axles f fd) (T : Fa mg) {f__law_ratios : Addr} {fd__law_ratios : FuncData} (C__law_ratios : Own P w K mg base 3 "_law_ratios" f__law_ratios fd__law_ratios ps__law_ratios ca__law_ratios FF__law_ratios rs__law_ratios cr__law_ratios) {f_turns_until : Addr} {fd_turns_until : FuncData} (C_turns_until : Own P w K mg base 4 "turns_until" f_turns_until fd_turns_until ps_turns_until ca_turns_until FF_turns_until rs_turns_until cr_turns_until) {f__law_same : Addr} {fd__law_same : FuncData} (C__law_same : Own P w K mg base 4 "_law_same" f__law_same fd__law_same ps__law_same ca__law_same FF__law_same rs__law_same cr__law_same) {f__law_turns : Addr} {fd__law_turns : FuncData} (C__law_turns : Own P w K mg base 4 "_law_turns" f__law_turns fd__law_turns ps__law_turns ca__law_turns FF__law_turns rs__law_turns cr__law_turns) {f_round_of : Addr} {fd_round_of : FuncData} (C_round_of : Own P w K mg base 1 "round_of" f_round_of fd_round_of ps_round_of ca_round_of FF_round_of rs_round_of cr_round_of) {f__law_take : Addr} {fd__law_take : FuncData} (C__law_take : Own P w K mg base 1 "_law_take" f__law_take fd__law_take ps__law_take ca__law_take FF__law_take rs__law_take cr__law_take) {f_times_of : Addr} {fd_times_of : FuncData} (C_times_of : Own P w K mg base 2 "times_of" f_times_of fd_times_of ps_times_of ca_times_of FF_times_of rs_times_of cr_times_of) {f_ratio_of : Addr} {fd_ratio_of : FuncData} (C_ratio_of : Own P w K mg base 3 "ratio_of" f_ratio_of fd_ratio_of ps_ratio_of ca_ratio_of FF_ratio_of rs_ratio_of cr_ratio_of) {f__law_lowest : Addr} {fd__law_lowest : FuncData} (C__law_lowest : Own P w K mg base 2 "_law_lowest" f__law_lowest fd__law_lowest ps__law_lowest ca__law_lowest FF__law_lowest rs__law_lowest cr__law_lowest) {f_departs_at : Addr} {fd_departs_at : FuncData} (C_departs_at : Own P w K mg base 1 "departs_at" f_departs_at fd_departs_at ps_departs_at ca_departs_at FF_departs_at rs_departs_at cr_departs_at) {f_departures_in : Addr} {fd_departures_in : FuncData} (C_departures_in : Own P w K mg base 2 "departures_in" f_departures_in fd_departures_in ps_departures_in ca_departures_in FF_departures_in rs_departures_in cr_departures_in) :
    FnOk P w K mg base CX0 5 f fd ps__law_axles (PrF K ca__law_axles FF__law_axles rs__law_axles cr__law_axles) := by
  have sc := sc__law_axles
  refine fn_ok FU sc__law_axles (fun _ => rfl) (fun cdv A outer s H E B b hr => ?_)
  obtain ⟨draws606, pairs607⟩ := b
  have D__law_ratios : Df P w K mg base (A.deeper (envOfC "_law_axles" (defScope s__law_axles) s.heap.objs.size f cdv)) 3 "_law_ratios" f__law_ratios fd__law_ratios ps__law_ratios ca__law_ratios FF__law_ratios rs__law_ratios cr__law_ratios := ⟨C__law_ratios.G, hr.mono (by decide), C__law_ratios.hm, C__law_ratios.hk, C__law_ratios.hb⟩
  have D_turns_until : Df P w K mg base (A.deeper (envOfC "_law_axles" (defScope s__law_axles) s.heap.objs.size f cdv)) 4 "turns_until" f_turns_until fd_turns_until ps_turns_until ca_turns_until FF_turns_until rs_turns_until cr_turns_until := ⟨C_turns_until.G, hr.mono (by decide), C_turns_until.hm, C_turns_until.hk, C_turns_until.hb⟩
  have D__law_same : Df P w K mg base (A.deeper (envOfC "_law_axles" (defScope s__law_axles) s.heap.objs.size f cdv)) 4 "_law_same" f__law_same fd__law_same ps__law_same ca__law_same FF__law_same rs__law_same cr__law_same := ⟨C__law_same.G, hr.mono (by decide), C__law_same.hm, C__law_same.hk, C__law_same.hb⟩
  have D__law_turns : Df P w K mg base (A.deeper (envOfC "_law_axles" (defScope s__law_axles) s.heap.objs.size f cdv)) 4 "_law_turns" f__law_turns fd__law_turns ps__law_turns ca__law_turns FF__law_turns rs__law_turns cr__law_turns := ⟨C__law_turns.G, hr.mono (by decide), C__law_turns.hm, C__law_turns.hk, C__law_turns.hb⟩
  have D_round_of : Df P w K mg base (A.deeper (envOfC "_law_axles" (defScope s__law_axles) s.heap.objs.size f cdv)) 1 "round_of" f_round_of fd_round_of ps_round_of ca_round_of FF_round_of rs_round_of cr_round_of := ⟨C_round_of.G, hr.mono (by decide), C_round_of.hm, C_round_of.hk, C_round_of.hb⟩
  have D__law_take : Df P w K mg base (A.deeper (envOfC "_law_axles" (defScope s__law_axles) s.heap.objs.size f cdv)) 1 "_law_take" f__law_take fd__law_take ps__law_take ca__law_take FF__law_take rs__law_take cr__law_take := ⟨C__law_take.G, hr.mono (by decide), C__law_take.hm, C__law_take.hk, C__law_take.hb⟩
  have D_times_of : Df P w K mg base (A.deeper (envOfC "_law_axles" (defScope s__law_axles) s.heap.objs.size f cdv)) 2 "times_of" f_times_of fd_times_of ps_times_of ca_times_of FF_times_of rs_times_of cr_times_of := ⟨C_times_of.G, hr.mono (by decide), C_times_of.hm, C_times_of.hk, C_times_of.hb⟩
  have D_ratio_of : Df P w K mg base (A.deeper (envOfC "_law_axles" (defScope s__law_axles) s.heap.objs.size f cdv)) 3 "ratio_of" f_ratio_of fd_ratio_of ps_ratio_of ca_ratio_of FF_ratio_of rs_ratio_of cr_ratio_of := ⟨C_ratio_of.G, hr.mono (by decide), C_ratio_of.hm, C_ratio_of.hk, C_ratio_of.hb⟩
  have D__law_lowest : Df P w K mg base (A.deeper (envOfC "_law_axles" (defScope s__law_axles) s.heap.objs.size f cdv)) 2 "_law_lowest" f__law_lowest fd__law_lowest ps__law_lowest ca__law_lowest FF__law_lowest rs__law_lowest cr__law_lowest := ⟨C__law_lowest.G, hr.mono (by decide), C__law_lowest.hm, C__law_lowest.hk, C__law_lowest.hb⟩
  have D_departs_at : Df P w K mg base (A.deeper (envOfC "_law_axles" (defScope s__law_axles) s.heap.objs.size f cdv)) 1 "departs_at" f_departs_at fd_departs_at ps_departs_at ca_departs_at FF_departs_at rs_departs_at cr_departs_at := ⟨C_departs_at.G, hr.mono (by decide), C_departs_at.hm, C_departs_at.hk, C_departs_at.hb⟩
  have D_departures_in : Df P w K mg base (A.deeper (envOfC "_law_axles" (defScope s__law_axles) s.heap.objs.size f cdv)) 2 "departures_in" f_departures_in fd_departures_in ps_departures_in ca_departures_in FF_departures_in rs_departures_in cr_departures_in := ⟨C_departures_in.G, hr.mono (by decide), C_departures_in.hm, C_departures_in.hk, C_departures_in.hb⟩
  show MB _ B (⟨1, [some (.rf 0), some (.im ((kU (kT2 kI kI)) pairs607)), none, none, none, none, none, none, none, none, none], [draws606.map kI]⟩ : Ct) _ (F__law_axles draws606 pairs607) _
  unfold F__law_axles
  exact (mb_cons (ms_set 2 sc.nd (mp_callL (F := FF__law_ratios) (L := fun g => g.map (kT2 kI kI)) pairs607 D__law_ratios (by rfl) (mai_cons (d := (kU (kT2 kI kI)) pairs607) (mv_name 1 rfl) mai_nil))) (fun ratios608 => (mb_cons (ms_set 3 sc.nd (mp_callTy (k := (kU (kT2 kI kI))) (f := fun z625 => some z625) call_tuple_of (by rfl) T.n_tuple bt_tuple (map_consP (k1 := (kL (kT2 kI kI))) (mp_opVP (k2 := (kL (kT2 kI kI))) (k := (kL (kT2 kI kI))) (f := fun z624 => catM [((0 : Int), (1 : Int))] z624) op_catL (mv_as (s' := .im ((kL (kT2 kI kI)) [((0 : Int), (1 : Int))])) (mv_lst (mai_cons (d := (kT2 kI kI) ((0 : Int), (1 : Int))) (mv_as (s' := .im ((kT2 kI kI) ((0 : Int), (1 : Int)))) (mv_tup (mai_cons (d := kI (0 : Int)) mv_int (mai_cons (d := kI (1 : Int)) mv_int mai_nil)))) mai_nil))) (me_lc (own := [("ratio", 10)]) (k0 := (kT2 kI kI)) (k := (kT2 kI kI)) (is := [10]) (cT := (fun (ys620 : List (Int × Int)) (x619 : (Int × Int)) => (⟨1, [some (.rf 0), some (.im ((kU (kT2 kI kI)) pairs607)), some (.im ((kL (kT2 kI kI)) ratios608)), none, none, none, none, none, none, none, some (.im ((kT2 kI kI) x619))], [draws606.map kI, ys620.map (kT2 kI kI)]⟩ : Ct))) (me := fun x619 => some (((0 : Int), x619.2))) (c' := fun _ => (⟨1, [some (.rf 0), some (.im ((kU (kT2 kI kI)) pairs607)), some (.im ((kL (kT2 kI kI)) ratios608)), none, none, none, none, none, none, none, none], [draws606.map kI]⟩ : Ct)) (r' := fun z623 => .im (kL (kT2 kI kI) z623)) rfl sc.nd (mi_lV (k := (kT2 kI kI)) (xs := ratios608) (mv_name 2 rfl)) (blkOk_by (own := [("ratio", 10)]) (N := ["draws", "pairs", "ratios", "services", "turns", "asked", "k", "whole", "made", "home", "ratio"]) (sc := defScope s__law_axles) (by decide +kernel)) (fun _ _ _ _ _ => (pg_name (i := 10) sc.nd rfl (by first | exact Or.inl rfl | exact Or.inr rfl))) (fun _ _ => (tw_name 10)) (fun ys620 x619 => (fun _ _ _ _ _ => (mp (k := (kT2 kI kI)) (x := ((0 : Int), x619.2)) (mv_as (s' := .im ((kT2 kI kI) ((0 : Int), x619.2))) (mv_tup (mai_cons (d := kI (0 : Int)) mv_int (mai_cons (d := kI x619.2) (mv_ix ix_lt (mv_name 10 rfl) mv_int (o2_ixD .tup rfl)) mai_nil))))))) (fun _ => .im)) (fun z624 => (o2_catL (k := (kT2 kI kI)) (.im) (.im)))) mai_nil) (fun _ => (oa_tup .im).up))) (fun services626 => (mb_cons (ms_set 4 sc.nd (mp_call (F := FF_turns_until) (k := kI) pairs607 D_turns_until (by rfl) (mai_cons (d := (kU (kT2 kI kI)) pairs607) (mv_name 1 rfl) mai_nil))) (fun turns627 => (mb_ixP (PW.pt (mwp_or (mtp_not (mt_val (b := fun b => b) (mp_callP (F := FF__law_same) (k := kB) (fun (z629 : D) => ((kI turns627), z629)) D__law_same (by rfl) (map_consV (d := kD (kI turns627)) (mv_as (s' := .im (kD (kI turns627))) (mv_name 4 rfl)) (map_consP (k1 := kD) (mp_re (k1 := kI) (k2 := kD) (f := kI) (mp_call (F := FF__law_turns) (k := kI) pairs607 D__law_turns (by rfl) (mai_cons (d := (kU (kT2 kI kI)) pairs607) (mv_name 1 rfl) mai_nil))) mai_nil))))) (mw_or1 (mtp_not (mt_val (b := fun b => b) (mp_callP (F := FF__law_same) (k := kB) (fun (z632 : D) => (z632, (kI turns627))) D__law_same (by rfl) (map_consP (k1 := kD) (mp_re (k1 := kI) (k2 := kD) (f := kI) (mp_call (F := FF_round_of) (k := kI) services626 D_round_of (by rfl) (mai_cons (d := (kU (kT2 kI kI)) services626) (mv_name 3 rfl) mai_nil))) (mai_cons (d := kD (kI turns627)) (mv_as (s' := .im (kD (kI turns627))) (mv_name 4 rfl)) mai_nil)))))))) (mb_one (ms_retV (w := (false, draws606)) mv_bl rfl)) (by repeat' (first | exact out_rt | exact out_some (by intro _ h; cases h) | refine out_elim (fun _ => ?_) (fun _ => ?_) | refine out_bind (fun _ => ?_) | refine out_ite ?_ ?_)) (mb_loop (j := fun r842 => r842) (ms_for (R := (Bool × List Int)) (sr := rs__law_axles) (cr := cr__law_axles) (xs := fun (z823 : List Int × List Int) => z823.1) (k := kI) (ca := fun (z823 : List Int × List Int) => (⟨1, [some (.rf 0), some (.im ((kU (kT2 kI kI)) pairs607)), some (.im ((kL (kT2 kI kI)) ratios608)), some (.im ((kU (kT2 kI kI)) services626)), some (.im (kI turns627)), none, none, none, none, none, none], [z823.2.map kI]⟩ : Ct)) (cL := (fun (l774 : (List Int)) => (⟨1, [some (.rf 0), some (.im ((kU (kT2 kI kI)) pairs607)), some (.im ((kL (kT2 kI kI)) ratios608)), some (.im ((kU (kT2 kI kI)) services626)), some (.im (kI turns627)), none, none, none, none, none, none], [l774.map kI]⟩ : Ct))) (l0 := fun (z823 : List Int × List Int) => z823.2) (cT := (fun (x775 : Int) (l774 : (List Int)) => (⟨1, [some (.rf 0), some (.im ((kU (kT2 kI kI)) pairs607)), some (.im ((kL (kT2 kI kI)) ratios608)), some (.im ((kU (kT2 kI kI)) services626)), some (.im (kI turns627)), some (.im (kI x775)), none, none, none, none, none], [l774.map kI]⟩ : Ct))) (fB := (fun (x775 : Int) (l774 : (List Int)) => ((rngM 0 (ratios608.length : Int)).bind fun z814 => forR (R := (Bool × List Int)) (fun (x777 : Int) (l776 : Int) => ((F_ratio_of (cutL pairs607 none (some (x777 + (1 : Int))))).bind fun z778 => F_times_of (x775, (1 : Int)) z778).bind fun (made779 : (Int × Int)) => ((((((((atI ratios608 x777).bind fun z781 => some (z781.1)).bind fun z782 => mulM x775 z782).bind fun z784 => ((atI ratios608 x777).bind fun z783 => some (z783.2)).bind fun z785 => some (z784, z785)).bind fun z786 => F__law_lowest z786.1 z786.2).bind fun p787 => some ((kT2 kI kI) p787)).bind fun z788 => F__law_same ((kT2 kI kI) made779) z788).bind fun z789 => some (!z789)).bind fun z791 => if z791 = true then (some (Fl.rt ((false, l774)))) else (((((((atI ratios608 x777).bind fun z797 => some (z797.1)).bind fun z798 => mulM x775 z798).bind fun z799 => some (z799)).bind fun z802 => ((atI ratios608 x777).bind fun z801 => some (z801.2)).bind fun z803 => modM z802 z803).bind fun z804 => some (decide (z804 = (0 : Int)))).bind fun (home805 : Bool) => (((((atI services626 (x777 + (1 : Int))).bind fun z806 => F_departs_at z806 x775).bind fun p807 => some (kB p807)).bind fun z808 => F__law_same z808 (kB home805)).bind fun z809 => some (!z809)).bind fun z811 => if z811 = true then (some (Fl.rt ((false, l774)))) else ((some ((l776 + (if home805 = true then 1 else 0 : Int)))).bind fun (whole813 : Int) => some (Fl.nx whole813)))) z814 (0 : Int)).bind (Fl.elim (fun (l815 : Int) => (((modM x775 turns627).bind fun z817 => some (decide (z817 = (0 : Int)))).bind fun z818 => some (!(decide (l815 = (ratios608.length : Int)) == z818))).bind fun z820 => if z820 = true then (some (Fl.rt ((false, l774)))) else (some (Fl.nx l774))) (fun r822 => some (Fl.rt (r822)))))) PassesOwn.never rfl (mi_lX (cx := (fun (dr773 : List Int) => (⟨1, [some (.rf 0), some (.im ((kU (kT2 kI kI)) pairs607)), some (.im ((kL (kT2 kI kI)) ratios608)), some (.im ((kU (kT2 kI kI)) services626)), some (.im (kI turns627)), none, none, none, none, none, none], [dr773.map kI]⟩ : Ct))) (k := kI) (mx_re (cx := (fun (dr771 : List Int) => (⟨1, [some (.rf 0), some (.im ((kU (kT2 kI kI)) pairs607)), some (.im ((kL (kT2 kI kI)) ratios608)), some (.im ((kU (kT2 kI kI)) services626)), some (.im (kI turns627)), none, none, none, none, none, none], [dr771.map kI]⟩ : Ct))) (k2 := (kL kI)) (f := (fun (z769 : (Int × (Int × (Int × (Int × (Int × Unit)))))) => [z769.1, z769.2.1, z769.2.2.1, z769.2.2.2.1, z769.2.2.2.2.1])) (mx_lst (cx := (fun (dr772 : List Int) => (⟨1, [some (.rf 0), some (.im ((kU (kT2 kI kI)) pairs607)), some (.im ((kL (kT2 kI kI)) ratios608)), some (.im ((kU (kT2 kI kI)) services626)), some (.im (kI turns627)), none, none, none, none, none, none], [dr772.map kI]⟩ : Ct))) (r := (fun (z769 : (Int × (Int × (Int × (Int × (Int × Unit)))))) => [kI z769.1, kI z769.2.1, kI z769.2.2.1, kI z769.2.2.2.1, kI z769.2.2.2.2.1])) (max_cons (cx := (fun (dr768 : List Int) => (⟨1, [some (.rf 0), some (.im ((kU (kT2 kI kI)) pairs607)), some (.im ((kL (kT2 kI kI)) ratios608)), some (.im ((kU (kT2 kI kI)) services626)), some (.im (kI turns627)), none, none, none, none, none, none], [dr768.map kI]⟩ : Ct))) (t1 := fun (z : Int) => .im (kI z)) (m2 := fun z765 ds767 => (some (turns627, ds767)).bind fun z761 => ((some (((2 : Int) * turns627), z761.2)).bind fun z757 => ((some ((max (0 : Int) (turns627 - (1 : Int))), z757.2)).bind fun z753 => ((((some ((), z753.2)).bind fun z739 => ((some ((50 : Int), z739.2)).bind fun z735 => (some ((), z735.2)).bind fun z736 => some ((z735.1, z736.1), z736.2)).bind fun z740 => some ((z739.1, z740.1), z740.2)).bind fun z743 => F__law_take z743.2 z743.1.2.1).bind fun z749 => (some ((), z749.2)).bind fun z750 => some ((z749.1, z750.1), z750.2)).bind fun z754 => some ((z753.1, z754.1), z754.2)).bind fun z758 => some ((z757.1, z758.1), z758.2)).bind fun z762 => some ((z761.1, z762.1), z762.2)) (mx_callD (F := FF__law_take) (cx := (fun (dr722 : List Int) => (⟨1, [some (.rf 0), some (.im ((kU (kT2 kI kI)) pairs607)), some (.im ((kL (kT2 kI kI)) ratios608)), some (.im ((kU (kT2 kI kI)) services626)), some (.im (kI turns627)), none, none, none, none, none, none], [dr722.map kI]⟩ : Ct))) (k := kI) (ss := (fun (z720 : (Unit × (Int × Unit))) => [.rf 0, .im (kI z720.2.1)])) (fun (z720 : (Unit × (Int × Unit))) (ds721 : List Int) => (ds721, z720.2.1)) D__law_take (by rfl) (max_cons (cx := (fun (dr718 : List Int) => (⟨1, [some (.rf 0), some (.im ((kU (kT2 kI kI)) pairs607)), some (.im ((kL (kT2 kI kI)) ratios608)), some (.im ((kU (kT2 kI kI)) services626)), some (.im (kI turns627)), none, none, none, none, none, none], [dr718.map kI]⟩ : Ct))) (t1 := fun (_ : Unit) => .rf 0) (m2 := fun z715 ds717 => (some ((turns627 + (1 : Int)), ds717)).bind fun z711 => (some ((), z711.2)).bind fun z712 => some ((z711.1, z712.1), z712.2)) (mx_S (cx := (fun (dr707 : List Int) => (⟨1, [some (.rf 0), some (.im ((kU (kT2 kI kI)) pairs607)), some (.im ((kL (kT2 kI kI)) ratios608)), some (.im ((kU (kT2 kI kI)) services626)), some (.im (kI turns627)), none, none, none, none, none, none], [dr707.map kI]⟩ : Ct))) (ds := draws606) (s := .rf 0) (mv_name 0 rfl)) (fun z715 ds717 => (max_cons (cx := (fun (dr714 : List Int) => (⟨1, [some (.rf 0), some (.im ((kU (kT2 kI kI)) pairs607)), some (.im ((kL (kT2 kI kI)) ratios608)), some (.im ((kU (kT2 kI kI)) services626)), some (.im (kI turns627)), none, none, none, none, none, none], [dr714.map kI]⟩ : Ct))) (t1 := fun (z : Int) => .im (kI z)) (m2 := fun z711 ds713 => some ((), ds713)) (mx_V (cx := (fun (dr709 : List Int) => (⟨1, [some (.rf 0), some (.im ((kU (kT2 kI kI)) pairs607)), some (.im ((kL (kT2 kI kI)) ratios608)), some (.im ((kU (kT2 kI kI)) services626)), some (.im (kI turns627)), none, none, none, none, none, none], [dr709.map kI]⟩ : Ct))) (ds := ds717) (k := kI) (v := (turns627 + (1 : Int))) (mv_op op_add (mv_name 4 rfl) mv_int o2_add)) (fun z711 ds713 => (max_nil (cx := (fun (dr710 : List Int) => (⟨1, [some (.rf 0), some (.im ((kU (kT2 kI kI)) pairs607)), some (.im ((kL (kT2 kI kI)) ratios608)), some (.im ((kU (kT2 kI kI)) services626)), some (.im (kI turns627)), none, none, none, none, none, none], [dr710.map kI]⟩ : Ct)))))))) (hss := (fun _ s hs i e => by subst e; simpa using hs))) (fun z765 ds767 => (max_cons (cx := (fun (dr764 : List Int) => (⟨1, [some (.rf 0), some (.im ((kU (kT2 kI kI)) pairs607)), some (.im ((kL (kT2 kI kI)) ratios608)), some (.im ((kU (kT2 kI kI)) services626)), some (.im (kI turns627)), none, none, none, none, none, none], [dr764.map kI]⟩ : Ct))) (t1 := fun (z : Int) => .im (kI z)) (m2 := fun z761 ds763 => (some (((2 : Int) * turns627), ds763)).bind fun z757 => ((some ((max (0 : Int) (turns627 - (1 : Int))), z757.2)).bind fun z753 => ((((some ((), z753.2)).bind fun z739 => ((some ((50 : Int), z739.2)).bind fun z735 => (some ((), z735.2)).bind fun z736 => some ((z735.1, z736.1), z736.2)).bind fun z740 => some ((z739.1, z740.1), z740.2)).bind fun z743 => F__law_take z743.2 z743.1.2.1).bind fun z749 => (some ((), z749.2)).bind fun z750 => some ((z749.1, z750.1), z750.2)).bind fun z754 => some ((z753.1, z754.1), z754.2)).bind fun z758 => some ((z757.1, z758.1), z758.2)) (mx_V (cx := (fun (dr724 : List Int) => (⟨1, [some (.rf 0), some (.im ((kU (kT2 kI kI)) pairs607)), some (.im ((kL (kT2 kI kI)) ratios608)), some (.im ((kU (kT2 kI kI)) services626)), some (.im (kI turns627)), none, none, none, none, none, none], [dr724.map kI]⟩ : Ct))) (ds := ds767) (k := kI) (v := turns627) (mv_name 4 rfl)) (fun z761 ds763 => (max_cons (cx := (fun (dr760 : List Int) => (⟨1, [some (.rf 0), some (.im ((kU (kT2 kI kI)) pairs607)), some (.im ((kL (kT2 kI kI)) ratios608)), some (.im ((kU (kT2 kI kI)) services626)), some (.im (kI turns627)), none, none, none, none, none, none], [dr760.map kI]⟩ : Ct))) (t1 := fun (z : Int) => .im (kI z)) (m2 := fun z757 ds759 => (some ((max (0 : Int) (turns627 - (1 : Int))), ds759)).bind fun z753 => ((((some ((), z753.2)).bind fun z739 => ((some ((50 : Int), z739.2)).bind fun z735 => (some ((), z735.2)).bind fun z736 => some ((z735.1, z736.1), z736.2)).bind fun z740 => some ((z739.1, z740.1), z740.2)).bind fun z743 => F__law_take z743.2 z743.1.2.1).bind fun z749 => (some ((), z749.2)).bind fun z750 => some ((z749.1, z750.1), z750.2)).bind fun z754 => some ((z753.1, z754.1), z754.2)) (mx_V (cx := (fun (dr726 : List Int) => (⟨1, [some (.rf 0), some (.im ((kU (kT2 kI kI)) pairs607)), some (.im ((kL (kT2 kI kI)) ratios608)), some (.im ((kU (kT2 kI kI)) services626)), some (.im (kI turns627)), none, none, none, none, none, none], [dr726.map kI]⟩ : Ct))) (ds := ds763) (k := kI) (v := ((2 : Int) * turns627)) (mv_op op_mul mv_int (mv_name 4 rfl) (o2_c (C := CMul) (.inl ⟨by decide, by decide⟩) rfl))) (fun z757 ds759 => (max_cons (cx := (fun (dr756 : List Int) => (⟨1, [some (.rf 0), some (.im ((kU (kT2 kI kI)) pairs607)), some (.im ((kL (kT2 kI kI)) ratios608)), some (.im ((kU (kT2 kI kI)) services626)), some (.im (kI turns627)), none, none, none, none, none, none], [dr756.map kI]⟩ : Ct))) (t1 := fun (z : Int) => .im (kI z)) (m2 := fun z753 ds755 => (((some ((), ds755)).bind fun z739 => ((some ((50 : Int), z739.2)).bind fun z735 => (some ((), z735.2)).bind fun z736 => some ((z735.1, z736.1), z736.2)).bind fun z740 => some ((z739.1, z740.1), z740.2)).bind fun z743 => F__law_take z743.2 z743.1.2.1).bind fun z749 => (some ((), z749.2)).bind fun z750 => some ((z749.1, z750.1), z750.2)) (mx_V (cx := (fun (dr728 : List Int) => (⟨1, [some (.rf 0), some (.im ((kU (kT2 kI kI)) pairs607)), some (.im ((kL (kT2 kI kI)) ratios608)), some (.im ((kU (kT2 kI kI)) services626)), some (.im (kI turns627)), none, none, none, none, none, none], [dr728.map kI]⟩ : Ct))) (ds := ds759) (k := kI) (v := (max (0 : Int) (turns627 - (1 : Int)))) (mv_callB (call_max2 rfl) (by rfl) T.n_max bt_max (mai_cons (d := kI (0 : Int)) mv_int (mai_cons (d := kI (turns627 - (1 : Int))) (mv_op op_sub (mv_name 4 rfl) mv_int o2_sub) mai_nil)) oa_max)) (fun z753 ds755 => (max_cons (cx := (fun (dr752 : List Int) => (⟨1, [some (.rf 0), some (.im ((kU (kT2 kI kI)) pairs607)), some (.im ((kL (kT2 kI kI)) ratios608)), some (.im ((kU (kT2 kI kI)) services626)), some (.im (kI turns627)), none, none, none, none, none, none], [dr752.map kI]⟩ : Ct))) (t1 := fun (z : Int) => .im (kI z)) (m2 := fun z749 ds751 => some ((), ds751)) (mx_callD (F := FF__law_take) (cx := (fun (dr746 : List Int) => (⟨1, [some (.rf 0), some (.im ((kU (kT2 kI kI)) pairs607)), some (.im ((kL (kT2 kI kI)) ratios608)), some (.im ((kU (kT2 kI kI)) services626)), some (.im (kI turns627)), none, none, none, none, none, none], [dr746.map kI]⟩ : Ct))) (k := kI) (ss := (fun (z744 : (Unit × (Int × Unit))) => [.rf 0, .im (kI z744.2.1)])) (fun (z744 : (Unit × (Int × Unit))) (ds745 : List Int) => (ds745, z744.2.1)) D__law_take (by rfl) (max_cons (cx := (fun (dr742 : List Int) => (⟨1, [some (.rf 0), some (.im ((kU (kT2 kI kI)) pairs607)), some (.im ((kL (kT2 kI kI)) ratios608)), some (.im ((kU (kT2 kI kI)) services626)), some (.im (kI turns627)), none, none, none, none, none, none], [dr742.map kI]⟩ : Ct))) (t1 := fun (_ : Unit) => .rf 0) (m2 := fun z739 ds741 => (some ((50 : Int), ds741)).bind fun z735 => (some ((), z735.2)).bind fun z736 => some ((z735.1, z736.1), z736.2)) (mx_S (cx := (fun (dr731 : List Int) => (⟨1, [some (.rf 0), some (.im ((kU (kT2 kI kI)) pairs607)), some (.im ((kL (kT2 kI kI)) ratios608)), some (.im ((kU (kT2 kI kI)) services626)), some (.im (kI turns627)), none, none, none, none, none, none], [dr731.map kI]⟩ : Ct))) (ds := ds755) (s := .rf 0) (mv_name 0 rfl)) (fun z739 ds741 => (max_cons (cx := (fun (dr738 : List Int) => (⟨1, [some (.rf 0), some (.im ((kU (kT2 kI kI)) pairs607)), some (.im ((kL (kT2 kI kI)) ratios608)), some (.im ((kU (kT2 kI kI)) services626)), some (.im (kI turns627)), none, none, none, none, none, none], [dr738.map kI]⟩ : Ct))) (t1 := fun (z : Int) => .im (kI z)) (m2 := fun z735 ds737 => some ((), ds737)) (mx_V (cx := (fun (dr733 : List Int) => (⟨1, [some (.rf 0), some (.im ((kU (kT2 kI kI)) pairs607)), some (.im ((kL (kT2 kI kI)) ratios608)), some (.im ((kU (kT2 kI kI)) services626)), some (.im (kI turns627)), none, none, none, none, none, none], [dr733.map kI]⟩ : Ct))) (ds := ds741) (k := kI) (v := (50 : Int)) mv_int) (fun z735 ds737 => (max_nil (cx := (fun (dr734 : List Int) => (⟨1, [some (.rf 0), some (.im ((kU (kT2 kI kI)) pairs607)), some (.im ((kL (kT2 kI kI)) ratios608)), some (.im ((kU (kT2 kI kI)) services626)), some (.im (kI turns627)), none, none, none, none, none, none], [dr734.map kI]⟩ : Ct)))))))) (hss := (fun _ s hs i e => by subst e; simpa using hs))) (fun z749 ds751 => (max_nil (cx := (fun (dr748 : List Int) => (⟨1, [some (.rf 0), some (.im ((kU (kT2 kI kI)) pairs607)), some (.im ((kL (kT2 kI kI)) ratios608)), some (.im ((kU (kT2 kI kI)) services626)), some (.im (kI turns627)), none, none, none, none, none, none], [dr748.map kI]⟩ : Ct))))))))))))))))) (pg_name (i := 5) sc.nd rfl (by first | exact Or.inl rfl | exact Or.inr rfl)) (fun _ => (Wk.rm [0] [true, true, true, true, true, false, false, false, false, false, false] rfl)) (fun _ _ => (tg_name 5)) (fun x775 l774 => (mb_consV (ms_setV 7 sc.nd mv_int) (mb_loop (j := fun r822 => Fl.rt (r822)) (ms_for (R := (Bool × List Int)) (sr := rs__law_axles) (cr := cr__law_axles) (xs := fun (z814 : List Int) => z814) (k := kI) (ca := fun (z814 : List Int) => (⟨1, [some (.rf 0), some (.im ((kU (kT2 kI kI)) pairs607)), some (.im ((kL (kT2 kI kI)) ratios608)), some (.im ((kU (kT2 kI kI)) services626)), some (.im (kI turns627)), some (.im (kI x775)), none, some (.im (kI (0 : Int))), none, none, none], [l774.map kI]⟩ : Ct)) (cL := (fun (l776 : Int) => (⟨1, [some (.rf 0), some (.im ((kU (kT2 kI kI)) pairs607)), some (.im ((kL (kT2 kI kI)) ratios608)), some (.im ((kU (kT2 kI kI)) services626)), some (.im (kI turns627)), some (.im (kI x775)), none, some (.im (kI l776)), none, none, none], [l774.map kI]⟩ : Ct))) (l0 := fun (z814 : List Int) => (0 : Int)) (cT := (fun (x777 : Int) (l776 : Int) => (⟨1, [some (.rf 0), some (.im ((kU (kT2 kI kI)) pairs607)), some (.im ((kL (kT2 kI kI)) ratios608)), some (.im ((kU (kT2 kI kI)) services626)), some (.im (kI turns627)), some (.im (kI x775)), some (.im (kI x777)), some (.im (kI l776)), none, none, none], [l774.map kI]⟩ : Ct))) (fB := (fun (x777 : Int) (l776 : Int) => ((F_ratio_of (cutL pairs607 none (some (x777 + (1 : Int))))).bind fun z778 => F_times_of (x775, (1 : Int)) z778).bind fun (made779 : (Int × Int)) => ((((((((atI ratios608 x777).bind fun z781 => some (z781.1)).bind fun z782 => mulM x775 z782).bind fun z784 => ((atI ratios608 x777).bind fun z783 => some (z783.2)).bind fun z785 => some (z784, z785)).bind fun z786 => F__law_lowest z786.1 z786.2).bind fun p787 => some ((kT2 kI kI) p787)).bind fun z788 => F__law_same ((kT2 kI kI) made779) z788).bind fun z789 => some (!z789)).bind fun z791 => if z791 = true then (some (Fl.rt ((false, l774)))) else (((((((atI ratios608 x777).bind fun z797 => some (z797.1)).bind fun z798 => mulM x775 z798).bind fun z799 => some (z799)).bind fun z802 => ((atI ratios608 x777).bind fun z801 => some (z801.2)).bind fun z803 => modM z802 z803).bind fun z804 => some (decide (z804 = (0 : Int)))).bind fun (home805 : Bool) => (((((atI services626 (x777 + (1 : Int))).bind fun z806 => F_departs_at z806 x775).bind fun p807 => some (kB p807)).bind fun z808 => F__law_same z808 (kB home805)).bind fun z809 => some (!z809)).bind fun z811 => if z811 = true then (some (Fl.rt ((false, l774)))) else ((some ((l776 + (if home805 = true then 1 else 0 : Int)))).bind fun (whole813 : Int) => some (Fl.nx whole813))))) PassesOwn.never rfl (mi_r1V (by rfl) T.n_range (mai_cons (d := kI (ratios608.length : Int)) (mv_len (k := (kT2 kI kI)) (xs := ratios608) (by rfl) T.n_len (mv_name 2 rfl) .im) mai_nil)) (pg_name (i := 6) sc.nd rfl (by first | exact Or.inl rfl | exact Or.inr rfl)) (fun _ => (Wk.rm [0] [true, true, true, true, true, true, false, true, false, false, false] rfl)) (fun _ _ => (tg_name 6)) (fun x777 l776 => (mb_cons (ms_set 8 sc.nd (mp_callP (F := FF_times_of) (k := (kT2 kI kI)) (fun (z778 : (Int × Int)) => ((x775, (1 : Int)), z778)) D_times_of (by rfl) (map_consV (d := (kT2 kI kI) (x775, (1 : Int))) (mv_as (s' := .im ((kT2 kI kI) (x775, (1 : Int)))) (mv_tup (mai_cons (d := kI x775) (mv_name 5 rfl) (mai_cons (d := kI (1 : Int)) mv_int mai_nil)))) (map_consP (k1 := (kT2 kI kI)) (mp_call (F := FF_ratio_of) (k := (kT2 kI kI)) (cutL pairs607 none (some (x777 + (1 : Int)))) D_ratio_of (by rfl) (mai_cons (d := (kU (kT2 kI kI)) (cutL pairs607 none (some (x777 + (1 : Int))))) (me_slice (r1 := (fun (_ : Unit) => .im ((kU (kT2 kI kI)) pairs607))) (l := fun _ _ => none) (u := fun _ _ _ => (some (x777 + (1 : Int)))) (mo := fun _ _ _ => some ()) (rs := fun _ => .im ((kU (kT2 kI kI)) (cutL pairs607 none (some (x777 + (1 : Int)))))) (c1 := fun _ => _) (c2 := fun _ _ => _) (c3 := fun _ _ _ => _) (c' := fun _ => _) sl_tupA (mv_name 1 rfl) (fun _ => mo_none) (fun _ _ => (mo_some (m := some ()) (x := fun _ => (x777 + (1 : Int))) (mv_op op_add (mv_name 6 rfl) mv_int o2_add))) (fun _ _ _ => (os_tup (k := (kT2 kI kI))))) mai_nil)) mai_nil)))) (fun made779 => (mb_ixP (mtp_not (mt_val (b := fun b => b) (mp_callP (F := FF__law_same) (k := kB) (fun (z788 : D) => (((kT2 kI kI) made779), z788)) D__law_same (by rfl) (map_consV (d := kD ((kT2 kI kI) made779)) (mv_as (s' := .im (kD ((kT2 kI kI) made779))) (mv_name 8 rfl)) (map_consP (k1 := kD) (mp_re (k1 := (kT2 kI kI)) (k2 := kD) (f := (kT2 kI kI)) (mp_callP (F := FF__law_lowest) (k := (kT2 kI kI)) (fun (z786 : (Int × Int)) => (z786.1, z786.2)) D__law_lowest (by rfl) (map_consPP (k1 := kI) (mp_opVP (k2 := kI) (k := kI) (f := fun z782 => mulM x775 z782) op_mulA (mv_name 5 rfl) (mp_ixPV (k1 := (kT2 kI kI)) (k := kI) (f := fun z781 => some (z781.1)) ix_lt (mp_ixVV (k := (kT2 kI kI)) ix_lt (mv_name 2 rfl) (mv_name 6 rfl) (o2_ix (k := (kT2 kI kI)) .im)) mv_int (fun z781 => (o2_ixD .tup rfl).up)) (fun z782 => o2_mulM)) (map_consP (k1 := kI) (mp_ixPV (k1 := (kT2 kI kI)) (k := kI) (f := fun z783 => some (z783.2)) ix_lt (mp_ixVV (k := (kT2 kI kI)) ix_lt (mv_name 2 rfl) (mv_name 6 rfl) (o2_ix (k := (kT2 kI kI)) .im)) mv_int (fun z783 => (o2_ixD .tup rfl).up)) mai_nil)))) mai_nil))))) (mb_one (ms_retV (w := Fl.rt ((false, l774))) mv_bl rfl)) (by repeat' (first | exact out_rt | exact out_some (by intro _ h; cases h) | refine out_elim (fun _ => ?_) (fun _ => ?_) | refine out_bind (fun _ => ?_) | refine out_ite ?_ ?_)) (mb_cons (ms_set 9 sc.nd (mp_cmpPV (k1 := kI) (k := kB) (f := fun z804 => some (decide (z804 = (0 : Int)))) op_eq (mp_opPP (k1 := kI) (k2 := kI) (k := kI) (f := fun z802 z803 => modM z802 z803) op_modA (mp_callTy (k := kI) (f := fun (z799 : Int) => some (z799)) call_int1 (by rfl) T.n_int bt_int (map_consP (k1 := kI) (mp_opVP (k2 := kI) (k := kI) (f := fun z798 => mulM x775 z798) op_mulA (mv_name 5 rfl) (mp_ixPV (k1 := (kT2 kI kI)) (k := kI) (f := fun z797 => some (z797.1)) ix_lt (mp_ixVV (k := (kT2 kI kI)) ix_lt (mv_name 2 rfl) (mv_name 6 rfl) (o2_ix (k := (kT2 kI kI)) .im)) mv_int (fun z797 => (o2_ixD .tup rfl).up)) (fun z798 => o2_mulM)) mai_nil) (fun _ => oa_int.up)) (mp_ixPV (k1 := (kT2 kI kI)) (k := kI) (f := fun z801 => some (z801.2)) ix_lt (mp_ixVV (k := (kT2 kI kI)) ix_lt (mv_name 2 rfl) (mv_name 6 rfl) (o2_ix (k := (kT2 kI kI)) .im)) mv_int (fun z801 => (o2_ixD .tup rfl).up)) (fun z802 z803 => o2_modM)) mv_int (fun z804 => o2_eqI.up))) (fun home805 => (mb_ixP (mtp_not (mt_val (b := fun b => b) (mp_callP (F := FF__law_same) (k := kB) (fun (z808 : D) => (z808, (kB home805))) D__law_same (by rfl) (map_consP (k1 := kD) (mp_re (k1 := kB) (k2 := kD) (f := kB) (mp_callP (F := FF_departs_at) (k := kB) (fun (z806 : (Int × Int)) => (z806, x775)) D_departs_at (by rfl) (map_consP (k1 := (kT2 kI kI)) (mp_ixVV (k := (kT2 kI kI)) ix_lt (mv_name 3 rfl) (mv_op op_add (mv_name 6 rfl) mv_int o2_add) (o2_ix (k := (kT2 kI kI)) .tup)) (mai_cons (d := kI x775) (mv_name 5 rfl) mai_nil)))) (mai_cons (d := kD (kB home805)) (mv_as (s' := .im (kD (kB home805))) (mv_name 9 rfl)) mai_nil))))) (mb_one (ms_retV (w := Fl.rt ((false, l774))) mv_bl rfl)) (by repeat' (first | exact out_rt | exact out_some (by intro _ h; cases h) | refine out_elim (fun _ => ?_) (fun _ => ?_) | refine out_bind (fun _ => ?_) | refine out_ite ?_ ?_)) (mb_cons (ms_set 7 sc.nd (mp (k := kI) (x := (l776 + (if home805 = true then 1 else 0 : Int))) (mv_op op_add (mv_name 7 rfl) (mv_callTy call_int1 (by rfl) T.n_int bt_int (mai_cons (d := kB home805) (mv_name 9 rfl) mai_nil) oa_intB) o2_add))) (fun whole813 => (mb_end (w := (Fl.nx whole813)) (c' := (⟨1, [some (.rf 0), some (.im ((kU (kT2 kI kI)) pairs607)), some (.im ((kL (kT2 kI kI)) ratios608)), some (.im ((kU (kT2 kI kI)) services626)), some (.im (kI turns627)), some (.im (kI x775)), none, some (.im (kI whole813)), none, none, none], [l774.map kI]⟩ : Ct)) (Wk.rm [0] [true, true, true, true, true, true, false, true, false, false, false] rfl) rfl))))))))))) (fun l815 => (mb_one (ms_ifP (mtp_cmpVP (k2 := kB) (f := fun z818 => !(decide (l815 = (ratios608.length : Int)) == z818)) op_ne (mv_cmp op_eq (mv_name 7 rfl) (mv_len (k := (kT2 kI kI)) (xs := ratios608) (by rfl) T.n_len (mv_name 2 rfl) .im) o2_eqI) (mp_cmpPV (k1 := kI) (k := kB) (f := fun z817 => some (decide (z817 = (0 : Int)))) op_eq (mp_opVV (k := kI) op_modA (mv_callTy call_int1 (by rfl) T.n_int bt_int (mai_cons (d := kI x775) (mv_name 5 rfl) mai_nil) oa_int) (mv_name 4 rfl) o2_modM) mv_int (fun z817 => o2_eqI.up)) (fun z818 => o2_neB)) (mb_one (ms_retV (w := Fl.rt ((false, l774))) mv_bl rfl)) (mb_end (w := (Fl.nx l774)) (c' := (⟨1, [some (.rf 0), some (.im ((kU (kT2 kI kI)) pairs607)), some (.im ((kL (kT2 kI kI)) ratios608)), some (.im ((kU (kT2 kI kI)) services626)), some (.im (kI turns627)), none, none, none, none, none, none], [l774.map kI]⟩ : Ct)) (Wk.rm [0] [true, true, true, true, true, false, false, false, false, false, false] rfl) rfl)))))))) (fun l824 => (mb_loop (j := fun r841 => r841) (ms_for (R := (Bool × List Int)) (sr := rs__law_axles) (cr := cr__law_axles) (xs := fun (z839 : List Int) => z839) (k := kI) (ca := fun (z839 : List Int) => (⟨1, [some (.rf 0), some (.im ((kU (kT2 kI kI)) pairs607)), some (.im ((kL (kT2 kI kI)) ratios608)), some (.im ((kU (kT2 kI kI)) services626)), some (.im (kI turns627)), none, none, none, none, none, none], [l824.map kI]⟩ : Ct)) (cL := (fun (l825 : Unit) => (⟨1, [some (.rf 0), some (.im ((kU (kT2 kI kI)) pairs607)), some (.im ((kL (kT2 kI kI)) ratios608)), some (.im ((kU (kT2 kI kI)) services626)), some (.im (kI turns627)), none, none, none, none, none, none], [l824.map kI]⟩ : Ct))) (l0 := fun (z839 : List Int) => ()) (cT := (fun (x826 : Int) (l825 : Unit) => (⟨1, [some (.rf 0), some (.im ((kU (kT2 kI kI)) pairs607)), some (.im ((kL (kT2 kI kI)) ratios608)), some (.im ((kU (kT2 kI kI)) services626)), some (.im (kI turns627)), none, some (.im (kI x826)), none, none, none, none], [l824.map kI]⟩ : Ct))) (fB := (fun (x826 : Int) (l825 : Unit) => (((((F_departures_in (cutL services626 (some (x826 + (1 : Int))) (some (x826 + (2 : Int)))) (0 : Int) turns627).bind fun p827 => some (kI p827)).bind fun z832 => ((((atI ratios608 x826).bind fun z829 => some (z829.2)).bind fun z830 => fdivM turns627 z830).bind fun p831 => some (kI p831)).bind fun z833 => some (z832, z833)).bind fun z834 => F__law_same z834.1 z834.2).bind fun z835 => some (!z835)).bind fun z837 => if z837 = true then (some (Fl.rt ((false, l824)))) else (some (Fl.nx ())))) PassesOwn.never rfl (mi_r1V (by rfl) T.n_range (mai_cons (d := kI (ratios608.length : Int)) (mv_len (k := (kT2 kI kI)) (xs := ratios608) (by rfl) T.n_len (mv_name 2 rfl) .im) mai_nil)) (pg_name (i := 6) sc.nd rfl (by first | exact Or.inl rfl | exact Or.inr rfl)) (fun _ => (Wk.rm [0] [true, true, true, true, true, false, false, false, false, false, false] rfl)) (fun _ _ => (tg_name 6)) (fun x826 l825 => (mb_one (ms_ifP (mtp_not (mt_val (b := fun b => b) (mp_callP (F := FF__law_same) (k := kB) (fun (z834 : (D × D)) => (z834.1, z834.2)) D__law_same (by rfl) (map_consPP (k1 := kD) (mp_re (k1 := kI) (k2 := kD) (f := kI) (mp_call (F := FF_departures_in) (k := kI) ((cutL services626 (some (x826 + (1 : Int))) (some (x826 + (2 : Int)))), (0 : Int), turns627) D_departures_in (by rfl) (mai_cons (d := (kU (kT2 kI kI)) (cutL services626 (some (x826 + (1 : Int))) (some (x826 + (2 : Int))))) (me_slice (r1 := (fun (_ : Unit) => .im ((kU (kT2 kI kI)) services626))) (l := fun _ _ => (some (x826 + (1 : Int)))) (u := fun _ _ _ => (some (x826 + (2 : Int)))) (mo := fun _ _ _ => some ()) (rs := fun _ => .im ((kU (kT2 kI kI)) (cutL services626 (some (x826 + (1 : Int))) (some (x826 + (2 : Int)))))) (c1 := fun _ => _) (c2 := fun _ _ => _) (c3 := fun _ _ _ => _) (c' := fun _ => _) sl_tupA (mv_name 3 rfl) (fun _ => (mo_some (m := some ()) (x := fun _ => (x826 + (1 : Int))) (mv_op op_add (mv_name 6 rfl) mv_int o2_add))) (fun _ _ => (mo_some (m := some ()) (x := fun _ => (x826 + (2 : Int))) (mv_op op_add (mv_name 6 rfl) mv_int o2_add))) (fun _ _ _ => (os_tup (k := (kT2 kI kI))))) (mai_cons (d := kI (0 : Int)) mv_int (mai_cons (d := kI turns627) (mv_name 4 rfl) mai_nil))))) (map_consP (k1 := kD) (mp_re (k1 := kI) (k2 := kD) (f := kI) (mp_opVP (k2 := kI) (k := kI) (f := fun z830 => fdivM turns627 z830) op_fdivA (mv_name 4 rfl) (mp_ixPV (k1 := (kT2 kI kI)) (k := kI) (f := fun z829 => some (z829.2)) ix_lt (mp_ixVV (k := (kT2 kI kI)) ix_lt (mv_name 2 rfl) (mv_name 6 rfl) (o2_ix (k := (kT2 kI kI)) .im)) mv_int (fun z829 => (o2_ixD .tup rfl).up)) (fun z830 => o2_fdivM))) mai_nil))))) (mb_one (ms_retV (w := Fl.rt ((false, l824))) mv_bl rfl)) (mb_end (w := (Fl.nx ())) (c' := (⟨1, [some (.rf 0), some (.im ((kU (kT2 kI kI)) pairs607)), some (.im ((kL (kT2 kI kI)) ratios608)), some (.im ((kU (kT2 kI kI)) services626)), some (.im (kI turns627)), none, none, none, none, none, none], [l824.map kI]⟩ : Ct)) (Wk.rm [0] [true, true, true, true, true, false, false, false, false, false, false] rfl) rfl))))) (fun l840 => (mb_one (ms_retV (w := (true, l824)) mv_bl rfl)))))))))))))
def F__law_products (draws843 : List Int) (pairs844 : (List (Int × Int))) (other845 : (List (Int × Int))) : Option (Bool × List Int) :=
  (some (((1 : Int), (1 : Int)))).bind fun (product846 : (Int × Int)) => (((some ())).bind fun z851 => forP (fun (x848 : (Int × Int)) (l847 : (Int × Int)) => ((F_fraction x848.1 x848.2).bind fun z849 => F_times_of l847 z849).bind fun (product850 : (Int × Int)) => some product850) pairs844 product846).bind fun (l852 : (Int × Int)) => (F_ratio_of pairs844).bind fun (ratio853 : (Int × Int)) => (atI [(1 : Int), (-1 : Int)] ((pairs844.length : Int) % (2 : Int))).bind fun (sign854 : Int) => ((((F_times_of l852 (sign854, (1 : Int))).bind fun p855 => some ((kT2 kI kI) p855)).bind fun z856 => F__law_same z856 ((kT2 kI kI) ratio853)).bind fun z857 => some (!z857)).bind fun z859 => if z859 = true then (some ((false, draws843))) else (((((F_reduced_gear pairs844).bind fun p861 => some ((kT3 kI kI kI) p861)).bind fun z862 => F__law_same z862 ((kT3 kI kI kI) (l852.1, l852.2, (sign854)))).bind fun z863 => some (!z863)).bind fun z865 => if z865 = true then (some ((false, draws843))) else (((((some ())).bind fun z870 => mapO (fun x867 => some ((x867.2, x867.1))) other845).bind fun z872 => some z872).bind fun (about873 : (List (Int × Int))) => (((((F_ratio_of other845).bind fun z874 => F_divided_by ratio853 z874).bind fun p875 => some ((kT2 kI kI) p875)).bind fun z878 => (((catM pairs844 about873).bind fun z876 => F_ratio_of z876).bind fun p877 => some ((kT2 kI kI) p877)).bind fun z879 => some (z878, z879)).bind fun z880 => F__law_same z880.1 z880.2).bind fun z881 => some ((z881, draws843))))
abbrev s__law_products : Stmt := topS 30
theorem sc__law_products : FnScope ["draws", "pairs", "other", "product", "ratio", "sign", "about", "driving", "driven"] ["draws", "pairs", "other"] (defScope s__law_products) := ⟨rfl, rfl, rfl, by decide +kernel, rfl, by decide +kernel, by decide +kernel⟩
abbrev ca__law_products := (fun (b : (List Int × (List (Int × Int)) × (List (Int × Int)))) => (⟨1, [some (.rf 0), some (.im ((kU (kT2 kI kI)) b.2.1)), some (.im ((kU (kT2 kI kI)) b.2.2))], [b.1.map kI]⟩ : Ct))
abbrev FF__law_products := (fun (b : (List Int × (List (Int × Int)) × (List (Int × Int)))) => F__law_products b.1 b.2.1 b.2.2)
abbrev rs__law_products : (Bool × List Int) → Sl := (fun (g : (Bool × List Int)) => .im (kB g.1))
abbrev cr__law_products : (Bool × List Int) → Ct := (fun (g : (Bool × List Int)) => (⟨1, [], [g.2.map kI]⟩ : Ct))
abbrev ps__law_products : List Str := ["draws", "pairs", "other"]
set_option maxHeartbeats 4000000 in
theorem ok__law_products {P : Program} {w : World} {K : PySem.W.Frag} {mg : Str → Option Value} {base : Heap} {f : Addr} {fd : FuncData} (FU : Fun K "_law_products" "_law_products" s__law_products f fd) (T : Fa mg) {f_times_of : Addr} {fd_times_of : FuncData} (C_times_of : Own P w K mg base 2 "times_of" f_times_of fd_times_of ps_times_of ca_times_of FF_times_of rs_times_of cr_times_of) {f_fraction : Addr} {fd_fraction : FuncData} (C_fraction : Own P w K mg base 1 "fraction" f_fraction fd_fraction ps_fraction ca_fraction FF_fraction rs_fraction cr_fraction) {f_ratio_of : Addr} {fd_ratio_of : FuncData} (C_ratio_of : Own P w K mg base 3 "ratio_of" f_ratio_of fd_ratio_of ps_ratio_of ca_ratio_of FF_ratio_of rs_ratio_of cr_ratio_of) {f__law_same : Addr} {fd__law_same : FuncData} (C__law_same : Own P w K mg base 4 "_law_same" f__law_same fd__law_same ps__law_same ca__law_same FF__law_same rs__law_same cr__law_same) {f_reduced_gear : Addr} {fd_reduced_gear : FuncData} (C_reduced_gear : Own P w K mg base 4 "reduced_gear" f_reduced_gear fd_reduced_gear ps_reduced_gear ca_reduced_gear FF_reduced_gear rs_reduced_gear cr_reduced_gear) {f_divided_by : Addr} {fd_divided_by : FuncData} (C_divided_by : Own P w K mg base 2 "divided_by" f_divided_by fd_divided_by ps_divided_by ca_divided_by FF_divided_by rs_divided_by cr_divided_by) :
    FnOk P w K mg base CX0 5 f fd ps__law_products (PrF K ca__law_products FF__law_products rs__law_products cr__law_products) := by
  have sc := sc__law_products
  refine fn_ok FU sc__law_products (fun _ => rfl) (fun cdv A outer s H E B b hr => ?_)
  obtain ⟨draws843, pairs844, other845⟩ := b
  have D_times_of : Df P w K mg base (A.deeper (envOfC "_law_products" (defScope s__law_products) s.heap.objs.size f cdv)) 2 "times_of" f_times_of fd_times_of ps_times_of ca_times_of FF_times_of rs_times_of cr_times_of := ⟨C_times_of.G, hr.mono (by decide), C_times_of.hm, C_times_of.hk, C_times_of.hb⟩
  have D_fraction : Df P w K mg base (A.deeper (envOfC "_law_products" (defScope s__law_products) s.heap.objs.size f cdv)) 1 "fraction" f_fraction fd_fraction ps_fraction ca_fraction FF_fraction rs_fraction cr_fraction := ⟨C_fraction.G, hr.mono (by decide), C_fraction.hm, C_fraction.hk, C_fraction.hb⟩
  have D_ratio_of : Df P w K mg base (A.deeper (envOfC "_law_products" (defScope s__law_products) s.heap.objs.size f cdv)) 3 "ratio_of" f_ratio_of fd_ratio_of ps_ratio_of ca_ratio_of FF_ratio_of rs_ratio_of cr_ratio_of := ⟨C_ratio_of.G, hr.mono (by decide), C_ratio_of.hm, C_ratio_of.hk, C_ratio_of.hb⟩
  have D__law_same : Df P w K mg base (A.deeper (envOfC "_law_products" (defScope s__law_products) s.heap.objs.size f cdv)) 4 "_law_same" f__law_same fd__law_same ps__law_same ca__law_same FF__law_same rs__law_same cr__law_same := ⟨C__law_same.G, hr.mono (by decide), C__law_same.hm, C__law_same.hk, C__law_same.hb⟩
  have D_reduced_gear : Df P w K mg base (A.deeper (envOfC "_law_products" (defScope s__law_products) s.heap.objs.size f cdv)) 4 "reduced_gear" f_reduced_gear fd_reduced_gear ps_reduced_gear ca_reduced_gear FF_reduced_gear rs_reduced_gear cr_reduced_gear := ⟨C_reduced_gear.G, hr.mono (by decide), C_reduced_gear.hm, C_reduced_gear.hk, C_reduced_gear.hb⟩
  have D_divided_by : Df P w K mg base (A.deeper (envOfC "_law_products" (defScope s__law_products) s.heap.objs.size f cdv)) 2 "divided_by" f_divided_by fd_divided_by ps_divided_by ca_divided_by FF_divided_by rs_divided_by cr_divided_by := ⟨C_divided_by.G, hr.mono (by decide), C_divided_by.hm, C_divided_by.hk, C_divided_by.hb⟩
  show MB _ B (⟨1, [some (.rf 0), some (.im ((kU (kT2 kI kI)) pairs844)), some (.im ((kU (kT2 kI kI)) other845)), none, none, none, none, none, none], [draws843.map kI]⟩ : Ct) _ (F__law_products draws843 pairs844 other845) _
  unfold F__law_products
  exact (mb_cons (ms_set 3 sc.nd (mp (k := (kT2 kI kI)) (x := ((1 : Int), (1 : Int))) (mv_as (s' := .im ((kT2 kI kI) ((1 : Int), (1 : Int)))) (mv_tup (mai_cons (d := kI (1 : Int)) mv_int (mai_cons (d := kI (1 : Int)) mv_int mai_nil)))))) (fun product846 => (mb_cons (ms_forP (xs := fun (z851 : Unit) => pairs844) (k := (kT2 kI kI)) (ca := fun (z851 : Unit) => (⟨1, [some (.rf 0), some (.im ((kU (kT2 kI kI)) pairs844)), some (.im ((kU (kT2 kI kI)) other845)), some (.im ((kT2 kI kI) product846)), none, none, none, none, none], [draws843.map kI]⟩ : Ct)) (cL := (fun (l847 : (Int × Int)) => (⟨1, [some (.rf 0), some (.im ((kU (kT2 kI kI)) pairs844)), some (.im ((kU (kT2 kI kI)) other845)), some (.im ((kT2 kI kI) l847)), none, none, none, none, none], [draws843.map kI]⟩ : Ct))) (l0 := fun (z851 : Unit) => product846) (cT := (fun (x848 : (Int × Int)) (l847 : (Int × Int)) => (⟨1, [some (.rf 0), some (.im ((kU (kT2 kI kI)) pairs844)), some (.im ((kU (kT2 kI kI)) other845)), some (.im ((kT2 kI kI) l847)), none, none, none, some (.im (kI x848.1)), some (.im (kI x848.2))], [draws843.map kI]⟩ : Ct))) (fB := (fun (x848 : (Int × Int)) (l847 : (Int × Int)) => ((F_fraction x848.1 x848.2).bind fun z849 => F_times_of l847 z849).bind fun (product850 : (Int × Int)) => some product850)) PassesOwn.never rfl (mi_tV (k := (kT2 kI kI)) (xs := pairs844) (mv_name 1 rfl)) (pg_tup (n := 2) rfl (pgs_cons (pg_name (i := 7) sc.nd rfl (by first | exact Or.inl rfl | exact Or.inr rfl)) (pgs_cons (pg_name (i := 8) sc.nd rfl (by first | exact Or.inl rfl | exact Or.inr rfl)) pgs_nil))) (fun _ => (Wk.rm [0] [true, true, true, true, false, false, false, false, false] rfl)) (fun _ _ => (tg_tup (tgs_cons (tg_name 7) (tgs_cons (tg_name 8) tgs_nil)))) (fun x848 l847 => (mb_cons (ms_set 3 sc.nd (mp_callP (F := FF_times_of) (k := (kT2 kI kI)) (fun (z849 : (Int × Int)) => (l847, z849)) D_times_of (by rfl) (map_consV (d := (kT2 kI kI) l847) (mv_name 3 rfl) (map_consP (k1 := (kT2 kI kI)) (mp_call (F := FF_fraction) (k := (kT2 kI kI)) (x848.1, x848.2) D_fraction (by rfl) (mai_cons (d := kI x848.1) (mv_name 7 rfl) (mai_cons (d := kI x848.2) (mv_name 8 rfl) mai_nil))) mai_nil)))) (fun product850 => (mb_end (w := product850) (c' := (⟨1, [some (.rf 0), some (.im ((kU (kT2 kI kI)) pairs844)), some (.im ((kU (kT2 kI kI)) other845)), some (.im ((kT2 kI kI) product850)), none, none, none, none, none], [draws843.map kI]⟩ : Ct)) (Wk.rm [0] [true, true, true, true, false, false, false, false, false] rfl) rfl))))) (fun l852 => (mb_cons (ms_set 4 sc.nd (mp_call (F := FF_ratio_of) (k := (kT2 kI kI)) pairs844 D_ratio_of (by rfl) (mai_cons (d := (kU (kT2 kI kI)) pairs844) (mv_name 1 rfl) mai_nil))) (fun ratio853 => (mb_cons (ms_set 5 sc.nd (mp_ixVV (k := kI) ix_lt (mv_as (s' := .im ((kL kI) [(1 : Int), (-1 : Int)])) (mv_lst (mai_cons (d := kI (1 : Int)) mv_int (mai_cons (d := kI (-1 : Int)) (mv_neg (i := (1 : Int)) mv_int) mai_nil)))) (mv_op op_mod (mv_callTy call_int1 (by rfl) T.n_int bt_int (mai_cons (d := kI (pairs844.length : Int)) (mv_len (k := (kT2 kI kI)) (xs := pairs844) (by rfl) T.n_len (mv_name 1 rfl) .tup) mai_nil) oa_int) mv_int (o2_c (C := fun _ j => 0 < j) (by decide) rfl)) (o2_ix (k := kI) .im))) (fun sign854 => (mb_ixP (mtp_not (mt_val (b := fun b => b) (mp_callP (F := FF__law_same) (k := kB) (fun (z856 : D) => (z856, ((kT2 kI kI) ratio853))) D__law_same (by rfl) (map_consP (k1 := kD) (mp_re (k1 := (kT2 kI kI)) (k2 := kD) (f := (kT2 kI kI)) (mp_call (F := FF_times_of) (k := (kT2 kI kI)) (l852, (sign854, (1 : Int))) D_times_of (by rfl) (mai_cons (d := (kT2 kI kI) l852) (mv_name 3 rfl) (mai_cons (d := (kT2 kI kI) (sign854, (1 : Int))) (mv_as (s' := .im ((kT2 kI kI) (sign854, (1 : Int)))) (mv_tup (mai_cons (d := kI sign854) (mv_name 5 rfl) (mai_cons (d := kI (1 : Int)) mv_int mai_nil)))) mai_nil)))) (mai_cons (d := kD ((kT2 kI kI) ratio853)) (mv_as (s' := .im (kD ((kT2 kI kI) ratio853))) (mv_name 4 rfl)) mai_nil))))) (mb_one (ms_retV (w := (false, draws843)) mv_bl rfl)) (by repeat' (first | exact out_rt | exact out_some (by intro _ h; cases h) | refine out_elim (fun _ => ?_) (fun _ => ?_) | refine out_bind (fun _ => ?_) | refine out_ite ?_ ?_)) (mb_ixP (mtp_not (mt_val (b := fun b => b) (mp_callP (F := FF__law_same) (k := kB) (fun (z862 : D) => (z862, ((kT3 kI kI kI) (l852.1, l852.2, (sign854))))) D__law_same (by rfl) (map_consP (k1 := kD) (mp_re (k1 := (kT3 kI kI kI)) (k2 := kD) (f := (kT3 kI kI kI)) (mp_call (F := FF_reduced_gear) (k := (kT3 kI kI kI)) pairs844 D_reduced_gear (by rfl) (mai_cons (d := (kU (kT2 kI kI)) pairs844) (mv_name 1 rfl) mai_nil))) (mai_cons (d := kD ((kT3 kI kI kI) (l852.1, l852.2, (sign854)))) (mv_as (s' := .im (kD ((kT3 kI kI kI) (l852.1, l852.2, (sign854))))) (mv_as (s' := .im ((kT3 kI kI kI) (l852.1, l852.2, (sign854)))) (mv_op op_catA (mv_name 3 rfl) (mv_tup (mai_cons (d := kI sign854) (mv_name 5 rfl) mai_nil)) (o2_catT (m := some ()) (fun _ _ => Nat.le_of_ble_eq_true rfl))))) mai_nil))))) (mb_one (ms_retV (w := (false, draws843)) mv_bl rfl)) (by repeat' (first | exact out_rt | exact out_some (by intro _ h; cases h) | refine out_elim (fun _ => ?_) (fun _ => ?_) | refine out_bind (fun _ => ?_) | refine out_ite ?_ ?_)) (mb_cons (ms_set 6 sc.nd (mp_callTy (k := (kU (kT2 kI kI))) (f := fun z872 => some z872) call_tuple_of (by rfl) T.n_tuple bt_tuple (map_consP (k1 := (kL (kT2 kI kI))) (me_lc (own := [("driving", 7), ("driven", 8)]) (k0 := (kT2 kI kI)) (k := (kT2 kI kI)) (is := [7, 8]) (cT := (fun (ys868 : List (Int × Int)) (x867 : (Int × Int)) => (⟨1, [some (.rf 0), some (.im ((kU (kT2 kI kI)) pairs844)), some (.im ((kU (kT2 kI kI)) other845)), some (.im ((kT2 kI kI) l852)), some (.im ((kT2 kI kI) ratio853)), some (.im (kI sign854)), none, some (.im (kI x867.1)), some (.im (kI x867.2))], [draws843.map kI, ys868.map (kT2 kI kI)]⟩ : Ct))) (me := fun x867 => some ((x867.2, x867.1))) (c' := fun _ => (⟨1, [some (.rf 0), some (.im ((kU (kT2 kI kI)) pairs844)), some (.im ((kU (kT2 kI kI)) other845)), some (.im ((kT2 kI kI) l852)), some (.im ((kT2 kI kI) ratio853)), some (.im (kI sign854)), none, none, none], [draws843.map kI]⟩ : Ct)) (r' := fun z871 => .im (kL (kT2 kI kI) z871)) rfl sc.nd (mi_tV (k := (kT2 kI kI)) (xs := other845) (mv_name 2 rfl)) (blkOk_by (own := [("driving", 7), ("driven", 8)]) (N := ["draws", "pairs", "other", "product", "ratio", "sign", "about", "driving", "driven"]) (sc := defScope s__law_products) (by decide +kernel)) (fun _ _ _ _ _ => (pg_tup (n := 2) rfl (pgs_cons (pg_name (i := 7) sc.nd rfl (by first | exact Or.inl rfl | exact Or.inr rfl)) (pgs_cons (pg_name (i := 8) sc.nd rfl (by first | exact Or.inl rfl | exact Or.inr rfl)) pgs_nil)))) (fun _ _ => (tw_tup (tws_cons (tw_name 7) (tws_cons (tw_name 8) tws_nil)))) (fun ys868 x867 => (fun _ _ _ _ _ => (mp (k := (kT2 kI kI)) (x := (x867.2, x867.1)) (mv_as (s' := .im ((kT2 kI kI) (x867.2, x867.1))) (mv_tup (mai_cons (d := kI x867.2) (mv_name 8 rfl) (mai_cons (d := kI x867.1) (mv_name 7 rfl) mai_nil))))))) (fun _ => .im)) mai_nil) (fun _ => (oa_tup .im).up))) (fun about873 => (mb_one (ms_retP (k := kB) (f := fun z881 => (z881, draws843)) (mp_callP (F := FF__law_same) (k := kB) (fun (z880 : (D × D)) => (z880.1, z880.2)) D__law_same (by rfl) (map_consPP (k1 := kD) (mp_re (k1 := (kT2 kI kI)) (k2 := kD) (f := (kT2 kI kI)) (mp_callP (F := FF_divided_by) (k := (kT2 kI kI)) (fun (z874 : (Int × Int)) => (ratio853, z874)) D_divided_by (by rfl) (map_consV (d := (kT2 kI kI) ratio853) (mv_name 4 rfl) (map_consP (k1 := (kT2 kI kI)) (mp_call (F := FF_ratio_of) (k := (kT2 kI kI)) other845 D_ratio_of (by rfl) (mai_cons (d := (kU (kT2 kI kI)) other845) (mv_name 2 rfl) mai_nil)) mai_nil)))) (map_consP (k1 := kD) (mp_re (k1 := (kT2 kI kI)) (k2 := kD) (f := (kT2 kI kI)) (mp_callP (F := FF_ratio_of) (k := (kT2 kI kI)) (fun (z876 : (List (Int × Int))) => z876) D_ratio_of (by rfl) (map_consP (k1 := (kU (kT2 kI kI))) (mp_opVV (k := (kU (kT2 kI kI))) op_catA (mv_name 1 rfl) (mv_name 6 rfl) o2_catU) mai_nil))) mai_nil))) (fun _ => rfl)))))))))))))))
def F__law_meetings (script882 : (List Int)) (draws883 : List Int) : Option (Bool × List Int) :=
  ((some ((1 : Int), draws883)).bind fun z937 => (((some ((), z937.2)).bind fun z929 => ((some ((70 : Int), z929.2)).bind fun z925 => (some ((), z925.2)).bind fun z926 => some ((z925.1, z926.1), z926.2)).bind fun z930 => some ((z929.1, z930.1), z930.2)).bind fun z933 => F__law_take z933.2 z933.1.2.1).bind fun z938 => (some ((z937.1 + z938.1))).bind fun z940 => some (z940, z938.2)).bind fun (one942 : Int × List Int) => ((some ((1 : Int), one942.2)).bind fun z996 => (((some ((), z996.2)).bind fun z988 => ((some ((70 : Int), z988.2)).bind fun z984 => (some ((), z984.2)).bind fun z985 => some ((z984.1, z985.1), z985.2)).bind fun z989 => some ((z988.1, z989.1), z989.2)).bind fun z992 => F__law_take z992.2 z992.1.2.1).bind fun z997 => (some ((z996.1 + z997.1))).bind fun z999 => some (z999, z997.2)).bind fun (other1001 : Int × List Int) => ((mulM one942.1 other1001.1).bind fun z1002 => (F__law_divisor one942.1 other1001.1).bind fun z1003 => fdivM z1002 z1003).bind fun (both1004 : Int) => (((((F_meets_again one942.1 other1001.1).bind fun p1005 => some (kI p1005)).bind fun z1006 => F__law_same z1006 (kI both1004)).bind fun z1007 => some (!z1007)).bind fun z1011 => if z1011 = true then some true else ((((F_round_of [((0 : Int), one942.1), ((0 : Int), other1001.1)]).bind fun p1008 => some (kI p1008)).bind fun z1009 => F__law_same z1009 (kI both1004)).bind fun z1010 => some (!z1010))).bind fun z1013 => if z1013 = true then (some ((false, other1001.2))) else (((((some ((), other1001.2)).bind fun z1024 => ((some ((99 : Int), z1024.2)).bind fun z1020 => (some ((), z1020.2)).bind fun z1021 => some ((z1020.1, z1021.1), z1021.2)).bind fun z1025 => some ((z1024.1, z1025.1), z1025.2)).bind fun z1028 => F__law_take z1028.2 z1028.1.2.1).bind fun z1034 => (some ((50 : Int), z1034.2)).bind fun z1035 => (some ((z1034.1 - z1035.1))).bind fun z1037 => some (z1037, z1035.2)).bind fun (first1039 : Int × List Int) => (((((some ((), first1039.2)).bind fun z1049 => ((some ((3 : Int), z1049.2)).bind fun z1045 => (some ((), z1045.2)).bind fun z1046 => some ((z1045.1, z1046.1), z1046.2)).bind fun z1050 => some ((z1049.1, z1050.1), z1050.2)).bind fun z1053 => F__law_take z1053.2 z1053.1.2.1).bind fun z1059 => (some ((0 : Int), z1059.2)).bind fun z1060 => some (decide (z1059.1 = z1060.1), z1060.2)).bind fun z1064 => if z1064.1 = true then ((((some (script882, z1064.2)).bind fun z1160 => ((((some ((), z1160.2)).bind fun z1146 => ((some ((63 : Int), z1146.2)).bind fun z1142 => (some ((), z1142.2)).bind fun z1143 => some ((z1142.1, z1143.1), z1143.2)).bind fun z1147 => some ((z1146.1, z1147.1), z1147.2)).bind fun z1150 => F__law_take z1150.2 z1150.1.2.1).bind fun z1156 => (some ((), z1156.2)).bind fun z1157 => some ((z1156.1, z1157.1), z1157.2)).bind fun z1161 => some ((z1160.1, z1161.1), z1161.2)).bind fun z1164 => (F__law_cell z1164.1.1 z1164.1.2.1).bind fun z1165 => some (z1165, z1164.2)).bind fun (first1168 : Int × List Int) => some (first1168.2, first1168.1)) else (some (z1064.2, first1039.1))).bind fun (j1117 : ((List Int) × Int)) => (some (((j1117.2, one942.1), (j1117.2, other1001.1)))).bind fun (services1170 : ((Int × Int) × (Int × Int))) => (((((F_meet_at (j1117.2, one942.1) (j1117.2, other1001.1)).bind fun p1171 => some ((kO kI) p1171)).bind fun z1173 => ((modM j1117.2 both1004).bind fun p1172 => some (kI p1172)).bind fun z1174 => some (z1173, z1174)).bind fun z1175 => F__law_same z1175.1 z1175.2).bind fun z1176 => some (!z1176)).bind fun z1178 => if z1178 = true then (some ((false, j1117.1))) else ((((((F_departures_in [services1170.1, services1170.2] j1117.2 (j1117.2 + both1004)).bind fun p1180 => some (kI p1180)).bind fun z1184 => (((fdivM both1004 one942.1).bind fun z1181 => (fdivM both1004 other1001.1).bind fun z1182 => some ((z1181 + z1182))).bind fun p1183 => some (kI p1183)).bind fun z1185 => some (z1184, z1185)).bind fun z1186 => F__law_same z1186.1 z1186.2).bind fun z1187 => some (!z1187)).bind fun z1189 => if z1189 = true then (some ((false, j1117.1))) else (((((F_next_of [services1170.1, services1170.2] (j1117.2 + (1 : Int))).bind fun p1191 => some (kI p1191)).bind fun z1192 => F__law_same z1192 (kI (j1117.2 + (min one942.1 other1001.1)))).bind fun z1193 => some (!z1193)).bind fun z1195 => if z1195 = true then (some ((false, j1117.1))) else ((((some ((), j1117.1)).bind fun z1206 => ((some ((40 : Int), z1206.2)).bind fun z1202 => (some ((), z1202.2)).bind fun z1203 => some ((z1202.1, z1203.1), z1203.2)).bind fun z1207 => some ((z1206.1, z1207.1), z1207.2)).bind fun z1210 => F__law_take z1210.2 z1210.1.2.1).bind fun (shift1214 : Int × List Int) => ((rngM 0 both1004).bind fun z1225 => forP (fun (x1216 : Int) (l1215 : (Option Int)) => ((some (l1215.isNone)).bind fun z1220 => if z1220 = true then (((modM (x1216 - j1117.2) one942.1).bind fun z1217 => some (decide (z1217 = (0 : Int)))).bind fun z1219 => if z1219 = true then ((modM ((x1216 - j1117.2) - shift1214.1) other1001.1).bind fun z1218 => some (decide (z1218 = (0 : Int)))) else some false) else some false).bind fun z1222 => if z1222 = true then ((some ((some x1216))).bind fun (due1224 : (Option Int)) => some due1224) else (some l1215)) z1225 (none : (Option Int))).bind fun (l1226 : (Option Int)) => (F_meet_at (j1117.2, one942.1) ((j1117.2 + shift1214.1), other1001.1)).bind fun (told1227 : (Option Int)) => (((F__law_same ((kO kI) told1227) ((kO kI) l1226)).bind fun z1228 => some (!z1228)).bind fun z1234 => if z1234 = true then some true else ((((F__law_divisor one942.1 other1001.1).bind fun z1231 => modM shift1214.1 z1231).bind fun z1232 => some (decide (z1232 = (0 : Int)))).bind fun z1233 => some ((l1226.isNone == z1233)))).bind fun z1236 => if z1236 = true then (some ((false, shift1214.2))) else (((some (l1226.isNone)).bind fun z1243 => if z1243 = true then some true else ((((l1226).bind fun z1238 => some ((z1238 + both1004))).bind fun z1239 => F_departs_at (j1117.2, one942.1) z1239).bind fun z1242 => if z1242 = true then (((l1226).bind fun z1240 => some ((z1240 + both1004))).bind fun z1241 => F_departs_at ((j1117.2 + shift1214.1), other1001.1) z1241) else some false)).bind fun z1244 => some ((z1244, shift1214.2)))))))
abbrev s__law_meetings : Stmt := topS 31
theorem sc__law_meetings : FnScope ["script", "draws", "one", "other", "both", "first", "services", "shift", "due", "minute", "told"] ["script", "draws"] (defScope s__law_meetings) := ⟨rfl, rfl, rfl, by decide +kernel, rfl, by decide +kernel, by decide +kernel⟩
abbrev ca__law_meetings := (fun (b : ((List Int) × List Int)) => (⟨1, [some (.im ((kL kI) b.1)), some (.rf 0)], [b.2.map kI]⟩ : Ct))
abbrev FF__law_meetings := (fun (b : ((List Int) × List Int)) => F__law_meetings b.1 b.2)
abbrev rs__law_meetings : (Bool × List Int) → Sl := (fun (g : (Bool × List Int)) => .im (kB g.1))
abbrev cr__law_meetings : (Bool × List Int) → Ct := (fun (g : (Bool × List Int)) => (⟨1, [], [g.2.map kI]⟩ : Ct))
abbrev ps__law_meetings : List Str := ["script", "draws"]
set_option maxHeartbeats 4000000 in
theorem ok__law_meetings {P : Program} {w : World} {K : PySem.W.Frag} {mg : Str → Option Value} {base : Heap} {f : Addr} {fd : FuncData} (FU : Fun K "_law_meetings" "_law_meetings" s__law_meetings f fd) (T : Fa mg) {f__law_take : Addr} {fd__law_take : FuncData} (C__law_take : Own P w K mg base 1 "_law_take" f__law_take fd__law_take ps__law_take ca__law_take FF__law_take rs__law_take cr__law_take) {f__law_divisor : Addr} {fd__law_divisor : FuncData} (C__law_divisor : Own P w K mg base 1 "_law_divisor" f__law_divisor fd__law_divisor ps__law_divisor ca__law_divisor FF__law_divisor rs__law_divisor cr__law_divisor) {f__law_same : Addr} {fd__law_same : FuncData} (C__law_same : Own P w K mg base 4 "_law_same" f__law_same fd__law_same ps__law_same ca__law_same FF__law_same rs__law_same cr__law_same) {f_meets_again : Addr} {fd_meets_again : FuncData} (C_meets_again : Own P w K mg base 1 "meets_again" f_meets_again fd_meets_again ps_meets_again ca_meets_again FF_meets_again rs_meets_again cr_meets_again) {f_round_of : Addr} {fd_round_of : FuncData} (C_round_of : Own P w K mg base 1 "round_of" f_round_of fd_round_of ps_round_of ca_round_of FF_round_of rs_round_of cr_round_of) {f__law_cell : Addr} {fd__law_cell : FuncData} (C__law_cell : Own P w K mg base 1 "_law_cell" f__law_cell fd__law_cell ps__law_cell ca__law_cell FF__law_cell rs__law_cell cr__law_cell) {f_meet_at : Addr} {fd_meet_at : FuncData} (C_meet_at : Own P w K mg base 2 "meet_at" f_meet_at fd_meet_at ps_meet_at ca_meet_at FF_meet_at rs_meet_at cr_meet_at) {f_departures_in : Addr} {fd_departures_in : FuncData} (C_departures_in : Own P w K mg base 2 "departures_in" f_departures_in fd_departures_in ps_departures_in ca_departures_in FF_departures_in rs_departures_in cr_departures_in) {f_next_of : Addr} {fd_next_of : FuncData} (C_next_of : Own P w K mg base 2 "next_of" f_next_of fd_next_of ps_next_of ca_next_of FF_next_of rs_next_of cr_next_of) {f_departs_at : Addr} {fd_departs_at : FuncData} (C_departs_at : Own P w K mg base 1 "departs_at" f_departs_at fd_departs_at ps_departs_at ca_departs_at FF_departs_at rs_departs_at cr_departs_at) :
    FnOk P w K mg base CX0 5 f fd ps__law_meetings (PrF K ca__law_meetings FF__law_meetings rs__law_meetings cr__law_meetings) := by
  have sc := sc__law_meetings
  refine fn_ok FU sc__law_meetings (fun _ => rfl) (fun cdv A outer s H E B b hr => ?_)
  obtain ⟨script882, draws883⟩ := b
  have D__law_take : Df P w K mg base (A.deeper (envOfC "_law_meetings" (defScope s__law_meetings) s.heap.objs.size f cdv)) 1 "_law_take" f__law_take fd__law_take ps__law_take ca__law_take FF__law_take rs__law_take cr__law_take := ⟨C__law_take.G, hr.mono (by decide), C__law_take.hm, C__law_take.hk, C__law_take.hb⟩
  have D__law_divisor : Df P w K mg base (A.deeper (envOfC "_law_meetings" (defScope s__law_meetings) s.heap.objs.size f cdv)) 1 "_law_divisor" f__law_divisor fd__law_divisor ps__law_divisor ca__law_divisor FF__law_divisor rs__law_divisor cr__law_divisor := ⟨C__law_divisor.G, hr.mono (by decide), C__law_divisor.hm, C__law_divisor.hk, C__law_divisor.hb⟩
  have D__law_same : Df P w K mg base (A.deeper (envOfC "_law_meetings" (defScope s__law_meetings) s.heap.objs.size f cdv)) 4 "_law_same" f__law_same fd__law_same ps__law_same ca__law_same FF__law_same rs__law_same cr__law_same := ⟨C__law_same.G, hr.mono (by decide), C__law_same.hm, C__law_same.hk, C__law_same.hb⟩
  have D_meets_again : Df P w K mg base (A.deeper (envOfC "_law_meetings" (defScope s__law_meetings) s.heap.objs.size f cdv)) 1 "meets_again" f_meets_again fd_meets_again ps_meets_again ca_meets_again FF_meets_again rs_meets_again cr_meets_again := ⟨C_meets_again.G, hr.mono (by decide), C_meets_again.hm, C_meets_again.hk, C_meets_again.hb⟩
  have D_round_of : Df P w K mg base (A.deeper (envOfC "_law_meetings" (defScope s__law_meetings) s.heap.objs.size f cdv)) 1 "round_of" f_round_of fd_round_of ps_round_of ca_round_of FF_round_of rs_round_of cr_round_of := ⟨C_round_of.G, hr.mono (by decide), C_round_of.hm, C_round_of.hk, C_round_of.hb⟩
  have D__law_cell : Df P w K mg base (A.deeper (envOfC "_law_meetings" (defScope s__law_meetings) s.heap.objs.size f cdv)) 1 "_law_cell" f__law_cell fd__law_cell ps__law_cell ca__law_cell FF__law_cell rs__law_cell cr__law_cell := ⟨C__law_cell.G, hr.mono (by decide), C__law_cell.hm, C__law_cell.hk, C__law_cell.hb⟩
  have D_meet_at : Df P w K mg base (A.deeper (envOfC "_law_meetings" (defScope s__law_meetings) s.heap.objs.size f cdv)) 2 "meet_at" f_meet_at fd_meet_at ps_meet_at ca_meet_at FF_meet_at rs_meet_at cr_meet_at := ⟨C_meet_at.G, hr.mono (by decide), C_meet_at.hm, C_meet_at.hk, C_meet_at.hb⟩
  have D_departures_in : Df P w K mg base (A.deeper (envOfC "_law_meetings" (defScope s__law_meetings) s.heap.objs.size f cdv)) 2 "departures_in" f_departures_in fd_departures_in ps_departures_in ca_departures_in FF_departures_in rs_departures_in cr_departures_in := ⟨C_departures_in.G, hr.mono (by decide), C_departures_in.hm, C_departures_in.hk, C_departures_in.hb⟩
  have D_next_of : Df P w K mg base (A.deeper (envOfC "_law_meetings" (defScope s__law_meetings) s.heap.objs.size f cdv)) 2 "next_of" f_next_of fd_next_of ps_next_of ca_next_of FF_next_of rs_next_of cr_next_of := ⟨C_next_of.G, hr.mono (by decide), C_next_of.hm, C_next_of.hk, C_next_of.hb⟩
  have D_departs_at : Df P w K mg base (A.deeper (envOfC "_law_meetings" (defScope s__law_meetings) s.heap.objs.size f cdv)) 1 "departs_at" f_departs_at fd_departs_at ps_departs_at ca_departs_at FF_departs_at rs_departs_at cr_departs_at := ⟨C_departs_at.G, hr.mono (by decide), C_departs_at.hm, C_departs_at.hk, C_departs_at.hb⟩
  show MB _ B (⟨1, [some (.im ((kL kI) script882)), some (.rf 0), none, none, none, none, none, none, none, none, none], [draws883.map kI]⟩ : Ct) _ (F__law_meetings script882 draws883) _
  unfold F__law_meetings
  exact (mb_cons (ms_set 2 sc.nd (mx_op (cx := (fun (dr941 : List Int) => (⟨1, [some (.im ((kL kI) script882)), some (.rf 0), none, none, none, none, none, none, none, none, none], [dr941.map kI]⟩ : Ct))) (t1 := fun (z : Int) => .im (kI z)) (t2 := fun (z : Int) => .im (kI z)) (k := kI) (f := fun z937 z938 => some ((z937 + z938))) op_add (mx_V (cx := (fun (dr919 : List Int) => (⟨1, [some (.im ((kL kI) script882)), some (.rf 0), none, none, none, none, none, none, none, none, none], [dr919.map kI]⟩ : Ct))) (ds := draws883) (k := kI) (v := (1 : Int)) mv_int) (fun z937 ds939 => (mx_callD (F := FF__law_take) (cx := (fun (dr936 : List Int) => (⟨1, [some (.im ((kL kI) script882)), some (.rf 0), none, none, none, none, none, none, none, none, none], [dr936.map kI]⟩ : Ct))) (k := kI) (ss := (fun (z934 : (Unit × (Int × Unit))) => [.rf 0, .im (kI z934.2.1)])) (fun (z934 : (Unit × (Int × Unit))) (ds935 : List Int) => (ds935, z934.2.1)) D__law_take (by rfl) (max_cons (cx := (fun (dr932 : List Int) => (⟨1, [some (.im ((kL kI) script882)), some (.rf 0), none, none, none, none, none, none, none, none, none], [dr932.map kI]⟩ : Ct))) (t1 := fun (_ : Unit) => .rf 0) (m2 := fun z929 ds931 => (some ((70 : Int), ds931)).bind fun z925 => (some ((), z925.2)).bind fun z926 => some ((z925.1, z926.1), z926.2)) (mx_S (cx := (fun (dr921 : List Int) => (⟨1, [some (.im ((kL kI) script882)), some (.rf 0), none, none, none, none, none, none, none, none, none], [dr921.map kI]⟩ : Ct))) (ds := ds939) (s := .rf 0) (mv_name 1 rfl)) (fun z929 ds931 => (max_cons (cx := (fun (dr928 : List Int) => (⟨1, [some (.im ((kL kI) script882)), some (.rf 0), none, none, none, none, none, none, none, none, none], [dr928.map kI]⟩ : Ct))) (t1 := fun (z : Int) => .im (kI z)) (m2 := fun z925 ds927 => some ((), ds927)) (mx_V (cx := (fun (dr923 : List Int) => (⟨1, [some (.im ((kL kI) script882)), some (.rf 0), none, none, none, none, none, none, none, none, none], [dr923.map kI]⟩ : Ct))) (ds := ds931) (k := kI) (v := (70 : Int)) mv_int) (fun z925 ds927 => (max_nil (cx := (fun (dr924 : List Int) => (⟨1, [some (.im ((kL kI) script882)), some (.rf 0), none, none, none, none, none, none, none, none, none], [dr924.map kI]⟩ : Ct)))))))) (hss := (fun _ s hs i e => by subst e; simpa using hs)))) (fun z937 z938 ds939 => o2_add.up))) (fun one942 => (mb_cons (ms_set 3 sc.nd (mx_op (cx := (fun (dr1000 : List Int) => (⟨1, [some (.im ((kL kI) script882)), some (.rf 0), some (.im (kI one942.1)), none, none, none, none, none, none, none, none], [dr1000.map kI]⟩ : Ct))) (t1 := fun (z : Int) => .im (kI z)) (t2 := fun (z : Int) => .im (kI z)) (k := kI) (f := fun z996 z997 => some ((z996 + z997))) op_add (mx_V (cx := (fun (dr978 : List Int) => (⟨1, [some (.im ((kL kI) script882)), some (.rf 0), some (.im (kI one942.1)), none, none, none, none, none, none, none, none], [dr978.map kI]⟩ : Ct))) (ds := one942.2) (k := kI) (v := (1 : Int)) mv_int) (fun z996 ds998 => (mx_callD (F := FF__law_take) (cx := (fun (dr995 : List Int) => (⟨1, [some (.im ((kL kI) script882)), some (.rf 0), some (.im (kI one942.1)), none, none, none, none, none, none, none, none], [dr995.map kI]⟩ : Ct))) (k := kI) (ss := (fun (z993 : (Unit × (Int × Unit))) => [.rf 0, .im (kI z993.2.1)])) (fun (z993 : (Unit × (Int × Unit))) (ds994 : List Int) => (ds994, z993.2.1)) D__law_take (by rfl) (max_cons (cx := (fun (dr991 : List Int) => (⟨1, [some (.im ((kL kI) script882)), some (.rf 0), some (.im (kI one942.1)), none, none, none, none, none, none, none, none], [dr991.map kI]⟩ : Ct))) (t1 := fun (_ : Unit) => .rf 0) (m2 := fun z988 ds990 => (some ((70 : Int), ds990)).bind fun z984 => (some ((), z984.2)).bind fun z985 => some ((z984.1, z985.1), z985.2)) (mx_S (cx := (fun (dr980 : List Int) => (⟨1, [some (.im ((kL kI) script882)), some (.rf 0), some (.im (kI one942.1)), none, none, none, none, none, none, none, none], [dr980.map kI]⟩ : Ct))) (ds := ds998) (s := .rf 0) (mv_name 1 rfl)) (fun z988 ds990 => (max_cons (cx := (fun (dr987 : List Int) => (⟨1, [some (.im ((kL kI) script882)), some (.rf 0), some (.im (kI one942.1)), none, none, none, none, none, none, none, none], [dr987.map kI]⟩ : Ct))) (t1 := fun (z : Int) => .im (kI z)) (m2 := fun z984 ds986 => some ((), ds986)) (mx_V (cx := (fun (dr982 : List Int) => (⟨1, [some (.im ((kL kI) script882)), some (.rf 0), some (.im (kI one942.1)), none, none, none, none, none, none, none, none], [dr982.map kI]⟩ : Ct))) (ds := ds990) (k := kI) (v := (70 : Int)) mv_int) (fun z984 ds986 => (max_nil (cx := (fun (dr983 : List Int) => (⟨1, [some (.im ((kL kI) script882)), some (.rf 0), some (.im (kI one942.1)), none, none, none, none, none, none, none, none], [dr983.map kI]⟩ : Ct)))))))) (hss := (fun _ s hs i e => by subst e; simpa using hs)))) (fun z996 z997 ds998 => o2_add.up))) (fun other1001 => (mb_cons (ms_set 4 sc.nd (mp_opPP (k1 := kI) (k2 := kI) (k := kI) (f := fun z1002 z1003 => fdivM z1002 z1003) op_fdivA (mp_opVV (k := kI) op_mulA (mv_name 2 rfl) (mv_name 3 rfl) o2_mulM) (mp_call (F := FF__law_divisor) (k := kI) (one942.1, other1001.1) D__law_divisor (by rfl) (mai_cons (d := kI one942.1) (mv_name 2 rfl) (mai_cons (d := kI other1001.1) (mv_name 3 rfl) mai_nil))) (fun z1002 z1003 => o2_fdivM))) (fun both1004 => (mb_ixP (PW.pt (mwp_or (mtp_not (mt_val (b := fun b => b) (mp_callP (F := FF__law_same) (k := kB) (fun (z1006 : D) => (z1006, (kI both1004))) D__law_same (by rfl) (map_consP (k1 := kD) (mp_re (k1 := kI) (k2 := kD) (f := kI) (mp_call (F := FF_meets_again) (k := kI) (one942.1, other1001.1) D_meets_again (by rfl) (mai_cons (d := kI one942.1) (mv_name 2 rfl) (mai_cons (d := kI other1001.1) (mv_name 3 rfl) mai_nil)))) (mai_cons (d := kD (kI both1004)) (mv_as (s' := .im (kD (kI both1004))) (mv_name 4 rfl)) mai_nil))))) (mw_or1 (mtp_not (mt_val (b := fun b => b) (mp_callP (F := FF__law_same) (k := kB) (fun (z1009 : D) => (z1009, (kI both1004))) D__law_same (by rfl) (map_consP (k1 := kD) (mp_re (k1 := kI) (k2 := kD) (f := kI) (mp_call (F := FF_round_of) (k := kI) [((0 : Int), one942.1), ((0 : Int), other1001.1)] D_round_of (by rfl) (mai_cons (d := (kU (kT2 kI kI)) [((0 : Int), one942.1), ((0 : Int), other1001.1)]) (mv_as (s' := .im ((kU (kT2 kI kI)) [((0 : Int), one942.1), ((0 : Int), other1001.1)])) (mv_tup (mai_cons (d := (kT2 kI kI) ((0 : Int), one942.1)) (mv_as (s' := .im ((kT2 kI kI) ((0 : Int), one942.1))) (mv_tup (mai_cons (d := kI (0 : Int)) mv_int (mai_cons (d := kI one942.1) (mv_name 2 rfl) mai_nil)))) (mai_cons (d := (kT2 kI kI) ((0 : Int), other1001.1)) (mv_as (s' := .im ((kT2 kI kI) ((0 : Int), other1001.1))) (mv_tup (mai_cons (d := kI (0 : Int)) mv_int (mai_cons (d := kI other1001.1) (mv_name 3 rfl) mai_nil)))) mai_nil)))) mai_nil))) (mai_cons (d := kD (kI both1004)) (mv_as (s' := .im (kD (kI both1004))) (mv_name 4 rfl)) mai_nil)))))))) (mb_one (ms_retV (w := (false, other1001.2)) mv_bl rfl)) (by repeat' (first | exact out_rt | exact out_some (by intro _ h; cases h) | refine out_elim (fun _ => ?_) (fun _ => ?_) | refine out_bind (fun _ => ?_) | refine out_ite ?_ ?_)) (mb_cons (ms_set 5 sc.nd (mx_op (cx := (fun (dr1038 : List Int) => (⟨1, [some (.im ((kL kI) script882)), some (.rf 0), some (.im (kI one942.1)), some (.im (kI other1001.1)), some (.im (kI both1004)), none, none, none, none, none, none], [dr1038.map kI]⟩ : Ct))) (t1 := fun (z : Int) => .im (kI z)) (t2 := fun (z : Int) => .im (kI z)) (k := kI) (f := fun z1034 z1035 => some ((z1034 - z1035))) op_sub (mx_callD (F := FF__law_take) (cx := (fun (dr1031 : List Int) => (⟨1, [some (.im ((kL kI) script882)), some (.rf 0), some (.im (kI one942.1)), some (.im (kI other1001.1)), some (.im (kI both1004)), none, none, none, none, none, none], [dr1031.map kI]⟩ : Ct))) (k := kI) (ss := (fun (z1029 : (Unit × (Int × Unit))) => [.rf 0, .im (kI z1029.2.1)])) (fun (z1029 : (Unit × (Int × Unit))) (ds1030 : List Int) => (ds1030, z1029.2.1)) D__law_take (by rfl) (max_cons (cx := (fun (dr1027 : List Int) => (⟨1, [some (.im ((kL kI) script882)), some (.rf 0), some (.im (kI one942.1)), some (.im (kI other1001.1)), some (.im (kI both1004)), none, none, none, none, none, none], [dr1027.map kI]⟩ : Ct))) (t1 := fun (_ : Unit) => .rf 0) (m2 := fun z1024 ds1026 => (some ((99 : Int), ds1026)).bind fun z1020 => (some ((), z1020.2)).bind fun z1021 => some ((z1020.1, z1021.1), z1021.2)) (mx_S (cx := (fun (dr1016 : List Int) => (⟨1, [some (.im ((kL kI) script882)), some (.rf 0), some (.im (kI one942.1)), some (.im (kI other1001.1)), some (.im (kI both1004)), none, none, none, none, none, none], [dr1016.map kI]⟩ : Ct))) (ds := other1001.2) (s := .rf 0) (mv_name 1 rfl)) (fun z1024 ds1026 => (max_cons (cx := (fun (dr1023 : List Int) => (⟨1, [some (.im ((kL kI) script882)), some (.rf 0), some (.im (kI one942.1)), some (.im (kI other1001.1)), some (.im (kI both1004)), none, none, none, none, none, none], [dr1023.map kI]⟩ : Ct))) (t1 := fun (z : Int) => .im (kI z)) (m2 := fun z1020 ds1022 => some ((), ds1022)) (mx_V (cx := (fun (dr1018 : List Int) => (⟨1, [some (.im ((kL kI) script882)), some (.rf 0), some (.im (kI one942.1)), some (.im (kI other1001.1)), some (.im (kI both1004)), none, none, none, none, none, none], [dr1018.map kI]⟩ : Ct))) (ds := ds1026) (k := kI) (v := (99 : Int)) mv_int) (fun z1020 ds1022 => (max_nil (cx := (fun (dr1019 : List Int) => (⟨1, [some (.im ((kL kI) script882)), some (.rf 0), some (.im (kI one942.1)), some (.im (kI other1001.1)), some (.im (kI both1004)), none, none, none, none, none, none], [dr1019.map kI]⟩ : Ct)))))))) (hss := (fun _ s hs i e => by subst e; simpa using hs))) (fun z1034 ds1036 => (mx_V (cx := (fun (dr1033 : List Int) => (⟨1, [some (.im ((kL kI) script882)), some (.rf 0), some (.im (kI one942.1)), some (.im (kI other1001.1)), some (.im (kI both1004)), none, none, none, none, none, none], [dr1033.map kI]⟩ : Ct))) (ds := ds1036) (k := kI) (v := (50 : Int)) mv_int)) (fun z1034 z1035 ds1036 => o2_sub.up))) (fun first1039 => (mb_cons (c1 := (fun (j1117 : ((List Int) × Int)) => (⟨1, [some (.im ((kL kI) script882)), some (.rf 0), some (.im (kI one942.1)), some (.im (kI other1001.1)), some (.im (kI both1004)), some (.im (kI j1117.2)), none, none, none, none, none], [j1117.1.map kI]⟩ : Ct))) (ms_ifX (cx := (fun (dr1169 : List Int) => (⟨1, [some (.im ((kL kI) script882)), some (.rf 0), some (.im (kI one942.1)), some (.im (kI other1001.1)), some (.im (kI both1004)), some (.im (kI first1039.1)), none, none, none, none, none], [dr1169.map kI]⟩ : Ct))) (x1 := fun ds1065 => (((some (script882, ds1065)).bind fun z1160 => ((((some ((), z1160.2)).bind fun z1146 => ((some ((63 : Int), z1146.2)).bind fun z1142 => (some ((), z1142.2)).bind fun z1143 => some ((z1142.1, z1143.1), z1143.2)).bind fun z1147 => some ((z1146.1, z1147.1), z1147.2)).bind fun z1150 => F__law_take z1150.2 z1150.1.2.1).bind fun z1156 => (some ((), z1156.2)).bind fun z1157 => some ((z1156.1, z1157.1), z1157.2)).bind fun z1161 => some ((z1160.1, z1161.1), z1161.2)).bind fun z1164 => (F__law_cell z1164.1.1 z1164.1.2.1).bind fun z1165 => some (z1165, z1164.2)).bind fun (first1168 : Int × List Int) => some (first1168.2, first1168.1)) (x2 := fun ds1065 => some (ds1065, first1039.1)) (mtx_cmp (cx := (fun (dr1062 : List Int) => (⟨1, [some (.im ((kL kI) script882)), some (.rf 0), some (.im (kI one942.1)), some (.im (kI other1001.1)), some (.im (kI both1004)), some (.im (kI first1039.1)), none, none, none, none, none], [dr1062.map kI]⟩ : Ct))) (t1 := fun (z : Int) => .im (kI z)) (t2 := fun (z : Int) => .im (kI z)) (f := fun z1059 z1060 => decide (z1059 = z1060)) op_eq (mx_callD (F := FF__law_take) (cx := (fun (dr1056 : List Int) => (⟨1, [some (.im ((kL kI) script882)), some (.rf 0), some (.im (kI one942.1)), some (.im (kI other1001.1)), some (.im (kI both1004)), some (.im (kI first1039.1)), none, none, none, none, none], [dr1056.map kI]⟩ : Ct))) (k := kI) (ss := (fun (z1054 : (Unit × (Int × Unit))) => [.rf 0, .im (kI z1054.2.1)])) (fun (z1054 : (Unit × (Int × Unit))) (ds1055 : List Int) => (ds1055, z1054.2.1)) D__law_take (by rfl) (max_cons (cx := (fun (dr1052 : List Int) => (⟨1, [some (.im ((kL kI) script882)), some (.rf 0), some (.im (kI one942.1)), some (.im (kI other1001.1)), some (.im (kI both1004)), some (.im (kI first1039.1)), none, none, none, none, none], [dr1052.map kI]⟩ : Ct))) (t1 := fun (_ : Unit) => .rf 0) (m2 := fun z1049 ds1051 => (some ((3 : Int), ds1051)).bind fun z1045 => (some ((), z1045.2)).bind fun z1046 => some ((z1045.1, z1046.1), z1046.2)) (mx_S (cx := (fun (dr1041 : List Int) => (⟨1, [some (.im ((kL kI) script882)), some (.rf 0), some (.im (kI one942.1)), some (.im (kI other1001.1)), some (.im (kI both1004)), some (.im (kI first1039.1)), none, none, none, none, none], [dr1041.map kI]⟩ : Ct))) (ds := first1039.2) (s := .rf 0) (mv_name 1 rfl)) (fun z1049 ds1051 => (max_cons (cx := (fun (dr1048 : List Int) => (⟨1, [some (.im ((kL kI) script882)), some (.rf 0), some (.im (kI one942.1)), some (.im (kI other1001.1)), some (.im (kI both1004)), some (.im (kI first1039.1)), none, none, none, none, none], [dr1048.map kI]⟩ : Ct))) (t1 := fun (z : Int) => .im (kI z)) (m2 := fun z1045 ds1047 => some ((), ds1047)) (mx_V (cx := (fun (dr1043 : List Int) => (⟨1, [some (.im ((kL kI) script882)), some (.rf 0), some (.im (kI one942.1)), some (.im (kI other1001.1)), some (.im (kI both1004)), some (.im (kI first1039.1)), none, none, none, none, none], [dr1043.map kI]⟩ : Ct))) (ds := ds1051) (k := kI) (v := (3 : Int)) mv_int) (fun z1045 ds1047 => (max_nil (cx := (fun (dr1044 : List Int) => (⟨1, [some (.im ((kL kI) script882)), some (.rf 0), some (.im (kI one942.1)), some (.im (kI other1001.1)), some (.im (kI both1004)), some (.im (kI first1039.1)), none, none, none, none, none], [dr1044.map kI]⟩ : Ct)))))))) (hss := (fun _ s hs i e => by subst e; simpa using hs))) (fun z1059 ds1061 => (mx_V (cx := (fun (dr1058 : List Int) => (⟨1, [some (.im ((kL kI) script882)), some (.rf 0), some (.im (kI one942.1)), some (.im (kI other1001.1)), some (.im (kI both1004)), some (.im (kI first1039.1)), none, none, none, none, none], [dr1058.map kI]⟩ : Ct))) (ds := ds1061) (k := kI) (v := (0 : Int)) mv_int)) (fun z1059 z1060 ds1061 => o2_eqI)) (fun ds1065 => (mb_cons (ms_set 5 sc.nd (mx_call (F := FF__law_cell) (cx := (fun (dr1167 : List Int) => (⟨1, [some (.im ((kL kI) script882)), some (.rf 0), some (.im (kI one942.1)), some (.im (kI other1001.1)), some (.im (kI both1004)), some (.im (kI first1039.1)), none, none, none, none, none], [dr1167.map kI]⟩ : Ct))) (k := kI) (ds := fun (z1166 : ((List Int) × (Int × Unit))) => [(kL kI) z1166.1, kI z1166.2.1]) (fun (z1166 : ((List Int) × (Int × Unit))) => (z1166.1, z1166.2.1)) D__law_cell (by rfl) (max_cons (cx := (fun (dr1163 : List Int) => (⟨1, [some (.im ((kL kI) script882)), some (.rf 0), some (.im (kI one942.1)), some (.im (kI other1001.1)), some (.im (kI both1004)), some (.im (kI first1039.1)), none, none, none, none, none], [dr1163.map kI]⟩ : Ct))) (t1 := fun (z : (List Int)) => .im ((kL kI) z)) (m2 := fun z1160 ds1162 => (((some ((), ds1162)).bind fun z1146 => ((some ((63 : Int), z1146.2)).bind fun z1142 => (some ((), z1142.2)).bind fun z1143 => some ((z1142.1, z1143.1), z1143.2)).bind fun z1147 => some ((z1146.1, z1147.1), z1147.2)).bind fun z1150 => F__law_take z1150.2 z1150.1.2.1).bind fun z1156 => (some ((), z1156.2)).bind fun z1157 => some ((z1156.1, z1157.1), z1157.2)) (mx_V (cx := (fun (dr1135 : List Int) => (⟨1, [some (.im ((kL kI) script882)), some (.rf 0), some (.im (kI one942.1)), some (.im (kI other1001.1)), some (.im (kI both1004)), some (.im (kI first1039.1)), none, none, none, none, none], [dr1135.map kI]⟩ : Ct))) (ds := ds1065) (k := (kL kI)) (v := script882) (mv_name 0 rfl)) (fun z1160 ds1162 => (max_cons (cx := (fun (dr1159 : List Int) => (⟨1, [some (.im ((kL kI) script882)), some (.rf 0), some (.im (kI one942.1)), some (.im (kI other1001.1)), some (.im (kI both1004)), some (.im (kI first1039.1)), none, none, none, none, none], [dr1159.map kI]⟩ : Ct))) (t1 := fun (z : Int) => .im (kI z)) (m2 := fun z1156 ds1158 => some ((), ds1158)) (mx_callD (F := FF__law_take) (cx := (fun (dr1153 : List Int) => (⟨1, [some (.im ((kL kI) script882)), some (.rf 0), some (.im (kI one942.1)), some (.im (kI other1001.1)), some (.im (kI both1004)), some (.im (kI first1039.1)), none, none, none, none, none], [dr1153.map kI]⟩ : Ct))) (k := kI) (ss := (fun (z1151 : (Unit × (Int × Unit))) => [.rf 0, .im (kI z1151.2.1)])) (fun (z1151 : (Unit × (Int × Unit))) (ds1152 : List Int) => (ds1152, z1151.2.1)) D__law_take (by rfl) (max_cons (cx := (fun (dr1149 : List Int) => (⟨1, [some (.im ((kL kI) script882)), some (.rf 0), some (.im (kI one942.1)), some (.im (kI other1001.1)), some (.im (kI both1004)), some (.im (kI first1039.1)), none, none, none, none, none], [dr1149.map kI]⟩ : Ct))) (t1 := fun (_ : Unit) => .rf 0) (m2 := fun z1146 ds1148 => (some ((63 : Int), ds1148)).bind fun z1142 => (some ((), z1142.2)).bind fun z1143 => some ((z1142.1, z1143.1), z1143.2)) (mx_S (cx := (fun (dr1138 : List Int) => (⟨1, [some (.im ((kL kI) script882)), some (.rf 0), some (.im (kI one942.1)), some (.im (kI other1001.1)), some (.im (kI both1004)), some (.im (kI first1039.1)), none, none, none, none, none], [dr1138.map kI]⟩ : Ct))) (ds := ds1162) (s := .rf 0) (mv_name 1 rfl)) (fun z1146 ds1148 => (max_cons (cx := (fun (dr1145 : List Int) => (⟨1, [some (.im ((kL kI) script882)), some (.rf 0), some (.im (kI one942.1)), some (.im (kI other1001.1)), some (.im (kI both1004)), some (.im (kI first1039.1)), none, none, none, none, none], [dr1145.map kI]⟩ : Ct))) (t1 := fun (z : Int) => .im (kI z)) (m2 := fun z1142 ds1144 => some ((), ds1144)) (mx_V (cx := (fun (dr1140 : List Int) => (⟨1, [some (.im ((kL kI) script882)), some (.rf 0), some (.im (kI one942.1)), some (.im (kI other1001.1)), some (.im (kI both1004)), some (.im (kI first1039.1)), none, none, none, none, none], [dr1140.map kI]⟩ : Ct))) (ds := ds1148) (k := kI) (v := (63 : Int)) mv_int) (fun z1142 ds1144 => (max_nil (cx := (fun (dr1141 : List Int) => (⟨1, [some (.im ((kL kI) script882)), some (.rf 0), some (.im (kI one942.1)), some (.im (kI other1001.1)), some (.im (kI both1004)), some (.im (kI first1039.1)), none, none, none, none, none], [dr1141.map kI]⟩ : Ct)))))))) (hss := (fun _ s hs i e => by subst e; simpa using hs))) (fun z1156 ds1158 => (max_nil (cx := (fun (dr1155 : List Int) => (⟨1, [some (.im ((kL kI) script882)), some (.rf 0), some (.im (kI one942.1)), some (.im (kI other1001.1)), some (.im (kI both1004)), some (.im (kI first1039.1)), none, none, none, none, none], [dr1155.map kI]⟩ : Ct)))))))))) (fun first1168 => (mb_end (w := (first1168.2, first1168.1)) (c' := (⟨1, [some (.im ((kL kI) script882)), some (.rf 0), some (.im (kI one942.1)), some (.im (kI other1001.1)), some (.im (kI both1004)), some (.im (kI first1168.1)), none, none, none, none, none], [first1168.2.map kI]⟩ : Ct)) (Wk.rm [0] [true, true, true, true, true, true, false, false, false, false, false] rfl) rfl)))) (fun ds1065 => (mb_end (w := (ds1065, first1039.1)) (c' := (⟨1, [some (.im ((kL kI) script882)), some (.rf 0), some (.im (kI one942.1)), some (.im (kI other1001.1)), some (.im (kI both1004)), some (.im (kI first1039.1)), none, none, none, none, none], [ds1065.map kI]⟩ : Ct)) (Wk.rm [0] [true, true, true, true, true, true, false, false, false, false, false] rfl) rfl))) (fun j1117 => (mb_cons (ms_set 6 sc.nd (mp (k := (kT2 (kT2 kI kI) (kT2 kI kI))) (x := ((j1117.2, one942.1), (j1117.2, other1001.1))) (mv_as (s' := .im ((kT2 (kT2 kI kI) (kT2 kI kI)) ((j1117.2, one942.1), (j1117.2, other1001.1)))) (mv_tup (mai_cons (d := (kT2 kI kI) (j1117.2, one942.1)) (mv_as (s' := .im ((kT2 kI kI) (j1117.2, one942.1))) (mv_tup (mai_cons (d := kI j1117.2) (mv_name 5 rfl) (mai_cons (d := kI one942.1) (mv_name 2 rfl) mai_nil)))) (mai_cons (d := (kT2 kI kI) (j1117.2, other1001.1)) (mv_as (s' := .im ((kT2 kI kI) (j1117.2, other1001.1))) (mv_tup (mai_cons (d := kI j1117.2) (mv_name 5 rfl) (mai_cons (d := kI other1001.1) (mv_name 3 rfl) mai_nil)))) mai_nil)))))) (fun services1170 => (mb_ixP (mtp_not (mt_val (b := fun b => b) (mp_callP (F := FF__law_same) (k := kB) (fun (z1175 : (D × D)) => (z1175.1, z1175.2)) D__law_same (by rfl) (map_consPP (k1 := kD) (mp_re (k1 := (kO kI)) (k2 := kD) (f := (kO kI)) (mp_call (F := FF_meet_at) (k := (kO kI)) ((j1117.2, one942.1), (j1117.2, other1001.1)) D_meet_at (by rfl) (mai_cons (d := (kT2 kI kI) (j1117.2, one942.1)) (mv_as (s' := .im ((kT2 kI kI) (j1117.2, one942.1))) (mv_tup (mai_cons (d := kI j1117.2) (mv_name 5 rfl) (mai_cons (d := kI one942.1) (mv_name 2 rfl) mai_nil)))) (mai_cons (d := (kT2 kI kI) (j1117.2, other1001.1)) (mv_as (s' := .im ((kT2 kI kI) (j1117.2, other1001.1))) (mv_tup (mai_cons (d := kI j1117.2) (mv_name 5 rfl) (mai_cons (d := kI other1001.1) (mv_name 3 rfl) mai_nil)))) mai_nil)))) (map_consP (k1 := kD) (mp_re (k1 := kI) (k2 := kD) (f := kI) (mp_opVV (k := kI) op_modA (mv_callTy call_int1 (by rfl) T.n_int bt_int (mai_cons (d := kI j1117.2) (mv_name 5 rfl) mai_nil) oa_int) (mv_name 4 rfl) o2_modM)) mai_nil))))) (mb_one (ms_retV (w := (false, j1117.1)) mv_bl rfl)) (by repeat' (first | exact out_rt | exact out_some (by intro _ h; cases h) | refine out_elim (fun _ => ?_) (fun _ => ?_) | refine out_bind (fun _ => ?_) | refine out_ite ?_ ?_)) (mb_ixP (mtp_not (mt_val (b := fun b => b) (mp_callP (F := FF__law_same) (k := kB) (fun (z1186 : (D × D)) => (z1186.1, z1186.2)) D__law_same (by rfl) (map_consPP (k1 := kD) (mp_re (k1 := kI) (k2 := kD) (f := kI) (mp_call (F := FF_departures_in) (k := kI) ([services1170.1, services1170.2], j1117.2, (j1117.2 + both1004)) D_departures_in (by rfl) (mai_cons (d := (kU (kT2 kI kI)) [services1170.1, services1170.2]) (mv_as (s' := .im ((kU (kT2 kI kI)) [services1170.1, services1170.2])) (mv_name 6 rfl)) (mai_cons (d := kI j1117.2) (mv_name 5 rfl) (mai_cons (d := kI (j1117.2 + both1004)) (mv_op op_add (mv_name 5 rfl) (mv_name 4 rfl) o2_add) mai_nil))))) (map_consP (k1 := kD) (mp_re (k1 := kI) (k2 := kD) (f := kI) (mp_opPP (k1 := kI) (k2 := kI) (k := kI) (f := fun z1181 z1182 => some ((z1181 + z1182))) op_add (mp_opVV (k := kI) op_fdivA (mv_name 4 rfl) (mv_name 2 rfl) o2_fdivM) (mp_opVV (k := kI) op_fdivA (mv_name 4 rfl) (mv_name 3 rfl) o2_fdivM) (fun z1181 z1182 => o2_add.up))) mai_nil))))) (mb_one (ms_retV (w := (false, j1117.1)) mv_bl rfl)) (by repeat' (first | exact out_rt | exact out_some (by intro _ h; cases h) | refine out_elim (fun _ => ?_) (fun _ => ?_) | refine out_bind (fun _ => ?_) | refine out_ite ?_ ?_)) (mb_ixP (mtp_not (mt_val (b := fun b => b) (mp_callP (F := FF__law_same) (k := kB) (fun (z1192 : D) => (z1192, (kI (j1117.2 + (min one942.1 other1001.1))))) D__law_same (by rfl) (map_consP (k1 := kD) (mp_re (k1 := kI) (k2 := kD) (f := kI) (mp_call (F := FF_next_of) (k := kI) ([services1170.1, services1170.2], (j1117.2 + (1 : Int))) D_next_of (by rfl) (mai_cons (d := (kU (kT2 kI kI)) [services1170.1, services1170.2]) (mv_as (s' := .im ((kU (kT2 kI kI)) [services1170.1, services1170.2])) (mv_name 6 rfl)) (mai_cons (d := kI (j1117.2 + (1 : Int))) (mv_op op_add (mv_name 5 rfl) mv_int o2_add) mai_nil)))) (mai_cons (d := kD (kI (j1117.2 + (min one942.1 other1001.1)))) (mv_as (s' := .im (kD (kI (j1117.2 + (min one942.1 other1001.1))))) (mv_op op_add (mv_name 5 rfl) (mv_callB (call_min2 rfl) (by rfl) T.n_min bt_min (mai_cons (d := kI one942.1) (mv_name 2 rfl) (mai_cons (d := kI other1001.1) (mv_name 3 rfl) mai_nil)) oa_min) o2_add)) mai_nil))))) (mb_one (ms_retV (w := (false, j1117.1)) mv_bl rfl)) (by repeat' (first | exact out_rt | exact out_some (by intro _ h; cases h) | refine out_elim (fun _ => ?_) (fun _ => ?_) | refine out_bind (fun _ => ?_) | refine out_ite ?_ ?_)) (mb_cons (ms_set 7 sc.nd (mx_callD (F := FF__law_take) (cx := (fun (dr1213 : List Int) => (⟨1, [some (.im ((kL kI) script882)), some (.rf 0), some (.im (kI one942.1)), some (.im (kI other1001.1)), some (.im (kI both1004)), some (.im (kI j1117.2)), some (.im ((kT2 (kT2 kI kI) (kT2 kI kI)) services1170)), none, none, none, none], [dr1213.map kI]⟩ : Ct))) (k := kI) (ss := (fun (z1211 : (Unit × (Int × Unit))) => [.rf 0, .im (kI z1211.2.1)])) (fun (z1211 : (Unit × (Int × Unit))) (ds1212 : List Int) => (ds1212, z1211.2.1)) D__law_take (by rfl) (max_cons (cx := (fun (dr1209 : List Int) => (⟨1, [some (.im ((kL kI) script882)), some (.rf 0), some (.im (kI one942.1)), some (.im (kI other1001.1)), some (.im (kI both1004)), some (.im (kI j1117.2)), some (.im ((kT2 (kT2 kI kI) (kT2 kI kI)) services1170)), none, none, none, none], [dr1209.map kI]⟩ : Ct))) (t1 := fun (_ : Unit) => .rf 0) (m2 := fun z1206 ds1208 => (some ((40 : Int), ds1208)).bind fun z1202 => (some ((), z1202.2)).bind fun z1203 => some ((z1202.1, z1203.1), z1203.2)) (mx_S (cx := (fun (dr1198 : List Int) => (⟨1, [some (.im ((kL kI) script882)), some (.rf 0), some (.im (kI one942.1)), some (.im (kI other1001.1)), some (.im (kI both1004)), some (.im (kI j1117.2)), some (.im ((kT2 (kT2 kI kI) (kT2 kI kI)) services1170)), none, none, none, none], [dr1198.map kI]⟩ : Ct))) (ds := j1117.1) (s := .rf 0) (mv_name 1 rfl)) (fun z1206 ds1208 => (max_cons (cx := (fun (dr1205 : List Int) => (⟨1, [some (.im ((kL kI) script882)), some (.rf 0), some (.im (kI one942.1)), some (.im (kI other1001.1)), some (.im (kI both1004)), some (.im (kI j1117.2)), some (.im ((kT2 (kT2 kI kI) (kT2 kI kI)) services1170)), none, none, none, none], [dr1205.map kI]⟩ : Ct))) (t1 := fun (z : Int) => .im (kI z)) (m2 := fun z1202 ds1204 => some ((), ds1204)) (mx_V (cx := (fun (dr1200 : List Int) => (⟨1, [some (.im ((kL kI) script882)), some (.rf 0), some (.im (kI one942.1)), some (.im (kI other1001.1)), some (.im (kI both1004)), some (.im (kI j1117.2)), some (.im ((kT2 (kT2 kI kI) (kT2 kI kI)) services1170)), none, none, none, none], [dr1200.map kI]⟩ : Ct))) (ds := ds1208) (k := kI) (v := (40 : Int)) mv_int) (fun z1202 ds1204 => (max_nil (cx := (fun (dr1201 : List Int) => (⟨1, [some (.im ((kL kI) script882)), some (.rf 0), some (.im (kI one942.1)), some (.im (kI other1001.1)), some (.im (kI both1004)), some (.im (kI j1117.2)), some (.im ((kT2 (kT2 kI kI) (kT2 kI kI)) services1170)), none, none, none, none], [dr1201.map kI]⟩ : Ct)))))))) (hss := (fun _ s hs i e => by subst e; simpa using hs)))) (fun shift1214 => (mb_consV (ms_setV 8 sc.nd (mv_as (s' := .im ((kO kI) none)) mv_non)) (mb_cons (ms_forP (xs := fun (z1225 : List Int) => z1225) (k := kI) (ca := fun (z1225 : List Int) => (⟨1, [some (.im ((kL kI) script882)), some (.rf 0), some (.im (kI one942.1)), some (.im (kI other1001.1)), some (.im (kI both1004)), some (.im (kI j1117.2)), some (.im ((kT2 (kT2 kI kI) (kT2 kI kI)) services1170)), some (.im (kI shift1214.1)), some (.im ((kO kI) (none : (Option Int)))), none, none], [shift1214.2.map kI]⟩ : Ct)) (cL := (fun (l1215 : (Option Int)) => (⟨1, [some (.im ((kL kI) script882)), some (.rf 0), some (.im (kI one942.1)), some (.im (kI other1001.1)), some (.im (kI both1004)), some (.im (kI j1117.2)), some (.im ((kT2 (kT2 kI kI) (kT2 kI kI)) services1170)), some (.im (kI shift1214.1)), some (.im ((kO kI) l1215)), none, none], [shift1214.2.map kI]⟩ : Ct))) (l0 := fun (z1225 : List Int) => (none : (Option Int))) (cT := (fun (x1216 : Int) (l1215 : (Option Int)) => (⟨1, [some (.im ((kL kI) script882)), some (.rf 0), some (.im (kI one942.1)), some (.im (kI other1001.1)), some (.im (kI both1004)), some (.im (kI j1117.2)), some (.im ((kT2 (kT2 kI kI) (kT2 kI kI)) services1170)), some (.im (kI shift1214.1)), some (.im ((kO kI) l1215)), some (.im (kI x1216)), none], [shift1214.2.map kI]⟩ : Ct))) (fB := (fun (x1216 : Int) (l1215 : (Option Int)) => ((some (l1215.isNone)).bind fun z1220 => if z1220 = true then (((modM (x1216 - j1117.2) one942.1).bind fun z1217 => some (decide (z1217 = (0 : Int)))).bind fun z1219 => if z1219 = true then ((modM ((x1216 - j1117.2) - shift1214.1) other1001.1).bind fun z1218 => some (decide (z1218 = (0 : Int)))) else some false) else some false).bind fun z1222 => if z1222 = true then ((some ((some x1216))).bind fun (due1224 : (Option Int)) => some due1224) else (some l1215))) PassesOwn.never rfl (mi_r1V (by rfl) T.n_range (mai_cons (d := kI both1004) (mv_name 4 rfl) mai_nil)) (pg_name (i := 9) sc.nd rfl (by first | exact Or.inl rfl | exact Or.inr rfl)) (fun _ => (Wk.rm [0] [true, true, true, true, true, true, true, true, true, false, false] rfl)) (fun _ _ => (tg_name 9)) (fun x1216 l1215 => (mb_one (ms_ifP (PW.pt (mwp_and (mtp (mtv_cmp op_isN (mv_name 8 rfl) mv_non o2_isNO)) (mwp_and (mtp_cmpPV (k1 := kI) (f := fun z1217 => decide (z1217 = (0 : Int))) op_eq (mp_opVV (k := kI) op_modA (mv_callTy call_int1 (by rfl) T.n_int bt_int (mai_cons (d := kI (x1216 - j1117.2)) (mv_op op_sub (mv_name 9 rfl) (mv_name 5 rfl) o2_sub) mai_nil) oa_int) (mv_name 2 rfl) o2_modM) mv_int (fun z1217 => o2_eqI)) (mw_and1 (mtp_cmpPV (k1 := kI) (f := fun z1218 => decide (z1218 = (0 : Int))) op_eq (mp_opVV (k := kI) op_modA (mv_callTy call_int1 (by rfl) T.n_int bt_int (mai_cons (d := kI ((x1216 - j1117.2) - shift1214.1)) (mv_op op_sub (mv_op op_sub (mv_name 9 rfl) (mv_name 5 rfl) o2_sub) (mv_name 7 rfl) o2_sub) mai_nil) oa_int) (mv_name 3 rfl) o2_modM) mv_int (fun z1218 => o2_eqI)))))) (mb_cons (ms_set 8 sc.nd (mp (k := (kO kI)) (x := (some x1216)) (mv_toO (k := kI) (x := x1216) (mv_name 9 rfl)))) (fun due1224 => (mb_end (w := due1224) (c' := (⟨1, [some (.im ((kL kI) script882)), some (.rf 0), some (.im (kI one942.1)), some (.im (kI other1001.1)), some (.im (kI both1004)), some (.im (kI j1117.2)), some (.im ((kT2 (kT2 kI kI) (kT2 kI kI)) services1170)), some (.im (kI shift1214.1)), some (.im ((kO kI) due1224)), none, none], [shift1214.2.map kI]⟩ : Ct)) (Wk.rm [0] [true, true, true, true, true, true, true, true, true, false, false] rfl) rfl))) (mb_end (w := l1215) (c' := (⟨1, [some (.im ((kL kI) script882)), some (.rf 0), some (.im (kI one942.1)), some (.im (kI other1001.1)), some (.im (kI both1004)), some (.im (kI j1117.2)), some (.im ((kT2 (kT2 kI kI) (kT2 kI kI)) services1170)), some (.im (kI shift1214.1)), some (.im ((kO kI) l1215)), none, none], [shift1214.2.map kI]⟩ : Ct)) (Wk.rm [0] [true, true, true, true, true, true, true, true, true, false, false] rfl) rfl))))) (fun l1226 => (mb_cons (ms_set 10 sc.nd (mp_call (F := FF_meet_at) (k := (kO kI)) ((j1117.2, one942.1), ((j1117.2 + shift1214.1), other1001.1)) D_meet_at (by rfl) (mai_cons (d := (kT2 kI kI) (j1117.2, one942.1)) (mv_as (s' := .im ((kT2 kI kI) (j1117.2, one942.1))) (mv_tup (mai_cons (d := kI j1117.2) (mv_name 5 rfl) (mai_cons (d := kI one942.1) (mv_name 2 rfl) mai_nil)))) (mai_cons (d := (kT2 kI kI) ((j1117.2 + shift1214.1), other1001.1)) (mv_as (s' := .im ((kT2 kI kI) ((j1117.2 + shift1214.1), other1001.1))) (mv_tup (mai_cons (d := kI (j1117.2 + shift1214.1)) (mv_op op_add (mv_name 5 rfl) (mv_name 7 rfl) o2_add) (mai_cons (d := kI other1001.1) (mv_name 3 rfl) mai_nil)))) mai_nil)))) (fun told1227 => (mb_ixP (PW.pt (mwp_or (mtp_not (mt_val (b := fun b => b) (mp_call (F := FF__law_same) (k := kB) (((kO kI) told1227), ((kO kI) l1226)) D__law_same (by rfl) (mai_cons (d := kD ((kO kI) told1227)) (mv_as (s' := .im (kD ((kO kI) told1227))) (mv_name 10 rfl)) (mai_cons (d := kD ((kO kI) l1226)) (mv_as (s' := .im (kD ((kO kI) l1226))) (mv_name 8 rfl)) mai_nil))))) (mw_or1 (mtp_cmpVP (k2 := kB) (f := fun z1233 => (l1226.isNone == z1233)) op_eq (mv_cmp op_isN (mv_name 8 rfl) mv_non o2_isNO) (mp_cmpPV (k1 := kI) (k := kB) (f := fun z1232 => some (decide (z1232 = (0 : Int)))) op_eq (mp_opVP (k2 := kI) (k := kI) (f := fun z1231 => modM shift1214.1 z1231) op_modA (mv_callTy call_int1 (by rfl) T.n_int bt_int (mai_cons (d := kI shift1214.1) (mv_name 7 rfl) mai_nil) oa_int) (mp_call (F := FF__law_divisor) (k := kI) (one942.1, other1001.1) D__law_divisor (by rfl) (mai_cons (d := kI one942.1) (mv_name 2 rfl) (mai_cons (d := kI other1001.1) (mv_name 3 rfl) mai_nil))) (fun z1231 => o2_modM)) mv_int (fun z1232 => o2_eqI.up)) (fun z1233 => o2_eqB))))) (mb_one (ms_retV (w := (false, shift1214.2)) mv_bl rfl)) (by repeat' (first | exact out_rt | exact out_some (by intro _ h; cases h) | refine out_elim (fun _ => ?_) (fun _ => ?_) | refine out_bind (fun _ => ?_) | refine out_ite ?_ ?_)) (mb_one (ms_retP (k := kB) (f := fun z1244 => (z1244, shift1214.2)) (mp_or (mp (k := kB) (x := l1226.isNone) (mv_cmp op_isN (mv_name 8 rfl) mv_non o2_isNO)) (mp_one (mp_and (mp_callP (F := FF_departs_at) (k := kB) (fun (z1239 : Int) => ((j1117.2, one942.1), z1239)) D_departs_at (by rfl) (map_consV (d := (kT2 kI kI) (j1117.2, one942.1)) (mv_as (s' := .im ((kT2 kI kI) (j1117.2, one942.1))) (mv_tup (mai_cons (d := kI j1117.2) (mv_name 5 rfl) (mai_cons (d := kI one942.1) (mv_name 2 rfl) mai_nil)))) (map_consP (k1 := kI) (mp_opPV (k1 := kI) (k := kI) (f := fun z1238 => some ((z1238 + both1004))) op_add (mp_some (k := kI) (o := l1226) (mv_name 8 rfl)) (mv_name 4 rfl) (fun z1238 => o2_add.up)) mai_nil))) (mp_one (mp_callP (F := FF_departs_at) (k := kB) (fun (z1241 : Int) => (((j1117.2 + shift1214.1), other1001.1), z1241)) D_departs_at (by rfl) (map_consV (d := (kT2 kI kI) ((j1117.2 + shift1214.1), other1001.1)) (mv_as (s' := .im ((kT2 kI kI) ((j1117.2 + shift1214.1), other1001.1))) (mv_tup (mai_cons (d := kI (j1117.2 + shift1214.1)) (mv_op op_add (mv_name 5 rfl) (mv_name 7 rfl) o2_add) (mai_cons (d := kI other1001.1) (mv_name 3 rfl) mai_nil)))) (map_consP (k1 := kI) (mp_opPV (k1 := kI) (k := kI) (f := fun z1240 => some ((z1240 + both1004))) op_add (mp_some (k := kI) (o := l1226) (mv_name 8 rfl)) (mv_name 4 rfl) (fun z1240 => o2_add.up)) mai_nil))))))) (fun _ => rfl)))))))))))))))))))))))))))
def F_law (script1245 : (List Int)) : Option Bool :=
  (F__law_draws script1245 (60 : Int)).bind fun (draws1246 : (List Int)) => (((some ((), draws1246)).bind fun z1256 => ((some ((2000 : Int), z1256.2)).bind fun z1252 => (some ((), z1252.2)).bind fun z1253 => some ((z1252.1, z1253.1), z1253.2)).bind fun z1257 => some ((z1256.1, z1257.1), z1257.2)).bind fun z1260 => F__law_gear z1260.2 z1260.1.2.1).bind fun (pairs1264 : (List (Int × Int)) × List Int) => (((some ((), pairs1264.2)).bind fun z1274 => ((some ((2000 : Int), z1274.2)).bind fun z1270 => (some ((), z1270.2)).bind fun z1271 => some ((z1270.1, z1271.1), z1271.2)).bind fun z1275 => some ((z1274.1, z1275.1), z1275.2)).bind fun z1278 => F__law_gear z1278.2 z1278.1.2.1).bind fun (other1282 : (List (Int × Int)) × List Int) => (((((some ((), other1282.2)).bind fun z1292 => ((some (pairs1264.1, z1292.2)).bind fun z1288 => (some ((), z1288.2)).bind fun z1289 => some ((z1288.1, z1289.1), z1289.2)).bind fun z1293 => some ((z1292.1, z1293.1), z1293.2)).bind fun z1296 => F__law_axles z1296.2 z1296.1.2.1).bind fun z1301 => some (!z1301.1, z1301.2)).bind fun z1356 => if z1356.1 = true then some (true, z1356.2) else ((((some ((), z1356.2)).bind fun z1345 => ((some (pairs1264.1, z1345.2)).bind fun z1341 => ((some (other1282.1, z1341.2)).bind fun z1337 => (some ((), z1337.2)).bind fun z1338 => some ((z1337.1, z1338.1), z1338.2)).bind fun z1342 => some ((z1341.1, z1342.1), z1342.2)).bind fun z1346 => some ((z1345.1, z1346.1), z1346.2)).bind fun z1349 => F__law_products z1349.2 z1349.1.2.1 z1349.1.2.2.1).bind fun z1354 => some (!z1354.1, z1354.2))).bind fun z1360 => if z1360.1 = true then (some (false)) else (((((some (script1245, z1360.2)).bind fun z1371 => ((some ((), z1371.2)).bind fun z1367 => (some ((), z1367.2)).bind fun z1368 => some ((z1367.1, z1368.1), z1368.2)).bind fun z1372 => some ((z1371.1, z1372.1), z1372.2)).bind fun z1375 => F__law_meetings z1375.1.1 z1375.2).bind fun z1414 => if z1414.1 = true then (((some (script1245, z1414.2)).bind fun z1406 => ((some ((), z1406.2)).bind fun z1402 => (some ((), z1402.2)).bind fun z1403 => some ((z1402.1, z1403.1), z1403.2)).bind fun z1407 => some ((z1406.1, z1407.1), z1407.2)).bind fun z1410 => F__law_meetings z1410.1.1 z1410.2) else some (false, z1414.2)).bind fun z1417 => some (z1417.1))
abbrev s_law : Stmt := topS 32
theorem sc_law : FnScope ["script", "draws", "pairs", "other"] ["script"] (defScope s_law) := ⟨rfl, rfl, rfl, by decide +kernel, rfl, by decide +kernel, by decide +kernel⟩
abbrev ca_law := (fun (b : (List Int)) => (⟨0, [some (.im ((kL kI) b))], []⟩ : Ct))
abbrev FF_law := (fun (b : (List Int)) => F_law b)
abbrev rs_law : Bool → Sl := (fun (g : Bool) => .im (kB g))
abbrev cr_law : Bool → Ct := (fun (_ : Bool) => (⟨0, [], []⟩ : Ct))
abbrev ps_law : List Str := ["script"]
set_option maxHeartbeats 4000000 in
theorem ok_law {P : Program} {w : World} {K : PySem.W.Frag} {mg : Str → Option Value} {base : Heap} {f : Addr} {fd : FuncData} (FU : Fun K "law" "law" s_law f fd) (T : Fa mg) {f__law_draws : Addr} {fd__law_draws : FuncData} (C__law_draws : Own P w K mg base 1 "_law_draws" f__law_draws fd__law_draws ps__law_draws ca__law_draws FF__law_draws rs__law_draws cr__law_draws) {f__law_gear : Addr} {fd__law_gear : FuncData} (C__law_gear : Own P w K mg base 5 "_law_gear" f__law_gear fd__law_gear ps__law_gear ca__law_gear FF__law_gear rs__law_gear cr__law_gear) {f__law_axles : Addr} {fd__law_axles : FuncData} (C__law_axles : Own P w K mg base 5 "_law_axles" f__law_axles fd__law_axles ps__law_axles ca__law_axles FF__law_axles rs__law_axles cr__law_axles) {f__law_products : Addr} {fd__law_products : FuncData} (C__law_products : Own P w K mg base 5 "_law_products" f__law_products fd__law_products ps__law_products ca__law_products FF__law_products rs__law_products cr__law_products) {f__law_meetings : Addr} {fd__law_meetings : FuncData} (C__law_meetings : Own P w K mg base 5 "_law_meetings" f__law_meetings fd__law_meetings ps__law_meetings ca__law_meetings FF__law_meetings rs__law_meetings cr__law_meetings) :
    FnOk P w K mg base CX0 6 f fd ps_law (PrF K ca_law FF_law rs_law cr_law) := by
  have sc := sc_law
  refine fn_ok FU sc_law (fun _ => rfl) (fun cdv A outer s H E B script1245 hr => ?_)
  have D__law_draws : Df P w K mg base (A.deeper (envOfC "law" (defScope s_law) s.heap.objs.size f cdv)) 1 "_law_draws" f__law_draws fd__law_draws ps__law_draws ca__law_draws FF__law_draws rs__law_draws cr__law_draws := ⟨C__law_draws.G, hr.mono (by decide), C__law_draws.hm, C__law_draws.hk, C__law_draws.hb⟩
  have D__law_gear : Df P w K mg base (A.deeper (envOfC "law" (defScope s_law) s.heap.objs.size f cdv)) 5 "_law_gear" f__law_gear fd__law_gear ps__law_gear ca__law_gear FF__law_gear rs__law_gear cr__law_gear := ⟨C__law_gear.G, hr.mono (by decide), C__law_gear.hm, C__law_gear.hk, C__law_gear.hb⟩
  have D__law_axles : Df P w K mg base (A.deeper (envOfC "law" (defScope s_law) s.heap.objs.size f cdv)) 5 "_law_axles" f__law_axles fd__law_axles ps__law_axles ca__law_axles FF__law_axles rs__law_axles cr__law_axles := ⟨C__law_axles.G, hr.mono (by decide), C__law_axles.hm, C__law_axles.hk, C__law_axles.hb⟩
  have D__law_products : Df P w K mg base (A.deeper (envOfC "law" (defScope s_law) s.heap.objs.size f cdv)) 5 "_law_products" f__law_products fd__law_products ps__law_products ca__law_products FF__law_products rs__law_products cr__law_products := ⟨C__law_products.G, hr.mono (by decide), C__law_products.hm, C__law_products.hk, C__law_products.hb⟩
  have D__law_meetings : Df P w K mg base (A.deeper (envOfC "law" (defScope s_law) s.heap.objs.size f cdv)) 5 "_law_meetings" f__law_meetings fd__law_meetings ps__law_meetings ca__law_meetings FF__law_meetings rs__law_meetings cr__law_meetings := ⟨C__law_meetings.G, hr.mono (by decide), C__law_meetings.hm, C__law_meetings.hk, C__law_meetings.hb⟩
  show MB _ B (⟨0, [some (.im ((kL kI) script1245)), none, none, none], []⟩ : Ct) _ (F_law script1245) _
  unfold F_law
  exact (mb_cons (ms_set 1 sc.nd (mn_callL (F := FF__law_draws) (b := (script1245, (60 : Int))) (L := fun g => g.map kI) D__law_draws (by rfl) (mai_cons (d := (kL kI) script1245) (mv_name 0 rfl) (mai_cons (d := kI (60 : Int)) mv_int mai_nil)))) (fun draws1246 => (mb_cons (ms_set 2 sc.nd (mx_callD (F := FF__law_gear) (cx := (fun (dr1263 : List Int) => (⟨0, [some (.im ((kL kI) script1245)), some (.rf 0), none, none], [dr1263.map kI]⟩ : Ct))) (k := (kU (kT2 kI kI))) (ss := (fun (z1261 : (Unit × (Int × Unit))) => [.rf 0, .im (kI z1261.2.1)])) (fun (z1261 : (Unit × (Int × Unit))) (ds1262 : List Int) => (ds1262, z1261.2.1)) D__law_gear (by rfl) (max_cons (cx := (fun (dr1259 : List Int) => (⟨0, [some (.im ((kL kI) script1245)), some (.rf 0), none, none], [dr1259.map kI]⟩ : Ct))) (t1 := fun (_ : Unit) => .rf 0) (m2 := fun z1256 ds1258 => (some ((2000 : Int), ds1258)).bind fun z1252 => (some ((), z1252.2)).bind fun z1253 => some ((z1252.1, z1253.1), z1253.2)) (mx_S (cx := (fun (dr1248 : List Int) => (⟨0, [some (.im ((kL kI) script1245)), some (.rf 0), none, none], [dr1248.map kI]⟩ : Ct))) (ds := draws1246) (s := .rf 0) (mv_name 1 rfl)) (fun z1256 ds1258 => (max_cons (cx := (fun (dr1255 : List Int) => (⟨0, [some (.im ((kL kI) script1245)), some (.rf 0), none, none], [dr1255.map kI]⟩ : Ct))) (t1 := fun (z : Int) => .im (kI z)) (m2 := fun z1252 ds1254 => some ((), ds1254)) (mx_V (cx := (fun (dr1250 : List Int) => (⟨0, [some (.im ((kL kI) script1245)), some (.rf 0), none, none], [dr1250.map kI]⟩ : Ct))) (ds := ds1258) (k := kI) (v := (2000 : Int)) mv_int) (fun z1252 ds1254 => (max_nil (cx := (fun (dr1251 : List Int) => (⟨0, [some (.im ((kL kI) script1245)), some (.rf 0), none, none], [dr1251.map kI]⟩ : Ct)))))))) (hss := (fun _ s hs i e => by subst e; simpa using hs)))) (fun pairs1264 => (mb_cons (ms_set 3 sc.nd (mx_callD (F := FF__law_gear) (cx := (fun (dr1281 : List Int) => (⟨0, [some (.im ((kL kI) script1245)), some (.rf 0), some (.im ((kU (kT2 kI kI)) pairs1264.1)), none], [dr1281.map kI]⟩ : Ct))) (k := (kU (kT2 kI kI))) (ss := (fun (z1279 : (Unit × (Int × Unit))) => [.rf 0, .im (kI z1279.2.1)])) (fun (z1279 : (Unit × (Int × Unit))) (ds1280 : List Int) => (ds1280, z1279.2.1)) D__law_gear (by rfl) (max_cons (cx := (fun (dr1277 : List Int) => (⟨0, [some (.im ((kL kI) script1245)), some (.rf 0), some (.im ((kU (kT2 kI kI)) pairs1264.1)), none], [dr1277.map kI]⟩ : Ct))) (t1 := fun (_ : Unit) => .rf 0) (m2 := fun z1274 ds1276 => (some ((2000 : Int), ds1276)).bind fun z1270 => (some ((), z1270.2)).bind fun z1271 => some ((z1270.1, z1271.1), z1271.2)) (mx_S (cx := (fun (dr1266 : List Int) => (⟨0, [some (.im ((kL kI) script1245)), some (.rf 0), some (.im ((kU (kT2 kI kI)) pairs1264.1)), none], [dr1266.map kI]⟩ : Ct))) (ds := pairs1264.2) (s := .rf 0) (mv_name 1 rfl)) (fun z1274 ds1276 => (max_cons (cx := (fun (dr1273 : List Int) => (⟨0, [some (.im ((kL kI) script1245)), some (.rf 0), some (.im ((kU (kT2 kI kI)) pairs1264.1)), none], [dr1273.map kI]⟩ : Ct))) (t1 := fun (z : Int) => .im (kI z)) (m2 := fun z1270 ds1272 => some ((), ds1272)) (mx_V (cx := (fun (dr1268 : List Int) => (⟨0, [some (.im ((kL kI) script1245)), some (.rf 0), some (.im ((kU (kT2 kI kI)) pairs1264.1)), none], [dr1268.map kI]⟩ : Ct))) (ds := ds1276) (k := kI) (v := (2000 : Int)) mv_int) (fun z1270 ds1272 => (max_nil (cx := (fun (dr1269 : List Int) => (⟨0, [some (.im ((kL kI) script1245)), some (.rf 0), some (.im ((kU (kT2 kI kI)) pairs1264.1)), none], [dr1269.map kI]⟩ : Ct)))))))) (hss := (fun _ s hs i e => by subst e; simpa using hs)))) (fun other1282 => (mb_ixX (cx := (fun (dr1420 : List Int) => (⟨0, [some (.im ((kL kI) script1245)), some (.rf 0), some (.im ((kU (kT2 kI kI)) pairs1264.1)), some (.im ((kU (kT2 kI kI)) other1282.1))], [dr1420.map kI]⟩ : Ct))) (x1 := fun ds1361 => some (false)) (x2 := fun ds1361 => ((((some (script1245, ds1361)).bind fun z1371 => ((some ((), z1371.2)).bind fun z1367 => (some ((), z1367.2)).bind fun z1368 => some ((z1367.1, z1368.1), z1368.2)).bind fun z1372 => some ((z1371.1, z1372.1), z1372.2)).bind fun z1375 => F__law_meetings z1375.1.1 z1375.2).bind fun z1414 => if z1414.1 = true then (((some (script1245, z1414.2)).bind fun z1406 => ((some ((), z1406.2)).bind fun z1402 => (some ((), z1402.2)).bind fun z1403 => some ((z1402.1, z1403.1), z1403.2)).bind fun z1407 => some ((z1406.1, z1407.1), z1407.2)).bind fun z1410 => F__law_meetings z1410.1.1 z1410.2) else some (false, z1414.2)).bind fun z1417 => some (z1417.1)) (PW.pt (mwx_or (cx := (fun (dr1358 : List Int) => (⟨0, [some (.im ((kL kI) script1245)), some (.rf 0), some (.im ((kU (kT2 kI kI)) pairs1264.1)), some (.im ((kU (kT2 kI kI)) other1282.1))], [dr1358.map kI]⟩ : Ct))) (n2 := fun ds1357 => (((some ((), ds1357)).bind fun z1345 => ((some (pairs1264.1, z1345.2)).bind fun z1341 => ((some (other1282.1, z1341.2)).bind fun z1337 => (some ((), z1337.2)).bind fun z1338 => some ((z1337.1, z1338.1), z1338.2)).bind fun z1342 => some ((z1341.1, z1342.1), z1342.2)).bind fun z1346 => some ((z1345.1, z1346.1), z1346.2)).bind fun z1349 => F__law_products z1349.2 z1349.1.2.1 z1349.1.2.2.1).bind fun z1354 => some (!z1354.1, z1354.2)) (mtx_not (cx := (fun (dr1302 : List Int) => (⟨0, [some (.im ((kL kI) script1245)), some (.rf 0), some (.im ((kU (kT2 kI kI)) pairs1264.1)), some (.im ((kU (kT2 kI kI)) other1282.1))], [dr1302.map kI]⟩ : Ct))) (mtx_val (cx := (fun (dr1300 : List Int) => (⟨0, [some (.im ((kL kI) script1245)), some (.rf 0), some (.im ((kU (kT2 kI kI)) pairs1264.1)), some (.im ((kU (kT2 kI kI)) other1282.1))], [dr1300.map kI]⟩ : Ct))) (mx_callD (F := FF__law_axles) (cx := (fun (dr1299 : List Int) => (⟨0, [some (.im ((kL kI) script1245)), some (.rf 0), some (.im ((kU (kT2 kI kI)) pairs1264.1)), some (.im ((kU (kT2 kI kI)) other1282.1))], [dr1299.map kI]⟩ : Ct))) (k := kB) (ss := (fun (z1297 : (Unit × ((List (Int × Int)) × Unit))) => [.rf 0, .im ((kU (kT2 kI kI)) z1297.2.1)])) (fun (z1297 : (Unit × ((List (Int × Int)) × Unit))) (ds1298 : List Int) => (ds1298, z1297.2.1)) D__law_axles (by rfl) (max_cons (cx := (fun (dr1295 : List Int) => (⟨0, [some (.im ((kL kI) script1245)), some (.rf 0), some (.im ((kU (kT2 kI kI)) pairs1264.1)), some (.im ((kU (kT2 kI kI)) other1282.1))], [dr1295.map kI]⟩ : Ct))) (t1 := fun (_ : Unit) => .rf 0) (m2 := fun z1292 ds1294 => (some (pairs1264.1, ds1294)).bind fun z1288 => (some ((), z1288.2)).bind fun z1289 => some ((z1288.1, z1289.1), z1289.2)) (mx_S (cx := (fun (dr1284 : List Int) => (⟨0, [some (.im ((kL kI) script1245)), some (.rf 0), some (.im ((kU (kT2 kI kI)) pairs1264.1)), some (.im ((kU (kT2 kI kI)) other1282.1))], [dr1284.map kI]⟩ : Ct))) (ds := other1282.2) (s := .rf 0) (mv_name 1 rfl)) (fun z1292 ds1294 => (max_cons (cx := (fun (dr1291 : List Int) => (⟨0, [some (.im ((kL kI) script1245)), some (.rf 0), some (.im ((kU (kT2 kI kI)) pairs1264.1)), some (.im ((kU (kT2 kI kI)) other1282.1))], [dr1291.map kI]⟩ : Ct))) (t1 := fun (z : (List (Int × Int))) => .im ((kU (kT2 kI kI)) z)) (m2 := fun z1288 ds1290 => some ((), ds1290)) (mx_V (cx := (fun (dr1286 : List Int) => (⟨0, [some (.im ((kL kI) script1245)), some (.rf 0), some (.im ((kU (kT2 kI kI)) pairs1264.1)), some (.im ((kU (kT2 kI kI)) other1282.1))], [dr1286.map kI]⟩ : Ct))) (ds := ds1294) (k := (kU (kT2 kI kI))) (v := pairs1264.1) (mv_name 2 rfl)) (fun z1288 ds1290 => (max_nil (cx := (fun (dr1287 : List Int) => (⟨0, [some (.im ((kL kI) script1245)), some (.rf 0), some (.im ((kU (kT2 kI kI)) pairs1264.1)), some (.im ((kU (kT2 kI kI)) other1282.1))], [dr1287.map kI]⟩ : Ct)))))))) (hss := (fun _ s hs i e => by subst e; simpa using hs))))) (fun ds1357 => (mw_or1 (mtx_not (cx := (fun (dr1355 : List Int) => (⟨0, [some (.im ((kL kI) script1245)), some (.rf 0), some (.im ((kU (kT2 kI kI)) pairs1264.1)), some (.im ((kU (kT2 kI kI)) other1282.1))], [dr1355.map kI]⟩ : Ct))) (mtx_val (cx := (fun (dr1353 : List Int) => (⟨0, [some (.im ((kL kI) script1245)), some (.rf 0), some (.im ((kU (kT2 kI kI)) pairs1264.1)), some (.im ((kU (kT2 kI kI)) other1282.1))], [dr1353.map kI]⟩ : Ct))) (mx_callD (F := FF__law_products) (cx := (fun (dr1352 : List Int) => (⟨0, [some (.im ((kL kI) script1245)), some (.rf 0), some (.im ((kU (kT2 kI kI)) pairs1264.1)), some (.im ((kU (kT2 kI kI)) other1282.1))], [dr1352.map kI]⟩ : Ct))) (k := kB) (ss := (fun (z1350 : (Unit × ((List (Int × Int)) × ((List (Int × Int)) × Unit)))) => [.rf 0, .im ((kU (kT2 kI kI)) z1350.2.1), .im ((kU (kT2 kI kI)) z1350.2.2.1)])) (fun (z1350 : (Unit × ((List (Int × Int)) × ((List (Int × Int)) × Unit)))) (ds1351 : List Int) => (ds1351, z1350.2.1, z1350.2.2.1)) D__law_products (by rfl) (max_cons (cx := (fun (dr1348 : List Int) => (⟨0, [some (.im ((kL kI) script1245)), some (.rf 0), some (.im ((kU (kT2 kI kI)) pairs1264.1)), some (.im ((kU (kT2 kI kI)) other1282.1))], [dr1348.map kI]⟩ : Ct))) (t1 := fun (_ : Unit) => .rf 0) (m2 := fun z1345 ds1347 => (some (pairs1264.1, ds1347)).bind fun z1341 => ((some (other1282.1, z1341.2)).bind fun z1337 => (some ((), z1337.2)).bind fun z1338 => some ((z1337.1, z1338.1), z1338.2)).bind fun z1342 => some ((z1341.1, z1342.1), z1342.2)) (mx_S (cx := (fun (dr1331 : List Int) => (⟨0, [some (.im ((kL kI) script1245)), some (.rf 0), some (.im ((kU (kT2 kI kI)) pairs1264.1)), some (.im ((kU (kT2 kI kI)) other1282.1))], [dr1331.map kI]⟩ : Ct))) (ds := ds1357) (s := .rf 0) (mv_name 1 rfl)) (fun z1345 ds1347 => (max_cons (cx := (fun (dr1344 : List Int) => (⟨0, [some (.im ((kL kI) script1245)), some (.rf 0), some (.im ((kU (kT2 kI kI)) pairs1264.1)), some (.im ((kU (kT2 kI kI)) other1282.1))], [dr1344.map kI]⟩ : Ct))) (t1 := fun (z : (List (Int × Int))) => .im ((kU (kT2 kI kI)) z)) (m2 := fun z1341 ds1343 => (some (other1282.1, ds1343)).bind fun z1337 => (some ((), z1337.2)).bind fun z1338 => some ((z1337.1, z1338.1), z1338.2)) (mx_V (cx := (fun (dr1333 : List Int) => (⟨0, [some (.im ((kL kI) script1245)), some (.rf 0), some (.im ((kU (kT2 kI kI)) pairs1264.1)), some (.im ((kU (kT2 kI kI)) other1282.1))], [dr1333.map kI]⟩ : Ct))) (ds := ds1347) (k := (kU (kT2 kI kI))) (v := pairs1264.1) (mv_name 2 rfl)) (fun z1341 ds1343 => (max_cons (cx := (fun (dr1340 : List Int) => (⟨0, [some (.im ((kL kI) script1245)), some (.rf 0), some (.im ((kU (kT2 kI kI)) pairs1264.1)), some (.im ((kU (kT2 kI kI)) other1282.1))], [dr1340.map kI]⟩ : Ct))) (t1 := fun (z : (List (Int × Int))) => .im ((kU (kT2 kI kI)) z)) (m2 := fun z1337 ds1339 => some ((), ds1339)) (mx_V (cx := (fun (dr1335 : List Int) => (⟨0, [some (.im ((kL kI) script1245)), some (.rf 0), some (.im ((kU (kT2 kI kI)) pairs1264.1)), some (.im ((kU (kT2 kI kI)) other1282.1))], [dr1335.map kI]⟩ : Ct))) (ds := ds1343) (k := (kU (kT2 kI kI))) (v := other1282.1) (mv_name 3 rfl)) (fun z1337 ds1339 => (max_nil (cx := (fun (dr1336 : List Int) => (⟨0, [some (.im ((kL kI) script1245)), some (.rf 0), some (.im ((kU (kT2 kI kI)) pairs1264.1)), some (.im ((kU (kT2 kI kI)) other1282.1))], [dr1336.map kI]⟩ : Ct)))))))))) (hss := (fun _ s hs i e => by subst e; simpa using hs))))))))) (fun ds1361 => (mb_one (ms_retV (w := false) mv_bl rfl))) (fun _ => by repeat' (first | exact out_rt | exact out_some (by intro _ h; cases h) | refine out_elim (fun _ => ?_) (fun _ => ?_) | refine out_bind (fun _ => ?_) | refine out_ite ?_ ?_)) (fun ds1361 => (mb_one (ms_retX (cx := (fun (dr1419 : List Int) => (⟨0, [some (.im ((kL kI) script1245)), some (.rf 0), some (.im ((kU (kT2 kI kI)) pairs1264.1)), some (.im ((kU (kT2 kI kI)) other1282.1))], [dr1419.map kI]⟩ : Ct))) (k := kB) (f := fun z1418 _ => z1418) (mx_and (cx := (fun (dr1416 : List Int) => (⟨0, [some (.im ((kL kI) script1245)), some (.rf 0), some (.im ((kU (kT2 kI kI)) pairs1264.1)), some (.im ((kU (kT2 kI kI)) other1282.1))], [dr1416.map kI]⟩ : Ct))) (n2 := fun ds1415 => ((some (script1245, ds1415)).bind fun z1406 => ((some ((), z1406.2)).bind fun z1402 => (some ((), z1402.2)).bind fun z1403 => some ((z1402.1, z1403.1), z1403.2)).bind fun z1407 => some ((z1406.1, z1407.1), z1407.2)).bind fun z1410 => F__law_meetings z1410.1.1 z1410.2) (mx_callD (F := FF__law_meetings) (cx := (fun (dr1378 : List Int) => (⟨0, [some (.im ((kL kI) script1245)), some (.rf 0), some (.im ((kU (kT2 kI kI)) pairs1264.1)), some (.im ((kU (kT2 kI kI)) other1282.1))], [dr1378.map kI]⟩ : Ct))) (k := kB) (ss := (fun (z1376 : ((List Int) × (Unit × Unit))) => [.im ((kL kI) z1376.1), .rf 0])) (fun (z1376 : ((List Int) × (Unit × Unit))) (ds1377 : List Int) => (z1376.1, ds1377)) D__law_meetings (by rfl) (max_cons (cx := (fun (dr1374 : List Int) => (⟨0, [some (.im ((kL kI) script1245)), some (.rf 0), some (.im ((kU (kT2 kI kI)) pairs1264.1)), some (.im ((kU (kT2 kI kI)) other1282.1))], [dr1374.map kI]⟩ : Ct))) (t1 := fun (z : (List Int)) => .im ((kL kI) z)) (m2 := fun z1371 ds1373 => (some ((), ds1373)).bind fun z1367 => (some ((), z1367.2)).bind fun z1368 => some ((z1367.1, z1368.1), z1368.2)) (mx_V (cx := (fun (dr1363 : List Int) => (⟨0, [some (.im ((kL kI) script1245)), some (.rf 0), some (.im ((kU (kT2 kI kI)) pairs1264.1)), some (.im ((kU (kT2 kI kI)) other1282.1))], [dr1363.map kI]⟩ : Ct))) (ds := ds1361) (k := (kL kI)) (v := script1245) (mv_name 0 rfl)) (fun z1371 ds1373 => (max_cons (cx := (fun (dr1370 : List Int) => (⟨0, [some (.im ((kL kI) script1245)), some (.rf 0), some (.im ((kU (kT2 kI kI)) pairs1264.1)), some (.im ((kU (kT2 kI kI)) other1282.1))], [dr1370.map kI]⟩ : Ct))) (t1 := fun (_ : Unit) => .rf 0) (m2 := fun z1367 ds1369 => some ((), ds1369)) (mx_S (cx := (fun (dr1365 : List Int) => (⟨0, [some (.im ((kL kI) script1245)), some (.rf 0), some (.im ((kU (kT2 kI kI)) pairs1264.1)), some (.im ((kU (kT2 kI kI)) other1282.1))], [dr1365.map kI]⟩ : Ct))) (ds := ds1373) (s := .rf 0) (mv_name 1 rfl)) (fun z1367 ds1369 => (max_nil (cx := (fun (dr1366 : List Int) => (⟨0, [some (.im ((kL kI) script1245)), some (.rf 0), some (.im ((kU (kT2 kI kI)) pairs1264.1)), some (.im ((kU (kT2 kI kI)) other1282.1))], [dr1366.map kI]⟩ : Ct)))))))) (hss := (fun _ s hs i e => by subst e; simpa using hs))) (fun ds1415 => (mp_one (mx_callD (F := FF__law_meetings) (cx := (fun (dr1413 : List Int) => (⟨0, [some (.im ((kL kI) script1245)), some (.rf 0), some (.im ((kU (kT2 kI kI)) pairs1264.1)), some (.im ((kU (kT2 kI kI)) other1282.1))], [dr1413.map kI]⟩ : Ct))) (k := kB) (ss := (fun (z1411 : ((List Int) × (Unit × Unit))) => [.im ((kL kI) z1411.1), .rf 0])) (fun (z1411 : ((List Int) × (Unit × Unit))) (ds1412 : List Int) => (z1411.1, ds1412)) D__law_meetings (by rfl) (max_cons (cx := (fun (dr1409 : List Int) => (⟨0, [some (.im ((kL kI) script1245)), some (.rf 0), some (.im ((kU (kT2 kI kI)) pairs1264.1)), some (.im ((kU (kT2 kI kI)) other1282.1))], [dr1409.map kI]⟩ : Ct))) (t1 := fun (z : (List Int)) => .im ((kL kI) z)) (m2 := fun z1406 ds1408 => (some ((), ds1408)).bind fun z1402 => (some ((), z1402.2)).bind fun z1403 => some ((z1402.1, z1403.1), z1403.2)) (mx_V (cx := (fun (dr1398 : List Int) => (⟨0, [some (.im ((kL kI) script1245)), some (.rf 0), some (.im ((kU (kT2 kI kI)) pairs1264.1)), some (.im ((kU (kT2 kI kI)) other1282.1))], [dr1398.map kI]⟩ : Ct))) (ds := ds1415) (k := (kL kI)) (v := script1245) (mv_name 0 rfl)) (fun z1406 ds1408 => (max_cons (cx := (fun (dr1405 : List Int) => (⟨0, [some (.im ((kL kI) script1245)), some (.rf 0), some (.im ((kU (kT2 kI kI)) pairs1264.1)), some (.im ((kU (kT2 kI kI)) other1282.1))], [dr1405.map kI]⟩ : Ct))) (t1 := fun (_ : Unit) => .rf 0) (m2 := fun z1402 ds1404 => some ((), ds1404)) (mx_S (cx := (fun (dr1400 : List Int) => (⟨0, [some (.im ((kL kI) script1245)), some (.rf 0), some (.im ((kU (kT2 kI kI)) pairs1264.1)), some (.im ((kU (kT2 kI kI)) other1282.1))], [dr1400.map kI]⟩ : Ct))) (ds := ds1408) (s := .rf 0) (mv_name 1 rfl)) (fun z1402 ds1404 => (max_nil (cx := (fun (dr1401 : List Int) => (⟨0, [some (.im ((kL kI) script1245)), some (.rf 0), some (.im ((kU (kT2 kI kI)) pairs1264.1)), some (.im ((kU (kT2 kI kI)) other1282.1))], [dr1401.map kI]⟩ : Ct)))))))) (hss := (fun _ s hs i e => by subst e; simpa using hs)))))) (fun _ _ => rfl)))))))))))
end K93

set_option Elab.async false
set_option linter.all false
set_option maxRecDepth 100000
set_option maxHeartbeats 1000000
namespace K93
open PySem PySem.Spec PyProof.Rows L2 M3
/-! ### fractions in lowest terms -/
def gc (n d : Int) : Int := (Nat.gcd n.natAbs d.natAbs : Int)
def red (n d : Int) : Int × Int := (n / gc n d, d / gc n d)
theorem gc_pos {n d : Int} (h : 0 < d) : 0 < gc n d := by
  unfold gc
  have := Nat.gcd_pos_of_pos_right n.natAbs (n := d.natAbs) (by omega)
  omega
theorem gc_dl (n d : Int) : gc n d ∣ n := Int.ofNat_dvd_left.mpr (Nat.gcd_dvd_left _ _)
theorem gc_dr (n d : Int) : gc n d ∣ d := Int.ofNat_dvd_left.mpr (Nat.gcd_dvd_right _ _)
theorem gc_le {n d : Int} (h : 0 < d) : gc n d ≤ d := Int.le_of_dvd h (gc_dr n d)
/-- n = g n', d = g d' -/
theorem red_eq {n d : Int} (h : 0 < d) : n = gc n d * (red n d).1 ∧ d = gc n d * (red n d).2 := ⟨(Int.mul_ediv_cancel' (gc_dl n d)).symm, (Int.mul_ediv_cancel' (gc_dr n d)).symm⟩
theorem red_pos {n d : Int} (h : 0 < d) : 0 < (red n d).2 := by
  have g := gc_pos (n := n) h
  have e := (red_eq (n := n) h).2
  rcases Int.lt_trichotomy (red n d).2 0 with z | z | z
  · have := Int.mul_neg_of_pos_of_neg g z; omega
  · rw [z] at e; simp at e; omega
  · exact z
theorem red_le {n d : Int} (h : 0 < d) : (red n d).2 ≤ d := by
  have g := gc_pos (n := n) h
  exact Int.ediv_le_self _ (by omega)
theorem red_abs {n d : Int} (h : 0 < d) : (red n d).1.natAbs ≤ n.natAbs := by
  have e := (red_eq (n := n) h).1
  have g := gc_pos (n := n) h
  have : n.natAbs = (gc n d).natAbs * (red n d).1.natAbs := by rw [← Int.natAbs_mul, ← e]
  rw [this]
  exact Nat.le_mul_of_pos_left _ (by omega)
theorem red_cop {n d : Int} (h : 0 < d) : Nat.gcd (red n d).1.natAbs (red n d).2.natAbs = 1 := by
  have g := gc_pos (n := n) h
  have ⟨e1, e2⟩ := red_eq (n := n) h
  have a1 : n.natAbs = (gc n d).natAbs * (red n d).1.natAbs := by rw [← Int.natAbs_mul, ← e1]
  have a2 : d.natAbs = (gc n d).natAbs * (red n d).2.natAbs := by rw [← Int.natAbs_mul, ← e2]
  have a3 : (gc n d).natAbs = Nat.gcd n.natAbs d.natAbs := by unfold gc; omega
  have a4 : Nat.gcd n.natAbs d.natAbs = (gc n d).natAbs * Nat.gcd (red n d).1.natAbs (red n d).2.natAbs := by
    rw [← Nat.gcd_mul_left, ← a1, ← a2]
  rw [← a3] at a4
  exact Nat.eq_of_mul_eq_mul_left (show 0 < (gc n d).natAbs by omega) (by rw [Nat.mul_one]; exact a4.symm)
theorem gc_mul {k n d : Int} (h : 0 < k) : gc (k * n) (k * d) = k * gc n d := by
  unfold gc
  rw [Int.natAbs_mul, Int.natAbs_mul, Nat.gcd_mul_left, Int.natCast_mul]
  have : (k.natAbs : Int) = k := by omega
  rw [this]
theorem red_mul {k n d : Int} (h : 0 < k) : red (k * n) (k * d) = red n d := by
  unfold red
  rw [gc_mul h, Int.mul_ediv_mul_of_pos _ _ h, Int.mul_ediv_mul_of_pos _ _ h]
theorem red_red {n d p q : Int} (h : 0 < d) (k : 0 < q) : red ((red n d).1 * (red p q).1) ((red n d).2 * (red p q).2) = red (n * p) (d * q) := by
  have ⟨e1, e2⟩ := red_eq (n := n) h
  have ⟨e3, e4⟩ := red_eq (n := p) k
  have g1 := gc_pos (n := n) h
  have g2 := gc_pos (n := p) k
  have := red_mul (k := gc n d * gc p q) (n := (red n d).1 * (red p q).1) (d := (red n d).2 * (red p q).2) (Int.mul_pos g1 g2)
  rw [← this]
  congr 1
  · conv => rhs; rw [e1, e3]
    ac_rfl
  · conv => rhs; rw [e2, e4]
    ac_rfl
theorem red_1 (m : Int) : red m 1 = (m, 1) := by
  have : gc m 1 = 1 := by unfold gc; simp
  unfold red; rw [this]; simp
theorem red_redL {n d p q : Int} (h : 0 < d) (k : 0 < q) : red ((red n d).1 * p) ((red n d).2 * q) = red (n * p) (d * q) := by
  have ⟨e1, e2⟩ := red_eq (n := n) h
  have g1 := gc_pos (n := n) h
  rw [← red_mul (k := gc n d) (n := (red n d).1 * p) (d := (red n d).2 * q) g1]
  congr 1
  · conv => rhs; rw [e1]
    ac_rfl
  · conv => rhs; rw [e2]
    ac_rfl
theorem red_idem {n d : Int} (h : 0 < d) : red (red n d).1 (red n d).2 = red n d := by
  have ⟨e1, e2⟩ := red_eq (n := n) h
  have g1 := gc_pos (n := n) h
  rw [← red_mul (k := gc n d) g1, ← e1, ← e2]
theorem red_neg {n d : Int} (h : 0 < d) : red (-n) d = (-(red n d).1, (red n d).2) := by
  have e : gc (-n) d = gc n d := by unfold gc; rw [Int.natAbs_neg]
  unfold red
  rw [e, Int.neg_ediv_of_dvd (gc_dl n d)]
/-! ### the program's fractions -/
theorem frac_pos {n d : Int} (h : 0 < d) (hd : d < 18446744073709551616) : F_fraction n d = some (red n d) := by
  have g := gc_pos (n := n) h
  have l := gc_le (n := n) h
  unfold F_fraction
  simp only [bS]
  rw [if_neg (by simp; omega)]
  simp only [bS]
  rw [show (Nat.gcd n.natAbs d.natAbs : Int) = gc n d from rfl, fdivM_s g (by omega), fdivM_s g (by omega)]
  rfl
theorem frac_neg {n d : Int} (h : d < 0) (hd : -18446744073709551616 < d) : F_fraction n d = some (red (-n) (-d)) := by
  have hg : gc (-n) (-d) = gc n d := by unfold gc; rw [Int.natAbs_neg, Int.natAbs_neg]
  have g := gc_pos (n := -n) (d := -d) (by omega)
  have l := gc_le (n := -n) (d := -d) (by omega)
  rw [hg] at g l
  unfold F_fraction
  simp only [bS]
  rw [if_pos (by simp; omega)]
  simp only [bS]
  have q : ∀ x : Int, gc n d ∣ x → x.fdiv (-gc n d) = (-x) / gc n d := fun x hx => by
    obtain ⟨y, rfl⟩ := hx
    rw [show gc n d * y = (-gc n d) * (-y) by rw [Int.neg_mul_neg], Int.mul_fdiv_cancel_left _ (by omega)]
    rw [Int.neg_mul_neg, ← Int.mul_neg, Int.mul_ediv_cancel_left _ (by omega)]
  rw [show (Nat.gcd n.natAbs d.natAbs : Int) = gc n d from rfl, fdivM_neg (by omega) (by omega), fdivM_neg (by omega) (by omega)]
  rw [q n (gc_dl n d), q d (gc_dr n d)]
  simp only [bS]
  unfold red
  rw [hg]
theorem mul_bd {x y : Int} {a b : Nat} (h1 : x.natAbs ≤ a) (h2 : y.natAbs ≤ b) : (x * y).natAbs ≤ a * b := by rw [Int.natAbs_mul]; exact Nat.mul_le_mul h1 h2
theorem times_ok {x y : Int × Int} (h1 : x.1.natAbs ≤ 4294967296) (h3 : 0 < x.2) (h4 : x.2 < 4294967296) (h5 : 0 < y.2) (h6 : y.2 < 4294967296) : F_times_of x y = some (red (x.1 * y.1) (x.2 * y.2)) := by
  have p := Int.mul_pos h3 h5
  have b := mul_bd (x := x.2) (y := y.2) (a := 4294967295) (b := 4294967295) (by omega) (by omega)
  unfold F_times_of
  rw [mulM_l (by omega) (by omega), mulM_l (i := x.2) (by omega) (by omega)]
  simp only [bS]
  exact frac_pos p (by omega)
/-! ### the law's own divisor -/
theorem gc_zero {n : Int} (h : 0 ≤ n) : gc n 0 = n := by unfold gc; simp; omega
theorem gc_step {a b : Int} (ha : 0 ≤ a) (hb : 0 < b) : gc b (a % b) = gc a b := by
  obtain ⟨m, rfl⟩ := Int.eq_ofNat_of_zero_le ha
  obtain ⟨n, rfl⟩ := Int.eq_ofNat_of_zero_le (Int.le_of_lt hb)
  unfold gc
  have : ((m : Int) % (n : Int)).natAbs = m % n := by rw [← Int.natCast_emod]; rfl
  rw [this]
  show ((Nat.gcd n (m % n) : Nat) : Int) = (Nat.gcd m n : Nat)
  rw [Nat.gcd_comm n, ← Nat.gcd_rec, Nat.gcd_comm]
theorem halve {a b : Int} (h0 : 0 < b) (h1 : b < a) : 2 * (a % b) < a := by
  have e := Int.mul_ediv_add_emod a b
  have l := Int.emod_lt_of_pos a h0
  have q : 1 ≤ a / b := (Int.le_ediv_iff_mul_le h0).mpr (by omega)
  have : b * 1 ≤ b * (a / b) := Int.mul_le_mul_of_nonneg_left q (by omega)
  omega
theorem emod_le' {a b : Int} (ha : 0 ≤ a) (hb : 0 < b) : a % b ≤ a := by
  have e := Int.mul_ediv_add_emod a b
  have := Int.mul_nonneg (Int.le_of_lt hb) (Int.ediv_nonneg ha (Int.le_of_lt hb))
  omega
theorem divisor_ok {a b : Int} (ha : 0 ≤ a) (hb : 0 ≤ b) {k : Nat} (ka : Builtin.Int.intBits a ≤ k) (kb : Builtin.Int.intBits b ≤ k) (hk : k ≤ 100000) : F__law_divisor a b = some (gc a b) := by
  unfold F__law_divisor
  have la := (intBits_le_iff (m := Builtin.Int.intBits a) (x := a)).mp (Nat.le_refl _)
  have lb := (intBits_le_iff (m := Builtin.Int.intBits b) (x := b)).mp (Nat.le_refl _)
  generalize Builtin.Int.intBits a = p at ka la ⊢
  generalize Builtin.Int.intBits b = q at kb lb ⊢
  rw [rngM_0 (by omega) (by omega)]
  simp only [bS]
  suffices key : ∃ l : Int × Int, forR (R := Int) (fun (x249 : Int) (l248 : (Int × Int)) => if (decide (l248.2 = (0 : Int))) = true then (some (Fl.bk (l248.1, l248.2))) else ((modM l248.1 l248.2).bind fun (rest253 : Int) => some (Fl.nx (l248.2, rest253)))) (rng 0 (2 * (p : Int) + 2 * (q : Int) + 2)) (a, b) = some (.nx l) ∧ l.1 = gc a b by
    obtain ⟨l, e, h⟩ := key
    rw [e]
    show some l.1 = _
    rw [h]
  refine forR_bk
    (fun i l => 0 ≤ l.1 ∧ 0 ≤ l.2 ∧ gc l.1 l.2 = gc a b ∧ (i = 0 ∧ l = (a, b) ∨ l.2 < l.1 ∧ l.1 * l.2 * 2 ^ (i - 1) ≤ a * b)) (fun l => l.1 = gc a b) ⟨ha, hb, rfl, .inl ⟨rfl, rfl⟩⟩ (fun i l x hx hi => ?_) (fun l hl => ?_)
  · obtain ⟨h1, h2, h3, h4⟩ := hi
    by_cases hz : l.2 = 0
    · right
      refine ⟨(l.1, l.2), by rw [if_pos (by simpa using hz)], ?_⟩
      show l.1 = _
      rw [← h3, hz, gc_zero h1]
    · left
      have pos : 0 < l.2 := by omega
      have nn := Int.emod_nonneg l.1 (b := l.2) (by omega)
      have lt := Int.emod_lt_of_pos l.1 pos
      refine ⟨(l.2, l.1 % l.2), by rw [if_neg (by simpa using hz), modM_p pos]; rfl, h2, nn, by rw [← h3]; exact gc_step h1 pos, .inr ⟨lt, ?_⟩⟩
      show l.2 * (l.1 % l.2) * 2 ^ (i + 1 - 1) ≤ a * b
      rcases h4 with ⟨rfl, rfl⟩ | ⟨h4, h5⟩
      · show b * (a % b) * 2 ^ 0 ≤ a * b
        have : a % b ≤ a := emod_le' h1 pos
        have := Int.mul_le_mul_of_nonneg_left this h2
        rw [Int.mul_comm a b]; simpa using this
      · have hv := halve pos h4
        have i1 : i ≠ 0 ∨ i = 0 := by omega
        rcases i1 with i1 | rfl
        · have e2 : (2 : Int) ^ (i + 1 - 1) = 2 * 2 ^ (i - 1) := by
            rw [show i + 1 - 1 = (i - 1) + 1 by omega, Int.pow_succ, Int.mul_comm]
          rw [e2]
          have p2 : (0 : Int) ≤ 2 ^ (i - 1) := Int.pow_nonneg (by decide)
          have : l.2 * (l.1 % l.2) * (2 * 2 ^ (i - 1)) = (l.2 * 2 ^ (i - 1)) * (2 * (l.1 % l.2)) := by ac_rfl
          rw [this]
          have w := Int.mul_le_mul_of_nonneg_left (Int.le_of_lt hv) (Int.mul_nonneg h2 p2)
          have : l.2 * 2 ^ (i - 1) * l.1 = l.1 * l.2 * 2 ^ (i - 1) := by ac_rfl
          omega
        · have : l.2 * (l.1 % l.2) ≤ l.2 * l.1 := Int.mul_le_mul_of_nonneg_left (by omega) h2
          have c : l.2 * l.1 = l.1 * l.2 := Int.mul_comm _ _
          simp at h5 ⊢
          omega
  · obtain ⟨h1, h2, h3, h4⟩ := hl
    rw [rng_len] at h4
    have nz : (2 * (p : Int) + 2 * (q : Int) + 2 - 0).toNat = 2 * p + 2 * q + 2 := by omega
    rw [nz] at h4
    rcases h4 with ⟨h4, _⟩ | ⟨h4, h5⟩
    · omega
    · have : l.2 = 0 := by
        rcases Int.lt_or_eq_of_le h2 with z | z
        · exfalso
          have one : (1 : Int) ≤ l.1 * l.2 := Int.mul_pos (by omega) z
          have ab : a * b < 2 ^ (p + q) := by
            have : (a * b).natAbs < 2 ^ (p + q) := by
              rw [Int.natAbs_mul, Nat.pow_add]
              exact Nat.mul_lt_mul'' la lb
            have := Int.ofNat_lt.mpr this
            have hh : (0 : Int) ≤ a * b := Int.mul_nonneg ha hb
            rw [Int.natCast_pow] at this
            have e3 : ((a * b).natAbs : Int) = a * b := by omega
            rw [e3] at this
            exact this
          have mono : (2 : Int) ^ (p + q) ≤ 2 ^ (2 * p + 2 * q + 2 - 1) := by
            have := Nat.pow_le_pow_right (n := 2) (by decide) (show p + q ≤ 2 * p + 2 * q + 2 - 1 by omega)
            have := Int.ofNat_le.mpr this
            simpa using this
          have p2 : (0 : Int) ≤ 2 ^ (2 * p + 2 * q + 2 - 1) := Int.pow_nonneg (by decide)
          have := Int.mul_le_mul_of_nonneg_right one p2
          omega
        · exact z.symm
      rw [← h3, this, gc_zero h1]
end K93

set_option Elab.async false
set_option linter.all false
set_option maxRecDepth 100000
set_option maxHeartbeats 1000000
namespace K93
open PySem PySem.Spec PyProof.Rows L2 M3
theorem take_ok {ds : List Int} {m : Int} (h : 0 < m) : F__law_take ds m = some (takeD ds m) := by
  unfold F__law_take takeD
  cases e : ds.getLast? with
  | none =>
    have : ds = [] := List.getLast?_eq_none_iff.mp e
    subst this; rfl
  | some x =>
    have : ds.length ≠ 0 := by
      intro z
      have : ds = [] := List.length_eq_zero_iff.mp z
      subst this; cases e
    rw [if_neg (by simpa using this)]
    show ((modM x m).bind _).bind _ = _
    rw [modM_p h]; rfl
/-! ### gears -/
def G (l : List (Int × Int)) : Prop := (∀ p ∈ l, 1 ≤ p.1 ∧ p.1 ≤ 12 ∧ 1 ≤ p.2 ∧ p.2 ≤ 12) ∧ l.length ≤ 8
def nP (l : List (Int × Int)) : Int := l.foldl (fun n p => n * (-p.1)) 1
def dP (l : List (Int × Int)) : Int := l.foldl (fun n p => n * p.2) 1
theorem nP_app (l : List (Int × Int)) (x : Int × Int) : nP (l ++ [x]) = nP l * (-x.1) := by unfold nP; rw [List.foldl_append]; rfl
theorem dP_app (l : List (Int × Int)) (x : Int × Int) : dP (l ++ [x]) = dP l * x.2 := by unfold dP; rw [List.foldl_append]; rfl
theorem take_next {τ : Type} {l : List τ} {i : Nat} {x : τ} (h : l[i]? = some x) : l.take (i + 1) = l.take i ++ [x] := by rw [List.take_succ, h]; rfl
theorem foldN : ∀ (l : List (Int × Int)) (a : Int), (∀ p ∈ l, 1 ≤ p.1 ∧ p.1 ≤ 12 ∧ 1 ≤ p.2 ∧ p.2 ≤ 12) → (l.foldl (fun n p => n * (-p.1)) a).natAbs ≤ a.natAbs * 12 ^ l.length
  | [], a, _ => by simp
  | x :: r, a, h => by
    have hx := h x List.mem_cons_self
    have := foldN r (a * (-x.1)) fun p hp => h p (List.mem_cons_of_mem _ hp)
    have b := mul_bd (x := a) (y := -x.1) (a := a.natAbs) (b := 12) (Nat.le_refl _) (by omega)
    show (r.foldl _ (a * (-x.1))).natAbs ≤ _
    rw [List.length_cons, Nat.pow_succ]
    have m := Nat.mul_le_mul_right (12 ^ r.length) b
    have e : a.natAbs * 12 * 12 ^ r.length = a.natAbs * (12 ^ r.length * 12) := by ac_rfl
    omega
theorem foldD : ∀ (l : List (Int × Int)) (a : Int), 0 < a → (∀ p ∈ l, 1 ≤ p.1 ∧ p.1 ≤ 12 ∧ 1 ≤ p.2 ∧ p.2 ≤ 12) → 0 < l.foldl (fun n p => n * p.2) a ∧ (l.foldl (fun n p => n * p.2) a).natAbs ≤ a.natAbs * 12 ^ l.length
  | [], a, h0, _ => by simpa using h0
  | x :: r, a, h0, h => by
    have hx := h x List.mem_cons_self
    have := foldD r (a * x.2) (Int.mul_pos h0 (by omega)) fun p hp => h p (List.mem_cons_of_mem _ hp)
    have b := mul_bd (x := a) (y := x.2) (a := a.natAbs) (b := 12) (Nat.le_refl _) (by omega)
    show 0 < r.foldl _ (a * x.2) ∧ (r.foldl _ (a * x.2)).natAbs ≤ _
    rw [List.length_cons, Nat.pow_succ]
    have m := Nat.mul_le_mul_right (12 ^ r.length) b
    have e : a.natAbs * 12 * 12 ^ r.length = a.natAbs * (12 ^ r.length * 12) := by ac_rfl
    omega
theorem p12 {n : Nat} (h : n ≤ 8) : 12 ^ n ≤ 429981696 := Nat.le_trans (Nat.pow_le_pow_right (by decide) h) (by decide)
theorem nP_bd {l : List (Int × Int)} (h : G l) : (nP l).natAbs ≤ 429981696 := by
  have := foldN l 1 h.1
  have := p12 h.2
  unfold nP; simp at *; omega
theorem dP_bd {l : List (Int × Int)} (h : G l) : 0 < dP l ∧ dP l ≤ 429981696 := by
  have := foldD l 1 (by decide) h.1
  have := p12 h.2
  unfold dP; simp at *; omega
theorem G.take {l : List (Int × Int)} (h : G l) (i : Nat) : G (l.take i) := ⟨fun p hp => h.1 p (List.mem_of_mem_take hp), Nat.le_trans (by simp; omega) h.2⟩
theorem bits_le {x : Int} {k : Nat} (h : x.natAbs < 2 ^ k) : Builtin.Int.intBits x ≤ k := intBits_le_iff.mpr h
theorem lowest_ok {n d : Int} (hd : 0 < d) (hd2 : d < 18446744073709551616) (hn : n.natAbs < 2 ^ 250) : F__law_lowest n d = some (red n d) := by
  unfold F__law_lowest
  have e : gc (n.natAbs : Int) d = gc n d := by unfold gc; simp
  have g := gc_pos (n := n) hd
  have l := gc_le (n := n) hd
  have hd3 : d.natAbs < 2 ^ 250 := Nat.lt_of_lt_of_le (show d.natAbs < 2 ^ 64 by omega) (Nat.pow_le_pow_right (by decide) (by decide))
  rw [divisor_ok (k := 250) (by omega) (by omega) (bits_le (by simpa using hn)) (bits_le hd3) (by decide), e]
  simp only [bS]
  rw [fdivM_s g (by omega), fdivM_s g (by omega)]
  rfl
theorem small_pow {x : Int} (h : x.natAbs < 2 ^ 64) : x.natAbs < 2 ^ 250 := Nat.lt_of_lt_of_le h (Nat.pow_le_pow_right (by decide) (by decide))
/-- the ratio of the first i pairs -/
def rs (l : List (Int × Int)) (i : Nat) : Int × Int := red (nP (l.take i)) (dP (l.take i))
theorem rs_pos {l : List (Int × Int)} (h : G l) (i : Nat) : 0 < (rs l i).2 ∧ (rs l i).2 ≤ 429981696 ∧ (rs l i).1.natAbs ≤ 429981696 := by
  have h := h.take i
  have a := dP_bd h
  have b := nP_bd h
  exact ⟨red_pos a.1, Int.le_trans (red_le a.1) a.2, Nat.le_trans (red_abs a.1) b⟩
theorem ratio_ok {l : List (Int × Int)} (h : G l) : F_ratio_of l = some (red (nP l) (dP l)) := by
  unfold F_ratio_of
  simp only [bS]
  suffices key : ∃ v, forP (fun (x30 : (Int × Int)) (l29 : (Int × Int)) => ((F_fraction (-(x30.1)) x30.2).bind fun z31 => F_times_of l29 z31).bind fun (found32 : (Int × Int)) => some found32) l ((1 : Int), (1 : Int)) = some v ∧ v = rs l l.length by
    obtain ⟨v, e, rfl⟩ := key
    rw [e]
    unfold rs
    rw [List.take_length]; rfl
  refine forP_ok (fun i v => v = rs l i) (show ((1 : Int), (1 : Int)) = red 1 1 from (red_1 1).symm) fun i v x hx hi => ⟨rs l (i + 1), ?_, rfl⟩
  subst hi
  have hm := h.1 x (List.mem_of_getElem? hx)
  have r1 := rs_pos h i
  have a := dP_bd (h.take i)
  have r2 := red_pos (n := -x.1) (d := x.2) (by omega)
  have r3 := red_le (n := -x.1) (d := x.2) (by omega)
  rw [frac_pos (by omega) (by omega)]
  simp only [bS]
  rw [times_ok (by omega) r1.1 (by omega) r2 (by omega)]
  unfold rs
  rw [take_next hx, nP_app, dP_app]
  simp only [bS]
  rw [red_red a.1 (by omega)]
theorem ratios_ok {l : List (Int × Int)} (h : G l) : F__law_ratios l = some ((List.range l.length).map fun i => rs l (i + 1)) := by
  unfold F__law_ratios
  simp only [bS]
  suffices key : ∃ v, forP (fun (x267 : (Int × Int)) (l266 : ((List (Int × Int)) × Int × Int)) => ((mulM l266.2.1 x267.1).bind fun z268 => some (((0 : Int) - z268))).bind fun (n269 : Int) => (mulM l266.2.2 x267.2).bind fun (d270 : Int) => ((F__law_lowest n269 d270).bind fun z272 => (roomM l266.1.length).map fun _ => z272).bind fun (z271 : (Int × Int)) => some ((l266.1 ++ [z271]), n269, d270)) l (([] : List (Int × Int)), (1 : Int), (1 : Int)) = some v ∧ v.1 = (List.range l.length).map fun i => rs l (i + 1) by
    obtain ⟨v, e, hv⟩ := key
    rw [e]
    show some v.1 = _
    rw [hv]
  have key : ∃ v, forP (fun (x267 : (Int × Int)) (l266 : ((List (Int × Int)) × Int × Int)) => ((mulM l266.2.1 x267.1).bind fun z268 => some (((0 : Int) - z268))).bind fun (n269 : Int) => (mulM l266.2.2 x267.2).bind fun (d270 : Int) => ((F__law_lowest n269 d270).bind fun z272 => (roomM l266.1.length).map fun _ => z272).bind fun (z271 : (Int × Int)) => some ((l266.1 ++ [z271]), n269, d270)) l (([] : List (Int × Int)), (1 : Int), (1 : Int)) = some v ∧ v = ((List.range l.length).map (fun i => rs l (i + 1)), nP (l.take l.length), dP (l.take l.length)) := by
    refine forP_ok (fun i v => v = ((List.range i).map (fun i => rs l (i + 1)), nP (l.take i), dP (l.take i))) (by simp [nP, dP]) fun i v x hx hi => ⟨((List.range (i + 1)).map (fun i => rs l (i + 1)), nP (l.take (i + 1)), dP (l.take (i + 1))), ?_, rfl⟩
    subst hi
    have hm := h.1 x (List.mem_of_getElem? hx)
    have a1 := dP_bd (h.take (i + 1))
    have a2 := nP_bd (h.take (i + 1))
    have en : (0 : Int) - nP (l.take i) * x.1 = nP (l.take (i + 1)) := by rw [take_next hx, nP_app, Int.mul_neg]; omega
    have ed : dP (l.take i) * x.2 = dP (l.take (i + 1)) := by rw [take_next hx, dP_app]
    have hi : i < l.length := (List.getElem?_eq_some_iff.mp hx).1
    have h8 := h.2
    simp only []
    rw [mulM_r (by omega) (by omega), mulM_r (i := dP (l.take i)) (by omega) (by omega)]
    simp only [bS]
    rw [en, ed, lowest_ok a1.1 (by omega) (small_pow (by omega))]
    simp only [bS]
    rw [roomM_ok (by simp; omega)]
    simp only [mS, bS]
    rw [List.range_succ, List.map_append, List.map_singleton]
    unfold rs
    rfl
  obtain ⟨v, e, hv⟩ := key
  exact ⟨v, e, by rw [hv]⟩
end K93

set_option Elab.async false
set_option linter.all false
set_option maxRecDepth 100000
set_option maxHeartbeats 1000000
namespace K93
open PySem PySem.Spec PyProof.Rows L2 M3
/-! ### turns -/
def lcN (l : List (Int × Int)) : Nat → Nat
  | 0 => 1
  | k + 1 => Nat.lcm (lcN l k) (rs l (k + 1)).2.natAbs
theorem lcN_pos {l : List (Int × Int)} (h : G l) : ∀ k, 0 < lcN l k
  | 0 => Nat.one_pos
  | k + 1 => Nat.lcm_pos (lcN_pos h k) (by have := rs_pos h (k + 1); omega)
theorem lcm_le_mul (a b : Nat) : Nat.lcm a b ≤ a * b := Nat.div_le_self _ _
theorem lcN_le {l : List (Int × Int)} (h : G l) : ∀ k, lcN l k ≤ 429981696 ^ k
  | 0 => Nat.le_refl _
  | k + 1 => by
    have r := rs_pos h (k + 1)
    have i := lcN_le h k
    rw [Nat.pow_succ]
    exact Nat.le_trans (lcm_le_mul _ _) (Nat.mul_le_mul i (by omega))
theorem lcN_dvd {l : List (Int × Int)} {m : Nat} : ∀ {k : Nat}, lcN l k ∣ m ↔ ∀ j, j < k → (rs l (j + 1)).2.natAbs ∣ m
  | 0 => ⟨fun _ _ h => absurd h (Nat.not_lt_zero _), fun _ => Nat.one_dvd _⟩
  | k + 1 => by
    constructor
    · intro h j hj
      rcases Nat.lt_succ_iff_lt_or_eq.mp hj with hj | rfl
      · exact (lcN_dvd (k := k)).mp (Nat.dvd_trans (Nat.dvd_lcm_left _ _) h) j hj
      · exact Nat.dvd_trans (Nat.dvd_lcm_right _ _) h
    · intro h
      exact Nat.lcm_dvd ((lcN_dvd (k := k)).mpr fun j hj => h j (Nat.lt_succ_of_lt hj)) (h k (Nat.lt_succ_self _))
theorem lcm_eq {a b : Int} (ha : 0 < a) (hb : 0 < b) : a * b / gc a b = (Nat.lcm a.natAbs b.natAbs : Int) := by
  unfold gc Nat.lcm
  rw [Int.natCast_ediv, Int.natCast_mul]
  have e1 : (a.natAbs : Int) = a := by omega
  have e2 : (b.natAbs : Int) = b := by omega
  rw [e1, e2]
theorem pow8 {l : List (Int × Int)} (h : G l) {k : Nat} (hk : k ≤ 8) : lcN l k < 2 ^ 250 :=
  Nat.lt_of_le_of_lt (lcN_le h k) (Nat.lt_of_le_of_lt (Nat.pow_le_pow_right (by decide) hk) (by decide))
/-- one turn of both reckonings -/
theorem lcm_step {l : List (Int × Int)} (h : G l) {k : Nat} (hk : k < 8) : ((mulM (lcN l k : Int) (rs l (k + 1)).2).bind fun z288 => (F__law_divisor (lcN l k : Int) (rs l (k + 1)).2).bind fun z289 => fdivM z288 z289) = some (lcN l (k + 1) : Int) := by
  have r := rs_pos h (k + 1)
  have p := lcN_pos h k
  have b := pow8 h (show k ≤ 8 by omega)
  have r0 : (rs l (k + 1)).2.natAbs < 2 ^ 250 := Nat.lt_of_lt_of_le (show (rs l (k + 1)).2.natAbs < 2 ^ 64 by omega) (Nat.pow_le_pow_right (by decide) (by decide))
  rw [mulM_r (by omega) (by omega), bS, divisor_ok (k := 250) (by omega) (by omega) (bits_le (by simpa using b)) (bits_le r0) (by decide), bS]
  have g := gc_pos (n := (lcN l k : Int)) r.1
  have g2 := gc_le (n := (lcN l k : Int)) r.1
  rw [fdivM_s g (by omega), lcm_eq (by omega) r.1]
  show some ((Nat.lcm (lcN l k : Int).natAbs _ : Nat) : Int) = some ((Nat.lcm (lcN l k) _ : Nat) : Int)
  rw [Int.natAbs_natCast]
theorem lcm_step2 {l : List (Int × Int)} (h : G l) {k : Nat} (hk : k < 8) : ((mulM (lcN l k : Int) (rs l (k + 1)).2).bind fun z40 => fdivM z40 (Nat.gcd (lcN l k : Int).natAbs (rs l (k + 1)).2.natAbs : Int)) = some (lcN l (k + 1) : Int) := by
  have r := rs_pos h (k + 1)
  have p := lcN_pos h k
  rw [mulM_r (by omega) (by omega), bS]
  have g := gc_pos (n := (lcN l k : Int)) r.1
  have g2 := gc_le (n := (lcN l k : Int)) r.1
  show fdivM _ (gc (lcN l k : Int) (rs l (k + 1)).2) = _
  rw [fdivM_s g (by omega), lcm_eq (by omega) r.1]
  show some ((Nat.lcm (lcN l k : Int).natAbs _ : Nat) : Int) = some ((Nat.lcm (lcN l k) _ : Nat) : Int)
  rw [Int.natAbs_natCast]
theorem turns_ok {l : List (Int × Int)} (h : G l) : F__law_turns l = some (lcN l l.length : Int) := by
  unfold F__law_turns
  rw [ratios_ok h]
  simp only [bS]
  suffices key : ∃ v : Int, forP (fun (x287 : (Int × Int)) (l286 : Int) => ((mulM l286 x287.2).bind fun z288 => (F__law_divisor l286 x287.2).bind fun z289 => fdivM z288 z289).bind fun (turns290 : Int) => some turns290) ((List.range l.length).map fun i => rs l (i + 1)) (1 : Int) = some v ∧ v = (lcN l l.length : Int) by
    obtain ⟨v, e, hv⟩ := key
    rw [e, bS, hv]
  have key : ∃ v : Int, forP (fun (x287 : (Int × Int)) (l286 : Int) => ((mulM l286 x287.2).bind fun z288 => (F__law_divisor l286 x287.2).bind fun z289 => fdivM z288 z289).bind fun (turns290 : Int) => some turns290) ((List.range l.length).map fun i => rs l (i + 1)) (1 : Int) = some v ∧ v = (lcN l ((List.range l.length).map fun i => rs l (i + 1)).length : Int) := by
    refine forP_ok (fun i v => v = (lcN l i : Int)) rfl fun i v x hx hi => ⟨(lcN l (i + 1) : Int), ?_, rfl⟩
    subst hi
    rw [List.getElem?_map] at hx
    cases e : (List.range l.length)[i]? with
    | none => rw [e] at hx; cases hx
    | some j =>
      rw [e] at hx
      obtain ⟨h1, h2⟩ := List.getElem?_eq_some_iff.mp e
      rw [List.getElem_range] at h2
      rw [List.length_range] at h1
      subst h2
      have hx : rs l (i + 1) = x := Option.some.inj hx
      subst hx
      have h8 := h.2
      rw [lcm_step h (by omega), bS]
  rw [List.length_map, List.length_range] at key
  exact key
theorem turnsL (l : List (Int × Int)) : F__law_turns_L l = F__law_turns l := by
  unfold F__law_turns_L F__law_turns F__law_ratios_L F__law_ratios
  rfl
theorem turns_until_ok {l : List (Int × Int)} (h : G l) : F_turns_until l = some (lcN l l.length : Int) := by
  unfold F_turns_until
  have h8 := h.2
  rw [rngM_ok (by unfold big; omega) (by unfold big; omega) (by omega)]
  simp only [bS]
  suffices key : ∃ v : Int, forP (fun (x37 : Int) (l36 : Int) => ((F_ratio_of (cutL l none (some x37))).bind fun z38 => some (z38.2)).bind fun (below39 : Int) => ((mulM l36 below39).bind fun z40 => fdivM z40 (Nat.gcd l36.natAbs below39.natAbs : Int)).bind fun (found41 : Int) => some found41) (rng 1 ((l.length : Int) + 1)) (1 : Int) = some v ∧ v = (lcN l (rng 1 ((l.length : Int) + 1)).length : Int) by
    obtain ⟨v, e, hv⟩ := key
    rw [rng_len, show ((l.length : Int) + 1 - 1).toNat = l.length by omega] at hv
    rw [e, bS, hv]
  refine forP_ok (fun i v => v = (lcN l i : Int)) rfl fun i v x hx hi => ⟨(lcN l (i + 1) : Int), ?_, rfl⟩
  subst hi
  obtain ⟨h1, h2, h3⟩ := rng_get hx
  have ec : cutL l none (some x) = l.take (i + 1) := by
    unfold cutL
    rw [HT.sIx_none, show x = ((i + 1 : Nat) : Int) by omega, HT.sIx_nat]
    have : min (i + 1) l.length = i + 1 := by omega
    rw [this]; simp
  rw [ec, ratio_ok (h.take _), bS, bS]
  have := lcm_step2 h (show i < 8 by omega)
  unfold rs at this
  rw [this, bS]
/-! ### a gear is drawn -/
theorem getLast?_app {τ : Type} (l : List τ) (x : τ) : (l ++ [x]).getLast? = some x := by simp
def G4 (l : List (Int × Int)) (n : Nat) : Prop := (∀ p ∈ l, 1 ≤ p.1 ∧ p.1 ≤ 12 ∧ 1 ≤ p.2 ∧ p.2 ≤ 12) ∧ l.length ≤ n
theorem gear_ok (ds : List Int) : ∃ l ds', F__law_gear ds 2000 = some (l, ds') ∧ G4 l 4 ∧ lcN l l.length ≤ 2000 := by
  unfold F__law_gear
  simp only [bS]
  have t0 := takeD_lt (ds := ds) (m := 5) (by decide)
  rw [take_ok (by decide), bS]
  simp only [bS]
  generalize takeD ds 5 = tk at t0
  rw [rngM_0 (by omega) (by omega)]
  simp only [bS]
  suffices key : ∃ v : List Int × List (Int × Int), forP _ (rng 0 tk.1) (tk.2, ([] : List (Int × Int))) = some v ∧ (G4 v.2 (rng 0 tk.1).length ∧ lcN v.2 v.2.length ≤ 2000) by
    obtain ⟨v, e, h1, h2⟩ := key
    rw [e, bS]
    refine ⟨_, _, rfl, ⟨h1.1, Nat.le_trans h1.2 (by rw [rng_len]; omega)⟩, h2⟩
  refine forP_ok (fun i (v : List Int × List (Int × Int)) => G4 v.2 i ∧ lcN v.2 v.2.length ≤ 2000) ⟨⟨(fun p hp => by cases hp), Nat.le_refl _⟩, (show (1 : Nat) ≤ 2000 by decide)⟩ fun i v x hx hi => ?_
  obtain ⟨h1, h2, h3⟩ := rng_get hx
  obtain ⟨⟨g1, g2⟩, g3⟩ := hi
  have t1 := takeD_lt (ds := v.1) (m := 12) (by decide)
  have t2 := takeD_lt (ds := (takeD v.1 12).2) (m := 12) (by decide)
  rw [take_ok (by decide)]
  simp only [bS]
  rw [take_ok (by decide)]
  simp only [bS]
  generalize takeD v.1 12 = a at t1 t2 ⊢
  generalize takeD a.2 12 = b at t2 ⊢
  rw [roomM_ok (by omega)]
  simp only [bS, mS]
  have hg : G (v.2 ++ [(1 + a.1, 1 + b.1)]) := ⟨fun p hp => by
    rcases List.mem_append.mp hp with hp | hp
    · exact g1 p hp
    · rw [List.mem_singleton.mp hp]
      show 1 ≤ 1 + a.1 ∧ 1 + a.1 ≤ 12 ∧ 1 ≤ 1 + b.1 ∧ 1 + b.1 ≤ 12
      omega, by rw [List.length_append, List.length_singleton]; omega⟩
  rw [turnsL, turns_ok hg]
  simp only [bS]
  by_cases hb : (2000 : Int) < (lcN (v.2 ++ [(1 + a.1, 1 + b.1)]) (v.2 ++ [(1 + a.1, 1 + b.1)]).length : Int)
  · rw [if_pos (decide_eq_true hb), getLast?_app, List.dropLast_concat]
    simp only [bS, mS]
    exact ⟨_, rfl, ⟨g1, Nat.le_succ_of_le g2⟩, g3⟩
  · rw [if_neg (by simpa using hb)]
    refine ⟨_, rfl, ⟨hg.1, ?_⟩, ?_⟩
    · rw [List.length_append, List.length_singleton]; omega
    · show lcN (v.2 ++ [(1 + a.1, 1 + b.1)]) (v.2 ++ [(1 + a.1, 1 + b.1)]).length ≤ 2000
      omega
end K93

set_option Elab.async false
set_option linter.all false
set_option maxRecDepth 2000
set_option maxHeartbeats 1000000
namespace K93
open PySem PySem.Spec PyProof.Rows L2 M3
theorem sameI (x : Int) : F__law_same (kI x) (kI x) = some true := same_rI 3 x
theorem sameB (x : Bool) : F__law_same (kB x) (kB x) = some true := same_rB 3 x
theorem same2 (x : Int × Int) : F__law_same (kT2 kI kI x) (kT2 kI kI x) = some true := same_r2 (n := 2) (same_rI 2) (same_rI 2) x
theorem same3 (x : Int × Int × Int) : F__law_same (kT3 kI kI kI x) (kT3 kI kI kI x) = some true := same_r3 (n := 2) (same_rI 2) (same_rI 2) (same_rI 2) x
def Rs (l : List (Int × Int)) : List (Int × Int) := (List.range l.length).map fun i => rs l (i + 1)
def Sv (l : List (Int × Int)) : List (Int × Int) := ((0 : Int), (1 : Int)) :: (Rs l).map fun x => ((0 : Int), x.2)
theorem Rs_len (l : List (Int × Int)) : (Rs l).length = l.length := by unfold Rs; simp
theorem Sv_len (l : List (Int × Int)) : (Sv l).length = l.length + 1 := by unfold Sv; simp [Rs_len]
theorem Rs_get {l : List (Int × Int)} {k : Nat} (h : k < l.length) : (Rs l)[k]? = some (rs l (k + 1)) := by unfold Rs; simp [h]
theorem Sv_get {l : List (Int × Int)} {k : Nat} (h : k < l.length) : (Sv l)[k + 1]? = some (0, (rs l (k + 1)).2) := by unfold Sv; simp [Rs_get h]
theorem round_ok {l : List (Int × Int)} (h : G l) : F_round_of (Sv l) = some (lcN l l.length : Int) := by
  unfold F_round_of
  simp only [bS]
  suffices key : ∃ v : Int, forP (fun (x77 : (Int × Int)) (l76 : Int) => ((mulM l76 x77.2).bind fun z78 => fdivM z78 (Nat.gcd l76.natAbs x77.2.natAbs : Int)).bind fun (found79 : Int) => some found79) (Sv l) (1 : Int) = some v ∧ v = (lcN l ((Sv l).length - 1) : Int) by
    obtain ⟨v, e, hv⟩ := key
    rw [Sv_len, Nat.add_sub_cancel] at hv
    rw [e, bS, hv]
  refine forP_ok (fun i v => v = (lcN l (i - 1) : Int)) rfl fun i v x hx hi => ⟨(lcN l i : Int), ?_, rfl⟩
  subst hi
  cases i with
  | zero =>
    have hx : ((0 : Int), (1 : Int)) = x := Option.some.inj hx
    subst hx
    rw [mulM_r (by decide) (by decide), bS]
    show (fdivM ((1 : Int) * 1) ((Nat.gcd (1 : Int).natAbs (1 : Int).natAbs : Nat) : Int)).bind _ = _
    rw [show Nat.gcd (1 : Int).natAbs (1 : Int).natAbs = 1 by decide]
    rw [fdivM_s (by decide) (by decide), bS]
    rfl
  | succ i =>
    have hi : i < l.length := by
      have := (List.getElem?_eq_some_iff.mp hx).1
      rw [Sv_len] at this; omega
    rw [Sv_get hi] at hx
    have hx : ((0 : Int), (rs l (i + 1)).2) = x := Option.some.inj hx
    subst hx
    have h8 := h.2
    show ((mulM (lcN l i : Int) (rs l (i + 1)).2).bind fun z40 => fdivM z40 (Nat.gcd (lcN l i : Int).natAbs (rs l (i + 1)).2.natAbs : Int)).bind _ = _
    rw [lcm_step2 h (by omega), bS]
theorem cut_take {τ : Type} {l : List τ} {k : Nat} (h : k < l.length) : cutL l none (some ((k : Int) + 1)) = l.take (k + 1) := by
  unfold cutL
  rw [HT.sIx_none, show (k : Int) + 1 = ((k + 1 : Nat) : Int) by omega, HT.sIx_nat]
  have : min (k + 1) l.length = k + 1 := by omega
  rw [this]; simp
theorem cut_one {τ : Type} {l : List τ} {k : Nat} {x : τ} (h : l[k]? = some x) : cutL l (some (k : Int)) (some ((k : Int) + 1)) = [x] := by
  have hk := (List.getElem?_eq_some_iff.mp h).1
  unfold cutL
  rw [HT.sIx_nat, show (k : Int) + 1 = ((k + 1 : Nat) : Int) by omega, HT.sIx_nat]
  have e1 : min k l.length = k := by omega
  have e2 : min (k + 1) l.length = k + 1 := by omega
  rw [e1, e2, show k + 1 - k = 1 by omega, List.drop_eq_getElem_cons hk]
  have := (List.getElem?_eq_some_iff.mp h).2
  rw [this]; rfl
theorem departs_ok {a d m : Int} (h : 0 < d) : F_departs_at (a, d) m = some (decide ((m - a) % d = 0)) := by
  unfold F_departs_at
  simp only [bS]
  rw [modM_p h, bS]
theorem before_ok {a d m : Int} (h : 0 < d) (h2 : d < 18446744073709551616) : F_before_minute (a, d) m = some (-((a - m) / d)) := by
  unfold F_before_minute
  simp only [bS]
  rw [fdivM_s h h2, bS]
/-- numbers whose fraction is in lowest terms -/
theorem cop_dvd {n d m : Int} (hc : Nat.gcd n.natAbs d.natAbs = 1) : (m * n) % d = 0 ↔ m % d = 0 := by
  constructor
  · intro h
    have h1 := Int.natAbs_dvd_natAbs.mpr (Int.dvd_of_emod_eq_zero h)
    rw [Int.natAbs_mul] at h1
    have hc2 : Nat.Coprime d.natAbs n.natAbs := by rw [Nat.coprime_iff_gcd_eq_one, Nat.gcd_comm]; exact hc
    exact Int.emod_eq_zero_of_dvd (Int.natAbs_dvd_natAbs.mp (hc2.dvd_of_dvd_mul_right h1))
  · intro h
    exact Int.emod_eq_zero_of_dvd (Int.dvd_mul_of_dvd_left (Int.dvd_of_emod_eq_zero h))
theorem sum_one (x : Int) : [x].sum = x := by simp
theorem mod_lcN {l : List (Int × Int)} {a : Int} {k : Nat} : a % (lcN l k : Int) = 0 ↔ ∀ j, j < k → a % (rs l (j + 1)).2 = 0 := by
  have q : ∀ d : Int, a % d = 0 ↔ d.natAbs ∣ a.natAbs := fun d => ⟨fun h => Int.natAbs_dvd_natAbs.mpr (Int.dvd_of_emod_eq_zero h), fun h => Int.emod_eq_zero_of_dvd (Int.natAbs_dvd_natAbs.mp h)⟩
  rw [q, Int.natAbs_natCast, lcN_dvd]
  exact ⟨fun h j hj => (q _).mpr (h j hj), fun h j hj => (q _).mp (h j hj)⟩
theorem axles_ok {l : List (Int × Int)} (h : G l) (ht : lcN l l.length ≤ 2000) (ds : List Int) : ∃ ds', F__law_axles ds l = some (true, ds') := by
  have h8 := h.2
  have tp := lcN_pos h l.length
  unfold F__law_axles
  rw [ratios_ok h, bS]
  rw [show ((List.range l.length).map fun i => rs l (i + 1)) = Rs l from rfl]
  simp only [bS]
  rw [mapO_ok (f := fun x : Int × Int => some ((0 : Int), x.2)) (g := fun x => ((0 : Int), x.2)) (fun x _ => rfl)]
  simp only [bS]
  rw [catM_ok (by rw [List.length_map, Rs_len]; simp; omega)]
  simp only [bS]
  rw [show [((0 : Int), (1 : Int))] ++ (Rs l).map (fun x => ((0 : Int), x.2)) = Sv l from rfl]
  rw [turns_until_ok h, bS, turns_ok h, bS, bS, sameI, bS, bS]
  simp only [Bool.not_true, Bool.false_eq_true, if_false]
  rw [round_ok h, bS, bS, sameI, bS, bS]
  simp only [Bool.not_true, Bool.false_eq_true, if_false]
  generalize hT : (lcN l l.length : Int) = T
  have T0 : 0 < T := by omega
  have T1 : T ≤ 2000 := by omega
  have t1 := takeD_lt (ds := ds) (m := T + 1) (by omega)
  rw [take_ok (by omega)]
  simp only [bS]
  generalize takeD ds (T + 1) = a at t1 ⊢
  rw [take_ok (by decide)]
  simp only [bS]
  have t2 := takeD_lt (ds := a.2) (m := 50) (by decide)
  generalize takeD a.2 50 = b at t2 ⊢
  suffices key : ∃ v, forR (R := Bool × List Int) _ [a.1, T, 2 * T, max 0 (T - 1), b.1] b.2 = some (.nx v) ∧ True by
    obtain ⟨v, e, _⟩ := key
    rw [e, bS]
    simp only [eN]
    rw [Rs_len, rngM_nat (by omega), bS]
    suffices key2 : ∃ v, forR (R := Bool × List Int) _ (rng 0 (l.length : Int)) () = some (.nx v) ∧ True by
      obtain ⟨w, e2, _⟩ := key2
      exact ⟨_, by rw [e2, bS, eN]⟩
    refine forR_nx (fun i v => True) trivial fun i v x hx _ => ⟨(), ?_, trivial⟩
    obtain ⟨h1, h2, h3⟩ := rng_get hx
    have hi : i < l.length := by omega
    have hxi : x = (i : Int) := by omega
    subst hxi
    have r := rs_pos h (i + 1)
    have cu : cutL (Sv l) (some ((i : Int) + 1)) (some ((i : Int) + 2)) = [(0, (rs l (i + 1)).2)] := by
      have := cut_one (Sv_get hi)
      rw [show ((i + 1 : Nat) : Int) = (i : Int) + 1 by omega, show (i : Int) + 1 + 1 = (i : Int) + 2 by omega] at this
      exact this
    rw [cu, atI_nat (Rs_get hi)]
    simp only [bS]
    rw [fdivM_s r.1 (by omega)]
    simp only [bS]
    have hd : T % (rs l (i + 1)).2 = 0 := by
      rw [← hT]
      exact (mod_lcN (a := (lcN l l.length : Int)) (k := l.length)).mp (Int.emod_self) i hi
    have dep : F_departures_in [(0, (rs l (i + 1)).2)] 0 T = some (T / (rs l (i + 1)).2) := by
      unfold F_departures_in
      rw [if_neg (by simp; omega)]
      simp only [bS]
      rw [mapO_ok (g := fun x => T / x.2) fun x hx => ?_]
      · rw [bS]
        show some ([T / (rs l (i + 1)).2].sum) = _
        rw [sum_one]
      · rw [List.mem_singleton.mp hx, before_ok r.1 (by omega), before_ok r.1 (by omega), bS, bS]
        have e1 : ((0 : Int) - T) / (rs l (i + 1)).2 = -(T / (rs l (i + 1)).2) := by
          rw [Int.zero_sub, Int.neg_ediv_of_dvd (Int.dvd_of_emod_eq_zero hd)]
        have e2 : ((0 : Int) - 0) / (rs l (i + 1)).2 = 0 := by simp
        rw [e1, e2]
        show some (-(-(T / (rs l (i + 1)).2)) - (-(0 : Int))) = some (T / (rs l (i + 1)).2)
        rw [Int.neg_neg, Int.neg_zero, Int.sub_zero]
    rw [dep]
    simp only [bS]
    rw [sameI, bS, bS]
    rfl
  refine forR_nx (fun i v => True) trivial fun i v x hx _ => ⟨v, ?_, trivial⟩
  have xb : 0 ≤ x ∧ x ≤ 4000 := by
    have := List.mem_of_getElem? hx
    simp only [List.mem_cons, List.not_mem_nil, or_false] at this
    omega
  rw [Rs_len, rngM_nat (by omega), bS]
  suffices key : ∃ w : Int, forR (R := Bool × List Int) _ (rng 0 (l.length : Int)) 0 = some (.nx w) ∧ (0 ≤ w ∧ w ≤ ((rng 0 (l.length : Int)).length : Int) ∧ (w = ((rng 0 (l.length : Int)).length : Int) ↔ ∀ j, j < (rng 0 (l.length : Int)).length → x % (rs l (j + 1)).2 = 0)) by
    obtain ⟨w, e, hw0, hw1, hw2⟩ := key
    rw [rng_len, show ((l.length : Int) - 0).toNat = l.length by omega] at hw1 hw2
    rw [e, bS]
    simp only [eN]
    rw [modM_p T0]
    simp only [bS]
    have e1 : decide (w = (l.length : Int)) = decide (x % T = 0) := by
      rw [← hT]
      exact decide_eq_decide.mpr (hw2.trans mod_lcN.symm)
    rw [e1]
    simp
  refine forR_nx (fun i (w : Int) => 0 ≤ w ∧ w ≤ (i : Int) ∧ (w = (i : Int) ↔ ∀ j, j < i → x % (rs l (j + 1)).2 = 0)) ⟨Int.le_refl _, Int.le_refl _, ⟨fun _ j hj => absurd hj (Nat.not_lt_zero _), fun _ => rfl⟩⟩ fun i w y hy hw => ?_
  obtain ⟨h1, h2, h3⟩ := rng_get hy
  have hi : i < l.length := by omega
  have hyi : y = (i : Int) := by omega
  subst hyi
  have r := rs_pos h (i + 1)
  obtain ⟨w0, w1, w2⟩ := hw
  rw [cut_take hi, ratio_ok (h.take _), bS]
  rw [show red (nP (l.take (i + 1))) (dP (l.take (i + 1))) = rs l (i + 1) from rfl]
  have tk : F_times_of (x, 1) (rs l (i + 1)) = some (red (x * (rs l (i + 1)).1) (rs l (i + 1)).2) := by
    rw [times_ok (show (x, (1 : Int)).1.natAbs ≤ _ by show x.natAbs ≤ _; omega) (show (0 : Int) < 1 by decide) (show (1 : Int) < _ by decide) r.1 (by omega)]
    show some (red _ (1 * _)) = _
    rw [Int.one_mul]
  rw [tk, bS, atI_nat (Rs_get hi)]
  simp only [bS]
  have xn := mul_bd (x := x) (y := (rs l (i + 1)).1) (a := 4000) (b := 429981696) (by omega) r.2.2
  rw [mulM_l (by omega) (by omega)]
  simp only [bS]
  generalize hxn : x * (rs l (i + 1)).1 = xnv at xn ⊢
  rw [lowest_ok r.1 (by omega) (small_pow (by omega))]
  simp only [bS]
  rw [same2]
  simp only [bS, Bool.not_true, Bool.false_eq_true, if_false]
  rw [modM_p r.1]
  simp only [bS]
  have sg := atI_nat (Sv_get hi)
  rw [show ((i + 1 : Nat) : Int) = (i : Int) + 1 by omega] at sg
  rw [sg]
  simp only [bS]
  rw [departs_ok r.1]
  simp only [bS]
  have dd : decide ((x - 0) % (rs l (i + 1)).2 = 0) = decide (xnv % (rs l (i + 1)).2 = 0) := by
    rw [← hxn, Int.sub_zero]
    exact decide_eq_decide.mpr (cop_dvd (red_cop (dP_bd (h.take _)).1)).symm
  rw [dd, sameB]
  simp only [bS, Bool.not_true, Bool.false_eq_true, if_false]
  refine ⟨_, rfl, ?_⟩
  have hx0 : decide (xnv % (rs l (i + 1)).2 = 0) = true ↔ x % (rs l (i + 1)).2 = 0 := by
    rw [← dd, Int.sub_zero]; simp
  by_cases hz : x % (rs l (i + 1)).2 = 0
  · rw [if_pos (hx0.mpr hz)]
    refine ⟨by omega, by omega, ?_⟩
    constructor
    · intro e j hj
      rcases Nat.lt_succ_iff_lt_or_eq.mp hj with hj | rfl
      · exact w2.mp (by omega) j hj
      · exact hz
    · intro e
      have := w2.mpr fun j hj => e j (Nat.lt_succ_of_lt hj)
      omega
  · rw [if_neg (fun z => hz (hx0.mp z))]
    refine ⟨by omega, by omega, ?_⟩
    constructor
    · intro e; omega
    · intro e; exact absurd (e i (Nat.lt_succ_self _)) hz
end K93

set_option Elab.async false
set_option linter.all false
set_option maxRecDepth 2000
set_option maxHeartbeats 1000000
namespace K93
open PySem PySem.Spec PyProof.Rows L2 M3
def prd (f : Int × Int → Int) (l : List (Int × Int)) : Int := l.foldl (fun n p => n * f p) 1
theorem prd_from (f : Int × Int → Int) : ∀ (l : List (Int × Int)) (a : Int), l.foldl (fun n p => n * f p) a = a * prd f l
  | [], a => by simp [prd]
  | x :: r, a => by
    unfold prd
    show r.foldl _ (a * f x) = a * r.foldl _ (1 * f x)
    rw [prd_from f r, prd_from f r (1 * f x), Int.one_mul, Int.mul_assoc]
theorem prd_cons (f : Int × Int → Int) (x : Int × Int) (r : List (Int × Int)) : prd f (x :: r) = f x * prd f r := by
  show r.foldl _ (1 * f x) = _
  rw [prd_from, Int.one_mul]
theorem prd_app (f : Int × Int → Int) (l m : List (Int × Int)) : prd f (l ++ m) = prd f l * prd f m := by
  show (l ++ m).foldl _ 1 = _
  rw [List.foldl_append, prd_from]; rfl
theorem prd_map (f : Int × Int → Int) (g : Int × Int → Int × Int) : ∀ l : List (Int × Int), prd f (l.map g) = prd (fun x => f (g x)) l
  | [] => rfl
  | x :: r => by rw [List.map_cons, prd_cons, prd_cons, prd_map f g r]
def sg (n : Nat) : Int := if n % 2 = 0 then 1 else -1
theorem sg_succ (n : Nat) : sg (n + 1) = -sg n := by
  unfold sg
  rcases Nat.mod_two_eq_zero_or_one n with h | h
  · rw [if_neg (by omega), if_pos h]
  · rw [if_pos (by omega), if_neg (by omega)]; rfl
theorem prd_neg (f : Int × Int → Int) : ∀ l : List (Int × Int), prd (fun x => -f x) l = prd f l * sg l.length
  | [] => rfl
  | x :: r => by
    rw [prd_cons, prd_cons, prd_neg f r, List.length_cons, sg_succ, Int.mul_neg, Int.neg_mul, Int.mul_assoc]
theorem prd_pos (f : Int × Int → Int) : ∀ l : List (Int × Int), (∀ p ∈ l, 0 < f p) → 0 < prd f l
  | [], _ => (show (0 : Int) < 1 by decide)
  | x :: r, h => by rw [prd_cons]; exact Int.mul_pos (h x List.mem_cons_self) (prd_pos f r fun p hp => h p (List.mem_cons_of_mem _ hp))
abbrev pP (l : List (Int × Int)) : Int := prd (fun x => x.1) l
theorem nP_eq (l : List (Int × Int)) : nP l = pP l * sg l.length := prd_neg (fun x => x.1) l
theorem pP_bd {l : List (Int × Int)} (h : G l) : 0 < pP l ∧ pP l ≤ 429981696 := by
  have p := prd_pos (fun x => x.1) l fun p hp => by have := h.1 p hp; omega
  have b := nP_bd h
  rw [nP_eq] at b
  refine ⟨p, ?_⟩
  unfold sg at b
  split at b <;> simp at b <;> omega
theorem product_ok {l : List (Int × Int)} (h : G l) : ∃ v, forP (fun (x848 : (Int × Int)) (l847 : (Int × Int)) => ((F_fraction x848.1 x848.2).bind fun z849 => F_times_of l847 z849).bind fun (product850 : (Int × Int)) => some product850) l ((1 : Int), (1 : Int)) = some v ∧ v = red (pP l) (dP l) := by
  suffices key : ∃ v, forP (fun (x848 : (Int × Int)) (l847 : (Int × Int)) => ((F_fraction x848.1 x848.2).bind fun z849 => F_times_of l847 z849).bind fun (product850 : (Int × Int)) => some product850) l ((1 : Int), (1 : Int)) = some v ∧ v = red (pP (l.take l.length)) (dP (l.take l.length)) by
    rw [List.take_length] at key; exact key
  refine forP_ok (fun i v => v = red (pP (l.take i)) (dP (l.take i))) (show ((1 : Int), (1 : Int)) = red 1 1 from (red_1 1).symm) fun i v x hx hi => ⟨red (pP (l.take (i + 1))) (dP (l.take (i + 1))), ?_, rfl⟩
  subst hi
  have hm := h.1 x (List.mem_of_getElem? hx)
  have a := dP_bd (h.take i)
  have p := pP_bd (h.take i)
  have r1 := red_pos (n := pP (l.take i)) a.1
  have r2 := red_le (n := pP (l.take i)) a.1
  have r3 := red_abs (n := pP (l.take i)) a.1
  have s1 := red_pos (n := x.1) (d := x.2) (by omega)
  have s2 := red_le (n := x.1) (d := x.2) (by omega)
  rw [frac_pos (by omega) (by omega), bS, times_ok (by omega) r1 (by omega) s1 (by omega), bS]
  rw [take_next hx, dP_app]
  unfold pP
  rw [prd_app, prd_cons]
  rw [red_red a.1 (by omega)]
  show some (red (_ * x.1) _) = some (red (_ * (x.1 * 1)) _)
  rw [Int.mul_one]
theorem sign_ok (n : Nat) : atI [(1 : Int), (-1 : Int)] ((n : Int) % (2 : Int)) = some (sg n) := by
  unfold sg
  rcases Nat.mod_two_eq_zero_or_one n with h | h
  · rw [if_pos h, show (n : Int) % 2 = ((0 : Nat) : Int) by omega]
    exact atI_nat rfl
  · rw [if_neg (by omega), show (n : Int) % 2 = ((1 : Nat) : Int) by omega]
    exact atI_nat rfl
theorem sg_or (n : Nat) : sg n = 1 ∨ sg n = -1 := by unfold sg; split <;> simp
theorem red_sg {n d : Int} (h : 0 < d) {s : Int} (hs : s = 1 ∨ s = -1) : red (n * s) d = ((red n d).1 * s, (red n d).2) := by
  rcases hs with rfl | rfl
  · rw [Int.mul_one, Int.mul_one]
  · rw [Int.mul_neg, Int.mul_one, red_neg h, Int.mul_neg, Int.mul_one]
theorem red_num_pos {n d : Int} (h : 0 < d) (hn : 0 < n) : 0 < (red n d).1 := by
  have g := gc_pos (n := n) h
  have e := (red_eq (n := n) h).1
  rcases Int.lt_trichotomy (red n d).1 0 with z | z | z
  · have := Int.mul_neg_of_pos_of_neg g z; omega
  · rw [z] at e; simp at e; omega
  · exact z
theorem divided_ok {n d p q : Int} (hd : 0 < d) (hq : 0 < q) (hp : p ≠ 0) (bn : n.natAbs ≤ 429981696) (bd : d ≤ 429981696) (bp : p.natAbs ≤ 429981696) (bq : q ≤ 429981696) :
    F_divided_by (red n d) (red p q) = some (if 0 < p then red (n * q) (d * p) else red (n * (-q)) (d * (-p))) := by
  have r1 := red_pos (n := n) hd
  have r2 := red_le (n := n) hd
  have r3 := red_abs (n := n) hd
  have s1 := red_pos (n := p) hq
  have s2 := red_le (n := p) hq
  have s3 := red_abs (n := p) hq
  have ⟨e1, e2⟩ := red_eq (n := n) hd
  have ⟨e3, e4⟩ := red_eq (n := p) hq
  have g1 := gc_pos (n := n) hd
  have g2 := gc_pos (n := p) hq
  have b := mul_bd (x := (red n d).2) (y := (red p q).1) (a := 429981696) (b := 429981696) (by omega) (by omega)
  unfold F_divided_by
  rw [mulM_l (by omega) (by omega), bS, mulM_l (i := (red n d).2) (by omega) (by omega), bS, bS]
  by_cases h : 0 < p
  · rw [if_pos h]
    have pp := red_num_pos hq h
    have pm := Int.mul_pos r1 pp
    rw [frac_pos pm (by omega), ← red_mul (k := gc n d * gc p q) (Int.mul_pos g1 g2)]
    congr 2
    · conv => rhs; rw [e1, e4]
      ac_rfl
    · conv => rhs; rw [e2, e3]
      ac_rfl
  · rw [if_neg h]
    have pp := red_num_pos (n := -p) hq (by omega)
    rw [red_neg hq] at pp
    have pp : 0 < -(red p q).1 := pp
    have pm := Int.mul_pos r1 pp
    rw [Int.mul_neg] at pm
    rw [frac_neg (by omega) (by omega), ← red_mul (k := gc n d * gc p q) (Int.mul_pos g1 g2)]
    congr 2
    · conv => rhs; rw [e1, e4]
      rw [Int.mul_neg, Int.mul_neg]
      congr 1
      ac_rfl
    · conv => rhs; rw [e2, e3]
      rw [Int.mul_neg, Int.mul_neg]
      congr 1
      ac_rfl
theorem products_ok {l o : List (Int × Int)} (h : G4 l 4) (k : G4 o 4) (ds : List Int) : F__law_products ds l o = some (true, ds) := by
  have hl : G l := ⟨h.1, Nat.le_trans h.2 (by decide)⟩
  have ho : G o := ⟨k.1, Nat.le_trans k.2 (by decide)⟩
  have dl := dP_bd hl
  have nl := nP_bd hl
  have pl := pP_bd hl
  have do_ := dP_bd ho
  have no := nP_bd ho
  have po := pP_bd ho
  unfold F__law_products
  simp only [bS]
  obtain ⟨v, ev, rfl⟩ := product_ok hl
  rw [ev, bS, ratio_ok hl, bS, sign_ok, bS]
  have r1 := red_pos (n := pP l) dl.1
  have r2 := red_le (n := pP l) dl.1
  have r3 := red_abs (n := pP l) dl.1
  have r4 := red_num_pos (n := pP l) dl.1 pl.1
  have er : red (nP l) (dP l) = ((red (pP l) (dP l)).1 * sg l.length, (red (pP l) (dP l)).2) := by rw [nP_eq, red_sg dl.1 (sg_or _)]
  have tk : F_times_of (red (pP l) (dP l)) (sg l.length, 1) = some (red (nP l) (dP l)) := by
    rw [times_ok (y := (sg l.length, (1 : Int))) (by omega) r1 (by omega) (show (0 : Int) < 1 by decide) (show (1 : Int) < 4294967296 by decide)]
    show some (red (_ * sg l.length) (_ * 1)) = _
    rw [red_redL dl.1 (by decide), ← nP_eq, Int.mul_one]
  rw [tk]
  simp only [bS]
  rw [same2]
  simp only [bS, Bool.not_true, Bool.false_eq_true, if_false]
  have rg : F_reduced_gear l = some ((red (pP l) (dP l)).1, (red (pP l) (dP l)).2, sg l.length) := by
    unfold F_reduced_gear
    rw [ratio_ok hl, bS, er]
    generalize red (pP l) (dP l) = w at r4
    rcases sg_or l.length with e | e
    · rw [e]
      show some (((w.1 * 1).natAbs : Int), w.2, (if decide ((0 : Int) < w.1 * 1) = true then (1 : Int) else -1)) = _
      rw [Int.mul_one, if_pos (decide_eq_true r4)]
      rw [show (w.1.natAbs : Int) = w.1 by omega]
    · rw [e]
      show some (((w.1 * -1).natAbs : Int), w.2, (if decide ((0 : Int) < w.1 * -1) = true then (1 : Int) else -1)) = _
      rw [Int.mul_neg, Int.mul_one, if_neg (by simp; omega), show ((-w.1).natAbs : Int) = w.1 by omega]
  rw [rg]
  simp only [bS]
  rw [same3]
  simp only [bS, Bool.not_true, Bool.false_eq_true, if_false]
  rw [mapO_ok (f := fun x : Int × Int => some (x.2, x.1)) (g := fun x => (x.2, x.1)) (fun x _ => rfl)]
  simp only [bS]
  generalize ha : o.map (fun x : Int × Int => (x.2, x.1)) = ab
  have lab : ab.length = o.length := by rw [← ha, List.length_map]
  have h4 := h.2
  have k4 := k.2
  have hab : G (l ++ ab) := ⟨fun p hp => by
    rcases List.mem_append.mp hp with hp | hp
    · exact h.1 p hp
    · rw [← ha] at hp
      obtain ⟨q, hq, rfl⟩ := List.mem_map.mp hp
      have := k.1 q hq
      exact ⟨this.2.2.1, this.2.2.2, this.1, this.2.1⟩, by rw [List.length_append]; omega⟩
  rw [ratio_ok ho, bS, catM_ok (by omega), bS, ratio_ok hab]
  have np0 : nP o ≠ 0 := by
    rw [nP_eq]
    rcases sg_or o.length with e | e <;> rw [e] <;> simp <;> omega
  rw [divided_ok dl.1 do_.1 np0 nl dl.2 no do_.2]
  have n1 : nP (l ++ ab) = nP l * (dP o * sg o.length) := by
    show prd (fun x => -x.1) (l ++ ab) = _
    rw [prd_app, prd_neg (fun x => x.1) ab, ← ha, prd_map, List.length_map]
    rfl
  have d1 : dP (l ++ ab) = dP l * pP o := by
    show prd (fun x => x.2) (l ++ ab) = _
    rw [prd_app, ← ha, prd_map]
    rfl
  have fin : (if 0 < nP o then red (nP l * dP o) (dP l * nP o) else red (nP l * -dP o) (dP l * -nP o)) = red (nP (l ++ ab)) (dP (l ++ ab)) := by
    rw [n1, d1]
    have eo := nP_eq o
    rcases sg_or o.length with e | e
    · rw [e, Int.mul_one] at eo
      rw [if_pos (by omega), e, Int.mul_one, eo]
    · rw [e, Int.mul_neg, Int.mul_one] at eo
      rw [if_neg (by omega), e, show dP o * -1 = -dP o by omega, eo, Int.neg_neg]
  rw [fin]
  simp only [bS]
  rw [same2]
  simp only [bS]
end K93

set_option Elab.async false
set_option linter.all false
set_option maxRecDepth 2000
set_option maxHeartbeats 1000000
namespace K93
open PySem PySem.Spec PyProof.Rows L2 M3
/-! ### two services -/
def lm (a b : Int) : Int := a * b / gc a b
theorem gc_self_l {a b : Int} (ha : 0 < a) (hb : 0 < b) : 0 < gc a b ∧ gc a b ≤ a ∧ gc a b ≤ b := ⟨gc_pos hb, Int.le_of_dvd ha (gc_dl a b), Int.le_of_dvd hb (gc_dr a b)⟩
theorem lm_eq {a b : Int} (ha : 0 < a) (hb : 0 < b) : lm a b = a * (b / gc a b) := by
  unfold lm; rw [Int.mul_ediv_assoc _ (gc_dr a b)]
theorem lm_dl {a b : Int} (ha : 0 < a) (hb : 0 < b) : a ∣ lm a b := ⟨_, lm_eq ha hb⟩
theorem lm_eq2 {a b : Int} (ha : 0 < a) (hb : 0 < b) : lm a b = b * (a / gc a b) := by
  unfold lm; rw [Int.mul_comm, Int.mul_ediv_assoc _ (gc_dl a b)]
theorem lm_dr {a b : Int} (ha : 0 < a) (hb : 0 < b) : b ∣ lm a b := ⟨_, lm_eq2 ha hb⟩
theorem lm_pos {a b : Int} (ha : 0 < a) (hb : 0 < b) : 0 < lm a b := by
  rw [lm_eq ha hb]
  have g := gc_self_l ha hb
  exact Int.mul_pos ha (red_pos (n := a) hb)
theorem lm_least {a b m : Int} (ha : 0 < a) (hb : 0 < b) (h1 : a ∣ m) (h2 : b ∣ m) : lm a b ∣ m := by
  unfold lm
  rw [lcm_eq ha hb]
  exact Int.ofNat_dvd_left.mpr (Nat.lcm_dvd (Int.natAbs_dvd_natAbs.mpr h1) (Int.natAbs_dvd_natAbs.mpr h2))
theorem lm_le {a b : Int} (ha : 0 < a) (hb : 0 < b) (h1 : a ≤ 70) (h2 : b ≤ 70) : lm a b ≤ 4900 := by
  rw [lm_eq ha hb]
  have := red_le (n := a) hb
  have : b / gc a b ≤ b := this
  have p : 0 < b / gc a b := red_pos (n := a) hb
  have := mul_bd (x := a) (y := b / gc a b) (a := 70) (b := 70) (by omega) (by omega)
  omega
/-- at most one minute of a round -/
theorem crt_one {a b f f2 x y : Int} (ha : 0 < a) (hb : 0 < b) (x0 : 0 ≤ x) (x1 : x < lm a b) (y0 : 0 ≤ y) (y1 : y < lm a b) (h1 : (x - f) % a = 0) (h2 : (x - f2) % b = 0) (h3 : (y - f) % a = 0) (h4 : (y - f2) % b = 0) : x = y := by
  have d1 : a ∣ x - y := by
    have := Int.dvd_sub (Int.dvd_of_emod_eq_zero h1) (Int.dvd_of_emod_eq_zero h3)
    rwa [show x - f - (y - f) = x - y by omega] at this
  have d2 : b ∣ x - y := by
    have := Int.dvd_sub (Int.dvd_of_emod_eq_zero h2) (Int.dvd_of_emod_eq_zero h4)
    rwa [show x - f2 - (y - f2) = x - y by omega] at this
  have d := lm_least ha hb d1 d2
  rcases Int.lt_trichotomy x y with z | z | z
  · have d' : lm a b ∣ y - x := by
      have := (Int.dvd_neg).mpr d
      rwa [show -(x - y) = y - x by omega] at this
    have := Int.le_of_dvd (by omega) d'
    omega
  · exact z
  · have := Int.le_of_dvd (by omega) d
    omega
theorem inverse_ok {n m : Int} (hn : 0 < n) (hm : 0 < m) (hn2 : n ≤ 70) (hm2 : m ≤ 70) (hc : gc n m = 1) : ∃ r, F_inverse n m = some r ∧ 0 ≤ r ∧ r < m ∧ m ∣ r * n - 1 := by
  unfold F_inverse
  rw [modM_p hm]
  simp only [bS]
  have e0 := Int.emod_nonneg n (b := m) (by omega)
  have e1 := Int.emod_lt_of_pos n hm
  suffices key : ∃ l : Int × Int × Int × Int, whP _ _ (m.toNat + 2) (n % m, m, (1 : Int), (0 : Int)) = some l ∧ (0 ≤ l.1 ∧ l.1 ≤ 70 ∧ 0 ≤ l.2.1 ∧ l.2.1 ≤ 70 ∧ gc l.1 l.2.1 = 1 ∧ m ∣ l.2.2.1 * n - l.1 ∧ m ∣ l.2.2.2 * n - l.2.1) ∧ (fun (l87 : (Int × Int × Int × Int)) => some (decide ((0 : Int) < l87.2.1))) l = some false by
    obtain ⟨l, e, ⟨h1, h2, h3, h4, h5, h6, h7⟩, ht⟩ := key
    rw [e, bS, modM_p hm]
    have z : l.2.1 = 0 := by
      have : decide ((0 : Int) < l.2.1) = false := Option.some.inj ht
      have := of_decide_eq_false this
      omega
    rw [z, gc_zero h1] at h5
    refine ⟨_, rfl, Int.emod_nonneg _ (by omega), Int.emod_lt_of_pos _ hm, ?_⟩
    rw [h5] at h6
    have em := Int.mul_ediv_add_emod l.2.2.1 m
    have : l.2.2.1 % m * n - 1 = (l.2.2.1 * n - 1) - m * (l.2.2.1 / m * n) := by
      have : l.2.2.1 % m = l.2.2.1 - m * (l.2.2.1 / m) := by omega
      rw [this, Int.sub_mul, Int.mul_assoc]
      omega
    rw [this]
    exact Int.dvd_sub h6 (Int.dvd_mul_right _ _)
  refine whP_ok (fun l : Int × Int × Int × Int => 0 ≤ l.1 ∧ l.1 ≤ 70 ∧ 0 ≤ l.2.1 ∧ l.2.1 ≤ 70 ∧ gc l.1 l.2.1 = 1 ∧ m ∣ l.2.2.1 * n - l.1 ∧ m ∣ l.2.2.2 * n - l.2.1) (fun l => l.2.1.toNat) (show m.toNat < m.toNat + 2 by omega) ⟨e0, (show n % m ≤ 70 by omega), (show (0 : Int) ≤ m by omega), hm2, (show gc (n % m) m = 1 from ?_), (show m ∣ 1 * n - n % m from ?_), (show m ∣ 0 * n - m from ?_)⟩ fun l hl => ⟨decide ((0 : Int) < l.2.1), rfl, fun hd => ?_⟩
  · rw [show gc (n % m) m = gc m (n % m) by unfold gc; rw [Nat.gcd_comm], gc_step (by omega) hm, hc]
  · rw [Int.one_mul]
    have em := Int.mul_ediv_add_emod n m
    exact ⟨n / m, by omega⟩
  · rw [Int.zero_mul]
    exact ⟨-1, by omega⟩
  · obtain ⟨h1, h2, h3, h4, h5, h6, h7⟩ := hl
    have h0 : 0 < l.2.1 := of_decide_eq_true hd
    have em := Int.mul_ediv_add_emod l.1 l.2.1
    have q0 := Int.ediv_nonneg h1 (Int.le_of_lt h0)
    have q1 : l.1 / l.2.1 ≤ l.1 := Int.ediv_le_self _ h1
    have c0 := Int.emod_nonneg l.1 (b := l.2.1) (by omega)
    have c1 := Int.emod_lt_of_pos l.1 h0
    refine ⟨(l.2.1, l.1 - l.1 / l.2.1 * l.2.1, l.2.2.2, l.2.2.1 - l.1 / l.2.1 * l.2.2.2), ?_, ?_⟩
    · rw [fdivM_s h0 (by omega), bS, mulM_l (by omega) (by omega)]
      simp only [bS]
      rw [mulM_l (by omega) (by omega)]
      simp only [bS]
    · have ec : l.1 - l.1 / l.2.1 * l.2.1 = l.1 % l.2.1 := by rw [Int.mul_comm]; omega
      rw [ec]
      refine ⟨⟨h3, h4, c0, by show l.1 % l.2.1 ≤ 70; omega, ?_, h7, ?_⟩, ?_⟩
      · show gc l.2.1 (l.1 % l.2.1) = 1
        rw [gc_step h1 h0, h5]
      · show m ∣ (l.2.2.1 - l.1 / l.2.1 * l.2.2.2) * n - l.1 % l.2.1
        have : (l.2.2.1 - l.1 / l.2.1 * l.2.2.2) * n - l.1 % l.2.1 = (l.2.2.1 * n - l.1) - (l.1 / l.2.1) * (l.2.2.2 * n - l.2.1) := by
          rw [← ec, Int.sub_mul, Int.mul_sub, Int.mul_assoc]
          omega
        rw [this]
        exact Int.dvd_sub h6 (Int.dvd_mul_of_dvd_right h7)
      · show (l.1 % l.2.1).toNat < l.2.1.toNat
        omega
theorem alg {g n m e r q t w : Int} (te : m * q + t = e * r) (hw : r * n - 1 = m * w) : t * (g * n) - g * e = (g * m) * (e * w - q * n) := by
  have ht : t = e * r - m * q := by omega
  have hr : r * n = m * w + 1 := by omega
  subst ht
  have s1 : (e * r - m * q) * (g * n) = g * (e * (r * n)) - g * (m * q * n) := by
    rw [Int.sub_mul]
    congr 1 <;> ac_rfl
  have s2 : g * (e * (m * w)) = g * m * (e * w) := by ac_rfl
  have s3 : g * (m * q * n) = g * m * (q * n) := by ac_rfl
  have s4 : g * (e * (m * w + 1)) = g * (e * (m * w)) + g * e := by rw [Int.mul_add, Int.mul_one, Int.mul_add]
  rw [s1, hr, s4, s2, s3, Int.mul_sub]
  omega
theorem meet_ok {a b f1 f2 : Int} (ha : 0 < a) (hb : 0 < b) (ha2 : a ≤ 70) (hb2 : b ≤ 70) :
    ((f2 - f1) % gc a b ≠ 0 → F_meet_at (f1, a) (f2, b) = some none) ∧ ((f2 - f1) % gc a b = 0 → ∃ x, F_meet_at (f1, a) (f2, b) = some (some x) ∧ 0 ≤ x ∧ x < lm a b ∧ (x - f1) % a = 0 ∧ (x - f2) % b = 0) := by
  have g := gc_self_l ha hb
  have ge : (Nat.gcd a.natAbs b.natAbs : Int) = gc a b := rfl
  constructor
  · intro h
    unfold F_meet_at
    simp only [bS]
    rw [ge, modM_p g.1]
    simp only [bS]
    rw [if_pos (by simpa using h)]
  · intro h
    have hd := Int.dvd_of_emod_eq_zero h
    have m0 : 0 < b / gc a b := red_pos (n := a) hb
    have m1 : b / gc a b ≤ b := red_le (n := a) hb
    have n0 : 0 < a / gc a b := red_num_pos (n := a) hb ha
    have n1 : a / gc a b ≤ a := Int.ediv_le_self _ (by omega)
    have hc : gc (a / gc a b) (b / gc a b) = 1 := by
      have := red_cop (n := a) hb
      unfold gc
      rw [show ((1 : Int)) = ((1 : Nat) : Int) from rfl]
      exact congrArg _ this
    obtain ⟨r, er, r0, r1, r2⟩ := inverse_ok n0 m0 (by omega) (by omega) hc
    have eg : gc a b * (a / gc a b) = a := Int.mul_ediv_cancel' (gc_dl a b)
    have eh : gc a b * (b / gc a b) = b := Int.mul_ediv_cancel' (gc_dr a b)
    have ei : gc a b * ((f2 - f1) / gc a b) = f2 - f1 := Int.mul_ediv_cancel' hd
    have el := lm_eq ha hb
    have lp := lm_pos ha hb
    have ll := lm_le ha hb ha2 hb2
    have d1 := lm_dl ha hb
    have d2 := lm_dr ha hb
    unfold F_meet_at
    simp only [bS]
    rw [ge, modM_p g.1]
    simp only [bS]
    rw [if_neg (by simpa using h), fdivM_s g.1 (by omega), bS, fdivM_s g.1 (by omega), bS, fdivM_s g.1 (by omega), bS, er, bS, mulM_r (by omega) (by omega), bS, modM_p m0, bS]
    have t0 := Int.emod_nonneg ((f2 - f1) / gc a b * r) (b := b / gc a b) (by omega)
    have t1 := Int.emod_lt_of_pos ((f2 - f1) / gc a b * r) m0
    have te := Int.mul_ediv_add_emod ((f2 - f1) / gc a b * r) (b / gc a b)
    generalize ((f2 - f1) / gc a b * r) % (b / gc a b) = t at t0 t1 te ⊢
    generalize ((f2 - f1) / gc a b * r) / (b / gc a b) = q at te
    rw [mulM_l (by omega) (by omega)]
    simp only [bS]
    rw [mulM_l (by omega) (by omega)]
    simp only [bS]
    rw [← el, modM_p lp]
    simp only [bS]
    refine ⟨_, rfl, Int.emod_nonneg _ (by omega), Int.emod_lt_of_pos _ lp, ?_, ?_⟩
    · have em := Int.mul_ediv_add_emod (f1 + t * a) (lm a b)
      apply Int.emod_eq_zero_of_dvd
      have : (f1 + t * a) % lm a b - f1 = t * a - lm a b * ((f1 + t * a) / lm a b) := by omega
      rw [this]
      exact Int.dvd_sub (Int.dvd_mul_left _ _) (Int.dvd_mul_of_dvd_left d1)
    · have em := Int.mul_ediv_add_emod (f1 + t * a) (lm a b)
      apply Int.emod_eq_zero_of_dvd
      have : (f1 + t * a) % lm a b - f2 = (t * a - (f2 - f1)) - lm a b * ((f1 + t * a) / lm a b) := by omega
      rw [this]
      refine Int.dvd_sub ?_ (Int.dvd_mul_of_dvd_left d2)
      generalize (f2 - f1) / gc a b = e at ei te
      generalize a / gc a b = n at eg r2 n0 n1
      generalize b / gc a b = m at eh te r2 m0 m1 r1 t1
      obtain ⟨w, hw⟩ := r2
      have := alg (g := gc a b) te hw
      rw [eg, ei, eh] at this
      rw [this]
      exact Int.dvd_mul_right _ _
end K93

set_option Elab.async false
set_option linter.all false
set_option maxRecDepth 2000
set_option maxHeartbeats 1000000
namespace K93
open PySem PySem.Spec PyProof.Rows L2 M3
theorem minO_2 (x y : Int) : minO [x, y] = some (min x y) := by
  unfold minO
  rfl
theorem cell_ok (sc : List Int) (at_ : Int) : ∃ c, F__law_cell sc at_ = some c := by
  unfold F__law_cell
  by_cases h : sc.length = 0
  · rw [if_pos (by simpa using h)]; exact ⟨_, rfl⟩
  · rw [if_neg (by simpa using h)]
    have hl : (0 : Int) < (sc.length : Int) := by omega
    rw [modM_p hl]
    simp only [bS]
    obtain ⟨v, e, _⟩ := atI_in (xs := sc) (i := at_ % (sc.length : Int)) (Int.emod_nonneg _ (by omega)) (Int.emod_lt_of_pos _ hl)
    rw [e]
    simp only [bS]
    by_cases hv : v < 0
    · rw [if_pos (decide_eq_true hv)]
      rw [show atI [(1 : Int), (-1 : Int)] (1 : Int) = some (-1) from rfl]
      simp only [bS]
      rw [mulM_r (by decide) (by decide)]
      exact ⟨_, rfl⟩
    · rw [if_neg (by simpa using hv)]
      rw [show atI [(1 : Int), (-1 : Int)] (0 : Int) = some 1 from rfl]
      simp only [bS]
      rw [mulM_r (by decide) (by decide)]
      exact ⟨_, rfl⟩
section
variable {a b f : Int} (ha : 0 < a) (hb : 0 < b) (ha2 : a ≤ 70) (hb2 : b ≤ 70)
include ha hb ha2 hb2
theorem both_ok : ((mulM a b).bind fun z1002 => (F__law_divisor a b).bind fun z1003 => fdivM z1002 z1003) = some (lm a b) := by
  have g := gc_self_l ha hb
  rw [mulM_l (by omega) (by omega), bS, divisor_ok (k := 100) (by omega) (by omega) (bits_le (Nat.lt_of_lt_of_le (show a.natAbs < 2 ^ 7 by omega) (Nat.pow_le_pow_right (by decide) (by decide)))) (bits_le (Nat.lt_of_lt_of_le (show b.natAbs < 2 ^ 7 by omega) (Nat.pow_le_pow_right (by decide) (by decide)))) (by decide), bS, fdivM_s g.1 (by omega)]
  rfl
theorem div_ok : F__law_divisor a b = some (gc a b) :=
  divisor_ok (k := 100) (by omega) (by omega) (bits_le (Nat.lt_of_lt_of_le (show a.natAbs < 2 ^ 7 by omega) (Nat.pow_le_pow_right (by decide) (by decide)))) (bits_le (Nat.lt_of_lt_of_le (show b.natAbs < 2 ^ 7 by omega) (Nat.pow_le_pow_right (by decide) (by decide)))) (by decide)
theorem again_ok : F_meets_again a b = some (lm a b) := by
  have g := gc_self_l ha hb
  unfold F_meets_again
  rw [mulM_l (by omega) (by omega), bS, show (Nat.gcd a.natAbs b.natAbs : Int) = gc a b from rfl, fdivM_s g.1 (by omega)]
  rfl
theorem round2_ok : F_round_of [((0 : Int), a), ((0 : Int), b)] = some (lm a b) := by
  have g := gc_self_l ha hb
  unfold F_round_of
  simp only [bS]
  unfold forP
  simp only []
  have e1 : gc 1 a = 1 := by unfold gc; simp
  rw [mulM_l (by decide) (by decide), bS, show (Nat.gcd (1 : Int).natAbs a.natAbs : Int) = 1 from e1, fdivM_s (by decide) (by decide)]
  simp only [bS]
  rw [Int.one_mul, Int.ediv_one]
  unfold forP
  simp only []
  rw [mulM_l (by omega) (by omega), bS, show (Nat.gcd a.natAbs b.natAbs : Int) = gc a b from rfl, fdivM_s g.1 (by omega)]
  simp only [bS]
  unfold forP
  rw [bS]
  rfl
theorem deps_ok : F_departures_in [(f, a), (f, b)] f (f + lm a b) = some (lm a b / a + lm a b / b) := by
  have lp := lm_pos ha hb
  unfold F_departures_in
  rw [if_neg (by simp; omega)]
  simp only [bS]
  rw [mapO_ok (g := fun x => lm a b / x.2) fun x hx => ?_]
  · rw [bS]
    show some ([lm a b / a, lm a b / b].sum) = _
    simp
  · have q : ∀ d : Int, 0 < d → d ≤ 70 → d ∣ lm a b → ((F_before_minute (f, d) (f + lm a b)).bind fun z132 => (F_before_minute (f, d) f).bind fun z133 => some (z132 - z133)) = some (lm a b / d) := fun d d0 d1 dv => by
      rw [before_ok d0 (by omega), before_ok d0 (by omega), bS, bS]
      have e1 : (f - (f + lm a b)) / d = -(lm a b / d) := by
        rw [show f - (f + lm a b) = -lm a b by omega, Int.neg_ediv_of_dvd dv]
      have e2 : (f - f) / d = 0 := by rw [Int.sub_self, Int.zero_ediv]
      rw [e1, e2, Int.neg_neg, Int.neg_zero, Int.sub_zero]
    simp only [List.mem_cons, List.not_mem_nil, or_false] at hx
    rcases hx with rfl | rfl
    · exact q a ha ha2 (lm_dl ha hb)
    · exact q b hb hb2 (lm_dr ha hb)
theorem next_ok : F_next_of [(f, a), (f, b)] (f + 1) = some (f + min a b) := by
  unfold F_next_of
  simp only [bS]
  rw [mapO_ok (g := fun x => x.2 - 1) fun x hx => ?_]
  · rw [bS]
    show ((minO [a - 1, b - 1]).bind _) = _
    rw [minO_2, bS]
    rw [show f + 1 + min (a - 1) (b - 1) = f + min a b by omega]
  · have q : ∀ d : Int, 0 < d → F_wait_for (f, d) (f + 1) = some (d - 1) := fun d d0 => by
      unfold F_wait_for
      simp only [bS]
      rw [modM_p d0]
      have : (f - (f + 1)) % d = d - 1 := by
        rw [show f - (f + 1) = (d - 1) + d * (-1) by omega, Int.add_mul_emod_self_left, Int.emod_eq_of_lt (by omega) (by omega)]
      rw [this]
    simp only [List.mem_cons, List.not_mem_nil, or_false] at hx
    rcases hx with rfl | rfl
    · exact q a ha
    · exact q b hb
theorem meet_same : F_meet_at (f, a) (f, b) = some (some (f % lm a b)) := by
  have lp := lm_pos ha hb
  obtain ⟨x, e, x0, x1, h1, h2⟩ := (meet_ok (f1 := f) (f2 := f) ha hb ha2 hb2).2 (by rw [Int.sub_self, Int.zero_emod])
  have em := Int.mul_ediv_add_emod f (lm a b)
  have q : ∀ d : Int, d ∣ lm a b → (f % lm a b - f) % d = 0 := fun d dv => by
    apply Int.emod_eq_zero_of_dvd
    rw [show f % lm a b - f = -(lm a b * (f / lm a b)) by omega]
    exact Int.dvd_neg.mpr (Int.dvd_mul_of_dvd_left dv)
  rw [e, crt_one ha hb x0 x1 (Int.emod_nonneg _ (by omega)) (Int.emod_lt_of_pos f lp) h1 h2 (q a (lm_dl ha hb)) (q b (lm_dr ha hb))]
/-- the least minute as the law seeks it -/
def Due (a b f s : Int) (n : Int) : Option Int → Prop
  | none => ∀ y, 0 ≤ y → y < n → ¬((y - f) % a = 0 ∧ (y - f - s) % b = 0)
  | some y => 0 ≤ y ∧ y < n ∧ (y - f) % a = 0 ∧ (y - f - s) % b = 0
theorem due_ok (s : Int) : ∃ v, forP (fun (x1216 : Int) (l1215 : (Option Int)) => ((some (l1215.isNone)).bind fun z1220 => if z1220 = true then (((modM (x1216 - f) a).bind fun z1217 => some (decide (z1217 = (0 : Int)))).bind fun z1219 => if z1219 = true then ((modM ((x1216 - f) - s) b).bind fun z1218 => some (decide (z1218 = (0 : Int)))) else some false) else some false).bind fun z1222 => if z1222 = true then ((some ((some x1216))).bind fun (due1224 : (Option Int)) => some due1224) else (some l1215)) (rng 0 (lm a b)) (none : Option Int) = some v ∧ Due a b f s (lm a b) v := by
  have lp := lm_pos ha hb
  suffices key : ∃ v, forP (fun (x1216 : Int) (l1215 : (Option Int)) => ((some (l1215.isNone)).bind fun z1220 => if z1220 = true then (((modM (x1216 - f) a).bind fun z1217 => some (decide (z1217 = (0 : Int)))).bind fun z1219 => if z1219 = true then ((modM ((x1216 - f) - s) b).bind fun z1218 => some (decide (z1218 = (0 : Int)))) else some false) else some false).bind fun z1222 => if z1222 = true then ((some ((some x1216))).bind fun (due1224 : (Option Int)) => some due1224) else (some l1215)) (rng 0 (lm a b)) (none : Option Int) = some v ∧ Due a b f s ((rng 0 (lm a b)).length : Int) v by
    obtain ⟨v, e, h⟩ := key
    rw [rng_len, show (((lm a b - 0).toNat : Nat) : Int) = lm a b by omega] at h
    exact ⟨v, e, h⟩
  refine forP_ok (fun i v => Due a b f s (i : Int) v) (fun y h0 h1 => by omega) fun i v x hx hv => ?_
  obtain ⟨h1, h2, h3⟩ := rng_get hx
  cases v with
  | some y =>
    refine ⟨some y, by simp only [bS, Option.isNone_some, Bool.false_eq_true, if_false], ?_⟩
    obtain ⟨q1, q2, q3, q4⟩ := hv
    exact ⟨q1, by omega, q3, q4⟩
  | none =>
    simp only [bS, Option.isNone_none, if_true]
    rw [modM_p ha]
    simp only [bS]
    have old : ∀ y, 0 ≤ y → y < (i : Int) → ¬((y - f) % a = 0 ∧ (y - f - s) % b = 0) := hv
    by_cases c1 : (x - f) % a = 0
    · rw [if_pos (decide_eq_true c1), modM_p hb]
      simp only [bS]
      by_cases c2 : (x - f - s) % b = 0
      · rw [if_pos (decide_eq_true c2)]
        exact ⟨_, rfl, h2, by omega, c1, c2⟩
      · rw [if_neg (by simpa using c2)]
        refine ⟨none, rfl, fun y y0 y1 => ?_⟩
        by_cases z : y < (i : Int)
        · exact old y y0 z
        · have : y = x := by omega
          subst this
          exact fun q => c2 q.2
    · rw [if_neg (by simpa using c1)]
      simp only [bS, Bool.false_eq_true, if_false]
      refine ⟨none, rfl, fun y y0 y1 => ?_⟩
      by_cases z : y < (i : Int)
      · exact old y y0 z
      · have : y = x := by omega
        subst this
        exact fun q => c1 q.1
theorem told_ok {s : Int} {v : Option Int} (hv : Due a b f s (lm a b) v) : F_meet_at (f, a) (f + s, b) = some v ∧ (v.isNone == decide (s % gc a b = 0)) = false := by
  have g := gc_self_l ha hb
  have m := meet_ok (f1 := f) (f2 := f + s) ha hb ha2 hb2
  rw [show f + s - f = s by omega] at m
  by_cases h : s % gc a b = 0
  · obtain ⟨x, e, x0, x1, h1, h2⟩ := m.2 h
    rw [show x - (f + s) = x - f - s by omega] at h2
    cases v with
    | none => exact absurd ⟨h1, h2⟩ (hv x x0 x1)
    | some y =>
      obtain ⟨y0, y1, y2, y3⟩ := hv
      have := crt_one (f := f) (f2 := f + s) ha hb x0 x1 y0 y1 h1 (by rw [show x - (f + s) = x - f - s by omega]; exact h2) y2 (by rw [show y - (f + s) = y - f - s by omega]; exact y3)
      subst this
      rw [e, decide_eq_true h]
      exact ⟨rfl, rfl⟩
  · rw [m.1 h, decide_eq_false h]
    cases v with
    | none => exact ⟨rfl, rfl⟩
    | some y =>
      exfalso
      obtain ⟨y0, y1, y2, y3⟩ := hv
      apply h
      apply Int.emod_eq_zero_of_dvd
      have := Int.dvd_sub (Int.dvd_trans (gc_dl a b) (Int.dvd_of_emod_eq_zero y2)) (Int.dvd_trans (gc_dr a b) (Int.dvd_of_emod_eq_zero y3))
      rwa [show y - f - (y - f - s) = s by omega] at this
end
theorem add_lm {a m d : Int} (h : a % d = 0) (hd : d ∣ m) : (a + m) % d = 0 := Int.emod_eq_zero_of_dvd (Int.dvd_add (Int.dvd_of_emod_eq_zero h) hd)
theorem sameO (v : Option Int) : F__law_same (kO kI v) (kO kI v) = some true := same_rO (same_rI 3) v
theorem bind_ex {α β γ : Type} {m : Option α} {f : α → Option (β × γ)} {b : β} (h1 : ∃ j, m = some j) (h2 : ∀ j, ∃ d, f j = some (b, d)) : ∃ d, m.bind f = some (b, d) := by
  obtain ⟨j, rfl⟩ := h1
  obtain ⟨d, e⟩ := h2 j
  exact ⟨d, by rw [bS, e]⟩
theorem meetings_ok (sc ds : List Int) : ∃ ds', F__law_meetings sc ds = some (true, ds') := by
  unfold F__law_meetings
  simp only [bS]
  have t1 := takeD_lt (ds := ds) (m := 70) (by decide)
  rw [take_ok (by decide)]
  simp only [bS]
  generalize takeD ds 70 = u at t1 ⊢
  have t2 := takeD_lt (ds := u.2) (m := 70) (by decide)
  rw [take_ok (by decide)]
  simp only [bS]
  generalize takeD u.2 70 = w at t2 ⊢
  have ha : 0 < 1 + u.1 := by omega
  have ha2 : 1 + u.1 ≤ 70 := by omega
  have hb : 0 < 1 + w.1 := by omega
  have hb2 : 1 + w.1 ≤ 70 := by omega
  generalize 1 + u.1 = a at ha ha2 ⊢
  generalize 1 + w.1 = b at hb hb2 ⊢
  have lp := lm_pos ha hb
  have ll := lm_le ha hb ha2 hb2
  have g := gc_self_l ha hb
  rw [both_ok ha hb ha2 hb2, bS, again_ok ha hb ha2 hb2, bS, bS, sameI, bS, bS]
  simp only [Bool.not_true, Bool.false_eq_true, if_false]
  rw [round2_ok ha hb ha2 hb2, bS, bS, sameI, bS, bS]
  simp only [Bool.not_true, Bool.false_eq_true, if_false]
  rw [take_ok (by decide)]
  simp only [bS]
  generalize takeD w.2 99 = p
  rw [take_ok (by decide)]
  simp only [bS]
  generalize takeD p.2 3 = q
  refine bind_ex ?_ fun j => ?_
  · by_cases hq : q.1 = 0
    · rw [if_pos (decide_eq_true hq), take_ok (by decide)]
      simp only [bS]
      obtain ⟨c, ec⟩ := cell_ok sc (takeD q.2 63).1
      rw [ec]
      simp only [bS]
      exact ⟨_, rfl⟩
    · rw [if_neg (by simpa using hq)]
      exact ⟨_, rfl⟩
  rw [meet_same ha hb ha2 hb2, bS, modM_p lp]
  simp only [bS]
  rw [show kO kI (some (j.2 % lm a b)) = kI (j.2 % lm a b) from rfl, sameI]
  simp only [bS, Bool.not_true, Bool.false_eq_true, if_false]
  rw [deps_ok ha hb ha2 hb2, bS, fdivM_s ha (by omega), fdivM_s hb (by omega)]
  simp only [bS]
  rw [sameI]
  simp only [bS, Bool.not_true, Bool.false_eq_true, if_false]
  rw [next_ok ha hb ha2 hb2, bS, bS, sameI]
  simp only [bS, Bool.not_true, Bool.false_eq_true, if_false]
  rw [take_ok (by decide)]
  simp only [bS]
  generalize takeD j.1 40 = s
  rw [rngM_0 (by omega) (by omega)]
  simp only [bS]
  obtain ⟨v, ev, hv⟩ := due_ok (f := j.2) ha hb ha2 hb2 s.1
  simp only [bS] at ev
  rw [ev, bS]
  obtain ⟨et, en⟩ := told_ok (f := j.2) ha hb ha2 hb2 hv
  rw [et, bS, sameO]
  simp only [bS, Bool.not_true, Bool.false_eq_true, if_false]
  rw [div_ok ha hb ha2 hb2, bS, modM_p g.1]
  simp only [bS]
  rw [en]
  simp only [Bool.false_eq_true, if_false]
  cases v with
  | none => exact ⟨_, rfl⟩
  | some y =>
    obtain ⟨y0, y1, y2, y3⟩ := hv
    simp only [bS, Option.isNone_some, Bool.false_eq_true, if_false]
    rw [departs_ok ha]
    simp only [bS]
    rw [if_pos (decide_eq_true (by rw [show y + lm a b - j.2 = (y - j.2) + lm a b by omega]; exact add_lm y2 (lm_dl ha hb)))]
    rw [departs_ok hb]
    simp only [bS]
    rw [decide_eq_true (by rw [show y + lm a b - (j.2 + s.1) = (y - j.2 - s.1) + lm a b by omega]; exact add_lm y3 (lm_dr ha hb))]
    exact ⟨_, rfl⟩
end K93

set_option Elab.async false
set_option linter.all false
set_option maxRecDepth 2000
set_option maxHeartbeats 1000000
namespace K93
open PySem PySem.Spec PyProof.Rows L2 M3
theorem draws_ok (sc : List Int) : ∃ ds, F__law_draws sc 60 = some ds := by
  unfold F__law_draws
  simp only [bS]
  rw [mapO_ok (f := fun x : Int => some x) (g := fun x => x) (fun x _ => rfl), bS]
  have cells : ∃ cs : List Int, 0 < cs.length ∧ (if (decide (((sc.map fun x => x).length : Int) = (0 : Int))) = true then ((roomM (sc.map fun x => x).length).bind fun (_z156 : Unit) => some ((sc.map fun x => x) ++ [(0 : Int)])) else (some (sc.map fun x => x))) = some cs := by
    by_cases h : (sc.map fun x : Int => x).length = 0
    · rw [if_pos (by simpa using h), h, roomM_ok (by decide), bS]
      exact ⟨_, by simp, rfl⟩
    · rw [if_neg (by simpa using h)]
      exact ⟨_, by omega, rfl⟩
  obtain ⟨cs, hc, ec⟩ := cells
  rw [ec, bS, rngM_0 (by decide) (by decide)]
  simp only [bS]
  suffices key : ∃ v : List Int × List Int, forP _ (rng 0 60) (cs, ([] : List Int)) = some v ∧ (v.1.length = cs.length ∧ v.2.length ≤ (rng 0 60).length) by
    obtain ⟨v, e, _⟩ := key
    rw [e, bS]
    exact ⟨_, rfl⟩
  refine forP_ok (fun i (v : List Int × List Int) => v.1.length = cs.length ∧ v.2.length ≤ i) ⟨rfl, Nat.le_refl _⟩ fun i v x hx hv => ?_
  obtain ⟨h1, h2, h3⟩ := rng_get hx
  obtain ⟨v1, v2⟩ := hv
  have hl : (0 : Int) < (cs.length : Int) := by omega
  have a0 := Int.emod_nonneg x (b := (cs.length : Int)) (by omega)
  have a1 := Int.emod_lt_of_pos x hl
  rw [modM_p hl]
  simp only [bS]
  generalize x % (cs.length : Int) = at_ at a0 a1 ⊢
  obtain ⟨c, e1, _⟩ := atI_in (xs := cs) a0 a1
  obtain ⟨r, e2, _⟩ := atI_in (xs := v.1) (i := at_) a0 (by omega)
  rw [e1, e2]
  simp only [bS]
  have rm := roomM_ok (n := v.2.length) (by omega)
  have fin : ∀ (P Q : Option (List Int × List Int)) (t : Bool), (∃ l', P = some l' ∧ l'.1.length = cs.length ∧ l'.2.length ≤ i + 1) → (∃ l', Q = some l' ∧ l'.1.length = cs.length ∧ l'.2.length ≤ i + 1) → ∃ l', (if t = true then P else Q) = some l' ∧ l'.1.length = cs.length ∧ l'.2.length ≤ i + 1 := fun P Q t hP hQ => by
    cases t
    · exact hQ
    · exact hP
  have m1 : ∃ t : Bool, (if decide ((1000000000000000000 : Int) ≤ c) = true then some (decide ((0 : Int) < r)) else some false) = some t := by split <;> exact ⟨_, rfl⟩
  obtain ⟨t, et⟩ := m1
  rw [et, bS]
  apply fin
  · rw [rm]
    simp only [bS, mS]
    rw [setI_in a0 (by omega)]
    simp only [bS, mS]
    exact ⟨_, rfl, by simpa using v1, by rw [List.length_append, List.length_singleton]; omega⟩
  · have o0 := Int.emod_nonneg (c * 48271 + x * 69621 + 11) (b := 2147483647) (by decide)
    have o1 := Int.emod_lt_of_pos (c * 48271 + x * 69621 + 11) (b := 2147483647) (by decide)
    rw [mulM_l (by omega) (by omega), rm]
    simp only [bS, mS]
    exact ⟨_, rfl, v1, by rw [List.length_append, List.length_singleton]; omega⟩
theorem law93 (ns : List Int) : F_law ns = some true := by
  unfold F_law
  obtain ⟨ds, e⟩ := draws_ok ns
  rw [e]
  simp only [bS]
  obtain ⟨l, d1, e1, g1, t1⟩ := gear_ok ds
  rw [e1]
  simp only [bS]
  obtain ⟨o, d2, e2, g2, t2⟩ := gear_ok d1
  rw [e2]
  simp only [bS]
  obtain ⟨d3, e3⟩ := axles_ok ⟨g1.1, Nat.le_trans g1.2 (by decide)⟩ t1 d2
  rw [e3]
  simp only [bS, Bool.not_true, Bool.false_eq_true, if_false]
  rw [products_ok g1 g2]
  simp only [bS, Bool.not_true, Bool.false_eq_true, if_false]
  obtain ⟨d4, e4⟩ := meetings_ok ns d3
  rw [e4]
  simp only [bS, if_true]
  obtain ⟨d5, e5⟩ := meetings_ok ns d4
  rw [e5]
  simp only [bS]
theorem pure93 : ∀ ns : List Int, ns.length ≤ 63 → (∀ z ∈ ns, Builtin.Int.intBits z ≤ 1048576) → F_law ns = some true := fun ns _ _ => law93 ns
end K93

set_option Elab.async false
set_option linter.all false
set_option maxRecDepth 100000
namespace K93
open PySem PySem.Spec PyProof.Rows L2 M3
set_option maxHeartbeats 4000000 in
theorem all_mk {l : PySem.W.OpenLaw} {w : World} {K : PySem.W.Frag} {h : Heap} {mg : Str → Option Value} {fa f0 f1 f2 f3 f4 f5 f6 f7 f8 f9 f10 f11 f12 f13 f14 f15 f16 f17 f18 f19 f20 f21 f22 f23 f24 f25 f26 f27 : Addr} (X : K.In h) (G : h.Ns mainGlobals mg) (hfa : mg "law" = some (.ref fa))
    {od0 an0 od1 an1 od2 an2 od3 an3 od4 an4 od5 an5 od6 an6 od7 an7 od8 an8 od9 an9 od10 an10 od11 an11 od12 an12 od13 an13 od14 an14 od15 an15 od16 an16 od17 an17 od18 an18 od19 an19 od20 an20 od21 an21 od22 an22 od23 an23 od24 an24 od25 an25 od26 an26 od27 an27 : Option Addr} {sl0 sl1 sl2 sl3 sl4 sl5 sl6 sl7 sl8 sl9 sl10 sl11 sl12 sl13 sl14 sl15 sl16 sl17 sl18 sl19 sl20 sl21 sl22 sl23 sl24 sl25 sl26 sl27 : Array (Option Value)} {oc0 kV0 dc0 pm0 cd0 ct0 oc1 kV1 dc1 pm1 cd1 ct1 oc2 kV2 dc2 pm2 cd2 ct2 oc3 kV3 dc3 pm3 cd3 ct3 oc4 kV4 dc4 pm4 cd4 ct4 oc5 kV5 dc5 pm5 cd5 ct5 oc6 kV6 dc6 pm6 cd6 ct6 oc7 kV7 dc7 pm7 cd7 ct7 oc8 kV8 dc8 pm8 cd8 ct8 oc9 kV9 dc9 pm9 cd9 ct9 oc10 kV10 dc10 pm10 cd10 ct10 oc11 kV11 dc11 pm11 cd11 ct11 oc12 kV12 dc12 pm12 cd12 ct12 oc13 kV13 dc13 pm13 cd13 ct13 oc14 kV14 dc14 pm14 cd14 ct14 oc15 kV15 dc15 pm15 cd15 ct15 oc16 kV16 dc16 pm16 cd16 ct16 oc17 kV17 dc17 pm17 cd17 ct17 oc18 kV18 dc18 pm18 cd18 ct18 oc19 kV19 dc19 pm19 cd19 ct19 oc20 kV20 dc20 pm20 cd20 ct20 oc21 kV21 dc21 pm21 cd21 ct21 oc22 kV22 dc22 pm22 cd22 ct22 oc23 kV23 dc23 pm23 cd23 ct23 oc24 kV24 dc24 pm24 cd24 ct24 oc25 kV25 dc25 pm25 cd25 ct25 oc26 kV26 dc26 pm26 cd26 ct26 oc27 kV27 dc27 pm27 cd27 ct27 : Value}
    (a0 : PySem.W.nsIn K mainGlobals "fraction" = some (some (.ref f0))) (l0 : K.lookup f0 = some ⟨oc0, od0, .func (PySem.W.fnOf "fraction" "fraction" (defArgs (topS 2)) (defBody (topS 2)) (defScope (topS 2)) .none kV0 dc0 pm0 an0 cd0 ct0), sl0⟩) (c0 : PySem.W.codeIn K cd0 "fraction" = true) (k0 : PySem.W.keepIn K (.ref f0) = true)
    (a1 : PySem.W.nsIn K mainGlobals "times_of" = some (some (.ref f1))) (l1 : K.lookup f1 = some ⟨oc1, od1, .func (PySem.W.fnOf "times_of" "times_of" (defArgs (topS 3)) (defBody (topS 3)) (defScope (topS 3)) .none kV1 dc1 pm1 an1 cd1 ct1), sl1⟩) (c1 : PySem.W.codeIn K cd1 "times_of" = true) (k1 : PySem.W.keepIn K (.ref f1) = true)
    (a2 : PySem.W.nsIn K mainGlobals "divided_by" = some (some (.ref f2))) (l2 : K.lookup f2 = some ⟨oc2, od2, .func (PySem.W.fnOf "divided_by" "divided_by" (defArgs (topS 4)) (defBody (topS 4)) (defScope (topS 4)) .none kV2 dc2 pm2 an2 cd2 ct2), sl2⟩) (c2 : PySem.W.codeIn K cd2 "divided_by" = true) (k2 : PySem.W.keepIn K (.ref f2) = true)
    (a3 : PySem.W.nsIn K mainGlobals "ratio_of" = some (some (.ref f3))) (l3 : K.lookup f3 = some ⟨oc3, od3, .func (PySem.W.fnOf "ratio_of" "ratio_of" (defArgs (topS 6)) (defBody (topS 6)) (defScope (topS 6)) .none kV3 dc3 pm3 an3 cd3 ct3), sl3⟩) (c3 : PySem.W.codeIn K cd3 "ratio_of" = true) (k3 : PySem.W.keepIn K (.ref f3) = true)
    (a4 : PySem.W.nsIn K mainGlobals "turns_until" = some (some (.ref f4))) (l4 : K.lookup f4 = some ⟨oc4, od4, .func (PySem.W.fnOf "turns_until" "turns_until" (defArgs (topS 7)) (defBody (topS 7)) (defScope (topS 7)) .none kV4 dc4 pm4 an4 cd4 ct4), sl4⟩) (c4 : PySem.W.codeIn K cd4 "turns_until" = true) (k4 : PySem.W.keepIn K (.ref f4) = true)
    (a5 : PySem.W.nsIn K mainGlobals "reduced_gear" = some (some (.ref f5))) (l5 : K.lookup f5 = some ⟨oc5, od5, .func (PySem.W.fnOf "reduced_gear" "reduced_gear" (defArgs (topS 8)) (defBody (topS 8)) (defScope (topS 8)) .none kV5 dc5 pm5 an5 cd5 ct5), sl5⟩) (c5 : PySem.W.codeIn K cd5 "reduced_gear" = true) (k5 : PySem.W.keepIn K (.ref f5) = true)
    (a6 : PySem.W.nsIn K mainGlobals "meets_again" = some (some (.ref f6))) (l6 : K.lookup f6 = some ⟨oc6, od6, .func (PySem.W.fnOf "meets_again" "meets_again" (defArgs (topS 9)) (defBody (topS 9)) (defScope (topS 9)) .none kV6 dc6 pm6 an6 cd6 ct6), sl6⟩) (c6 : PySem.W.codeIn K cd6 "meets_again" = true) (k6 : PySem.W.keepIn K (.ref f6) = true)
    (a7 : PySem.W.nsIn K mainGlobals "departs_at" = some (some (.ref f7))) (l7 : K.lookup f7 = some ⟨oc7, od7, .func (PySem.W.fnOf "departs_at" "departs_at" (defArgs (topS 11)) (defBody (topS 11)) (defScope (topS 11)) .none kV7 dc7 pm7 an7 cd7 ct7), sl7⟩) (c7 : PySem.W.codeIn K cd7 "departs_at" = true) (k7 : PySem.W.keepIn K (.ref f7) = true)
    (a8 : PySem.W.nsIn K mainGlobals "wait_for" = some (some (.ref f8))) (l8 : K.lookup f8 = some ⟨oc8, od8, .func (PySem.W.fnOf "wait_for" "wait_for" (defArgs (topS 12)) (defBody (topS 12)) (defScope (topS 12)) .none kV8 dc8 pm8 an8 cd8 ct8), sl8⟩) (c8 : PySem.W.codeIn K cd8 "wait_for" = true) (k8 : PySem.W.keepIn K (.ref f8) = true)
    (a9 : PySem.W.nsIn K mainGlobals "next_of" = some (some (.ref f9))) (l9 : K.lookup f9 = some ⟨oc9, od9, .func (PySem.W.fnOf "next_of" "next_of" (defArgs (topS 13)) (defBody (topS 13)) (defScope (topS 13)) .none kV9 dc9 pm9 an9 cd9 ct9), sl9⟩) (c9 : PySem.W.codeIn K cd9 "next_of" = true) (k9 : PySem.W.keepIn K (.ref f9) = true)
    (a10 : PySem.W.nsIn K mainGlobals "round_of" = some (some (.ref f10))) (l10 : K.lookup f10 = some ⟨oc10, od10, .func (PySem.W.fnOf "round_of" "round_of" (defArgs (topS 14)) (defBody (topS 14)) (defScope (topS 14)) .none kV10 dc10 pm10 an10 cd10 ct10), sl10⟩) (c10 : PySem.W.codeIn K cd10 "round_of" = true) (k10 : PySem.W.keepIn K (.ref f10) = true)
    (a11 : PySem.W.nsIn K mainGlobals "inverse" = some (some (.ref f11))) (l11 : K.lookup f11 = some ⟨oc11, od11, .func (PySem.W.fnOf "inverse" "inverse" (defArgs (topS 15)) (defBody (topS 15)) (defScope (topS 15)) .none kV11 dc11 pm11 an11 cd11 ct11), sl11⟩) (c11 : PySem.W.codeIn K cd11 "inverse" = true) (k11 : PySem.W.keepIn K (.ref f11) = true)
    (a12 : PySem.W.nsIn K mainGlobals "meet_at" = some (some (.ref f12))) (l12 : K.lookup f12 = some ⟨oc12, od12, .func (PySem.W.fnOf "meet_at" "meet_at" (defArgs (topS 16)) (defBody (topS 16)) (defScope (topS 16)) .none kV12 dc12 pm12 an12 cd12 ct12), sl12⟩) (c12 : PySem.W.codeIn K cd12 "meet_at" = true) (k12 : PySem.W.keepIn K (.ref f12) = true)
    (a13 : PySem.W.nsIn K mainGlobals "before_minute" = some (some (.ref f13))) (l13 : K.lookup f13 = some ⟨oc13, od13, .func (PySem.W.fnOf "before_minute" "before_minute" (defArgs (topS 17)) (defBody (topS 17)) (defScope (topS 17)) .none kV13 dc13 pm13 an13 cd13 ct13), sl13⟩) (c13 : PySem.W.codeIn K cd13 "before_minute" = true) (k13 : PySem.W.keepIn K (.ref f13) = true)
    (a14 : PySem.W.nsIn K mainGlobals "departures_in" = some (some (.ref f14))) (l14 : K.lookup f14 = some ⟨oc14, od14, .func (PySem.W.fnOf "departures_in" "departures_in" (defArgs (topS 18)) (defBody (topS 18)) (defScope (topS 18)) .none kV14 dc14 pm14 an14 cd14 ct14), sl14⟩) (c14 : PySem.W.codeIn K cd14 "departures_in" = true) (k14 : PySem.W.keepIn K (.ref f14) = true)
    (a15 : PySem.W.nsIn K mainGlobals "_law_draws" = some (some (.ref f15))) (l15 : K.lookup f15 = some ⟨oc15, od15, .func (PySem.W.fnOf "_law_draws" "_law_draws" (defArgs (topS 20)) (defBody (topS 20)) (defScope (topS 20)) .none kV15 dc15 pm15 an15 cd15 ct15), sl15⟩) (c15 : PySem.W.codeIn K cd15 "_law_draws" = true) (k15 : PySem.W.keepIn K (.ref f15) = true)
    (a16 : PySem.W.nsIn K mainGlobals "_law_take" = some (some (.ref f16))) (l16 : K.lookup f16 = some ⟨oc16, od16, .func (PySem.W.fnOf "_law_take" "_law_take" (defArgs (topS 21)) (defBody (topS 21)) (defScope (topS 21)) .none kV16 dc16 pm16 an16 cd16 ct16), sl16⟩) (c16 : PySem.W.codeIn K cd16 "_law_take" = true) (k16 : PySem.W.keepIn K (.ref f16) = true)
    (a17 : PySem.W.nsIn K mainGlobals "_law_cell" = some (some (.ref f17))) (l17 : K.lookup f17 = some ⟨oc17, od17, .func (PySem.W.fnOf "_law_cell" "_law_cell" (defArgs (topS 22)) (defBody (topS 22)) (defScope (topS 22)) .none kV17 dc17 pm17 an17 cd17 ct17), sl17⟩) (c17 : PySem.W.codeIn K cd17 "_law_cell" = true) (k17 : PySem.W.keepIn K (.ref f17) = true)
    (a18 : PySem.W.nsIn K mainGlobals "_law_same" = some (some (.ref f18))) (l18 : K.lookup f18 = some ⟨oc18, od18, .func (PySem.W.fnOf "_law_same" "_law_same" (defArgs (topS 23)) (defBody (topS 23)) (defScope (topS 23)) .none kV18 dc18 pm18 an18 cd18 ct18), sl18⟩) (c18 : PySem.W.codeIn K cd18 "_law_same" = true) (k18 : PySem.W.keepIn K (.ref f18) = true)
    (a19 : PySem.W.nsIn K mainGlobals "_law_divisor" = some (some (.ref f19))) (l19 : K.lookup f19 = some ⟨oc19, od19, .func (PySem.W.fnOf "_law_divisor" "_law_divisor" (defArgs (topS 24)) (defBody (topS 24)) (defScope (topS 24)) .none kV19 dc19 pm19 an19 cd19 ct19), sl19⟩) (c19 : PySem.W.codeIn K cd19 "_law_divisor" = true) (k19 : PySem.W.keepIn K (.ref f19) = true)
    (a20 : PySem.W.nsIn K mainGlobals "_law_lowest" = some (some (.ref f20))) (l20 : K.lookup f20 = some ⟨oc20, od20, .func (PySem.W.fnOf "_law_lowest" "_law_lowest" (defArgs (topS 25)) (defBody (topS 25)) (defScope (topS 25)) .none kV20 dc20 pm20 an20 cd20 ct20), sl20⟩) (c20 : PySem.W.codeIn K cd20 "_law_lowest" = true) (k20 : PySem.W.keepIn K (.ref f20) = true)
    (a21 : PySem.W.nsIn K mainGlobals "_law_ratios" = some (some (.ref f21))) (l21 : K.lookup f21 = some ⟨oc21, od21, .func (PySem.W.fnOf "_law_ratios" "_law_ratios" (defArgs (topS 27)) (defBody (topS 27)) (defScope (topS 27)) .none kV21 dc21 pm21 an21 cd21 ct21), sl21⟩) (c21 : PySem.W.codeIn K cd21 "_law_ratios" = true) (k21 : PySem.W.keepIn K (.ref f21) = true)
    (a22 : PySem.W.nsIn K mainGlobals "_law_turns" = some (some (.ref f22))) (l22 : K.lookup f22 = some ⟨oc22, od22, .func (PySem.W.fnOf "_law_turns" "_law_turns" (defArgs (topS 28)) (defBody (topS 28)) (defScope (topS 28)) .none kV22 dc22 pm22 an22 cd22 ct22), sl22⟩) (c22 : PySem.W.codeIn K cd22 "_law_turns" = true) (k22 : PySem.W.keepIn K (.ref f22) = true)
    (a23 : PySem.W.nsIn K mainGlobals "_law_gear" = some (some (.ref f23))) (l23 : K.lookup f23 = some ⟨oc23, od23, .func (PySem.W.fnOf "_law_gear" "_law_gear" (defArgs (topS 26)) (defBody (topS 26)) (defScope (topS 26)) .none kV23 dc23 pm23 an23 cd23 ct23), sl23⟩) (c23 : PySem.W.codeIn K cd23 "_law_gear" = true) (k23 : PySem.W.keepIn K (.ref f23) = true)
    (a24 : PySem.W.nsIn K mainGlobals "_law_axles" = some (some (.ref f24))) (l24 : K.lookup f24 = some ⟨oc24, od24, .func (PySem.W.fnOf "_law_axles" "_law_axles" (defArgs (topS 29)) (defBody (topS 29)) (defScope (topS 29)) .none kV24 dc24 pm24 an24 cd24 ct24), sl24⟩) (c24 : PySem.W.codeIn K cd24 "_law_axles" = true) (k24 : PySem.W.keepIn K (.ref f24) = true)
    (a25 : PySem.W.nsIn K mainGlobals "_law_products" = some (some (.ref f25))) (l25 : K.lookup f25 = some ⟨oc25, od25, .func (PySem.W.fnOf "_law_products" "_law_products" (defArgs (topS 30)) (defBody (topS 30)) (defScope (topS 30)) .none kV25 dc25 pm25 an25 cd25 ct25), sl25⟩) (c25 : PySem.W.codeIn K cd25 "_law_products" = true) (k25 : PySem.W.keepIn K (.ref f25) = true)
    (a26 : PySem.W.nsIn K mainGlobals "_law_meetings" = some (some (.ref f26))) (l26 : K.lookup f26 = some ⟨oc26, od26, .func (PySem.W.fnOf "_law_meetings" "_law_meetings" (defArgs (topS 31)) (defBody (topS 31)) (defScope (topS 31)) .none kV26 dc26 pm26 an26 cd26 ct26), sl26⟩) (c26 : PySem.W.codeIn K cd26 "_law_meetings" = true) (k26 : PySem.W.keepIn K (.ref f26) = true)
    (a27 : PySem.W.nsIn K mainGlobals "law" = some (some (.ref f27))) (l27 : K.lookup f27 = some ⟨oc27, od27, .func (PySem.W.fnOf "law" "law" (defArgs (topS 32)) (defBody (topS 32)) (defScope (topS 32)) .none kV27 dc27 pm27 an27 cd27 ct27), sl27⟩) (c27 : PySem.W.codeIn K cd27 "law" = true) (k27 : PySem.W.keepIn K (.ref f27) = true)
    (z_abs : PySem.W.nsIn K mainGlobals "abs" = some none)
    (z_bool : PySem.W.nsIn K mainGlobals "bool" = some none)
    (z_int : PySem.W.nsIn K mainGlobals "int" = some none)
    (z_isinstance : PySem.W.nsIn K mainGlobals "isinstance" = some none)
    (z_len : PySem.W.nsIn K mainGlobals "len" = some none)
    (z_list : PySem.W.nsIn K mainGlobals "list" = some none)
    (z_max : PySem.W.nsIn K mainGlobals "max" = some none)
    (z_min : PySem.W.nsIn K mainGlobals "min" = some none)
    (z_range : PySem.W.nsIn K mainGlobals "range" = some none)
    (z_str : PySem.W.nsIn K mainGlobals "str" = some none)
    (z_sum : PySem.W.nsIn K mainGlobals "sum" = some none)
    (z_tuple : PySem.W.nsIn K mainGlobals "tuple" = some none)
    (z_gcd : PySem.W.nsIn K mainGlobals "gcd" = some (some (.builtin "math.gcd")))
    (pure : ∀ ns : List Int, ns.length ≤ 63 → (∀ z ∈ ns, Builtin.Int.intBits z ≤ 1048576) → F_law ns = some true) :
    ∃ fd : FuncData, (∀ (s : Shared) (v : Value), BindsTo s fd ⟨[v], []⟩ [("script", v)]) ∧ ∀ base : Heap, K.In base → base.Ns mainGlobals mg → FnOk l.prog w K mg base CX0 30 fa fd ["script"] (spLaw K) := by
  have e := hfa.symm.trans (PySem.W.mg_of X G a27)
  cases e
  have T : Fa mg := ⟨PySem.W.mg_none_of X G z_abs, PySem.W.mg_none_of X G z_bool, PySem.W.mg_none_of X G z_int, PySem.W.mg_none_of X G z_isinstance, PySem.W.mg_none_of X G z_len, PySem.W.mg_none_of X G z_list, PySem.W.mg_none_of X G z_max, PySem.W.mg_none_of X G z_min, PySem.W.mg_none_of X G z_range, PySem.W.mg_none_of X G z_str, PySem.W.mg_none_of X G z_sum, PySem.W.mg_none_of X G z_tuple, PySem.W.mg_of X G z_gcd⟩
  have F0 := fun_mk (x := "fraction") (qual := "fraction") (st := topS 2) l0 c0 k0
  have b0 := F0.binds (ps := ["n", "d"]) fun _ _ _ _ _ _ us hl => match us, hl with | [_, _], _ => rfl
  have F1 := fun_mk (x := "times_of") (qual := "times_of") (st := topS 3) l1 c1 k1
  have b1 := F1.binds (ps := ["one", "other"]) fun _ _ _ _ _ _ us hl => match us, hl with | [_, _], _ => rfl
  have F2 := fun_mk (x := "divided_by") (qual := "divided_by") (st := topS 4) l2 c2 k2
  have b2 := F2.binds (ps := ["one", "other"]) fun _ _ _ _ _ _ us hl => match us, hl with | [_, _], _ => rfl
  have F3 := fun_mk (x := "ratio_of") (qual := "ratio_of") (st := topS 6) l3 c3 k3
  have b3 := F3.binds (ps := ["pairs"]) fun _ _ _ _ _ _ us hl => match us, hl with | [_], _ => rfl
  have F4 := fun_mk (x := "turns_until") (qual := "turns_until") (st := topS 7) l4 c4 k4
  have b4 := F4.binds (ps := ["pairs"]) fun _ _ _ _ _ _ us hl => match us, hl with | [_], _ => rfl
  have F5 := fun_mk (x := "reduced_gear") (qual := "reduced_gear") (st := topS 8) l5 c5 k5
  have b5 := F5.binds (ps := ["pairs"]) fun _ _ _ _ _ _ us hl => match us, hl with | [_], _ => rfl
  have F6 := fun_mk (x := "meets_again") (qual := "meets_again") (st := topS 9) l6 c6 k6
  have b6 := F6.binds (ps := ["one", "other"]) fun _ _ _ _ _ _ us hl => match us, hl with | [_, _], _ => rfl
  have F7 := fun_mk (x := "departs_at") (qual := "departs_at") (st := topS 11) l7 c7 k7
  have b7 := F7.binds (ps := ["service", "minute"]) fun _ _ _ _ _ _ us hl => match us, hl with | [_, _], _ => rfl
  have F8 := fun_mk (x := "wait_for") (qual := "wait_for") (st := topS 12) l8 c8 k8
  have b8 := F8.binds (ps := ["service", "minute"]) fun _ _ _ _ _ _ us hl => match us, hl with | [_, _], _ => rfl
  have F9 := fun_mk (x := "next_of") (qual := "next_of") (st := topS 13) l9 c9 k9
  have b9 := F9.binds (ps := ["services", "minute"]) fun _ _ _ _ _ _ us hl => match us, hl with | [_, _], _ => rfl
  have F10 := fun_mk (x := "round_of") (qual := "round_of") (st := topS 14) l10 c10 k10
  have b10 := F10.binds (ps := ["services"]) fun _ _ _ _ _ _ us hl => match us, hl with | [_], _ => rfl
  have F11 := fun_mk (x := "inverse") (qual := "inverse") (st := topS 15) l11 c11 k11
  have b11 := F11.binds (ps := ["number", "modulus"]) fun _ _ _ _ _ _ us hl => match us, hl with | [_, _], _ => rfl
  have F12 := fun_mk (x := "meet_at") (qual := "meet_at") (st := topS 16) l12 c12 k12
  have b12 := F12.binds (ps := ["one", "other"]) fun _ _ _ _ _ _ us hl => match us, hl with | [_, _], _ => rfl
  have F13 := fun_mk (x := "before_minute") (qual := "before_minute") (st := topS 17) l13 c13 k13
  have b13 := F13.binds (ps := ["service", "minute"]) fun _ _ _ _ _ _ us hl => match us, hl with | [_, _], _ => rfl
  have F14 := fun_mk (x := "departures_in") (qual := "departures_in") (st := topS 18) l14 c14 k14
  have b14 := F14.binds (ps := ["services", "first", "end"]) fun _ _ _ _ _ _ us hl => match us, hl with | [_, _, _], _ => rfl
  have F15 := fun_mk (x := "_law_draws") (qual := "_law_draws") (st := topS 20) l15 c15 k15
  have b15 := F15.binds (ps := ["script", "many"]) fun _ _ _ _ _ _ us hl => match us, hl with | [_, _], _ => rfl
  have F16 := fun_mk (x := "_law_take") (qual := "_law_take") (st := topS 21) l16 c16 k16
  have b16 := F16.binds (ps := ["draws", "many"]) fun _ _ _ _ _ _ us hl => match us, hl with | [_, _], _ => rfl
  have F17 := fun_mk (x := "_law_cell") (qual := "_law_cell") (st := topS 22) l17 c17 k17
  have b17 := F17.binds (ps := ["script", "at"]) fun _ _ _ _ _ _ us hl => match us, hl with | [_, _], _ => rfl
  have F18 := fun_mk (x := "_law_same") (qual := "_law_same") (st := topS 23) l18 c18 k18
  have b18 := F18.binds (ps := ["actual", "due"]) fun _ _ _ _ _ _ us hl => match us, hl with | [_, _], _ => rfl
  have F19 := fun_mk (x := "_law_divisor") (qual := "_law_divisor") (st := topS 24) l19 c19 k19
  have b19 := F19.binds (ps := ["one", "other"]) fun _ _ _ _ _ _ us hl => match us, hl with | [_, _], _ => rfl
  have F20 := fun_mk (x := "_law_lowest") (qual := "_law_lowest") (st := topS 25) l20 c20 k20
  have b20 := F20.binds (ps := ["n", "d"]) fun _ _ _ _ _ _ us hl => match us, hl with | [_, _], _ => rfl
  have F21 := fun_mk (x := "_law_ratios") (qual := "_law_ratios") (st := topS 27) l21 c21 k21
  have b21 := F21.binds (ps := ["pairs"]) fun _ _ _ _ _ _ us hl => match us, hl with | [_], _ => rfl
  have F22 := fun_mk (x := "_law_turns") (qual := "_law_turns") (st := topS 28) l22 c22 k22
  have b22 := F22.binds (ps := ["pairs"]) fun _ _ _ _ _ _ us hl => match us, hl with | [_], _ => rfl
  have F23 := fun_mk (x := "_law_gear") (qual := "_law_gear") (st := topS 26) l23 c23 k23
  have b23 := F23.binds (ps := ["draws", "most"]) fun _ _ _ _ _ _ us hl => match us, hl with | [_, _], _ => rfl
  have F24 := fun_mk (x := "_law_axles") (qual := "_law_axles") (st := topS 29) l24 c24 k24
  have b24 := F24.binds (ps := ["draws", "pairs"]) fun _ _ _ _ _ _ us hl => match us, hl with | [_, _], _ => rfl
  have F25 := fun_mk (x := "_law_products") (qual := "_law_products") (st := topS 30) l25 c25 k25
  have b25 := F25.binds (ps := ["draws", "pairs", "other"]) fun _ _ _ _ _ _ us hl => match us, hl with | [_, _, _], _ => rfl
  have F26 := fun_mk (x := "_law_meetings") (qual := "_law_meetings") (st := topS 31) l26 c26 k26
  have b26 := F26.binds (ps := ["script", "draws"]) fun _ _ _ _ _ _ us hl => match us, hl with | [_, _], _ => rfl
  have F27 := fun_mk (x := "law") (qual := "law") (st := topS 32) l27 c27 k27
  have b27 := F27.binds (ps := ["script"]) fun _ _ _ _ _ _ us hl => match us, hl with | [_], _ => rfl
  refine ⟨PySem.W.fnOf "law" "law" (defArgs (topS 32)) (defBody (topS 32)) (defScope (topS 32)) .none kV27 dc27 pm27 an27 cd27 ct27, fun s v => .of_eq rfl, fun base _ _ => ?_⟩
  have O_fraction : Own l.prog w K mg base 1 "fraction" f0 _ ps_fraction ca_fraction FF_fraction rs_fraction cr_fraction := ⟨ok_fraction (P := l.prog) (w := w) (base := base) F0 T , PySem.W.mg_of X G a0, k0, b0⟩
  have O_times_of : Own l.prog w K mg base 2 "times_of" f1 _ ps_times_of ca_times_of FF_times_of rs_times_of cr_times_of := ⟨ok_times_of (P := l.prog) (w := w) (base := base) F1 T O_fraction, PySem.W.mg_of X G a1, k1, b1⟩
  have O_divided_by : Own l.prog w K mg base 2 "divided_by" f2 _ ps_divided_by ca_divided_by FF_divided_by rs_divided_by cr_divided_by := ⟨ok_divided_by (P := l.prog) (w := w) (base := base) F2 T O_fraction, PySem.W.mg_of X G a2, k2, b2⟩
  have O_ratio_of : Own l.prog w K mg base 3 "ratio_of" f3 _ ps_ratio_of ca_ratio_of FF_ratio_of rs_ratio_of cr_ratio_of := ⟨ok_ratio_of (P := l.prog) (w := w) (base := base) F3 T O_times_of O_fraction, PySem.W.mg_of X G a3, k3, b3⟩
  have O_turns_until : Own l.prog w K mg base 4 "turns_until" f4 _ ps_turns_until ca_turns_until FF_turns_until rs_turns_until cr_turns_until := ⟨ok_turns_until (P := l.prog) (w := w) (base := base) F4 T O_ratio_of, PySem.W.mg_of X G a4, k4, b4⟩
  have O_reduced_gear : Own l.prog w K mg base 4 "reduced_gear" f5 _ ps_reduced_gear ca_reduced_gear FF_reduced_gear rs_reduced_gear cr_reduced_gear := ⟨ok_reduced_gear (P := l.prog) (w := w) (base := base) F5 T O_ratio_of, PySem.W.mg_of X G a5, k5, b5⟩
  have O_meets_again : Own l.prog w K mg base 1 "meets_again" f6 _ ps_meets_again ca_meets_again FF_meets_again rs_meets_again cr_meets_again := ⟨ok_meets_again (P := l.prog) (w := w) (base := base) F6 T , PySem.W.mg_of X G a6, k6, b6⟩
  have O_departs_at : Own l.prog w K mg base 1 "departs_at" f7 _ ps_departs_at ca_departs_at FF_departs_at rs_departs_at cr_departs_at := ⟨ok_departs_at (P := l.prog) (w := w) (base := base) F7 T , PySem.W.mg_of X G a7, k7, b7⟩
  have O_wait_for : Own l.prog w K mg base 1 "wait_for" f8 _ ps_wait_for ca_wait_for FF_wait_for rs_wait_for cr_wait_for := ⟨ok_wait_for (P := l.prog) (w := w) (base := base) F8 T , PySem.W.mg_of X G a8, k8, b8⟩
  have O_next_of : Own l.prog w K mg base 2 "next_of" f9 _ ps_next_of ca_next_of FF_next_of rs_next_of cr_next_of := ⟨ok_next_of (P := l.prog) (w := w) (base := base) F9 T O_wait_for, PySem.W.mg_of X G a9, k9, b9⟩
  have O_round_of : Own l.prog w K mg base 1 "round_of" f10 _ ps_round_of ca_round_of FF_round_of rs_round_of cr_round_of := ⟨ok_round_of (P := l.prog) (w := w) (base := base) F10 T , PySem.W.mg_of X G a10, k10, b10⟩
  have O_inverse : Own l.prog w K mg base 1 "inverse" f11 _ ps_inverse ca_inverse FF_inverse rs_inverse cr_inverse := ⟨ok_inverse (P := l.prog) (w := w) (base := base) F11 T , PySem.W.mg_of X G a11, k11, b11⟩
  have O_meet_at : Own l.prog w K mg base 2 "meet_at" f12 _ ps_meet_at ca_meet_at FF_meet_at rs_meet_at cr_meet_at := ⟨ok_meet_at (P := l.prog) (w := w) (base := base) F12 T O_inverse, PySem.W.mg_of X G a12, k12, b12⟩
  have O_before_minute : Own l.prog w K mg base 1 "before_minute" f13 _ ps_before_minute ca_before_minute FF_before_minute rs_before_minute cr_before_minute := ⟨ok_before_minute (P := l.prog) (w := w) (base := base) F13 T , PySem.W.mg_of X G a13, k13, b13⟩
  have O_departures_in : Own l.prog w K mg base 2 "departures_in" f14 _ ps_departures_in ca_departures_in FF_departures_in rs_departures_in cr_departures_in := ⟨ok_departures_in (P := l.prog) (w := w) (base := base) F14 T O_before_minute, PySem.W.mg_of X G a14, k14, b14⟩
  have O__law_draws : Own l.prog w K mg base 1 "_law_draws" f15 _ ps__law_draws ca__law_draws FF__law_draws rs__law_draws cr__law_draws := ⟨ok__law_draws (P := l.prog) (w := w) (base := base) F15 T , PySem.W.mg_of X G a15, k15, b15⟩
  have O__law_take : Own l.prog w K mg base 1 "_law_take" f16 _ ps__law_take ca__law_take FF__law_take rs__law_take cr__law_take := ⟨ok__law_take (P := l.prog) (w := w) (base := base) F16 T , PySem.W.mg_of X G a16, k16, b16⟩
  have O__law_cell : Own l.prog w K mg base 1 "_law_cell" f17 _ ps__law_cell ca__law_cell FF__law_cell rs__law_cell cr__law_cell := ⟨ok__law_cell (P := l.prog) (w := w) (base := base) F17 T , PySem.W.mg_of X G a17, k17, b17⟩
  have O__law_same : Own l.prog w K mg base 4 "_law_same" f18 _ ps__law_same ca__law_same FF__law_same rs__law_same cr__law_same := ⟨ok__law_same (P := l.prog) (w := w) (base := base) F18 T (PySem.W.mg_of X G a18) k18 b18, PySem.W.mg_of X G a18, k18, b18⟩
  have O__law_divisor : Own l.prog w K mg base 1 "_law_divisor" f19 _ ps__law_divisor ca__law_divisor FF__law_divisor rs__law_divisor cr__law_divisor := ⟨ok__law_divisor (P := l.prog) (w := w) (base := base) F19 T , PySem.W.mg_of X G a19, k19, b19⟩
  have O__law_lowest : Own l.prog w K mg base 2 "_law_lowest" f20 _ ps__law_lowest ca__law_lowest FF__law_lowest rs__law_lowest cr__law_lowest := ⟨ok__law_lowest (P := l.prog) (w := w) (base := base) F20 T O__law_divisor, PySem.W.mg_of X G a20, k20, b20⟩
  have O__law_ratios : Own l.prog w K mg base 3 "_law_ratios" f21 _ ps__law_ratios ca__law_ratios FF__law_ratios rs__law_ratios cr__law_ratios := ⟨ok__law_ratios (P := l.prog) (w := w) (base := base) F21 T O__law_lowest, PySem.W.mg_of X G a21, k21, b21⟩
  have O__law_ratios_L : Own l.prog w K mg base 3 "_law_ratios" f21 _ ps__law_ratios_L ca__law_ratios_L FF__law_ratios_L rs__law_ratios_L cr__law_ratios_L := ⟨ok__law_ratios_L (P := l.prog) (w := w) (base := base) F21 T O__law_lowest, PySem.W.mg_of X G a21, k21, b21⟩
  have O__law_turns : Own l.prog w K mg base 4 "_law_turns" f22 _ ps__law_turns ca__law_turns FF__law_turns rs__law_turns cr__law_turns := ⟨ok__law_turns (P := l.prog) (w := w) (base := base) F22 T O__law_ratios O__law_divisor, PySem.W.mg_of X G a22, k22, b22⟩
  have O__law_turns_L : Own l.prog w K mg base 4 "_law_turns" f22 _ ps__law_turns_L ca__law_turns_L FF__law_turns_L rs__law_turns_L cr__law_turns_L := ⟨ok__law_turns_L (P := l.prog) (w := w) (base := base) F22 T O__law_ratios O__law_ratios_L O__law_divisor, PySem.W.mg_of X G a22, k22, b22⟩
  have O__law_gear : Own l.prog w K mg base 5 "_law_gear" f23 _ ps__law_gear ca__law_gear FF__law_gear rs__law_gear cr__law_gear := ⟨ok__law_gear (P := l.prog) (w := w) (base := base) F23 T O__law_take O__law_turns O__law_turns_L, PySem.W.mg_of X G a23, k23, b23⟩
  have O__law_axles : Own l.prog w K mg base 5 "_law_axles" f24 _ ps__law_axles ca__law_axles FF__law_axles rs__law_axles cr__law_axles := ⟨ok__law_axles (P := l.prog) (w := w) (base := base) F24 T O__law_ratios O_turns_until O__law_same O__law_turns O_round_of O__law_take O_times_of O_ratio_of O__law_lowest O_departs_at O_departures_in, PySem.W.mg_of X G a24, k24, b24⟩
  have O__law_products : Own l.prog w K mg base 5 "_law_products" f25 _ ps__law_products ca__law_products FF__law_products rs__law_products cr__law_products := ⟨ok__law_products (P := l.prog) (w := w) (base := base) F25 T O_times_of O_fraction O_ratio_of O__law_same O_reduced_gear O_divided_by, PySem.W.mg_of X G a25, k25, b25⟩
  have O__law_meetings : Own l.prog w K mg base 5 "_law_meetings" f26 _ ps__law_meetings ca__law_meetings FF__law_meetings rs__law_meetings cr__law_meetings := ⟨ok__law_meetings (P := l.prog) (w := w) (base := base) F26 T O__law_take O__law_divisor O__law_same O_meets_again O_round_of O__law_cell O_meet_at O_departures_in O_next_of O_departs_at, PySem.W.mg_of X G a26, k26, b26⟩
  exact law_end (ok_law (P := l.prog) (w := w) (base := base) F27 T O__law_draws O__law_gear O__law_axles O__law_products O__law_meetings) (by decide) pure

end K93
open PySem PySem.W PyProof.Rows
set_option maxHeartbeats 0 in
theorem PySem.Challenge.cw_roundline_k93_whole_gears_as_services_holds : PySem.Challenge.rw_roundline_k93_whole_gears_as_services.Holds := by
  w_on; o_law; k_head; (case hw => w_witness2)
  k_fill
  refine L2.walk_ofB (l := PySem.Challenge.rw_roundline_k93_whole_gears_as_services) (n := 63) (k := 30) (x := "script") (CX := fun _ => L2.CX0) (sp := fun w => M3.spLaw _) rfl (by decide) rfl ⟨rfl, by decide, by decide⟩ (fun w h Y => PySem.W.kIn_of Y) ?F (fun _ _ a ns hl hb _ hS => ⟨a, ns, rfl, hS, hl, hb, fun _ => rfl⟩) (fun _ _ _ _ _ h => h)
  case F =>
    intro w mg fa h KX G hmg
    refine' K93.all_mk KX G hmg ?a0 ?l0 ?c0 ?k0 ?a1 ?l1 ?c1 ?k1 ?a2 ?l2 ?c2 ?k2 ?a3 ?l3 ?c3 ?k3 ?a4 ?l4 ?c4 ?k4 ?a5 ?l5 ?c5 ?k5 ?a6 ?l6 ?c6 ?k6 ?a7 ?l7 ?c7 ?k7 ?a8 ?l8 ?c8 ?k8 ?a9 ?l9 ?c9 ?k9 ?a10 ?l10 ?c10 ?k10 ?a11 ?l11 ?c11 ?k11 ?a12 ?l12 ?c12 ?k12 ?a13 ?l13 ?c13 ?k13 ?a14 ?l14 ?c14 ?k14 ?a15 ?l15 ?c15 ?k15 ?a16 ?l16 ?c16 ?k16 ?a17 ?l17 ?c17 ?k17 ?a18 ?l18 ?c18 ?k18 ?a19 ?l19 ?c19 ?k19 ?a20 ?l20 ?c20 ?k20 ?a21 ?l21 ?c21 ?k21 ?a22 ?l22 ?c22 ?k22 ?a23 ?l23 ?c23 ?k23 ?a24 ?l24 ?c24 ?k24 ?a25 ?l25 ?c25 ?k25 ?a26 ?l26 ?c26 ?k26 ?a27 ?l27 ?c27 ?k27 ?z_abs ?z_bool ?z_int ?z_isinstance ?z_len ?z_list ?z_max ?z_min ?z_range ?z_str ?z_sum ?z_tuple ?z_gcd K93.pure93
    (case a0 => k_is); (case l0 => k_is); (case c0 => k_is); (case k0 => k_is); (case a1 => k_is); (case l1 => k_is); (case c1 => k_is); (case k1 => k_is); (case a2 => k_is); (case l2 => k_is); (case c2 => k_is); (case k2 => k_is); (case a3 => k_is); (case l3 => k_is); (case c3 => k_is); (case k3 => k_is); (case a4 => k_is); (case l4 => k_is); (case c4 => k_is); (case k4 => k_is); (case a5 => k_is); (case l5 => k_is); (case c5 => k_is); (case k5 => k_is); (case a6 => k_is); (case l6 => k_is); (case c6 => k_is); (case k6 => k_is); (case a7 => k_is); (case l7 => k_is); (case c7 => k_is); (case k7 => k_is); (case a8 => k_is); (case l8 => k_is); (case c8 => k_is); (case k8 => k_is); (case a9 => k_is); (case l9 => k_is); (case c9 => k_is); (case k9 => k_is); (case a10 => k_is); (case l10 => k_is); (case c10 => k_is); (case k10 => k_is); (case a11 => k_is); (case l11 => k_is); (case c11 => k_is); (case k11 => k_is); (case a12 => k_is); (case l12 => k_is); (case c12 => k_is); (case k12 => k_is); (case a13 => k_is); (case l13 => k_is); (case c13 => k_is); (case k13 => k_is); (case a14 => k_is); (case l14 => k_is); (case c14 => k_is); (case k14 => k_is); (case a15 => k_is); (case l15 => k_is); (case c15 => k_is); (case k15 => k_is); (case a16 => k_is); (case l16 => k_is); (case c16 => k_is); (case k16 => k_is); (case a17 => k_is); (case l17 => k_is); (case c17 => k_is); (case k17 => k_is); (case a18 => k_is); (case l18 => k_is); (case c18 => k_is); (case k18 => k_is); (case a19 => k_is); (case l19 => k_is); (case c19 => k_is); (case k19 => k_is); (case a20 => k_is); (case l20 => k_is); (case c20 => k_is); (case k20 => k_is); (case a21 => k_is); (case l21 => k_is); (case c21 => k_is); (case k21 => k_is); (case a22 => k_is); (case l22 => k_is); (case c22 => k_is); (case k22 => k_is); (case a23 => k_is); (case l23 => k_is); (case c23 => k_is); (case k23 => k_is); (case a24 => k_is); (case l24 => k_is); (case c24 => k_is); (case k24 => k_is); (case a25 => k_is); (case l25 => k_is); (case c25 => k_is); (case k25 => k_is); (case a26 => k_is); (case l26 => k_is); (case c26 => k_is); (case k26 => k_is); (case a27 => k_is); (case l27 => k_is); (case c27 => k_is); (case k27 => k_is); (case z_abs => k_is); (case z_bool => k_is); (case z_int => k_is); (case z_isinstance => k_is); (case z_len => k_is); (case z_list => k_is); (case z_max => k_is); (case z_min => k_is); (case z_range => k_is); (case z_str => k_is); (case z_sum => k_is); (case z_tuple => k_is); (case z_gcd => k_is)

