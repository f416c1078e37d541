import PyProof.Rows.All
import Wide.All
import OpenK.AllK
import Wide.FinOn
import HandS.ForMost
import HandS.ForExc
import HandS.TupAny
import HandS.Wide
import HandS.Deep
import HandS.Style
import HandS.Text
import HandS.Flow
import HandS.Conv
import HandS.IsInst
import PyProof.ReprRoads
import KE.KRevSl
import HandS.Defaults
import HandS.ExcOwn
import OpenK.KMore
import HandS.ExcIs
import HandS.ExcField
import PyProof.Rows.FactsN_isinstance
import HandS.Iter
import HandS.Comp
import HandS.TryMany
import HandS.Dict
import HandS.Bytes
import HandS.Ends
import HandS.HeadEnd
import HandS.HeadHook2
import KE.KStateDown
import HandS.Base
import HandS.Call
import HandS.More
import HandS.Words
import HandS.WordsExc
import HandS.Head0
import HandS.Head1
import HandS.Head2
import HandS.HeadHook1
import PySem.Challenge.RW_catchlanes_k01_numbers_in_bytes
/-! ## text Pv1 -/
set_option Elab.async false
set_option linter.all false
set_option maxRecDepth 100000
set_option autoImplicit false
/-! Pv1: plain data, things, worlds; how they lie in the layer's heap. -/
namespace Pv
open PySem PySem.Spec PyProof.Rows L2
abbrev Sl := L2.St

/-- plain data: what never changes -/
inductive Pd where
  | non | bl (b : Bool) | int (i : Int) | str (x : Str) | tup (xs : List Pd) | lst (xs : List Pd) | dct (ks vs : List Pd) | ty (n : String) | cls (x : Str)
  deriving Inhabited
abbrev Fs := List (Str × Pd)
/-- a place of the small heap: nothing yet, an object that may change, one that changes no more -/
inductive Ob where
  | dead | own (x : Pd) | frz (x : Pd)
  deriving Inhabited
/-- what a name may hold, an expression may give; tmp: a new object that nobody else knows; exc: the exception that is handled -/
inductive Th where
  | p (x : Pd) | ref (l : Nat) | tmp (x : Pd) | exc (c : Str) (fs : Fs)
  deriving Inhabited
abbrev Hs := List Ob
abbrev En := List (Option Th)

/-- what is fixed through a law -/
structure Ct where
  K : PySem.W.Frag
  mg : Str → Option Value
  P : Program
  w : World
  base : Heap
/-- the shared objects' places, the layer's heap -/
structure Gd where
  F : Addr → Prop
  H : Hp
/-- a world: the changing objects' places, these objects, the ground, the exception that is handled -/
structure Wd where
  ms : List Addr
  h : Hs
  g : Gd
  ex : Option (Addr × Str × Fs) := none
abbrev Wd.H (w : Wd) : Hp := w.g.H
abbrev Wd.F (w : Wd) : Addr → Prop := w.g.F

def keyP : Pd → Option Key
  | .int i => some (.inl i)
  | .str x => some (.inr x)
  | _ => none
def keysP : List Pd → Option (List Key)
  | [] => some []
  | k :: r => match keyP k, keysP r with
    | some a, some b => some (a :: b)
    | _, _ => none

/-- a list that stands still: shared, or of the module -/
def SL (C : Ct) (g : Gd) (a : Addr) (vs : List V) : Prop :=
  (Rd g.H a (.lst vs) ∧ g.F a) ∨
    ∃ (o : Obj) (its : Array Value) (n : Nat), C.K.lookup a = some o ∧ o.cls = .type "list" ∧ o.dict = none ∧ o.data = .seq its n ∧ its.size ≤ sizeLine ∧ Vals vs its.toList

mutual
def RPg (C : Ct) (g : Gd) : Pd → V → Prop
  | .non, v => v = .non
  | .bl b, v => v = .bl b
  | .int i, v => v = .int i
  | .str x, v => v = .str x ∧ PyData.strOk x = true ∧ x.length ≤ sizeLine
  | .tup xs, v => ∃ a vs, v = .ref a ∧ SqT C.K g.H a vs ∧ RPgs C g xs vs
  | .lst xs, v => ∃ a vs, v = .ref a ∧ SL C g a vs ∧ RPgs C g xs vs
  | .dct ks ws, v => ∃ a kvs, v = .ref a ∧ g.H a = some (.dK kvs) ∧ g.F a ∧ keysP ks = some (kvs.map (·.1)) ∧ RPgs C g ws (kvs.map (·.2))
  | .ty n, v => v = .ty n
  | .cls x, v => ∃ a, C.mg x = some (.ref a) ∧ v = .ref a
def RPgs (C : Ct) (g : Gd) : List Pd → List V → Prop
  | [], vs => vs = []
  | x :: xs, vs => ∃ v r, vs = v :: r ∧ RPg C g x v ∧ RPgs C g xs r
end
abbrev RP (C : Ct) (w : Wd) : Pd → V → Prop := RPg C w.g
abbrev RPs (C : Ct) (w : Wd) : List Pd → List V → Prop := RPgs C w.g
/-- as RP, a list (a dict) may be any -/
def RV (C : Ct) (w : Wd) : Pd → V → Prop
  | .lst xs, v => ∃ a vs, v = .ref a ∧ SqL C.K w.H a vs ∧ RPs C w xs vs
  | .dct ks ws, v => ∃ a kvs, v = .ref a ∧ w.H a = some (.dK kvs) ∧ keysP ks = some (kvs.map (·.1)) ∧ RPs C w ws (kvs.map (·.2))
  | x, v => RP C w x v
/-- what stands at a: a tracked object that may change -/
def OB (C : Ct) (g : Gd) : Pd → Addr → Prop
  | .lst xs, a => ∃ vs, g.H a = some (.lst vs) ∧ RPgs C g xs vs
  | .dct ks ws, a => ∃ kvs, g.H a = some (.dK kvs) ∧ keysP ks = some (kvs.map (·.1)) ∧ RPgs C g ws (kvs.map (·.2))
  | _, _ => False

def alive (h : Hs) (l : Nat) : Prop := ∃ x, h[l]? = some (.own x)
def Wd.live (w : Wd) (a : Addr) : Prop := ∃ l, alive w.h l ∧ w.ms[l]? = some a

def RO (C : Ct) (w : Wd) : Ob → Addr → Prop
  | .dead, _ => True
  | .own x, a => OB C w.g x a
  | .frz x, a => OB C w.g x a ∧ w.F a

structure HR (C : Ct) (w : Wd) : Prop where
  len : w.ms.length = w.h.length
  obj : ∀ (l : Nat) (o : Ob) (a : Addr), w.h[l]? = some o → w.ms[l]? = some a → RO C w o a
  nf : ∀ a, w.live a → ¬ w.F a
  inj : ∀ (l l' : Nat) (a : Addr), alive w.h l → alive w.h l' → w.ms[l]? = some a → w.ms[l']? = some a → l = l'
  fh : ∀ a, w.F a → w.H a ≠ none

/-- what an expression (n = 0) or a statement (n the slots) may turn -/
structure Ext (n : Nat) (w w' : Wd) : Prop where
  fr : ∀ a o, w.H a = some o → ¬ w.live a → w'.H a = some o
  tr : ∀ a, w.H a ≠ none → w'.H a ≠ none
  ff : ∀ a, w.F a → w'.F a
  fn : ∀ a, w'.F a → w.F a ∨ w.H a = none ∨ w.live a
  lv : ∀ (l : Nat), n ≤ l → alive w'.h l → alive w.h l
  mm : ∀ (l : Nat), n ≤ l → w'.ms[l]? = w.ms[l]?
  nw : ∀ (l : Nat) (a : Addr), l < n → alive w'.h l → w'.ms[l]? = some a → w.H a = none ∨ (alive w.h l ∧ w.ms[l]? = some a)
  ln : w'.h.length = w.h.length
  ex : w'.ex = w.ex

/-- a thing; H0: the heap ahead of what gave it (a new object wasn't there) -/
def RT (C : Ct) (w : Wd) (H0 : Hp) : Th → V → Prop
  | .p x, v => RP C w x v
  | .ref l, v => ∃ a, w.ms[l]? = some a ∧ v = .ref a
  | .tmp x, v => ∃ a, v = .ref a ∧ OB C w.g x a ∧ ¬ w.F a ∧ ¬ w.live a ∧ H0 a = none
  | .exc c fs, v => ∃ a, w.ex = some (a, c, fs) ∧ v = .ref a
def isTmp : Th → Bool
  | .tmp _ => true
  | _ => false
/-- a slot's own object has the slot's number -/
def okAt (n i : Nat) : Th → Prop
  | .p _ => True
  | .ref l => l = i ∨ n ≤ l
  | .tmp _ => False
  | .exc _ _ => True
/-- the slots -/
structure ER (C : Ct) (w : Wd) (σ : Sl) (δ : En) : Prop where
  len : σ.length = δ.length
  le : δ.length ≤ w.h.length
  at_ : ∀ (i : Nat) (d : Th), δ[i]? = some (some d) → okAt δ.length i d ∧ ∃ v, σ[i]? = some (some v) ∧ RT C w (fun _ => none) d v

section
variable {C : Ct} {n : Nat} {w w1 w2 w' : Wd} {H0 H1 : Hp} {a : Addr} {o : HO}
def isChg : HO → Bool
  | .lst _ => true
  | .dK _ => true
  | _ => false
theorem ob_chg {g : Gd} {x : Pd} (h : OB C g x a) : ∃ u, g.H a = some u ∧ isChg u = true := by
  cases x with
  | lst xs =>
    obtain ⟨vs, e, _⟩ := h
    exact ⟨_, e, rfl⟩
  | dct ks ws =>
    obtain ⟨vs, e, _⟩ := h
    exact ⟨_, e, rfl⟩
  | _ => exact False.elim h
/-- a living object's place holds a list, a dict -/
theorem live_obj (hr : HR C w) (h : w.live a) : ∃ u, w.H a = some u ∧ isChg u = true := by
  obtain ⟨l, ⟨x, e⟩, m⟩ := h
  exact ob_chg (hr.obj l _ a e m)
theorem live_there (hr : HR C w) (h : w.live a) : w.H a ≠ none := by
  obtain ⟨u, e, _⟩ := live_obj hr h
  rw [e]
  exact fun z => nomatch z
theorem live_back (x : Ext n w w') (h : w'.live a) : w.live a ∨ w.H a = none := by
  obtain ⟨l, al, m⟩ := h
  by_cases hl : n ≤ l
  · exact .inl ⟨l, x.lv l hl al, by rw [← x.mm l hl]; exact m⟩
  · rcases x.nw l a (Nat.lt_of_not_le hl) al m with q | ⟨q1, q2⟩
    · exact .inr q
    · exact .inl ⟨l, q1, q2⟩
theorem Ext.refl : Ext n w w where
  fr := fun _ _ e _ => e
  tr := fun _ e => e
  ff := fun _ e => e
  fn := fun _ e => .inl e
  lv := fun _ _ e => e
  mm := fun _ _ => rfl
  nw := fun l a hl al e => .inr ⟨al, e⟩
  ln := rfl
  ex := rfl
/-- what stood and lived not ahead lives not behind -/
theorem Ext.dead (x : Ext n w w') (h : w.H a ≠ none) (k : ¬ w.live a) : ¬ w'.live a := fun q =>
  (live_back x q).elim k h
theorem Ext.none_of (x : Ext n w w') (h : w'.H a = none) : w.H a = none := by
  cases z : w.H a with
  | none => rfl
  | some o => exact absurd h (x.tr a (by rw [z]; exact fun z => nomatch z))
theorem Ext.trans (x : Ext n w w1) (y : Ext n w1 w2) : Ext n w w2 where
  fr := fun a o e k => y.fr a o (x.fr a o e k) (x.dead (by rw [e]; exact fun z => nomatch z) k)
  tr := fun a e => y.tr a (x.tr a e)
  ff := fun a e => y.ff a (x.ff a e)
  fn := fun a e => by
    rcases y.fn a e with q | q | q
    · exact x.fn a q
    · exact .inr (.inl (x.none_of q))
    · rcases live_back x q with q | q
      · exact .inr (.inr q)
      · exact .inr (.inl q)
  lv := fun l hl e => x.lv l hl (y.lv l hl e)
  mm := fun l hl => (y.mm l hl).trans (x.mm l hl)
  nw := fun l a hl al e => by
    rcases y.nw l a hl al e with q | ⟨q1, q2⟩
    · exact .inl (x.none_of q)
    · exact x.nw l a hl q1 q2
  ln := y.ln.trans x.ln
  ex := y.ex.trans x.ex
theorem Ext.up (x : Ext 0 w w') : Ext n w w' where
  fr := x.fr
  tr := x.tr
  ff := x.ff
  fn := x.fn
  lv := fun l _ => x.lv l (Nat.zero_le _)
  mm := fun l _ => x.mm l (Nat.zero_le _)
  nw := fun l a _ al e => .inr ⟨x.lv l (Nat.zero_le _) al, by rw [← x.mm l (Nat.zero_le _)]; exact e⟩
  ln := x.ln
  ex := x.ex

/-! ### what stays -/
theorem rd_ext (hr : HR C w) (x : Ext n w w') {u : HO} (hu : isChg u = false) (h : Rd w.H a u) : Rd w'.H a u := by
  have nl : ∀ {o : HO}, w.H a = some o → isChg o = false → ¬ w.live a := fun {o} e k q => by
    obtain ⟨u', e', z⟩ := live_obj hr q
    rw [e] at e'
    cases e'
    rw [k] at z
    cases z
  rcases h with h | ⟨o, h⟩
  · exact .inl (x.fr a u h (nl h hu))
  · exact .inr ⟨o, x.fr a _ h (nl h rfl)⟩
theorem rdF_ext (hr : HR C w) (x : Ext n w w') {u : HO} (hF : w.F a) (h : Rd w.H a u) : Rd w'.H a u := by
  have k : ¬ w.live a := fun q => hr.nf a q hF
  rcases h with h | ⟨o, h⟩
  · exact .inl (x.fr a u h k)
  · exact .inr ⟨o, x.fr a _ h k⟩
theorem sqT_ext (hr : HR C w) (x : Ext n w w') {vs : List V} (h : SqT C.K w.H a vs) : SqT C.K w'.H a vs := by
  rcases h with h | h
  · exact .inl (rd_ext hr x rfl h)
  · exact .inr h
theorem sl_ext (hr : HR C w) (x : Ext n w w') {vs : List V} (h : SL C w.g a vs) : SL C w'.g a vs := by
  rcases h with ⟨h, f⟩ | h
  · exact .inl ⟨rdF_ext hr x f h, x.ff a f⟩
  · exact .inr h
mutual
theorem rp_ext (hr : HR C w) (x : Ext n w w') : ∀ (p : Pd) (v : V), RPg C w.g p v → RPg C w'.g p v
  | .non, v, h => by unfold RPg at h ⊢; exact h
  | .bl b, v, h => by unfold RPg at h ⊢; exact h
  | .int i, v, h => by unfold RPg at h ⊢; exact h
  | .str s, v, h => by unfold RPg at h ⊢; exact h
  | .ty n, v, h => by unfold RPg at h ⊢; exact h
  | .cls c, v, h => by unfold RPg at h ⊢; exact h
  | .tup xs, v, h => by
    unfold RPg at h ⊢
    obtain ⟨a, vs, e, s, r⟩ := h
    exact ⟨a, vs, e, sqT_ext hr x s, rps_ext hr x xs vs r⟩
  | .lst xs, v, h => by
    unfold RPg at h ⊢
    obtain ⟨a, vs, e, s, r⟩ := h
    exact ⟨a, vs, e, sl_ext hr x s, rps_ext hr x xs vs r⟩
  | .dct ks ws, v, h => by
    unfold RPg at h ⊢
    obtain ⟨a, kvs, e, s, f, k, r⟩ := h
    exact ⟨a, kvs, e, x.fr a _ s fun q => hr.nf a q f, x.ff a f, k, rps_ext hr x ws _ r⟩
theorem rps_ext (hr : HR C w) (x : Ext n w w') : ∀ (ps : List Pd) (vs : List V), RPgs C w.g ps vs → RPgs C w'.g ps vs
  | [], vs, h => by unfold RPgs at h ⊢; exact h
  | p :: ps, vs, h => by
    unfold RPgs at h ⊢
    obtain ⟨v, r, e, h1, h2⟩ := h
    exact ⟨v, r, e, rp_ext hr x p v h1, rps_ext hr x ps r h2⟩
end
/-- an object that changes not stays -/
theorem ob_ext (hr : HR C w) (x : Ext n w w') {y : Pd} (k : ∀ u, w.H a = some u → w'.H a = some u) (h : OB C w.g y a) : OB C w'.g y a := by
  cases y with
  | lst xs =>
    obtain ⟨vs, e, r⟩ := h
    exact ⟨vs, k _ e, rps_ext hr x xs vs r⟩
  | dct ks ws =>
    obtain ⟨kvs, e, q, r⟩ := h
    exact ⟨kvs, k _ e, q, rps_ext hr x ws _ r⟩
  | _ => exact False.elim h
theorem ob_ext' (hr : HR C w) (x : Ext n w w') {y : Pd} (k : ¬ w.live a) (h : OB C w.g y a) : OB C w'.g y a :=
  ob_ext hr x (fun u e => x.fr a u e k) h
theorem ro_ext (hr : HR C w) (x : Ext n w w') {o : Ob} (k : ∀ u, w.H a = some u → w'.H a = some u) (h : RO C w o a) : RO C w' o a := by
  cases o with
  | dead => trivial
  | own y => exact ob_ext hr x k h
  | frz y => exact ⟨ob_ext hr x k h.1, x.ff a h.2⟩
theorem rt_ext (hr : HR C w) (x : Ext n w w') {d : Th} {v : V} (k : ∀ l, d = .ref l → n ≤ l) (h : RT C w H0 d v) : RT C w' H0 d v := by
  cases d with
  | p y => exact rp_ext hr x y v h
  | ref l =>
    obtain ⟨a, m, e⟩ := h
    exact ⟨a, by rw [x.mm l (k l rfl)]; exact m, e⟩
  | tmp y =>
    obtain ⟨a, e, s, f, k, z⟩ := h
    have ne : w.H a ≠ none := by
      obtain ⟨u, q, _⟩ := ob_chg s
      show w.g.H a ≠ none
      rw [q]
      exact fun z => nomatch z
    refine ⟨a, e, ob_ext' hr x k s, fun q => ?_, x.dead ne k, z⟩
    rcases x.fn a q with q | q | q
    · exact f q
    · exact ne q
    · exact k q
  | exc c fs =>
    obtain ⟨a, m, e⟩ := h
    exact ⟨a, x.ex.trans m, e⟩
theorem rt_ext0 (hr : HR C w) (x : Ext 0 w w') {d : Th} {v : V} (h : RT C w H0 d v) : RT C w' H0 d v := rt_ext hr x (fun _ _ => Nat.zero_le _) h
theorem er_ext (hr : HR C w) (x : Ext 0 w w') {σ : Sl} {δ : En} (h : ER C w σ δ) : ER C w' σ δ :=
  ⟨h.len, by rw [x.ln]; exact h.le, fun i d e => let ⟨t, v, q, r⟩ := h.at_ i d e; ⟨t, v, q, rt_ext0 hr x r⟩⟩
/-- a thing's own heap ahead may be an older one -/
theorem rt_old {d : Th} {v : V} (h : RT C w H1 d v) (k : ∀ a, H1 a = none → H0 a = none) : RT C w H0 d v := by
  cases d with
  | p y => exact h
  | ref l => exact h
  | tmp xs =>
    obtain ⟨a, e, s, f, n, z⟩ := h
    exact ⟨a, e, s, f, n, k a z⟩
  | exc c fs => exact h
theorem rt_any {d : Th} {v : V} (t : isTmp d = false) (h : RT C w H1 d v) : RT C w H0 d v := by
  cases d with
  | p y => exact h
  | ref l => exact h
  | tmp xs => cases t
  | exc c fs => exact h
theorem rps_len : ∀ (ps : List Pd) (vs : List V), RPs C w ps vs → ps.length = vs.length
  | [], vs, h => by unfold RPs RPgs at h; rw [h]; rfl
  | p :: ps, vs, h => by
    unfold RPs RPgs at h
    obtain ⟨v, r, e, _, h2⟩ := h
    rw [e, List.length_cons, List.length_cons, rps_len ps r h2]

/-! ### worlds made of worlds -/
/-- something new is laid at p -/
def Wd.al (w : Wd) (p : Addr) (o : HO) : Wd := { w with g := ⟨w.F, upd w.H p o⟩ }
/-- the thing at a is shared from now on -/
def Wd.shr (w : Wd) (a : Addr) : Wd := { w with g := ⟨fun b => w.F b ∨ b = a, w.H⟩ }

theorem upd_tr {H : Hp} {p b : Addr} {o : HO} (h : H b ≠ none) : upd H p o b ≠ none := by
  by_cases e : b = p
  · rw [e, upd_same]
    exact fun z => nomatch z
  · rw [upd_ne e]
    exact h
theorem ext_al {p : Addr} {o : HO} (hp : w.H p = none) : Ext n w (w.al p o) where
  fr := fun a u e k => (upd_ne (ne_of_none e hp)).trans e
  tr := fun a e => upd_tr e
  ff := fun _ e => e
  fn := fun _ e => .inl e
  lv := fun _ _ e => e
  mm := fun _ _ => rfl
  nw := fun l a hl al e => .inr ⟨al, e⟩
  ln := rfl
  ex := rfl
theorem hr_al (hr : HR C w) {p : Addr} {o : HO} (hp : w.H p = none) : HR C (w.al p o) where
  len := hr.len
  obj := fun l ob a e m => ro_ext hr (ext_al (n := 0) hp) (fun u z => (upd_ne (ne_of_none z hp)).trans z) (hr.obj l ob a e m)
  nf := hr.nf
  inj := hr.inj
  fh := fun a f => upd_tr (hr.fh a f)
/-- a new object is shared: seen from the world ahead of its making -/
theorem ext_shrT {w0 : Wd} (x : Ext n w0 w) (h : w0.H a = none) : Ext n w0 (w.shr a) where
  fr := x.fr
  tr := x.tr
  ff := fun b e => .inl (x.ff b e)
  fn := fun b e => e.elim (x.fn b) fun z => .inr (.inl (by rw [z]; exact h))
  lv := x.lv
  mm := x.mm
  nw := x.nw
  ln := x.ln
  ex := x.ex
theorem sl_shr {a b : Addr} {vs : List V} (h : SL C w.g b vs) : SL C (w.shr a).g b vs := by
  rcases h with ⟨h, f⟩ | h
  · exact .inl ⟨h, .inl f⟩
  · exact .inr h
mutual
theorem rp_shr {a : Addr} : ∀ (p : Pd) (v : V), RPg C w.g p v → RPg C (w.shr a).g p v
  | .non, v, h => by unfold RPg at h ⊢; exact h
  | .bl b, v, h => by unfold RPg at h ⊢; exact h
  | .int i, v, h => by unfold RPg at h ⊢; exact h
  | .str s, v, h => by unfold RPg at h ⊢; exact h
  | .ty n, v, h => by unfold RPg at h ⊢; exact h
  | .cls c, v, h => by unfold RPg at h ⊢; exact h
  | .tup xs, v, h => by
    unfold RPg at h ⊢
    obtain ⟨b, vs, e, s, r⟩ := h
    exact ⟨b, vs, e, s, rps_shr xs vs r⟩
  | .lst xs, v, h => by
    unfold RPg at h ⊢
    obtain ⟨b, vs, e, s, r⟩ := h
    exact ⟨b, vs, e, sl_shr s, rps_shr xs vs r⟩
  | .dct ks ws, v, h => by
    unfold RPg at h ⊢
    obtain ⟨b, kvs, e, s, f, k, r⟩ := h
    exact ⟨b, kvs, e, s, .inl f, k, rps_shr ws _ r⟩
theorem rps_shr {a : Addr} : ∀ (ps : List Pd) (vs : List V), RPgs C w.g ps vs → RPgs C (w.shr a).g ps vs
  | [], vs, h => by unfold RPgs at h ⊢; exact h
  | p :: ps, vs, h => by
    unfold RPgs at h ⊢
    obtain ⟨v, r, e, h1, h2⟩ := h
    exact ⟨v, r, e, rp_shr p v h1, rps_shr ps r h2⟩
end
theorem ob_shr {a b : Addr} {y : Pd} (h : OB C w.g y b) : OB C (w.shr a).g y b := by
  cases y with
  | lst xs =>
    obtain ⟨vs, e, r⟩ := h
    exact ⟨vs, e, rps_shr xs vs r⟩
  | dct ks ws =>
    obtain ⟨kvs, e, q, r⟩ := h
    exact ⟨kvs, e, q, rps_shr ws _ r⟩
  | _ => exact False.elim h
theorem hr_shr (hr : HR C w) {a : Addr} (h : w.H a ≠ none) (k : ¬ w.live a) : HR C (w.shr a) where
  len := hr.len
  obj := fun l o b e m => by
    have q := hr.obj l o b e m
    cases o with
    | dead => trivial
    | own x => exact ob_shr q
    | frz x => exact ⟨ob_shr q.1, .inl q.2⟩
  nf := fun b q f => f.elim (hr.nf b q) fun z => k (by rw [← z]; exact q)
  inj := hr.inj
  fh := fun b f => f.elim (hr.fh b) fun z => by rw [z]; exact h
/-- a shared object, as data -/
theorem rp_of_ob {x : Pd} (h : OB C w.g x a) (f : w.F a) : RP C w x (.ref a) := by
  cases x with
  | lst xs =>
    obtain ⟨vs, e, r⟩ := h
    unfold RP RPg
    exact ⟨a, vs, rfl, .inl ⟨.inl e, f⟩, r⟩
  | dct ks ws =>
    obtain ⟨kvs, e, q, r⟩ := h
    unfold RP RPg
    exact ⟨a, kvs, rfl, e, f, q, r⟩
  | _ => exact False.elim h
theorem rv_of_ob {x : Pd} (h : OB C w.g x a) : RV C w x (.ref a) := by
  cases x with
  | lst xs =>
    obtain ⟨vs, e, r⟩ := h
    exact ⟨a, vs, rfl, .of e, r⟩
  | dct ks ws =>
    obtain ⟨kvs, e, q, r⟩ := h
    exact ⟨a, kvs, rfl, e, q, r⟩
  | _ => exact False.elim h
theorem sl_sq {vs : List V} (h : SL C w.g a vs) : SqL C.K w.H a vs := by
  rcases h with ⟨h, _⟩ | h
  · exact .inl h
  · exact .inr h
theorem rp_rv {x : Pd} {v : V} (h : RP C w x v) : RV C w x v := by
  cases x with
  | lst xs =>
    unfold RP RPg at h
    obtain ⟨a, vs, e, s, r⟩ := h
    exact ⟨a, vs, e, sl_sq s, r⟩
  | dct ks ws =>
    unfold RP RPg at h
    obtain ⟨a, kvs, e, s, _, k, r⟩ := h
    exact ⟨a, kvs, e, s, k, r⟩
  | _ => exact h
end
end Pv

/-! ## text Pv2 -/
set_option Elab.async false
set_option linter.all false
set_option maxRecDepth 100000
set_option autoImplicit false
/-! Pv2: what an expression gives; what is then wanted. -/
namespace Pv
open PySem PySem.Spec PyProof.Rows L2

inductive Rs (α : Type) where
  | ok (a : α) (h : Hs) | exc (c : Str) (fs : Fs) (h : Hs) | bad
abbrev SE := En → Hs → Rs Th
abbrev SA := En → Hs → Rs (List Th)
abbrev SB := En → Hs → Rs Bool
def Rs.bind {α β : Type} (r : Rs α) (k : α → Hs → Rs β) : Rs β := match r with
  | .ok a h => k a h
  | .exc c fs h => .exc c fs h
  | .bad => .bad
@[simp] theorem bind_ok {α β : Type} {a : α} {h : Hs} {k : α → Hs → Rs β} : (Rs.ok a h).bind k = k a h := rfl
@[simp] theorem bind_exc {α β : Type} {c : Str} {fs : Fs} {h : Hs} {k : α → Hs → Rs β} : (Rs.exc c fs h : Rs α).bind k = .exc c fs h := rfl
@[simp] theorem bind_bad {α β : Type} {k : α → Hs → Rs β} : (Rs.bad : Rs α).bind k = .bad := rfl

/-- an exception: its class by name, its own fields -/
def RX (C : Ct) (w : Wd) (c : Str) (fs : Fs) (cls : Value) (d : Option Addr) : Prop :=
  ∃ a, C.mg c = some (.ref a) ∧ cls = .ref a ∧ ((fs = [] ∧ d = none) ∨ (fs ≠ [] ∧ ∃ dx kvs, d = some dx ∧ w.H dx = some (.xd kvs) ∧ kvs.map (·.1) = fs.map (·.1) ∧ RPs C w (fs.map (·.2)) (kvs.map (·.2))))
theorem rx_ext {C : Ct} {n : Nat} {w w' : Wd} (hr : HR C w) (x : Ext n w w') {c : Str} {fs : Fs} {cls : Value} {d : Option Addr} (h : RX C w c fs cls d) : RX C w' c fs cls d := by
  obtain ⟨a, m, e, h⟩ := h
  refine ⟨a, m, e, ?_⟩
  rcases h with h | ⟨e0, dx, kvs, e1, e2, e3, e4⟩
  · exact .inl h
  · refine .inr ⟨e0, dx, kvs, e1, x.fr dx _ e2 fun q => ?_, e3, rps_ext hr x _ _ e4⟩
    obtain ⟨u, z, k⟩ := live_obj hr q
    rw [e2] at z
    cases z
    cases k

/-- the exception that is handled -/
structure Xc where
  a : Addr
  cls : Value
  d : Option Addr
  c : Str
  fs : Fs
/-- what a code block is read in: the law's, what is wanted of exceptions, the exception that is handled -/
structure Kx where
  C : Ct
  W : WX
  ex : Option Xc

/-- what is wanted behind an expression that begins in w -/
def Po (X : Kx) (w : Wd) (σ : Sl) (Q : VK) : Rs Th → Prop
  | .ok d h' => ∀ w' v, w'.h = h' → HR X.C w' → Ext 0 w w' → RT X.C w' w.H d v → Q v w'.H
  | .exc c fs h' => ∀ w' cls d, w'.h = h' → HR X.C w' → Ext 0 w w' → RX X.C w' c fs cls d → X.W cls d σ w'.H
  | .bad => False
/-- .. behind a list of them -/
def RTs (C : Ct) (w : Wd) : List Th → List V → Prop := Paired fun d v => isTmp d = false ∧ RT C w (fun _ => none) d v
def PoL (X : Kx) (w : Wd) (σ : Sl) (Q : List V → Hp → Prop) : Rs (List Th) → Prop
  | .ok ds h' => ∀ w' vs, w'.h = h' → HR X.C w' → Ext 0 w w' → RTs X.C w' ds vs → Q vs w'.H
  | .exc c fs h' => ∀ w' cls d, w'.h = h' → HR X.C w' → Ext 0 w w' → RX X.C w' c fs cls d → X.W cls d σ w'.H
  | .bad => False
def Pob (X : Kx) (w : Wd) (σ : Sl) (Q : Bool → Hp → Prop) : Rs Bool → Prop
  | .ok b h' => ∀ w', w'.h = h' → HR X.C w' → Ext 0 w w' → Q b w'.H
  | .exc c fs h' => ∀ w' cls d, w'.h = h' → HR X.C w' → Ext 0 w w' → RX X.C w' c fs cls d → X.W cls d σ w'.H
  | .bad => False
/-- a world that stands for the state -/
structure At (X : Kx) (σ : Sl) (H : Hp) (w : Wd) (δ : En) : Prop where
  eH : w.H = H
  hr : HR X.C w
  er : ER X.C w σ δ
  ex : w.ex = X.ex.map fun x => (x.a, x.c, x.fs)
  xr : ∀ x, X.ex = some x → RX X.C w x.c x.fs x.cls x.d
/-- the readings -/
def tE (X : Kx) (f : SE) : TE := fun σ H Q => ∃ w δ, At X σ H w δ ∧ Po X w σ Q (f δ w.h)
def tA (X : Kx) (f : SA) : TA := fun σ H Q => ∃ w δ, At X σ H w δ ∧ PoL X w σ Q (f δ w.h)
def tT (X : Kx) (f : SB) : TT := fun σ H Q => ∃ w δ, At X σ H w δ ∧ Pob X w σ Q (f δ w.h)

section
variable {X : Kx} {w w1 w' : Wd} {σ : Sl} {δ : En}
theorem At.on {H : Hp} (a : At X σ H w δ) (hr : HR X.C w1) (x : Ext 0 w w1) : At X σ w1.H w1 δ := ⟨rfl, hr, er_ext a.hr x a.er, x.ex.trans a.ex, fun y e => rx_ext a.hr x (a.xr y e)⟩
theorem po_mono {Q Q' : VK} {r : Rs Th} (h : Po X w σ Q r) (k : ∀ v H, Q v H → Q' v H) : Po X w σ Q' r := by
  cases r with
  | ok d h' => exact fun w' v e hr x t => k _ _ (h w' v e hr x t)
  | exc c fs h' => exact h
  | bad => exact h
theorem pos_mono {Q Q' : List V → Hp → Prop} {r : Rs (List Th)} (h : PoL X w σ Q r) (k : ∀ v H, Q v H → Q' v H) : PoL X w σ Q' r := by
  cases r with
  | ok d h' => exact fun w' v e hr x t => k _ _ (h w' v e hr x t)
  | exc c fs h' => exact h
  | bad => exact h
theorem pob_mono {Q Q' : Bool → Hp → Prop} {r : Rs Bool} (h : Pob X w σ Q r) (k : ∀ v H, Q v H → Q' v H) : Pob X w σ Q' r := by
  cases r with
  | ok d h' => exact fun w' e hr x => k _ _ (h w' e hr x)
  | exc c fs h' => exact h
  | bad => exact h
/-- from a later world on -/
theorem po_ext {Q : VK} {r : Rs Th} (x : Ext 0 w w1) (h : Po X w σ Q r) : Po X w1 σ Q r := by
  cases r with
  | ok d h' => exact fun w' v e hr y t => h w' v e hr (x.trans y) (rt_old t fun a z => x.none_of z)
  | exc c fs h' => exact fun w' cls d e hr y t => h w' cls d e hr (x.trans y) t
  | bad => exact h
theorem pos_ext {Q : List V → Hp → Prop} {r : Rs (List Th)} (x : Ext 0 w w1) (h : PoL X w σ Q r) : PoL X w1 σ Q r := by
  cases r with
  | ok d h' => exact fun w' v e hr y t => h w' v e hr (x.trans y) t
  | exc c fs h' => exact fun w' cls d e hr y t => h w' cls d e hr (x.trans y) t
  | bad => exact h
theorem pob_ext {Q : Bool → Hp → Prop} {r : Rs Bool} (x : Ext 0 w w1) (h : Pob X w σ Q r) : Pob X w1 σ Q r := by
  cases r with
  | ok d h' => exact fun w' e hr y => h w' e hr (x.trans y)
  | exc c fs h' => exact fun w' cls d e hr y t => h w' cls d e hr (x.trans y) t
  | bad => exact h
/-- what a first part leaves for the rest: the world, the thing -/
theorem po_bind {Q : VK} {r : Rs Th} {k : Th → Hs → Rs Th} (h : Po X w σ Q (r.bind k)) :
    Po X w σ (fun v H1 => ∃ w1 d, w1.H = H1 ∧ HR X.C w1 ∧ Ext 0 w w1 ∧ RT X.C w1 w.H d v ∧ Po X w σ Q (k d w1.h)) r := by
  cases r with
  | ok d h' =>
    intro w1 v e hr x t
    refine ⟨w1, d, rfl, hr, x, t, ?_⟩
    rw [e]
    exact h
  | exc c fs h' => exact h
  | bad => exact h
theorem po_bindA {Q : VK} {r : Rs (List Th)} {k : List Th → Hs → Rs Th} (h : Po X w σ Q (r.bind k)) :
    PoL X w σ (fun vs H1 => ∃ w1 ds, w1.H = H1 ∧ HR X.C w1 ∧ Ext 0 w w1 ∧ RTs X.C w1 ds vs ∧ Po X w σ Q (k ds w1.h)) r := by
  cases r with
  | ok d h' =>
    intro w1 v e hr x t
    refine ⟨w1, d, rfl, hr, x, t, ?_⟩
    rw [e]
    exact h
  | exc c fs h' => exact h
  | bad => exact h
theorem po_bindB {Q : VK} {r : Rs Bool} {k : Bool → Hs → Rs Th} (h : Po X w σ Q (r.bind k)) :
    Pob X w σ (fun b H1 => ∃ w1, w1.H = H1 ∧ HR X.C w1 ∧ Ext 0 w w1 ∧ Po X w σ Q (k b w1.h)) r := by
  cases r with
  | ok d h' =>
    intro w1 e hr x
    refine ⟨w1, rfl, hr, x, ?_⟩
    rw [e]
    exact h
  | exc c fs h' => exact h
  | bad => exact h
theorem pos_bind {Q : List V → Hp → Prop} {r : Rs Th} {k : Th → Hs → Rs (List Th)} (h : PoL X w σ Q (r.bind k)) :
    Po X w σ (fun v H1 => ∃ w1 d, w1.H = H1 ∧ HR X.C w1 ∧ Ext 0 w w1 ∧ RT X.C w1 w.H d v ∧ PoL X w σ Q (k d w1.h)) r := by
  cases r with
  | ok d h' =>
    intro w1 v e hr x t
    refine ⟨w1, d, rfl, hr, x, t, ?_⟩
    rw [e]
    exact h
  | exc c fs h' => exact h
  | bad => exact h
theorem pos_bindA {Q : List V → Hp → Prop} {r : Rs (List Th)} {k : List Th → Hs → Rs (List Th)} (h : PoL X w σ Q (r.bind k)) :
    PoL X w σ (fun v H1 => ∃ w1 d, w1.H = H1 ∧ HR X.C w1 ∧ Ext 0 w w1 ∧ RTs X.C w1 d v ∧ PoL X w σ Q (k d w1.h)) r := by
  cases r with
  | ok d h' =>
    intro w1 v e hr x t
    refine ⟨w1, d, rfl, hr, x, t, ?_⟩
    rw [e]
    exact h
  | exc c fs h' => exact h
  | bad => exact h
theorem pob_bind {Q : Bool → Hp → Prop} {r : Rs Th} {k : Th → Hs → Rs Bool} (h : Pob X w σ Q (r.bind k)) :
    Po X w σ (fun v H1 => ∃ w1 d, w1.H = H1 ∧ HR X.C w1 ∧ Ext 0 w w1 ∧ RT X.C w1 w.H d v ∧ Pob X w σ Q (k d w1.h)) r := by
  cases r with
  | ok d h' =>
    intro w1 v e hr x t
    refine ⟨w1, d, rfl, hr, x, t, ?_⟩
    rw [e]
    exact h
  | exc c fs h' => exact h
  | bad => exact h
theorem pob_bindB {Q : Bool → Hp → Prop} {r : Rs Bool} {k : Bool → Hs → Rs Bool} (h : Pob X w σ Q (r.bind k)) :
    Pob X w σ (fun b H1 => ∃ w1, w1.H = H1 ∧ HR X.C w1 ∧ Ext 0 w w1 ∧ Pob X w σ Q (k b w1.h)) r := by
  cases r with
  | ok d h' =>
    intro w1 e hr x
    refine ⟨w1, rfl, hr, x, ?_⟩
    rw [e]
    exact h
  | exc c fs h' => exact h
  | bad => exact h

/-! ### a thing made plain: a new object is shared, a changing one changes no more -/
def plain : Th → Hs → Option (Pd × Hs)
  | .p x, h => some (x, h)
  | .tmp x, h => some (x, h)
  | .ref l, h => match h[l]? with
    | some (.own x) => some (x, h.set l (.frz x))
    | some (.frz x) => some (x, h)
    | _ => none
  | .exc _ _, _ => none
/-- what a thing shows -/
def view : Th → Hs → Option Pd
  | .p x, _ => some x
  | .tmp x, _ => some x
  | .ref l, h => match h[l]? with
    | some (.own x) => some x
    | some (.frz x) => some x
    | _ => none
  | .exc _ _, _ => none

theorem alive_frz {h : Hs} {l m : Nat} {x : Pd} (e : alive (h.set l (.frz x)) m) : alive h m ∧ m ≠ l := by
  obtain ⟨o, e⟩ := e
  by_cases hm : l = m
  · subst hm
    by_cases hl : l < h.length
    · rw [List.getElem?_set_self hl] at e
      cases e
    · rw [List.getElem?_eq_none (by simpa using hl)] at e
      cases e
  · rw [List.getElem?_set_ne hm] at e
    exact ⟨⟨o, e⟩, fun q => hm q.symm⟩
/-- the changing object l is shared from now on -/
def Wd.frz (w : Wd) (l : Nat) (x : Pd) (a : Addr) : Wd := { w with h := w.h.set l (.frz x), g := ⟨fun b => w.F b ∨ b = a, w.H⟩ }
theorem ext_frz {l : Nat} {a : Addr} {x : Pd} (e : w.h[l]? = some (.own x)) (m : w.ms[l]? = some a) : Ext 0 w (w.frz l x a) where
  fr := fun _ _ e _ => e
  tr := fun _ e => e
  ff := fun _ e => .inl e
  fn := fun b q => q.elim .inl fun z => .inr (.inr ⟨l, ⟨_, e⟩, by rw [z]; exact m⟩)
  lv := fun _ _ q => (alive_frz q).1
  mm := fun _ _ => rfl
  nw := fun l a hl al e => absurd hl (Nat.not_lt_zero _)
  ln := by show (w.h.set l _).length = w.h.length; rw [List.length_set]
  ex := rfl
theorem hr_frz {C : Ct} (hr : HR C w) {l : Nat} {a : Addr} {x : Pd} (e : w.h[l]? = some (.own x)) (m : w.ms[l]? = some a) : HR C (w.frz l x a) where
  len := by show w.ms.length = (w.h.set l _).length; rw [List.length_set]; exact hr.len
  obj := fun k o b q mb => by
    have q : (w.h.set l (.frz x))[k]? = some o := q
    by_cases hk : l = k
    · subst hk
      rw [List.getElem?_set_self (List.getElem?_eq_some_iff.mp e).1] at q
      cases q
      have mb : w.ms[l]? = some b := mb
      rw [m] at mb
      cases mb
      exact ⟨ob_ext hr (ext_frz e m) (fun _ z => z) (hr.obj l _ _ e m), .inr rfl⟩
    · rw [List.getElem?_set_ne hk] at q
      exact ro_ext hr (ext_frz e m) (fun _ z => z) (hr.obj k o b q mb)
  nf := fun b ⟨k, al, mb⟩ f => by
    obtain ⟨al', nk⟩ := alive_frz al
    rcases f with f | f
    · exact hr.nf b ⟨k, al', mb⟩ f
    · exact nk (hr.inj k l a al' ⟨_, e⟩ (by rw [← f]; exact mb) m)
  inj := fun k k' b a1 a2 m1 m2 => hr.inj k k' b (alive_frz a1).1 (alive_frz a2).1 m1 m2
  fh := fun b f => by
    rcases f with f | f
    · exact hr.fh b f
    · have z : w.H a ≠ none := live_there hr ⟨l, ⟨_, e⟩, m⟩
      rw [f]
      exact z
/-- plain: the world behind -/
theorem plain_ok {C : Ct} {n : Nat} {w0 : Wd} (hr : HR C w) (x : Ext n w0 w) {d : Th} {v : V} {y : Pd} {h' : Hs} (t : RT C w w0.H d v) (e : plain d w.h = some (y, h')) : ∃ w', w'.h = h' ∧ w'.H = w.H ∧ HR C w' ∧ Ext n w0 w' ∧ RP C w' y v := by
  cases d with
  | p z =>
    cases e
    exact ⟨w, rfl, rfl, hr, x, t⟩
  | tmp z =>
    cases e
    obtain ⟨a, rfl, s, f, n, z⟩ := t
    have ne : w.H a ≠ none := by
      obtain ⟨u, q, _⟩ := ob_chg s
      show w.g.H a ≠ none
      rw [q]
      exact fun z => nomatch z
    exact ⟨w.shr a, rfl, rfl, hr_shr hr ne n, ext_shrT x z, rp_of_ob (ob_shr s) (.inr rfl)⟩
  | ref l =>
    have e : (match w.h[l]? with
      | some (.own x) => some (x, w.h.set l (.frz x))
      | some (.frz x) => some (x, w.h)
      | _ => none) = some (y, h') := e
    obtain ⟨a, m, rfl⟩ := t
    split at e
    · rename_i z q
      cases e
      have E := ext_frz q m
      exact ⟨w.frz l y a, rfl, rfl, hr_frz hr q m, x.trans E.up, rp_of_ob (ob_ext hr E (fun _ z => z) (hr.obj l _ a q m)) (.inr rfl)⟩
    · rename_i z q
      cases e
      obtain ⟨o, f⟩ := hr.obj l _ a q m
      exact ⟨w, rfl, rfl, hr, x, rp_of_ob o f⟩
    · cases e
  | exc c fs => cases e
theorem view_ok {C : Ct} (hr : HR C w) {H0 : Hp} {d : Th} {v : V} {y : Pd} (t : RT C w H0 d v) (e : view d w.h = some y) : RV C w y v := by
  cases d with
  | p z =>
    obtain rfl : z = y := Option.some.inj e
    exact rp_rv t
  | tmp z =>
    cases e
    obtain ⟨a, e1, s, _⟩ := t
    rw [e1]
    exact rv_of_ob s
  | ref l =>
    have e : (match w.h[l]? with
      | some (.own x) => some x
      | some (.frz x) => some x
      | _ => none) = some y := e
    obtain ⟨a, m, e1⟩ := t
    rw [e1]
    split at e
    · rename_i z q
      cases e
      exact rv_of_ob (hr.obj l _ a q m)
    · rename_i z q
      cases e
      exact rv_of_ob (hr.obj l _ a q m).1
    · cases e
  | exc c fs => cases e
end
end Pv

/-! ## text Pv3 -/
set_option Elab.async false
set_option linter.all false
set_option maxRecDepth 100000
set_option autoImplicit false
/-! Pv3: the operators on plain data. -/
namespace Pv
open PySem PySem.Spec PyProof.Rows L2

section
variable {C : Ct} {w w1 : Wd}
/-! ### what is laid anew -/
theorem rps_al (hr : HR C w) {p : Addr} {o : HO} (hp : w.H p = none) {xs : List Pd} {vs : List V} (h : RPs C w xs vs) : RPs C (w.al p o) xs vs := rps_ext hr (ext_al (n := 0) hp) xs vs h
theorem new_tup (hr : HR C w) {p : Addr} (hp : w.H p = none) {xs : List Pd} {vs : List V} (h : RPs C w xs vs) : RP C (w.al p (.tup vs)) (.tup xs) (.ref p) := by
  unfold RP RPg
  exact ⟨p, vs, rfl, .of upd_same, rps_al hr hp h⟩
theorem new_lst (hr : HR C w) {p : Addr} (hp : w.H p = none) {xs : List Pd} {vs : List V} (h : RPs C w xs vs) : RT C (w.al p (.lst vs)) w.H (.tmp (.lst xs)) (.ref p) := by
  refine ⟨p, rfl, ⟨vs, upd_same, rps_al hr hp h⟩, fun f => hr.fh p f hp, fun q => ?_, hp⟩
  have q : w.live p := q
  exact live_there hr q hp
theorem rps_append : ∀ {xs ys : List Pd} {vs us : List V}, RPs C w xs vs → RPs C w ys us → RPs C w (xs ++ ys) (vs ++ us)
  | [], ys, vs, us, h, g => by
    unfold RPgs at h
    rw [h]
    exact g
  | x :: xs, ys, vs, us, h, g => by
    unfold RPgs at h
    obtain ⟨v, r, e, h1, h2⟩ := h
    rw [e]
    show RPs C w (x :: (xs ++ ys)) (v :: (r ++ us))
    unfold RPgs
    exact ⟨v, r ++ us, rfl, h1, rps_append h2 g⟩
theorem rps_get : ∀ {xs : List Pd} {vs : List V} {i : Nat} {x : Pd}, RPs C w xs vs → xs[i]? = some x → ∃ v, vs[i]? = some v ∧ RP C w x v
  | [], vs, i, x, h, e => by simp at e
  | y :: xs, vs, i, x, h, e => by
    unfold RPgs at h
    obtain ⟨v, r, rfl, h1, h2⟩ := h
    cases i with
    | zero =>
      simp at e
      subst e
      exact ⟨v, rfl, h1⟩
    | succ i =>
      simp only [List.getElem?_cons_succ] at e
      obtain ⟨u, e1, e2⟩ := rps_get h2 e
      exact ⟨u, by simpa using e1, e2⟩
theorem rps_get' : ∀ {xs : List Pd} {vs : List V} {i : Nat} {v : V}, RPs C w xs vs → vs[i]? = some v → ∃ x, xs[i]? = some x ∧ RP C w x v
  | [], vs, i, v, h, e => by
    unfold RPgs at h
    rw [h] at e
    simp at e
  | y :: xs, vs, i, v, h, e => by
    unfold RPgs at h
    obtain ⟨u, r, rfl, h1, h2⟩ := h
    cases i with
    | zero =>
      simp at e
      subst e
      exact ⟨y, rfl, h1⟩
    | succ i =>
      simp only [List.getElem?_cons_succ] at e
      obtain ⟨x, e1, e2⟩ := rps_get' h2 e
      exact ⟨x, by simpa using e1, e2⟩
theorem rps_drop : ∀ {xs : List Pd} {vs : List V} (n : Nat), RPs C w xs vs → RPs C w (xs.drop n) (vs.drop n)
  | xs, vs, 0, h => h
  | [], vs, n + 1, h => by
    unfold RPgs at h
    rw [h]
    simp only [List.drop_nil]
    unfold RPgs
    rfl
  | x :: xs, vs, n + 1, h => by
    unfold RPgs at h
    obtain ⟨u, r, rfl, h1, h2⟩ := h
    exact rps_drop n h2
theorem rps_take : ∀ {xs : List Pd} {vs : List V} (n : Nat), RPs C w xs vs → RPs C w (xs.take n) (vs.take n)
  | xs, vs, 0, h => by
    simp only [List.take_zero]
    unfold RPgs
    rfl
  | [], vs, n + 1, h => by
    unfold RPgs at h
    rw [h]
    simp only [List.take_nil]
    unfold RPgs
    rfl
  | x :: xs, vs, n + 1, h => by
    unfold RPgs at h
    obtain ⟨u, r, rfl, h1, h2⟩ := h
    show RPs C w (x :: xs.take n) (u :: r.take n)
    unfold RPgs
    exact ⟨u, r.take n, rfl, h1, rps_take n h2⟩
theorem rps_nil : RPs C w [] [] := by unfold RPgs; rfl
theorem rps_cons {x : Pd} {xs : List Pd} {v : V} {vs : List V} (h : RP C w x v) (t : RPs C w xs vs) : RPs C w (x :: xs) (v :: vs) := by
  unfold RPgs
  exact ⟨v, vs, rfl, h, t⟩
theorem rps_rev : ∀ {xs : List Pd} {vs : List V}, RPs C w xs vs → RPs C w xs.reverse vs.reverse
  | [], vs, h => by
    unfold RPgs at h
    rw [h]
    exact rps_nil
  | x :: xs, vs, h => by
    unfold RPgs at h
    obtain ⟨u, r, rfl, h1, h2⟩ := h
    rw [List.reverse_cons, List.reverse_cons]
    exact rps_append (rps_rev h2) (rps_cons h1 rps_nil)
theorem rps_set {x : Pd} {v : V} (hx : RP C w x v) : ∀ {xs : List Pd} {vs : List V} (i : Nat), RPs C w xs vs → RPs C w (xs.set i x) (vs.set i v)
  | [], vs, i, h => by
    unfold RPgs at h
    rw [h]
    exact rps_nil
  | y :: xs, vs, i, h => by
    unfold RPgs at h
    obtain ⟨u, r, rfl, h1, h2⟩ := h
    cases i with
    | zero => exact rps_cons hx h2
    | succ i => exact rps_cons h1 (rps_set hx i h2)
end

/-! ### two-place operators -/
/-- an operator by what it does to plain data -/
def rB (C : Ct) (f : Pd → Pd → Option Th) : R2 := fun v u H Q => ∃ w x y d, w.H = H ∧ HR C w ∧ RV C w x v ∧ RV C w y u ∧ f x y = some d ∧
  ∀ w' z, w'.h = w.h → HR C w' → Ext 0 w w' → RT C w' w.H d z → Q z w'.H

section
variable {X : Cx} {C : Ct}
theorem rv_int {w : Wd} {i : Int} {v : V} (h : RV C w (.int i) v) : v = .int i := by
  unfold RV RP RPg at h
  exact h
theorem rv_bl {w : Wd} {b : Bool} {v : V} (h : RV C w (.bl b) v) : v = .bl b := by
  unfold RV RP RPg at h
  exact h
theorem rv_non {w : Wd} {v : V} (h : RV C w .non v) : v = .non := by
  unfold RV RP RPg at h
  exact h
theorem rv_str {w : Wd} {x : Str} {v : V} (h : RV C w (.str x) v) : v = .str x ∧ PyData.strOk x = true ∧ x.length ≤ sizeLine := by
  unfold RV RP RPg at h
  exact h
theorem rv_tup {w : Wd} {xs : List Pd} {v : V} (h : RV C w (.tup xs) v) : ∃ a vs, v = .ref a ∧ SqT C.K w.H a vs ∧ RPs C w xs vs := by
  unfold RV RP RPg at h
  exact h
theorem rv_lst {w : Wd} {xs : List Pd} {v : V} (h : RV C w (.lst xs) v) : ∃ a vs, v = .ref a ∧ SqL C.K w.H a vs ∧ RPs C w xs vs := h
theorem rp_int {w : Wd} {i : Int} : RP C w (.int i) (.int i) := by
  unfold RP RPg
  rfl
theorem rt_p {w : Wd} {H0 : Hp} {x : Pd} {v : V} (h : RP C w x v) : RT C w H0 (.p x) v := h
theorem rp_bl {w : Wd} {i : Bool} : RP C w (.bl i) (.bl i) := by
  unfold RP RPg
  rfl
theorem rp_non {w : Wd} : RP C w .non .non := by
  unfold RP RPg
  rfl
theorem rp_str {w : Wd} {x : Str} (h : PyData.strOk x = true) (hl : x.length ≤ sizeLine) : RP C w (.str x) (.str x) := by
  unfold RP RPg
  exact ⟨rfl, h, hl⟩

/-- ints in, under a condition, an int out -/
def intOp (c : Int → Int → Prop) [∀ i j, Decidable (c i j)] (g : Int → Int → Int) : Pd → Pd → Option Th
  | .int i, .int j => if c i j then some (.p (.int (g i j))) else none
  | _, _ => none
theorem intOp_some {c : Int → Int → Prop} [∀ i j, Decidable (c i j)] {g : Int → Int → Int} {x y : Pd} {d : Th} (h : intOp c g x y = some d) : ∃ i j, x = .int i ∧ y = .int j ∧ c i j ∧ d = .p (.int (g i j)) := by
  unfold intOp at h
  split at h
  · rename_i i j
    split at h
    · rename_i hc
      exact ⟨i, j, rfl, rfl, hc, (Option.some.inj h).symm⟩
    · cases h
  · cases h
theorem ok_int {f : Value → Value → Sem Value} {c : Int → Int → Prop} [∀ i j, Decidable (c i j)] {g : Int → Int → Int} {c' : Int → Int → Prop} (h : OpR X f (rI c' fun i j => .int (g i j))) (k : ∀ i j, c i j → c' i j) : OpR X f (rB C (intOp c g)) := by
  intro pins s σ H x y v u Q I rx ry hq
  obtain ⟨w, a, b, d, rfl, hr, ra, rb, e, q⟩ := hq
  obtain ⟨i, j, rfl, rfl, hc, rfl⟩ := intOp_some e
  rw [rv_int ra] at rx
  rw [rv_int rb] at ry
  exact h pins s σ w.H _ _ v u Q I rx ry ⟨i, j, rfl, rfl, k i j hc, q w _ rfl hr Ext.refl (rt_p rp_int)⟩

/-! ### + -/
def addP : Pd → Pd → Option Th
  | .int i, .int j => some (.p (.int (i + j)))
  | .str x, .str y => if x.length + y.length ≤ 16777216 then some (.p (.str (x ++ y))) else none
  | .tup xs, .tup ys => if xs.length + ys.length ≤ 16777216 then some (.p (.tup (xs ++ ys))) else none
  | .lst xs, .lst ys => if xs.length + ys.length ≤ 16777216 then some (.tmp (.lst (xs ++ ys))) else none
  | _, _ => none
theorem strOk_app {x y : Str} (hx : PyData.strOk x = true) (hy : PyData.strOk y = true) : PyData.strOk (x ++ y) = true := by
  have e : (x ++ y).cps = x.cps ++ y.cps := rfl
  unfold PyData.strOk at *
  rw [e, Array.all_append, hx, hy]
  rfl
theorem app_len (x y : Str) : (x ++ y).length = x.length + y.length := by
  have e : (x ++ y).cps = x.cps ++ y.cps := rfl
  show (x ++ y).cps.size = _
  rw [e, Array.size_append]
  rfl
theorem op_catL : OpR X (binaryOp .Add) (fun x y H Q => ∃ a b xs ys, x = .ref a ∧ y = .ref b ∧ SqL X.K H a xs ∧ SqL X.K H b ys ∧ xs.length + ys.length ≤ sizeLine ∧ ∀ p, H p = none → Q (.ref p) (upd H p (.lst (xs ++ ys)))) := by
  intro pins s σ H x y v u Q I rx ry h
  obtain ⟨a, b, xs, ys, rfl, rfl, ha, hb, hz, q⟩ := h
  cases rx
  cases ry
  obtain ⟨its, r1, p1, z1⟩ := I.list ha
  obtain ⟨its2, r2, p2, z2⟩ := I.list hb
  obtain ⟨⟨cls, dd, data, sl⟩, ho, hc, n, hd⟩ := p1.isList
  obtain ⟨⟨cls2, dd2, data2, sl2⟩, ho2, hc2, n2, hd2⟩ := p2.isList
  simp only at hc hd hc2 hd2
  subst hc hd hc2 hd2
  have l1 := r1.length
  have l2 := r2.length
  refine concat_meets ⟨_, ho, rfl⟩ ⟨_, ho2, rfl⟩ noFill_list_add seq_list_add PySem.F.slot_list_add PySem.F.entry_list_add (PySem.F.args_list_add_2 _ _) (list_addW a b its.toArray its2.toArray n n2 dd dd2 sl sl2 (by simp only [List.size_toArray]; omega)) ⟨ho, ho2, ?_⟩
  have e : its.toArray ++ its2.toArray = (its ++ its2).toArray := by simp
  rw [e]
  exact ⟨.ref _, _, I.lnew (t' := s.toks) (r1.append r2) (by rw [List.length_append]; omega), rfl, q _ I.fresh⟩
theorem ok_add (hK : X.K = C.K) : OpR X (binaryOp .Add) (rB C addP) := by
  intro pins s σ H x y v u Q I rx ry hq
  obtain ⟨w, a, b, d, rfl, hr, ra, rb, e, q⟩ := hq
  have hS := sizeLine_eq
  unfold addP at e
  split at e
  · cases e
    rw [rv_int ra] at rx
    rw [rv_int rb] at ry
    exact op_add pins s σ w.H _ _ v u Q I rx ry ⟨_, _, rfl, rfl, q w _ rfl hr Ext.refl (rt_p rp_int)⟩
  · rename_i z1 z2
    split at e
    · rename_i hz
      cases e
      obtain ⟨e1, s1, l1⟩ := rv_str ra
      obtain ⟨e2, s2, l2⟩ := rv_str rb
      rw [e1] at rx
      rw [e2] at ry
      exact op_add_str pins s σ w.H _ _ v u Q I rx ry ⟨_, _, rfl, rfl, by omega, q w _ rfl hr Ext.refl (rt_p <| rp_str (strOk_app s1 s2) (by rw [app_len]; omega))⟩
    · cases e
  · rename_i xs ys
    split at e
    · rename_i hz
      cases e
      obtain ⟨a1, vs, e1, s1, r1⟩ := rv_tup ra
      obtain ⟨b1, us, e2, s2, r2⟩ := rv_tup rb
      have m1 := rps_len _ _ r1
      have m2 := rps_len _ _ r2
      refine op_catA pins s σ w.H x y v u Q I rx ry ⟨a1, b1, vs, us, e1, e2, by rw [hK]; exact s1, by rw [hK]; exact s2, by omega, fun z => ?_, fun z1 z2 => ?_, fun _ _ p hp => ?_⟩
      · refine q w _ rfl hr Ext.refl ?_
        rw [z] at r1
        have : xs = [] := List.eq_nil_of_length_eq_zero (by rw [m1, z]; rfl)
        rw [this, List.nil_append]
        show RP C w (.tup ys) _
        unfold RP RPg
        exact ⟨b1, us, rfl, s2, r2⟩
      · refine q w _ rfl hr Ext.refl ?_
        have : ys = [] := List.eq_nil_of_length_eq_zero (by rw [m2, z2]; rfl)
        rw [this, List.append_nil]
        show RP C w (.tup xs) _
        unfold RP RPg
        exact ⟨a1, vs, rfl, s1, r1⟩
      · exact q (w.al p (.tup (vs ++ us))) _ rfl (hr_al hr hp) (ext_al hp) (new_tup hr hp (rps_append r1 r2))
    · cases e
  · rename_i xs ys
    split at e
    · rename_i hz
      cases e
      obtain ⟨a1, vs, e1, s1, r1⟩ := rv_lst ra
      obtain ⟨b1, us, e2, s2, r2⟩ := rv_lst rb
      have m1 := rps_len _ _ r1
      have m2 := rps_len _ _ r2
      exact op_catL pins s σ w.H x y v u Q I rx ry ⟨a1, b1, vs, us, e1, e2, by rw [hK]; exact s1, by rw [hK]; exact s2, by omega, fun p hp =>
        q (w.al p (.lst (vs ++ us))) _ rfl (hr_al hr hp) (ext_al hp) (new_lst hr hp (rps_append r1 r2))⟩
    · cases e
  · cases e

/-! ### the others -/
def subP : Pd → Pd → Option Th := intOp (fun _ _ => True) fun i j => i - j
def mulC (i j : Int) : Prop := (-18446744073709551616 < i ∧ i < 18446744073709551616) ∨ (-18446744073709551616 < j ∧ j < 18446744073709551616) ∨ i.natAbs.log2 + j.natAbs.log2 < 1000000
instance (i j : Int) : Decidable (mulC i j) := by unfold mulC; infer_instance
def fdivP : Pd → Pd → Option Th := intOp (fun _ j => 0 < j ∧ j.natAbs.log2 < 9000) fun i j => i / j
def modP : Pd → Pd → Option Th := intOp (fun _ j => 0 < j) fun i j => i % j
def powP : Pd → Pd → Option Th := intOp (fun i j => 0 ≤ j ∧ j ≤ 1000000 ∧ i.natAbs < 18446744073709551616) fun i j => i ^ j.toNat
def shlP : Pd → Pd → Option Th := intOp (fun i j => 0 ≤ j ∧ j ≤ 1000000 ∧ i.natAbs < 18446744073709551616) fun i j => i * 2 ^ j.toNat
def shrP : Pd → Pd → Option Th := intOp (fun _ j => 0 ≤ j) fun i j => i / 2 ^ j.toNat
def bandP : Pd → Pd → Option Th := intOp (fun _ _ => True) Builtin.bitAnd
def borP : Pd → Pd → Option Th := intOp (fun _ _ => True) Builtin.bitOr
theorem ok_int0 {f : Value → Value → Sem Value} {g : Int → Int → Int} (h : OpR X f (rI0 fun i j => .int (g i j))) : OpR X f (rB C (intOp (fun _ _ => True) g)) := by
  intro pins s σ H x y v u Q I rx ry hq
  obtain ⟨w, a, b, d, rfl, hr, ra, rb, e, q⟩ := hq
  obtain ⟨i, j, rfl, rfl, hc, rfl⟩ := intOp_some e
  rw [rv_int ra] at rx
  rw [rv_int rb] at ry
  exact h pins s σ w.H _ _ v u Q I rx ry ⟨i, j, rfl, rfl, q w _ rfl hr Ext.refl (rt_p rp_int)⟩
theorem ok_sub : OpR X (binaryOp .Sub) (rB C subP) := ok_int0 op_sub
theorem op_mulG : OpR X (binaryOp .Mult) (rI mulC fun i j => .int (i * j)) := opI fun i j _ _ _ _ _ hc q => mul_int q (by
  rcases hc with h | h | h
  · exact CMul.ok (.inl (by simpa using h))
  · exact CMul.ok (.inr (by simpa using h))
  · exact CMulW.ok h)
theorem ok_fdiv : OpR X (binaryOp .FloorDiv) (rB C fdivP) := ok_int op_fdivW fun _ _ h => h
theorem ok_mod : OpR X (binaryOp .Mod) (rB C modP) := ok_int op_mod fun _ _ h => h
theorem ok_pow : OpR X (binaryOp .Pow) (rB C powP) := ok_int op_pow fun _ _ h => by
  obtain ⟨h1, h2, h3⟩ := h
  exact ⟨h1, h2, h3⟩
theorem ok_shl : OpR X (binaryOp .LShift) (rB C shlP) := ok_int op_shl fun _ _ h => by
  obtain ⟨h1, h2, h3⟩ := h
  exact ⟨h1, h2, h3⟩
theorem ok_shr : OpR X (binaryOp .RShift) (rB C shrP) := ok_int op_shr fun _ _ h => h
theorem ok_band : OpR X (binaryOp .BitAnd) (rB C bandP) := ok_int0 op_and
theorem ok_bor : OpR X (binaryOp .BitOr) (rB C borP) := ok_int0 op_or
end
end Pv

/-! ## text Pv4 -/
set_option Elab.async false
set_option linter.all false
set_option maxRecDepth 100000
set_option autoImplicit false
/-! Pv4: comparisons, subscripts, slices of plain data. -/
namespace Pv
open PySem PySem.Spec PyProof.Rows L2

/-! ### plain data as the library's data -/
mutual
def toD : Pd → PyData
  | .non => .none
  | .bl b => .bool b
  | .int i => .int i
  | .str x => .str x
  | .tup xs => .tuple (toDs xs)
  | .lst xs => .list (toDs xs)
  | .dct _ _ => .none
  | .ty _ => .none
  | .cls _ => .none
def toDs : List Pd → List PyData
  | [] => []
  | x :: xs => toD x :: toDs xs
end
-- data that == tells: no dict, no class within, at most n deep
mutual
def flat : Nat → Pd → Bool
  | _, .non => true
  | _, .bl _ => true
  | _, .int _ => true
  | _, .str _ => true
  | 0, .tup _ => false
  | n + 1, .tup xs => flats n xs
  | 0, .lst _ => false
  | n + 1, .lst xs => flats n xs
  | _, .dct _ _ => false
  | _, .ty _ => false
  | _, .cls _ => false
def flats : Nat → List Pd → Bool
  | _, [] => true
  | n, x :: xs => flat n x && flats n xs
end
mutual
def eqP : Pd → Pd → Bool
  | .non, .non => true
  | .bl a, .bl b => a == b
  | .bl a, .int j => (if a then 1 else 0) == j
  | .int i, .bl b => i == (if b then 1 else 0)
  | .int i, .int j => i == j
  | .str x, .str y => x == y
  | .tup xs, .tup ys => eqPs xs ys
  | .lst xs, .lst ys => eqPs xs ys
  | _, _ => false
def eqPs : List Pd → List Pd → Bool
  | [], [] => true
  | x :: xs, y :: ys => eqP x y && eqPs xs ys
  | _, _ => false
end
mutual
theorem eqP_eqv : ∀ (n m : Nat) (x y : Pd), flat n x = true → flat m y = true → PyData.eqv (toD x) (toD y) = eqP x y
  | n, m, .non, y, hx, hy => by cases y <;> first | rfl | (cases m <;> simp [flat] at hy)
  | n, m, .bl a, y, hx, hy => by cases y <;> first | rfl | (cases m <;> simp [flat] at hy)
  | n, m, .int i, y, hx, hy => by cases y <;> first | rfl | (cases m <;> simp [flat] at hy)
  | n, m, .str s, y, hx, hy => by cases y <;> first | rfl | (cases m <;> simp [flat] at hy)
  | 0, m, .tup xs, y, hx, hy => by simp [flat] at hx
  | 0, m, .lst xs, y, hx, hy => by simp [flat] at hx
  | n + 1, m, .tup xs, .tup ys, hx, hy => by
    cases m with
    | zero => simp [flat] at hy
    | succ m => exact eqPs_eqv n m xs ys (by simpa [flat] using hx) (by simpa [flat] using hy)
  | n + 1, m, .lst xs, .lst ys, hx, hy => by
    cases m with
    | zero => simp [flat] at hy
    | succ m => exact eqPs_eqv n m xs ys (by simpa [flat] using hx) (by simpa [flat] using hy)
  | n + 1, m, .tup xs, .non, hx, hy => rfl
  | n + 1, m, .tup xs, .bl _, hx, hy => rfl
  | n + 1, m, .tup xs, .int _, hx, hy => rfl
  | n + 1, m, .tup xs, .str _, hx, hy => rfl
  | n + 1, m, .tup xs, .lst _, hx, hy => rfl
  | n + 1, m, .lst xs, .non, hx, hy => rfl
  | n + 1, m, .lst xs, .bl _, hx, hy => rfl
  | n + 1, m, .lst xs, .int _, hx, hy => rfl
  | n + 1, m, .lst xs, .str _, hx, hy => rfl
  | n + 1, m, .lst xs, .tup _, hx, hy => rfl
  | n + 1, m, .tup xs, .dct _ _, hx, hy => by cases m <;> simp [flat] at hy
  | n + 1, m, .tup xs, .ty _, hx, hy => by cases m <;> simp [flat] at hy
  | n + 1, m, .tup xs, .cls _, hx, hy => by cases m <;> simp [flat] at hy
  | n + 1, m, .lst xs, .dct _ _, hx, hy => by cases m <;> simp [flat] at hy
  | n + 1, m, .lst xs, .ty _, hx, hy => by cases m <;> simp [flat] at hy
  | n + 1, m, .lst xs, .cls _, hx, hy => by cases m <;> simp [flat] at hy
  | n, m, .dct _ _, y, hx, hy => by cases n <;> simp [flat] at hx
  | n, m, .ty _, y, hx, hy => by cases n <;> simp [flat] at hx
  | n, m, .cls _, y, hx, hy => by cases n <;> simp [flat] at hx
theorem eqPs_eqv : ∀ (n m : Nat) (xs ys : List Pd), flats n xs = true → flats m ys = true → PyData.eqvAll (toDs xs) (toDs ys) = eqPs xs ys
  | n, m, [], [], hx, hy => rfl
  | n, m, [], _ :: _, hx, hy => rfl
  | n, m, _ :: _, [], hx, hy => rfl
  | n, m, x :: xs, y :: ys, hx, hy => by
    have hx' : flat n x = true ∧ flats n xs = true := by simpa [flats] using hx
    have hy' : flat m y = true ∧ flats m ys = true := by simpa [flats] using hy
    show (PyData.eqv (toD x) (toD y) && PyData.eqvAll (toDs xs) (toDs ys)) = (eqP x y && eqPs xs ys)
    rw [eqP_eqv n m x y hx'.1 hy'.1, eqPs_eqv n m xs ys hx'.2 hy'.2]
end
mutual
theorem depth_flat : ∀ (n : Nat) (x : Pd), flat n x = true → PyData.depth (toD x) ≤ n
  | n, .non, h => Nat.zero_le _
  | n, .bl _, h => Nat.zero_le _
  | n, .int _, h => Nat.zero_le _
  | n, .str _, h => Nat.zero_le _
  | 0, .tup xs, h => by simp [flat] at h
  | 0, .lst xs, h => by simp [flat] at h
  | n + 1, .tup xs, h => by
    have := depths_flat n xs (by simpa [flat] using h)
    show PyData.depthAll (toDs xs) + 1 ≤ n + 1
    omega
  | n + 1, .lst xs, h => by
    have := depths_flat n xs (by simpa [flat] using h)
    show PyData.depthAll (toDs xs) + 1 ≤ n + 1
    omega
  | n, .dct _ _, h => by cases n <;> simp [flat] at h
  | n, .ty _, h => by cases n <;> simp [flat] at h
  | n, .cls _, h => by cases n <;> simp [flat] at h
theorem depths_flat : ∀ (n : Nat) (xs : List Pd), flats n xs = true → PyData.depthAll (toDs xs) ≤ n
  | n, [], h => Nat.zero_le _
  | n, x :: xs, h => by
    have h' : flat n x = true ∧ flats n xs = true := by simpa [flats] using h
    have h1 := depth_flat n x h'.1
    have h2 := depths_flat n xs h'.2
    show max (PyData.depth (toD x)) (PyData.depthAll (toDs xs)) ≤ n
    omega
end

section
variable {C : Ct} {w : Wd}
mutual
theorem dp_of : ∀ (n : Nat) (x : Pd) (v : V), flat n x = true → RV C w x v → Dp C.K w.H v (toD x) ∧ (toD x).canLay0 = true
  | n, .non, v, hx, h => by rw [rv_non h]; exact ⟨.non, rfl⟩
  | n, .bl b, v, hx, h => by rw [rv_bl h]; exact ⟨.bl b, rfl⟩
  | n, .int i, v, hx, h => by rw [rv_int h]; exact ⟨.int i, rfl⟩
  | n, .str x, v, hx, h => by
    obtain ⟨e, s, _⟩ := rv_str h
    rw [e]
    exact ⟨.str x, by simpa [toD, PyData.canLay0] using s⟩
  | 0, .tup xs, v, hx, h => by simp [flat] at hx
  | 0, .lst xs, v, hx, h => by simp [flat] at hx
  | n + 1, .tup xs, v, hx, h => by
    obtain ⟨a, vs, e, s, r⟩ := rv_tup h
    obtain ⟨d, c⟩ := dps_of n xs vs (by simpa [flat] using hx) r
    rw [e]
    exact ⟨.tup s d, by simpa [toD, PyData.canLay0] using c⟩
  | n + 1, .lst xs, v, hx, h => by
    obtain ⟨a, vs, e, s, r⟩ := rv_lst h
    obtain ⟨d, c⟩ := dps_of n xs vs (by simpa [flat] using hx) r
    rw [e]
    exact ⟨.lst s d, by simpa [toD, PyData.canLay0] using c⟩
  | n, .dct _ _, v, hx, h => by cases n <;> simp [flat] at hx
  | n, .ty _, v, hx, h => by cases n <;> simp [flat] at hx
  | n, .cls _, v, hx, h => by cases n <;> simp [flat] at hx
theorem dps_of : ∀ (n : Nat) (xs : List Pd) (vs : List V), flats n xs = true → RPs C w xs vs → DpAll C.K w.H vs (toDs xs) ∧ PyData.canLayAll0 (toDs xs) = true
  | n, [], vs, hx, h => by
    unfold RPgs at h
    rw [h]
    exact ⟨.nil, rfl⟩
  | n, x :: xs, vs, hx, h => by
    have hx' : flat n x = true ∧ flats n xs = true := by simpa [flats] using hx
    unfold RPgs at h
    obtain ⟨v, r, e, h1, h2⟩ := h
    obtain ⟨d1, c1⟩ := dp_of n x v hx'.1 (rp_rv h1)
    obtain ⟨d2, c2⟩ := dps_of n xs r hx'.2 h2
    rw [e]
    exact ⟨.cons d1 d2, by simp [toDs, PyData.canLayAll0, c1, c2]⟩
end
theorem shaped_of {x : Pd} {v : V} (hx : flat 60 x = true) (h : RV C w x v) : SeqAt.shaped (toD x) = true := by
  unfold SeqAt.shaped
  rw [(dp_of 60 x v hx h).2, Bool.true_and]
  have := depth_flat 60 x hx
  exact decide_eq_true (by omega)
end

/-! ### comparisons -/
def rC (C : Ct) (f : Pd → Pd → Option Bool) : R2 := fun v u H Q => ∃ w x y b, w.H = H ∧ HR C w ∧ RV C w x v ∧ RV C w y u ∧ f x y = some b ∧ Q (.bl b) H
def isP : Pd → Pd → Option Bool
  | .non, .non => some true
  | .bl _, .non => some false
  | .int _, .non => some false
  | .str _, .non => some false
  | .tup _, .non => some false
  | .lst _, .non => some false
  | .dct _ _, .non => some false
  | .bl a, .bl b => some (a == b)
  | .non, .bl _ => some false
  | .int _, .bl _ => some false
  | .str _, .bl _ => some false
  | .tup _, .bl _ => some false
  | .lst _, .bl _ => some false
  | .dct _ _, .bl _ => some false
  | _, _ => none
def inP : Pd → Pd → Option Bool
  | .str x, .str z => match x.cps.toList with
    | [c] => some (decide (c ∈ z.cps.toList))
    | _ => none
  | x, .tup ys => if (flat 50 x && flats 50 ys) = true then some (ys.any fun y => eqP y x) else none
  | x, .lst ys => if (flat 50 x && flats 50 ys) = true then some (ys.any fun y => eqP y x) else none
  | _, _ => none
def ordP (f : Int → Int → Bool) (g : List Nat → List Nat → Bool) : Pd → Pd → Option Bool
  | .int i, .int j => some (f i j)
  | .str x, .str y => some (g x.cps.toList y.cps.toList)
  | _, _ => none
def cmpP : CmpOp → Pd → Pd → Option Bool
  | .Eq, x, y => if (flat 60 x && flat 60 y) = true then some (eqP x y) else none
  | .NotEq, x, y => if (flat 60 x && flat 60 y) = true then some (!eqP x y) else none
  | .Lt, x, y => ordP (fun i j => decide (i < j)) (fun a b => decide (a < b)) x y
  | .LtE, x, y => ordP (fun i j => decide (i ≤ j)) (fun a b => !decide (b < a)) x y
  | .Gt, x, y => ordP (fun i j => decide (j < i)) (fun a b => decide (b < a)) x y
  | .GtE, x, y => ordP (fun i j => decide (j ≤ i)) (fun a b => !decide (a < b)) x y
  | .Is, x, y => isP x y
  | .IsNot, x, y => (isP x y).map (!·)
  | .In, x, y => inP x y
  | .NotIn, x, y => (inP x y).map (!·)

section
variable {X : Cx} {C : Ct}
theorem ord_some {f : Int → Int → Bool} {g : List Nat → List Nat → Bool} {x y : Pd} {b : Bool} (h : ordP f g x y = some b) : (∃ i j, x = .int i ∧ y = .int j ∧ b = f i j) ∨ ∃ z u, x = .str z ∧ y = .str u ∧ b = g z.cps.toList u.cps.toList := by
  unfold ordP at h
  split at h
  · exact .inl ⟨_, _, rfl, rfl, (Option.some.inj h).symm⟩
  · exact .inr ⟨_, _, rfl, rfl, (Option.some.inj h).symm⟩
  · cases h
theorem ok_ord {f : Value → Value → Sem Value} {g : Int → Int → Bool} {k : List Nat → List Nat → Bool} (h1 : OpR X f (rI0 fun i j => .bl (g i j))) (h2 : OpR X f (fun x y H Q => ∃ i j, x = .str i ∧ y = .str j ∧ Q (.bl (k i.cps.toList j.cps.toList)) H)) : OpR X f (rC C (ordP g k)) := by
  intro pins s σ H x y v u Q I rx ry hq
  obtain ⟨w, a, b, d, rfl, hr, ra, rb, e, q⟩ := hq
  rcases ord_some e with ⟨i, j, rfl, rfl, rfl⟩ | ⟨i, j, rfl, rfl, rfl⟩
  · rw [rv_int ra] at rx
    rw [rv_int rb] at ry
    exact h1 pins s σ w.H _ _ v u Q I rx ry ⟨i, j, rfl, rfl, q⟩
  · rw [(rv_str ra).1] at rx
    rw [(rv_str rb).1] at ry
    exact h2 pins s σ w.H _ _ v u Q I rx ry ⟨i, j, rfl, rfl, q⟩
theorem ok_eq (hK : X.K = C.K) (hu : X.A.units + 64 < cLine) : OpR X (compareOp .Eq) (rC C (cmpP .Eq)) := by
  intro pins s σ H x y v u Q I rx ry hq
  obtain ⟨w, a, b, d, rfl, hr, ra, rb, e, q⟩ := hq
  have e : (if (flat 60 a && flat 60 b) = true then some (eqP a b) else none) = some d := e
  split at e
  · rename_i hf
    cases e
    obtain ⟨fa, fb⟩ := Bool.and_eq_true_iff.mp hf
    refine op_eqD hu pins s σ w.H x y v u Q I rx ry ⟨toD a, toD b, by rw [hK]; exact (dp_of 60 a x fa ra).1, by rw [hK]; exact (dp_of 60 b y fb rb).1, shaped_of fa ra, shaped_of fb rb, ?_⟩
    rw [eqP_eqv 60 60 a b fa fb]
    exact q
  · cases e
theorem ok_ne (hK : X.K = C.K) (hu : X.A.units + 64 < cLine) : OpR X (compareOp .NotEq) (rC C (cmpP .NotEq)) := by
  intro pins s σ H x y v u Q I rx ry hq
  obtain ⟨w, a, b, d, rfl, hr, ra, rb, e, q⟩ := hq
  have e : (if (flat 60 a && flat 60 b) = true then some (!eqP a b) else none) = some d := e
  split at e
  · rename_i hf
    cases e
    obtain ⟨fa, fb⟩ := Bool.and_eq_true_iff.mp hf
    refine op_neD hu pins s σ w.H x y v u Q I rx ry ⟨toD a, toD b, by rw [hK]; exact (dp_of 60 a x fa ra).1, by rw [hK]; exact (dp_of 60 b y fb rb).1, shaped_of fa ra, shaped_of fb rb, ?_⟩
    rw [eqP_eqv 60 60 a b fa fb]
    exact q
  · cases e
theorem rv_ref {w : Wd} {x : Pd} {v : V} (h : RV C w x v) (hx : (∃ xs, x = .tup xs) ∨ (∃ xs, x = .lst xs) ∨ ∃ ks ws, x = .dct ks ws) : ∃ a, v = .ref a := by
  rcases hx with ⟨xs, rfl⟩ | ⟨xs, rfl⟩ | ⟨ks, ws, rfl⟩
  · obtain ⟨a, vs, e, _⟩ := rv_tup h
    exact ⟨a, e⟩
  · obtain ⟨a, vs, e, _⟩ := rv_lst h
    exact ⟨a, e⟩
  · obtain ⟨a, kvs, e, _⟩ := h
    exact ⟨a, e⟩
theorem is_run {w : Wd} {x y : Pd} {b : Bool} {vx vy : V} {v u : Value} (e : isP x y = some b) (ra : RV C w x vx) (rb : RV C w y vy) (rx : RelV vx v) (ry : RelV vy u) : plainIs v u = true ∧ (v == u) = b := by
  have nonv : ∀ {z : V} {t : Value}, RelV z t → z = .non → t = .none := fun r e => by rw [e] at r; exact r
  cases y with
  | non =>
    rw [rv_non rb] at ry
    obtain rfl : u = Value.none := ry
    cases x with
    | non =>
      rw [rv_non ra] at rx
      obtain rfl : v = Value.none := rx
      cases e
      exact ⟨rfl, rfl⟩
    | bl k =>
      rw [rv_bl ra] at rx
      obtain rfl : v = Value.bool k := rx
      cases e
      exact ⟨rfl, rfl⟩
    | int k =>
      rw [rv_int ra] at rx
      obtain ⟨t, rfl⟩ : ∃ t, v = Value.int k t := rx
      cases e
      exact ⟨rfl, rfl⟩
    | str k =>
      rw [(rv_str ra).1] at rx
      obtain ⟨t, rfl⟩ : ∃ t, v = Value.str k t := rx
      cases e
      exact ⟨rfl, rfl⟩
    | tup k =>
      obtain ⟨a, ea⟩ := rv_ref ra (.inl ⟨k, rfl⟩)
      rw [ea] at rx
      obtain rfl : v = Value.ref a := rx
      cases e
      exact ⟨rfl, rfl⟩
    | lst k =>
      obtain ⟨a, ea⟩ := rv_ref ra (.inr (.inl ⟨k, rfl⟩))
      rw [ea] at rx
      obtain rfl : v = Value.ref a := rx
      cases e
      exact ⟨rfl, rfl⟩
    | dct k k2 =>
      obtain ⟨a, ea⟩ := rv_ref ra (.inr (.inr ⟨k, k2, rfl⟩))
      rw [ea] at rx
      obtain rfl : v = Value.ref a := rx
      cases e
      exact ⟨rfl, rfl⟩
    | ty _ => cases e
    | cls _ => cases e
  | bl j =>
    rw [rv_bl rb] at ry
    obtain rfl : u = Value.bool j := ry
    cases x with
    | non =>
      rw [rv_non ra] at rx
      obtain rfl : v = Value.none := rx
      cases e
      exact ⟨rfl, rfl⟩
    | bl k =>
      rw [rv_bl ra] at rx
      obtain rfl : v = Value.bool k := rx
      cases e
      refine ⟨rfl, ?_⟩
      cases k <;> cases j <;> rfl
    | int k =>
      rw [rv_int ra] at rx
      obtain ⟨t, rfl⟩ : ∃ t, v = Value.int k t := rx
      cases e
      exact ⟨rfl, rfl⟩
    | str k =>
      rw [(rv_str ra).1] at rx
      obtain ⟨t, rfl⟩ : ∃ t, v = Value.str k t := rx
      cases e
      exact ⟨rfl, rfl⟩
    | tup k =>
      obtain ⟨a, ea⟩ := rv_ref ra (.inl ⟨k, rfl⟩)
      rw [ea] at rx
      obtain rfl : v = Value.ref a := rx
      cases e
      exact ⟨rfl, rfl⟩
    | lst k =>
      obtain ⟨a, ea⟩ := rv_ref ra (.inr (.inl ⟨k, rfl⟩))
      rw [ea] at rx
      obtain rfl : v = Value.ref a := rx
      cases e
      exact ⟨rfl, rfl⟩
    | dct k k2 =>
      obtain ⟨a, ea⟩ := rv_ref ra (.inr (.inr ⟨k, k2, rfl⟩))
      rw [ea] at rx
      obtain rfl : v = Value.ref a := rx
      cases e
      exact ⟨rfl, rfl⟩
    | ty _ => cases e
    | cls _ => cases e
  | _ => cases x <;> cases e
theorem ok_is : OpR X (compareOp .Is) (rC C isP) := by
  intro pins s σ H x y v u Q I rx ry hq
  obtain ⟨w, a, b, d, rfl, hr, ra, rb, e, q⟩ := hq
  obtain ⟨h1, h2⟩ := is_run e ra rb rx ry
  exact wpAny_is_plain h1 (by rw [h2]; exact ⟨.bl d, w.H, I, rfl, q⟩)
theorem ok_isNot : OpR X (compareOp .IsNot) (rC C fun x y => (isP x y).map (!·)) := by
  intro pins s σ H x y v u Q I rx ry hq
  obtain ⟨w, a, b, d, rfl, hr, ra, rb, e, q⟩ := hq
  have e : (isP a b).map (!·) = some d := e
  obtain ⟨k, e2, rfl⟩ := Option.map_eq_some_iff.mp e
  obtain ⟨h1, h2⟩ := is_run e2 ra rb rx ry
  exact wpAny_isNot_plain h1 (by rw [h2]; exact ⟨.bl (!k), w.H, I, rfl, q⟩)
/-- the items' equality with what is sought -/
theorem items_eq {w : Wd} {pins : List (Addr × Obj)} {σ : Sl} {s : Shared} (hK : X.K = C.K) (I : Inv X pins σ w.H s) {x : Pd} {v : V} {u : Value} (A : Around) (hu : A.units + 60 < cLine) (rx : RV C w x v) (ru : RelV v u) (fx : flat 50 x = true)
    {ys : List Pd} {vs : List V} {us : List Value} (hy : RPs C w ys vs) (hv : Vals vs us) (fy : flats 50 ys = true) : ∃ f : Value → Bool, (∀ z, z ∈ us → SeqAt.EqAt A s z u (f z)) ∧ us.any f = ys.any fun y => eqP y x := by
  classical
  have key : ∀ {y : Pd} {vy : V} {uy : Value}, RP C w y vy → RelV vy uy → flat 50 y = true → SeqAt.EqAt A s uy u (eqP y x) := fun {y vy uy} ry r fy => by
    obtain ⟨d1, c1⟩ := dp_of 50 y vy fy (rp_rv ry)
    obtain ⟨d2, c2⟩ := dp_of 50 x v fx rx
    rw [← hK] at d1 d2
    obtain ⟨as, r1⟩ := Dp.reads I _ _ _ d1 r
    obtain ⟨bs, r2⟩ := Dp.reads I _ _ _ d2 ru
    have p1 := depth_flat 50 y fy
    rw [← eqP_eqv 50 50 y x fy fx]
    exact SeqAt.eqAt_reads _ _ A s _ _ _ _ r1 r2 c1 c2 (Nat.lt_of_le_of_lt (Nat.add_le_add_left (Nat.le_trans (Nat.min_le_left _ _) (by omega)) _) hu)
  have all : ∀ (ys : List Pd) (vs : List V) (us : List Value), RPs C w ys vs → Vals vs us → flats 50 ys = true →
      (∀ z, z ∈ us → ∃ y, y ∈ ys ∧ SeqAt.EqAt A s z u (eqP y x)) ∧ ∀ y, y ∈ ys → ∃ z, z ∈ us ∧ SeqAt.EqAt A s z u (eqP y x) := by
    intro ys
    induction ys with
    | nil =>
      intro vs us h r f
      unfold RPgs at h
      rw [h] at r
      cases r
      exact ⟨fun z hz => absurd hz List.not_mem_nil, fun z hz => absurd hz List.not_mem_nil⟩
    | cons y ys ih =>
      intro vs us h r f
      unfold RPgs at h
      obtain ⟨v1, r1, rfl, h1, h2⟩ := h
      have f' : flat 50 y = true ∧ flats 50 ys = true := by simpa [flats] using f
      cases r with
      | cons q t =>
        obtain ⟨p1, p2⟩ := ih _ _ h2 t f'.2
        refine ⟨fun z hz => ?_, fun z hz => ?_⟩
        · rcases List.mem_cons.mp hz with hz | hz
          · exact ⟨y, .head _, by rw [hz]; exact key h1 q f'.1⟩
          · obtain ⟨y', m, e⟩ := p1 z hz
            exact ⟨y', .tail _ m, e⟩
        · rcases List.mem_cons.mp hz with hz | hz
          · exact ⟨_, .head _, by rw [hz]; exact key h1 q f'.1⟩
          · obtain ⟨y', m, e⟩ := p2 z hz
            exact ⟨y', .tail _ m, e⟩
  obtain ⟨p1, p2⟩ := all ys vs us hy hv fy
  refine ⟨fun z => decide ((ys.any fun y => eqP y x) = true ∧ SeqAt.EqAt A s z u true), ?_, ?_⟩
  · intro z hz
    obtain ⟨y, m, e⟩ := p1 z hz
    show SeqAt.EqAt A s z u (decide _)
    by_cases q : (ys.any fun y => eqP y x) = true ∧ SeqAt.EqAt A s z u true
    · rw [decide_eq_true q]
      exact q.2
    · rw [decide_eq_false q]
      cases k : eqP y x with
      | false =>
        rw [k] at e
        exact e
      | true =>
        rw [k] at e
        exact absurd ⟨List.any_eq_true.mpr ⟨y, m, k⟩, e⟩ q
  · cases k : ys.any fun y => eqP y x with
    | false => exact List.any_eq_false.mpr fun z _ => by simp
    | true =>
      obtain ⟨y, m, e⟩ := List.any_eq_true.mp k
      obtain ⟨z, hz, q⟩ := p2 y m
      rw [e] at q
      exact List.any_eq_true.mpr ⟨z, hz, decide_eq_true ⟨rfl, q⟩⟩
theorem in_some {x y : Pd} {b : Bool} (h : inP x y = some b) : (∃ t z c, x = .str t ∧ y = .str z ∧ t.cps.toList = [c] ∧ b = decide (c ∈ z.cps.toList)) ∨
    ∃ ys, (y = .tup ys ∨ y = .lst ys) ∧ flat 50 x = true ∧ flats 50 ys = true ∧ b = ys.any fun y => eqP y x := by
  unfold inP at h
  split at h
  · rename_i t z
    split at h
    · rename_i c e
      exact .inl ⟨t, z, c, rfl, rfl, e, (Option.some.inj h).symm⟩
    · cases h
  · rename_i ys
    split at h
    · rename_i e
      obtain ⟨e1, e2⟩ := Bool.and_eq_true_iff.mp e
      exact .inr ⟨_, .inl rfl, e1, e2, (Option.some.inj h).symm⟩
    · cases h
  · rename_i ys
    split at h
    · rename_i e
      obtain ⟨e1, e2⟩ := Bool.and_eq_true_iff.mp e
      exact .inr ⟨_, .inr rfl, e1, e2, (Option.some.inj h).symm⟩
    · cases h
  · cases h
theorem ok_inE (neg : Bool) {op : CmpOp} (ho : op = if neg then .NotIn else .In) (hK : X.K = C.K) (hu : X.A.units + 64 < cLine) : OpR X (compareOp op) (rC C fun x y => (inP x y).map fun b => if neg then !b else b) := by
  intro pins s σ H x y v u Q I rx ry hq
  obtain ⟨w, a, b, d, rfl, hr, ra, rb, e, q⟩ := hq
  obtain ⟨k, e2, rfl⟩ := Option.map_eq_some_iff.mp e
  have hA : X.A.in1.units + 60 < cLine := Nat.lt_of_le_of_lt (by show X.A.units + 1 + 60 ≤ X.A.units + 64; omega) hu
  rcases in_some e2 with ⟨t, z, c, rfl, rfl, ec, rfl⟩ | ⟨ys, hy, fx, fy, rfl⟩
  · rw [(rv_str ra).1] at rx
    rw [(rv_str rb).1] at ry
    have et : t = ⟨#[c]⟩ := by
      cases t with
      | mk t =>
        have ec : t.toList = [c] := ec
        rw [show t = #[c] from Array.toList_inj.mp ec]
    cases neg with
    | false =>
      subst ho
      exact op_in_sign pins s σ w.H _ _ v u Q I rx ry ⟨c, z, by rw [et], rfl, q⟩
    | true =>
      subst ho
      exact op_notIn_sign pins s σ w.H _ _ v u Q I rx ry ⟨c, z, by rw [et], rfl, q⟩
  · have ex : ∃ l vs, y = .ref l ∧ RPs C w ys vs ∧ (SqT X.K w.H l vs ∨ SqL X.K w.H l vs) := by
      rcases hy with rfl | rfl
      · obtain ⟨l, vs, e1, e2, e3⟩ := rv_tup rb
        exact ⟨l, vs, e1, e3, .inl (by rw [hK]; exact e2)⟩
      · obtain ⟨l, vs, e1, e2, e3⟩ := rv_lst rb
        exact ⟨l, vs, e1, e3, .inr (by rw [hK]; exact e2)⟩
    obtain ⟨l, vs, rfl, r, sq⟩ := ex
    obtain rfl : u = Value.ref l := ry
    have last : ∀ (f : Value → Bool) (its : List Value), its.any f = (ys.any fun y => eqP y a) → EP X pins σ Q (.bool (if neg then !its.toArray.any f else its.toArray.any f)) s := fun f its h => by
      rw [List.any_toArray, h]
      exact ⟨.bl _, w.H, I, rfl, q⟩
    rcases sq with sq | sq
    · obtain ⟨its, r1, p1, z1⟩ := I.tuple sq
      obtain ⟨f, f1, f2⟩ := items_eq hK I X.A.in1 hA ra rx fx r r1 fy
      have l := last f its f2
      cases neg with
      | false =>
        subst ho
        exact SeqAt.in_tupleAt f p1 (fun z hz => f1 z (by simpa using hz)) l
      | true =>
        subst ho
        exact SeqAt.notIn_tupleAt f p1 (fun z hz => f1 z (by simpa using hz)) l
    · obtain ⟨its, r1, p1, z1⟩ := I.list sq
      obtain ⟨f, f1, f2⟩ := items_eq hK I X.A.in1 hA ra rx fx r r1 fy
      have l := last f its f2
      cases neg with
      | false =>
        subst ho
        exact SeqAt.in_listAt f p1.isList (fun z hz => f1 z (by simpa using hz)) l
      | true =>
        subst ho
        exact SeqAt.notIn_listAt f p1.isList (fun z hz => f1 z (by simpa using hz)) l
/-- each comparison does what it does to plain data -/
theorem ok_cmp (hK : X.K = C.K) (hu : X.A.units + 64 < cLine) : ∀ op : CmpOp, OpR X (compareOp op) (rC C (cmpP op))
  | .Eq => ok_eq hK hu
  | .NotEq => ok_ne hK hu
  | .Lt => ok_ord (k := fun a b => decide (a < b)) op_lt op_lt_str
  | .LtE => ok_ord (k := fun a b => !decide (b < a)) op_le op_le_str
  | .Gt => ok_ord (k := fun a b => decide (b < a)) op_gt op_gt_str
  | .GtE => ok_ord (k := fun a b => !decide (a < b)) op_ge op_ge_str
  | .Is => ok_is
  | .IsNot => ok_isNot
  | .In => by
    have h := ok_inE (X := X) (C := C) false (op := .In) rfl hK hu
    intro pins s σ H x y v u Q I rx ry hq
    obtain ⟨w, a, b, d, e0, hr, ra, rb, e, q⟩ := hq
    exact h pins s σ H x y v u Q I rx ry ⟨w, a, b, d, e0, hr, ra, rb, by simpa [cmpP] using e, q⟩
  | .NotIn => ok_inE true rfl hK hu
end
end Pv

/-! ## text Pv5 -/
set_option Elab.async false
set_option linter.all false
set_option maxRecDepth 100000
set_option autoImplicit false
/-! Pv5: expressions, by what they do to slots and heap. -/
namespace Pv
open PySem PySem.Spec PyProof.Rows L2

section
variable {Y : Cx} {e : Expr}
theorem pe_imp {t t' : TE} (h : PE Y e t) (k : ∀ σ H Q, t' σ H Q → t σ H Q) : PE Y e t' := ⟨fun pins s σ H Q I q => h.run pins s σ H Q I (k σ H Q q)⟩
theorem pt_imp {t t' : TT} (h : PT Y e t) (k : ∀ σ H Q, t' σ H Q → t σ H Q) : PT Y e t' := ⟨fun pins s σ H Q I q => h.run pins s σ H Q I (k σ H Q q)⟩
theorem pw_imp {t t' : TT} (h : PW Y e t) (k : ∀ σ H Q, t' σ H Q → t σ H Q) : PW Y e t' := ⟨fun wh pins s σ H Q I q => h.run wh pins s σ H Q I (k σ H Q q)⟩
theorem pa_imp {es : List Expr} {t t' : TA} (h : PA Y es t) (k : ∀ σ H Q, t' σ H Q → t σ H Q) : PA Y es t' := ⟨fun pos pins s σ H Q I q => h.run pos pins s σ H Q I (k σ H Q q)⟩
theorem pk_imp {kws : List Keyword} {t t' : TA} (h : PK Y kws t) (k : ∀ σ H Q, t' σ H Q → t σ H Q) : PK Y kws t' := ⟨fun pos pins s σ H Q I q => h.run pos pins s σ H Q I (k σ H Q q)⟩
end

def sBad : SE := fun _ _ => .bad
def bBad : SB := fun _ _ => .bad
def aBad : SA := fun _ _ => .bad
/-- one operand seen -/
def lift1 (f : Pd → Option Th) (d : Th) (h : Hs) : Rs Th := match view d h with
  | some x => match f x with
    | some r => .ok r h
    | none => .bad
  | none => .bad
def lift2 (f : Pd → Pd → Option Th) (d e : Th) (h : Hs) : Rs Th := match view d h, view e h with
  | some x, some y => match f x y with
    | some r => .ok r h
    | none => .bad
  | _, _ => .bad
def s1 (f : Pd → Option Th) (a : SE) : SE := fun δ h => (a δ h).bind fun d h => lift1 f d h
def s2 (f : Pd → Pd → Option Th) (a b : SE) : SE := fun δ h => (a δ h).bind fun d h => (b δ h).bind fun e h => lift2 f d e h
def sC (x : Pd) : SE := fun _ h => .ok (.p x) h
def sVar (i : Nat) : SE := fun δ h => match δ[i]? with
  | some (some d) => .ok d h
  | _ => .bad
def truP : Pd → Option Bool
  | .non => some false
  | .bl b => some b
  | .int i => some (i != 0)
  | .str y => some ((y.length : Int) != 0)
  | .tup xs => some (!xs.isEmpty)
  | .lst xs => some (!xs.isEmpty)
  | .dct ks _ => some (!ks.isEmpty)
  | _ => none
def tru (d : Th) (h : Hs) : Option Bool := match view d h with
  | some x => truP x
  | none => none
def sNot (a : SE) : SE := fun δ h => (a δ h).bind fun d h => match tru d h with
  | some b => .ok (.p (.bl (!b))) h
  | none => .bad
def sAnd (a b : SE) : SE := fun δ h => (a δ h).bind fun d h => match tru d h with
  | some true => b δ h
  | some false => .ok d h
  | none => .bad
def sOr (a b : SE) : SE := fun δ h => (a δ h).bind fun d h => match tru d h with
  | some true => .ok d h
  | some false => b δ h
  | none => .bad
def sIf (t : SB) (a b : SE) : SE := fun δ h => (t δ h).bind fun c h => match c with
  | true => a δ h
  | false => b δ h
/-- tests -/
def bTru (a : SE) : SB := fun δ h => (a δ h).bind fun d h => match tru d h with
  | some b => .ok b h
  | none => .bad
def bNot (t : SB) : SB := fun δ h => (t δ h).bind fun c h => .ok (!c) h
def bAnd (t u : SB) : SB := fun δ h => (t δ h).bind fun c h => match c with
  | true => u δ h
  | false => .ok false h
def bOr (t u : SB) : SB := fun δ h => (t δ h).bind fun c h => match c with
  | true => .ok true h
  | false => u δ h
/-- a op b op' c -/
def sChain (f g : Pd → Pd → Option Bool) (a b c : SE) : SE := fun δ h => (a δ h).bind fun d h => (b δ h).bind fun e h => match view d h, view e h with
  | some x, some y => match f x y with
    | some true => (c δ h).bind fun k h => lift2 (fun x y => (g x y).map fun b => .p (.bl b)) e k h
    | some false => .ok (.p (.bl false)) h
    | none => .bad
  | _, _ => .bad
def cmpT (op : CmpOp) (x y : Pd) : Option Th := (cmpP op x y).map fun b => .p (.bl b)

section
variable {Y : Cx} {Z : Kx} {a b c : Expr} {f g k : SE} {t u : SB} {pos : Pos} {σ : Sl} {H : Hp}
theorem pe_bad {e : Expr} : PE Y e (tE Z sBad) := ⟨fun _ _ _ _ _ _ ⟨_, _, _, h⟩ => False.elim h⟩
theorem pt_bad {e : Expr} : PT Y e (tT Z bBad) := ⟨fun _ _ _ _ _ _ ⟨_, _, _, h⟩ => False.elim h⟩
theorem pw_bad {e : Expr} : PW Y e (tT Z bBad) := ⟨fun _ _ _ _ _ _ _ ⟨_, _, _, h⟩ => False.elim h⟩
theorem pa_bad {es : List Expr} : PA Y es (tA Z aBad) := ⟨fun _ _ _ _ _ _ _ ⟨_, _, _, h⟩ => False.elim h⟩
theorem pk_bad {es : List Keyword} : PK Y es (tA Z aBad) := ⟨fun _ _ _ _ _ _ _ ⟨_, _, _, h⟩ => False.elim h⟩

/-- what is written is a value -/
theorem rd_const {x : Pd} {v : V} {Q : VK} (hx : ∀ w, RP Z.C w x v) (h : tE Z (sC x) σ H Q) : Q v H := by
  obtain ⟨w, δ, a, h⟩ := h
  have q := h w v rfl a.hr Ext.refl (hx w)
  rw [a.eH] at q
  exact q
theorem rd_var {i : Nat} {Q : VK} (h : tE Z (sVar i) σ H Q) : tVar i σ H Q := by
  obtain ⟨w, δ, a, h⟩ := h
  have h : Po Z w σ Q (match δ[i]? with
    | some (some d) => .ok d w.h
    | _ => .bad) := h
  split at h
  · rename_i d e
    obtain ⟨_, v, e1, r⟩ := a.er.at_ i d e
    have t : isTmp d = false := by
      cases d <;> first | rfl | exact absurd (a.er.at_ i _ e).1 id
    have q := h w v rfl a.hr Ext.refl (rt_any t r)
    rw [a.eH] at q
    exact ⟨v, e1, q⟩
  · exact False.elim h
/-- an operator of one operand, by plain data -/
def rU1 (C : Ct) (f : Pd → Option Th) : V → Hp → VK → Prop := fun v H Q => ∃ w x d, w.H = H ∧ HR C w ∧ RV C w x v ∧ f x = some d ∧ ∀ w' z, w'.h = w.h → HR C w' → Ext 0 w w' → RT C w' w.H d z → Q z w'.H
theorem rd_lift1 {f : Pd → Option Th} {w : Wd} {H0 : Hp} {d : Th} {v : V} {Q : VK} (hr : HR Z.C w) (r : RT Z.C w H0 d v) (h : Po Z w σ Q (lift1 f d w.h)) : rU1 Z.C f v w.H Q := by
  unfold lift1 at h
  split at h
  · rename_i x ex
    split at h
    · rename_i d e
      exact ⟨w, x, d, rfl, hr, view_ok hr r ex, e, h⟩
    · exact False.elim h
  · exact False.elim h
theorem rd_lift2 {f : Pd → Pd → Option Th} {w : Wd} {H0 H1 : Hp} {d e : Th} {v u : V} {Q : VK} (hr : HR Z.C w) (r : RT Z.C w H0 d v) (r' : RT Z.C w H1 e u) (h : Po Z w σ Q (lift2 f d e w.h)) : rB Z.C f v u w.H Q := by
  unfold lift2 at h
  split at h
  · rename_i x y ex ey
    split at h
    · rename_i d e
      exact ⟨w, x, y, d, rfl, hr, view_ok hr r ex, view_ok hr r' ey, e, h⟩
    · exact False.elim h
  · exact False.elim h
theorem rd_s1 {f : Pd → Option Th} {Q : VK} (h : tE Z (s1 f g) σ H Q) : tUn (rU1 Z.C f) (tE Z g) σ H Q := by
  obtain ⟨w, δ, a, h⟩ := h
  refine ⟨w, δ, a, po_mono (po_bind h) fun v H1 ⟨w1, d, e, hr, x, t, h1⟩ => ?_⟩
  subst e
  exact rd_lift1 hr t (po_ext x h1)
theorem rd_s2 {f : Pd → Pd → Option Th} {Q : VK} (h : tE Z (s2 f g k) σ H Q) : tOp (rB Z.C f) (tE Z g) (tE Z k) σ H Q := by
  obtain ⟨w, δ, a, h⟩ := h
  refine ⟨w, δ, a, po_mono (po_bind h) fun v H1 ⟨w1, d, e, hr, x, t, h1⟩ => ?_⟩
  subst e
  refine ⟨w1, δ, a.on hr x, po_mono (po_bind (po_ext x h1)) fun u H2 ⟨w2, d2, e2, hr2, x2, t2, h2⟩ => ?_⟩
  subst e2
  exact rd_lift2 hr2 (rt_ext0 hr x2 t) t2 (po_ext x2 h2)
theorem tru_ok' {w : Wd} {H0 : Hp} {d : Th} {v : V} {b : Bool} (hr : HR Z.C w) (r : RT Z.C w H0 d v) (h : tru d w.h = some b) : TruV Z.C.K v w.H b := by
  unfold tru at h
  split at h
  · rename_i x ex
    have q := view_ok hr r ex
    cases x with
    | non =>
      rw [rv_non q]
      cases h
      rfl
    | bl k =>
      rw [rv_bl q]
      cases h
      rfl
    | int k =>
      rw [rv_int q]
      cases h
      rfl
    | str k =>
      obtain ⟨e, _, l⟩ := rv_str q
      rw [e]
      cases h
      exact ⟨l, rfl⟩
    | tup xs =>
      obtain ⟨a, vs, e, s, rs⟩ := rv_tup q
      rw [e]
      cases h
      refine .inr (.inl ⟨vs, s, ?_⟩)
      have l := rps_len _ _ rs
      cases xs <;> cases vs <;> first | rfl | cases l
    | lst xs =>
      obtain ⟨a, vs, e, s, rs⟩ := rv_lst q
      rw [e]
      cases h
      refine .inl ⟨vs, s, ?_⟩
      have l := rps_len _ _ rs
      cases xs <;> cases vs <;> first | rfl | cases l
    | dct ks ws =>
      obtain ⟨a, kvs, e, s, kk, rs⟩ := q
      rw [e]
      cases h
      refine .inr (.inr ⟨kvs, s, ?_⟩)
      cases ks with
      | nil =>
        have z : some ([] : List Key) = some (kvs.map (·.1)) := kk
        cases kvs with
        | nil => rfl
        | cons _ _ => cases z
      | cons x r =>
        cases kvs with
        | cons _ _ => rfl
        | nil =>
          have z : keysP (x :: r) = some [] := kk
          unfold keysP at z
          split at z <;> cases z
    | ty _ => cases h
    | cls _ => cases h
  · cases h
theorem rd_not {Q : VK} (h : tE Z (sNot g) σ H Q) : tNotT Z.C.K (tE Z g) σ H Q := by
  obtain ⟨w, δ, a, h⟩ := h
  refine ⟨w, δ, a, po_mono (po_bind h) fun v H1 ⟨w1, d, e, hr, x, t, h1⟩ => ?_⟩
  subst e
  split at h1
  · rename_i b eb
    exact ⟨b, tru_ok' hr t eb, h1 w1 _ rfl hr x (rt_p rp_bl)⟩
  · exact False.elim h1
theorem rd_and {Q : VK} (h : tE Z (sAnd g k) σ H Q) : tAndT Z.C.K (tE Z g) (tE Z k) σ H Q := by
  obtain ⟨w, δ, a, h⟩ := h
  refine ⟨w, δ, a, po_mono (po_bind h) fun v H1 ⟨w1, d, e, hr, x, t, h1⟩ => ?_⟩
  subst e
  split at h1
  · rename_i eb
    exact ⟨true, tru_ok' hr t eb, ⟨w1, δ, a.on hr x, po_ext x h1⟩⟩
  · rename_i eb
    exact ⟨false, tru_ok' hr t eb, h1 w1 v rfl hr x t⟩
  · exact False.elim h1
theorem rd_or {Q : VK} (h : tE Z (sOr g k) σ H Q) : tOrT Z.C.K (tE Z g) (tE Z k) σ H Q := by
  obtain ⟨w, δ, a, h⟩ := h
  refine ⟨w, δ, a, po_mono (po_bind h) fun v H1 ⟨w1, d, e, hr, x, t, h1⟩ => ?_⟩
  subst e
  split at h1
  · rename_i eb
    exact ⟨true, tru_ok' hr t eb, h1 w1 v rfl hr x t⟩
  · rename_i eb
    exact ⟨false, tru_ok' hr t eb, ⟨w1, δ, a.on hr x, po_ext x h1⟩⟩
  · exact False.elim h1
theorem rd_if {Q : VK} (h : tE Z (sIf t g k) σ H Q) : tIf (tT Z t) (tE Z g) (tE Z k) σ H Q := by
  obtain ⟨w, δ, a, h⟩ := h
  refine ⟨w, δ, a, pob_mono (po_bindB h) fun c H1 ⟨w1, e, hr, x, h1⟩ => ?_⟩
  subst e
  cases c with
  | true => exact ⟨w1, δ, a.on hr x, po_ext x h1⟩
  | false => exact ⟨w1, δ, a.on hr x, po_ext x h1⟩
theorem rd_bTru {Q : Bool → Hp → Prop} (h : tT Z (bTru g) σ H Q) : tE Z g σ H fun x H' => ∃ k, TruV Z.C.K x H' k ∧ Q k H' := by
  obtain ⟨w, δ, a, h⟩ := h
  refine ⟨w, δ, a, po_mono (pob_bind h) fun v H1 ⟨w1, d, e, hr, x, t, h1⟩ => ?_⟩
  subst e
  split at h1
  · rename_i b eb
    exact ⟨b, tru_ok' hr t eb, h1 w1 rfl hr x⟩
  · exact False.elim h1
theorem rd_bNot {Q : Bool → Hp → Prop} (h : tT Z (bNot t) σ H Q) : tNot (tT Z t) σ H Q := by
  obtain ⟨w, δ, a, h⟩ := h
  refine ⟨w, δ, a, pob_mono (pob_bindB h) fun c H1 ⟨w1, e, hr, x, h1⟩ => ?_⟩
  subst e
  exact h1 w1 rfl hr x
theorem rd_bAnd {Q : Bool → Hp → Prop} (h : tT Z (bAnd t u) σ H Q) : L2.tAnd (tT Z t) (tT Z u) σ H Q := by
  obtain ⟨w, δ, a, h⟩ := h
  refine ⟨w, δ, a, pob_mono (pob_bindB h) fun c H1 ⟨w1, e, hr, x, h1⟩ => ?_⟩
  subst e
  cases c with
  | true => exact ⟨w1, δ, a.on hr x, pob_ext x h1⟩
  | false => exact h1 w1 rfl hr x
theorem rd_bOr {Q : Bool → Hp → Prop} (h : tT Z (bOr t u) σ H Q) : L2.tOr (tT Z t) (tT Z u) σ H Q := by
  obtain ⟨w, δ, a, h⟩ := h
  refine ⟨w, δ, a, pob_mono (pob_bindB h) fun c H1 ⟨w1, e, hr, x, h1⟩ => ?_⟩
  subst e
  cases c with
  | false => exact ⟨w1, δ, a.on hr x, pob_ext x h1⟩
  | true => exact h1 w1 rfl hr x
/-- a test by a comparison: its value's truth -/
theorem rd_bCmp {op : CmpOp} {Q : Bool → Hp → Prop} (h : tT Z (bTru (s2 (cmpT op) g k)) σ H Q) : tTest (tOp (rB Z.C (cmpT op)) (tE Z g) (tE Z k)) σ H Q := by
  have h := rd_bTru h
  refine rd_s2 ?_
  obtain ⟨w, δ, a, h⟩ := h
  have key : ∀ (r : Rs Th), (∀ d h', r = .ok d h' → ∃ b, d = .p (.bl b)) → Po Z w σ (fun x H' => ∃ k, TruV Z.C.K x H' k ∧ Q k H') r → Po Z w σ (fun x H' => ∃ k, x = .bl k ∧ Q k H') r := by
    intro r hb h
    cases r with
    | ok d h' =>
      intro w' v e hr x t
      obtain ⟨c, tv, q⟩ := h w' v e hr x t
      obtain ⟨b, rfl⟩ := hb d h' rfl
      have e2 : v = .bl b := by
        have t : RPg Z.C w'.g (.bl b) v := t
        unfold RPg at t
        exact t
      rw [e2] at tv
      have tv : c = b := tv
      exact ⟨b, e2, by rw [← tv]; exact q⟩
    | exc c fs h' => exact h
    | bad => exact h
  refine ⟨w, δ, a, key _ (fun d h' e => ?_) h⟩
  have e : ((g δ w.h).bind fun d h => (k δ h).bind fun e h => lift2 (cmpT op) d e h) = .ok d h' := e
  cases e1 : g δ w.h with
  | ok d1 h1 =>
    rw [e1, bind_ok] at e
    cases e2 : k δ h1 with
    | ok d2 h2 =>
      rw [e2, bind_ok] at e
      unfold lift2 at e
      split at e
      · split at e
        · rename_i r er
          unfold cmpT at er
          obtain ⟨b, _, eb⟩ := Option.map_eq_some_iff.mp er
          cases e
          exact ⟨b, eb.symm⟩
        · cases e
      · cases e
    | exc => rw [e2] at e; cases e
    | bad => rw [e2] at e; cases e
  | exc => rw [e1] at e; cases e
  | bad => rw [e1] at e; cases e
theorem ok_cmpT (hK : Y.K = Z.C.K) (hu : Y.A.units + 64 < cLine) (op : CmpOp) : OpR Y (compareOp op) (rB Z.C (cmpT op)) := by
  intro pins s σ H x y v u Q I rx ry hq
  obtain ⟨w, a, b, d, e0, hr, ra, rb, e, q⟩ := hq
  unfold cmpT at e
  obtain ⟨k, ek, rfl⟩ := Option.map_eq_some_iff.mp e
  exact ok_cmp hK hu op pins s σ H x y v u Q I rx ry ⟨w, a, b, k, e0, hr, ra, rb, ek, by rw [← e0]; exact q w _ rfl hr Ext.refl (rt_p rp_bl)⟩
theorem rd_chain {op op' : CmpOp} {l : SE} {Q : VK} (h : tE Z (sChain (cmpP op) (cmpP op') g k l) σ H Q) : tChain (rB Z.C (cmpT op)) (rB Z.C (cmpT op')) (tE Z g) (tE Z k) (tE Z l) σ H Q := by
  obtain ⟨w, δ, a, h⟩ := h
  refine ⟨w, δ, a, po_mono (po_bind h) fun v H1 ⟨w1, d, e, hr, x, t, h1⟩ => ?_⟩
  subst e
  refine ⟨w1, δ, a.on hr x, po_mono (po_bind (po_ext x h1)) fun u H2 ⟨w2, d2, e2, hr2, x2, t2, h2⟩ => ?_⟩
  subst e2
  have h2 := po_ext x2 h2
  split at h2
  · rename_i p q ep eq
    have vp := view_ok hr2 (rt_ext0 hr x2 t) ep
    have vq := view_ok hr2 t2 eq
    split at h2
    · rename_i ec
      refine ⟨w2, p, q, .p (.bl true), rfl, hr2, vp, vq, by unfold cmpT; rw [ec]; rfl, fun w' z eh hr' x' tz => ?_⟩
      have ez : z = .bl true := by
        have t : RPg Z.C w'.g (.bl true) z := tz
        unfold RPg at t
        exact t
      refine ⟨true, ez, ?_⟩
      rw [if_pos rfl]
      have h3 := po_ext x' h2
      rw [← eh] at h3
      refine ⟨w', δ, (a.on hr x |>.on hr2 x2 |>.on hr' x'), po_mono (po_bind h3) fun y H4 ⟨w4, d4, e4, hr4, x4, t4, h4⟩ => ?_⟩
      subst e4
      exact rd_lift2 hr4 (rt_ext0 hr' x4 (rt_ext0 hr2 x' t2)) t4 (po_ext x4 h4)
    · rename_i ec
      refine ⟨w2, p, q, .p (.bl false), rfl, hr2, vp, vq, by unfold cmpT; rw [ec]; rfl, fun w' z eh hr' x' tz => ?_⟩
      have ez : z = .bl false := by
        have t : RPg Z.C w'.g (.bl false) z := tz
        unfold RPg at t
        exact t
      refine ⟨false, ez, ?_⟩
      rw [if_neg (fun z => nomatch z)]
      exact h2 w' _ eh hr' x' (rt_p rp_bl)
    · exact False.elim h2
  · exact False.elim h2
end
end Pv

/-! ## text Pv6 -/
set_option Elab.async false
set_option linter.all false
set_option maxRecDepth 100000
set_option autoImplicit false
/-! Pv6: operators, subscripts, slices, built-in functions of plain data. -/
namespace Pv
open PySem PySem.Spec PyProof.Rows L2

/-! ### the operators -/
def binP : Operator → Pd → Pd → Option Th
  | .Add => addP
  | .Sub => subP
  | .Mult => intOp mulC fun i j => i * j
  | .FloorDiv => fdivP
  | .Mod => modP
  | .Pow => powP
  | .LShift => shlP
  | .RShift => shrP
  | .BitAnd => bandP
  | .BitOr => borP
  | _ => fun _ _ => none
section
variable {X : Cx} {C : Ct}
theorem ok_none {f : Value → Value → Sem Value} : OpR X f (rB C fun _ _ => none) := fun _ _ _ _ _ _ _ _ _ _ _ _ ⟨_, _, _, _, _, _, _, _, e, _⟩ => nomatch e
theorem ok_bin (hK : X.K = C.K) : ∀ op : Operator, OpR X (binaryOp op) (rB C (binP op))
  | .Add => ok_add hK
  | .Sub => ok_sub
  | .Mult => ok_int op_mulG fun _ _ h => h
  | .FloorDiv => ok_fdiv
  | .Mod => ok_mod
  | .Pow => ok_pow
  | .LShift => ok_shl
  | .RShift => ok_shr
  | .BitAnd => ok_band
  | .BitOr => ok_bor
  | .MatMult => ok_none
  | .Div => ok_none
  | .BitXor => ok_none
def negP : Pd → Option Th
  | .int i => some (.p (.int (-i)))
  | _ => none
theorem ok_neg : UnR X (unaryOp .USub) (rU1 C negP) := by
  intro pins s σ H x v Q I rx hq
  obtain ⟨w, y, d, rfl, hr, ry, e, q⟩ := hq
  unfold negP at e
  split at e
  · cases e
    rw [rv_int ry] at rx
    exact un_neg pins s σ w.H _ v Q I rx ⟨_, rfl, q w _ rfl hr Ext.refl (rt_p rp_int)⟩
  · cases e

/-! ### subscripts -/
/-- the value of a key in a dict -/
def getP : List Pd → List Pd → Pd → Option Pd
  | k :: ks, w :: ws, x => if eqP k x = true then some w else getP ks ws x
  | _, _, _ => none
def ixP : Pd → Pd → Option Th
  | .lst xs, .int i => (atI xs i).map .p
  | .tup xs, .int i => (atI xs i).map .p
  | .str z, .int i => (atI z.cps.toList i).map fun c => .p (.str ⟨#[c]⟩)
  | _, _ => none
theorem rps_atI {w : Wd} {xs : List Pd} {vs : List V} {i : Int} {x : Pd} (h : RPs C w xs vs) (e : atI xs i = some x) : ∃ v, atI vs i = some v ∧ RP C w x v := by
  unfold atI at e ⊢
  rw [← rps_len _ _ h]
  cases z : ixN xs.length i with
  | none =>
    rw [z] at e
    cases e
  | some j =>
    rw [z] at e
    exact rps_get h e
theorem atI_mem {α : Type} {xs : List α} {i : Int} {v : α} (h : atI xs i = some v) : v ∈ xs := by
  unfold atI at h
  cases z : ixN xs.length i with
  | none =>
    rw [z] at h
    cases h
  | some j =>
    rw [z] at h
    exact List.mem_of_getElem? h
theorem str_sign {z : Str} (h : PyData.strOk z = true) {c : Nat} (m : c ∈ z.cps.toList) : PyData.strOk ⟨#[c]⟩ = true := by
  unfold PyData.strOk at h ⊢
  rw [← Array.all_toList, List.all_eq_true] at h
  have := h c m
  simpa using this
theorem ok_ix (hK : X.K = C.K) : IxR X (rB C ixP) := by
  intro value slice pins s σ H x y v u Q I rx ry hq hs
  obtain ⟨w, a, b, d, rfl, hr, ra, rb, e, q⟩ := hq
  unfold ixP at e
  split at e
  · rename_i xs i
    obtain ⟨z, e2, rfl⟩ := Option.map_eq_some_iff.mp e
    obtain ⟨p, vs, ex, sq, r⟩ := rv_lst ra
    obtain ⟨t, et, rt⟩ := rps_atI r e2
    rw [rv_int rb] at ry
    exact ix_list value slice pins s σ w.H x _ v u Q I rx ry ⟨p, vs, i, t, ex, rfl, by rw [hK]; exact sq, et, q w t rfl hr Ext.refl (rt_p rt)⟩ hs
  · rename_i xs i
    obtain ⟨z, e2, rfl⟩ := Option.map_eq_some_iff.mp e
    obtain ⟨p, vs, ex, sq, r⟩ := rv_tup ra
    obtain ⟨t, et, rt⟩ := rps_atI r e2
    rw [rv_int rb] at ry
    exact ix_tup value slice pins s σ w.H x _ v u Q I rx ry ⟨p, vs, i, t, ex, rfl, by rw [hK]; exact sq, et, q w t rfl hr Ext.refl (rt_p rt)⟩ hs
  · rename_i z i
    obtain ⟨c, e2, rfl⟩ := Option.map_eq_some_iff.mp e
    obtain ⟨ez, s1, l1⟩ := rv_str ra
    rw [rv_int rb] at ry
    have hS := sizeLine_eq
    exact ix_str value slice pins s σ w.H x _ v u Q I rx ry ⟨z, i, c, ez, rfl, l1, e2, q w _ rfl hr Ext.refl (rt_p (rp_str (str_sign s1 (atI_mem e2)) (by show 1 ≤ sizeLine; rw [hS]; decide)))⟩ hs
  · cases e

/-! ### slices -/
def cutP {α : Type} (xs : List α) (lo hi : Option Int) : List α := (xs.drop (HT.sIx xs.length 0 lo)).take (HT.sIx xs.length xs.length hi - HT.sIx xs.length 0 lo)
def slP (x : Pd) (lo hi : Option Int) : Option Th := match x with
  | .lst xs => some (.tmp (.lst (cutP xs lo hi)))
  | .tup xs => some (.p (.tup (cutP xs lo hi)))
  | .str z => some (.p (.str (cutS z lo hi)))
  | _ => none
theorem rps_cut {w : Wd} {xs : List Pd} {vs : List V} {lo hi : Option Int} (h : RPs C w xs vs) : RPs C w (cutP xs lo hi) (cutV vs lo hi) := by
  unfold cutP cutV
  rw [rps_len _ _ h]
  exact rps_take _ (rps_drop _ h)
theorem cutP_all {α : Type} {xs : List α} {lo hi : Option Int} (h : HT.sIx xs.length 0 lo = 0 ∧ HT.sIx xs.length xs.length hi = xs.length) : cutP xs lo hi = xs := by
  unfold cutP
  rw [h.1, h.2]
  simp
def rSl (C : Ct) : V → Option Int → Option Int → Hp → VK → Prop := fun v lo hi H Q => ∃ w x d, w.H = H ∧ HR C w ∧ RV C w x v ∧ slP x lo hi = some d ∧ ∀ w' z, w'.h = w.h → HR C w' → Ext 0 w w' → RT C w' w.H d z → Q z w'.H
theorem strOk_cut {z : Str} {lo hi : Option Int} (h : PyData.strOk z = true) : PyData.strOk (cutS z lo hi) = true := by
  unfold PyData.strOk cutS at *
  rw [← Array.all_toList, List.all_eq_true] at *
  intro c hc
  exact h c (List.mem_of_mem_drop (List.mem_of_mem_take (by simpa using hc)))
theorem ok_sl (hK : X.K = C.K) : SlR X (rSl C) := by
  intro pins s σ H x v vl vu lo hi sl Q I rx hs pl pu hq
  obtain ⟨w, a, d, rfl, hr, ra, e, q⟩ := hq
  unfold slP at e
  split at e
  · rename_i xs
    cases e
    obtain ⟨p, vs, ex, sq, r⟩ := rv_lst ra
    exact sl_list pins s σ w.H x v vl vu lo hi sl Q I rx hs pl pu ⟨p, vs, ex, by rw [hK]; exact sq, fun p hp => q (w.al p _) _ rfl (hr_al hr hp) (ext_al hp) (new_lst hr hp (rps_cut r))⟩
  · rename_i xs
    cases e
    obtain ⟨p, vs, ex, sq, r⟩ := rv_tup ra
    refine sl_tupA pins s σ w.H x v vl vu lo hi sl Q I rx hs pl pu ⟨p, vs, ex, by rw [hK]; exact sq, fun hw => ?_, fun _ p hp => q (w.al p _) _ rfl (hr_al hr hp) (ext_al hp) (rt_p (new_tup hr hp (rps_cut r)))⟩
    refine q w _ rfl hr Ext.refl ?_
    rw [← rps_len _ _ r] at hw
    rw [cutP_all hw]
    show RPg C w.g (.tup xs) _
    unfold RPg
    exact ⟨p, vs, rfl, sq, r⟩
  · rename_i z
    cases e
    obtain ⟨ez, s1, l1⟩ := rv_str ra
    exact sl_str pins s σ w.H x v vl vu lo hi sl Q I rx hs pl pu ⟨z, ez, l1, q w _ rfl hr Ext.refl (rt_p (rp_str (strOk_cut s1) (Nat.le_trans (cutS_length z lo hi) l1)))⟩
  · cases e
end

/-! ### x[::-1] of a tuple -/
section
variable {prog : Program} {w : World} {A : Around} {E : Value → Shared → Prop} {s : Shared}
theorem slice_back {sl : Addr} {vl vu vs : Value} {n : Nat} {Q : Int × Int × Nat → Shared → Prop} (hs : s.heap.IsSliceOf sl vl vu vs) (pl : IsPart vl none) (pu : IsPart vu none) (ps : IsPart vs (some (-1)))
    (h : Q ((n : Int) - 1, -1, n) s) : wpAny (model prog w) A (Builtin.Slice.sliceApplied (.ref sl) (pure (n : Int))) Q E s := by
  obtain ⟨os, hos, hcs, hds⟩ := id hs
  unfold Builtin.Slice.sliceApplied Builtin.Slice.sliceFields
  refine wpAny_bind (wpAny_bind (wpAny_field hos hds (x := vl) rfl (wpAny_bind (wpAny_field hos hds (x := vu) rfl (wpAny_bind (wpAny_field hos hds (x := vs) rfl (wpAny_pure ?_)))))))
  refine wpAny_bind (HT.slicePart_ ps ?_)
  show wpAny _ _ (if ((-1 : Int) == 0) = true then _ else _) _ _ s
  rw [if_neg (by decide)]
  refine wpAny_bind (HT.slicePart_ pl (wpAny_bind (HT.slicePart_ pu (wpAny_bind (wpAny_pure ?_)))))
  show wpAny _ _ (match Builtin.Slice.sliceAdjust none none (-1) (n : Int) with | (lo, hi) => pure (lo, (-1 : Int), Builtin.Slice.slicePlaces lo hi (-1))) _ _ s
  have e : Builtin.Slice.sliceAdjust none none (-1) (n : Int) = ((n : Int) - 1, -1) := by
    unfold Builtin.Slice.sliceAdjust
    simp
  rw [e]
  have e2 : Builtin.Slice.slicePlaces ((n : Int) - 1) (-1) (-1) = n := by
    unfold Builtin.Slice.slicePlaces
    rw [if_neg (by decide), show (- -1 : Int) = 1 by decide, Int.ediv_one]
    split <;> omega
  show wpAny _ _ (pure ((n : Int) - 1, (-1 : Int), Builtin.Slice.slicePlaces ((n : Int) - 1) (-1) (-1))) _ _ s
  rw [e2]
  exact wpAny_pure h
theorem pick_back (xs : Array Value) : ((List.range xs.size).filterMap fun (m : Nat) => xs[(((xs.size : Int) - 1) + (m : Int) * -1).toNat]?).toArray = xs.toList.reverse.toArray := by
  have e : (fun (m : Nat) => xs[(((xs.size : Int) - 1) + (m : Int) * -1).toNat]?) = (fun k => xs[k]?) ∘ fun k => xs.size - 1 - k := by
    funext m
    have : (((xs.size : Int) - 1) + (m : Int) * -1).toNat = xs.size - 1 - m := by omega
    rw [this]
    rfl
  rw [e, ← List.filterMap_map, PySem.W.krv_range, List.filterMap_reverse, PySem.W.krv_all]
theorem getItem_tuple_back {t sl : Addr} {items : Array Value} {vl vu vs : Value} {Q : Value → Shared → Prop} (ht : IsTup s.heap t items) (hs : s.heap.IsSliceOf sl vl vu vs) (pl : IsPart vl none) (pu : IsPart vu none) (ps : IsPart vs (some (-1)))
    (h : Q (.ref s.heap.objs.size) { s with heap := s.heap.push { cls := .type "tuple", data := .seq items.toList.reverse.toArray } })
    (hsz : items.size ≤ sizeLine) : wpAny (model prog w) A (getItem (.ref t) (.ref sl)) Q E s := by
  obtain ⟨os, hos, hcs, hds⟩ := id hs
  have hTs : s.TypeIs (.ref sl) "slice" := ⟨os, hos, hcs⟩
  have htake : sizeOk (.seq items.toList.reverse.toArray) := by
    show items.toList.reverse.toArray.size ≤ sizeLine
    simpa using hsz
  unfold getItem
  try with_reducible refine wpAny_holding ?_
  first | refine wpAny_bind (wpAny_pure ?_) | skip
  refine wpAny_bind (wpAny_sequenceKey ht.typeIs (by decide) ?_)
  refine wpAny_bind (wpAny_callSpecial?_slot (name := Str.ofString "__getitem__") ht.typeIs PyProof.Rows.slot_tuple_getitem
    (wpAny_call_entry PyProof.Rows.slot_tuple_getitem ht.typeIs entry_tuple_getitem ?_ (args_tuple_getitem _ _)))
  show wpAny _ _ (Builtin.Tuple.tupleItemsOf (.ref t) >>= _) _ _ s
  refine wpAny_bind (tupleItemsOf_ ht ?_)
  refine wpAny_bind (wpAny_typeOf hTs ?_)
  rw [if_pos (by decide)]
  refine wpAny_bind (slice_back hs pl pu ps ?_)
  have hno : ¬ ((((items.size : Int) - 1) == 0 && (-1 : Int) == 1 && items.size == items.size) = true) := by simp
  show wpAny _ _ (if (((items.size : Int) - 1) == 0 && (-1 : Int) == 1 && items.size == items.size) = true then _ else _) _ _ s
  rw [if_neg hno, pick_back]
  first
    | exact wpAny_bind (m := Builtin.Tuple.tupleExact _) (wpAny_newObj_type (wpAny_pure ⟨_, rfl, wpAny_pure h⟩) htake)
    | exact wpAny_bind (m := Builtin.Tuple.tupleExact _) (wpAny_newObj_type (wpAny_bind (wpAny_pure (wpAny_pure ⟨_, rfl, wpAny_pure h⟩))) htake)
    | exact wpAny_bind (wpAny_bind (m := Builtin.Tuple.tupleExact _) (wpAny_newObj_type (wpAny_pure (wpAny_pure ⟨_, rfl, wpAny_pure h⟩)) htake))
    | exact wpAny_bind (wpAny_bind (m := Builtin.Tuple.tupleExact _) (wpAny_newObj_type (wpAny_pure ⟨_, rfl, wpAny_pure h⟩) htake))
end
end Pv

/-! ## text Pv7 -/
set_option Elab.async false
set_option linter.all false
set_option maxRecDepth 100000
set_option autoImplicit false
/-! Pv7: x[::-1], built-in functions. -/
namespace Pv
open PySem PySem.Spec PyProof.Rows L2
section
variable {X : Cx} {C : Ct}
def revP : Pd → Option Th
  | .lst xs => some (.tmp (.lst xs.reverse))
  | .tup xs => some (.p (.tup xs.reverse))
  | _ => none
theorem pe_rev (hK : X.K = C.K) {e : Expr} {te : TE} {k : Nat} {p1 p2 p3 pos : PySem.Pos} (he : PE X e te) :
    PE X (.Subscript e (.Slice none none (some (.UnaryOp .USub (.Constant (.int 1) k p1) p2)) p3) pos) (tUn (rU1 C revP) te) := by
  refine ⟨fun pins s σ H Q I h => ?_⟩
  refine Subscript_ (thn (he.run pins s σ H _ I h) fun v s1 ⟨x, H1, I1, r1, q1⟩ => ?_)
  obtain ⟨w, y, d, rfl, hr, ry, ed, q⟩ := q1
  have hst : PO X (some (.UnaryOp .USub (.Constant (.int 1) k p1) p2)) (tPart (tUn (rU fun i => .int (-i)) (tC (.int 1)))) := po_some (pe_un un_neg pe_int)
  refine wpAny_Slice (thn (po_none.run pins s1 σ w.H (fun o H2 => o = none ∧ H2 = w.H) I1 ⟨rfl, rfl⟩) fun vl s2 ⟨l, H2, I2, pl, el, e2⟩ => ?_)
  subst el e2
  refine thn (po_none.run pins s2 σ w.H (fun o H3 => o = none ∧ H3 = w.H) I2 ⟨rfl, rfl⟩) fun vu s3 ⟨u, H3, I3, pu, eu, e3⟩ => ?_
  subst eu e3
  refine thn (hst.run pins s3 σ w.H (fun o H4 => o = some (-1) ∧ H4 = w.H) I3 ⟨1, rfl, -1, rfl, rfl, rfl⟩) fun vs s4 ⟨o, H4, I4, ps, eo, e4⟩ => ?_
  subst eo e4
  have I5 : Inv X pins σ w.H { s4 with heap := s4.heap.push { cls := .type "slice", data := .fields #[vl, vu, vs] } } := I4.kept (t' := s4.toks) fun b ob q => Heap.get?_push_of_some _ q
  unfold revP at ed
  split at ed
  · rename_i xs
    cases ed
    obtain ⟨a, ys, rfl, sq, rs⟩ := rv_lst ry
    cases r1
    obtain ⟨its, r, ht, hz⟩ := I5.list (by rw [hK]; exact sq)
    have hlen := r.length
    show wpAny (model X.prog X.w) X.A (subscriptTail e (.Slice none none (some (.UnaryOp .USub (.Constant (.int 1) k p1) p2)) p3) (.ref a) (.ref s4.heap.objs.size)) (EP X pins σ Q) X.xe { s4 with heap := s4.heap.push { cls := .type "slice", data := .fields #[vl, vu, vs] } }
    refine tail_any (ops := [.ref a, .ref s4.heap.objs.size]) ht.isList.typeIs (PySem.slot_list_getitem.lookup) ?_ (by with_unfolding_all rfl)
    refine wpAny_getItem_list_slice ht.isList (Heap.IsSliceOf.new _ vl vu vs) pl pu ps (by decide) ?_ (by rw [List.size_toArray]; omega)
    rw [PySem.W.krv_pick]
    refine ⟨.ref _, _, I5.laid (t' := s4.toks) (o := .lst ys.reverse) (fun b ob q => Heap.get?_push_of_some _ q) (Nat.le_refl _) ?_, rfl, q (w.al _ _) _ rfl (hr_al hr (I5.hok.fresh (Nat.le_refl _))) (ext_al (I5.hok.fresh (Nat.le_refl _))) (new_lst hr (I5.hok.fresh (Nat.le_refl _)) (rps_rev rs))⟩
    exact ⟨by rw [List.length_reverse]; exact hz, _, 0, r.reverse, Heap.get?_push_size _ rfl⟩
  · rename_i xs
    cases ed
    obtain ⟨a, ys, rfl, sq, rs⟩ := rv_tup ry
    cases r1
    obtain ⟨its, r, ht, hz⟩ := I5.tuple (by rw [hK]; exact sq)
    have hlen := r.length
    show wpAny (model X.prog X.w) X.A (subscriptTail e (.Slice none none (some (.UnaryOp .USub (.Constant (.int 1) k p1) p2)) p3) (.ref a) (.ref s4.heap.objs.size)) (EP X pins σ Q) X.xe { s4 with heap := s4.heap.push { cls := .type "slice", data := .fields #[vl, vu, vs] } }
    refine tail_any (ops := [.ref a, .ref s4.heap.objs.size]) ht.typeIs PyProof.Rows.slot_tuple_getitem.lookup ?_ (by with_unfolding_all rfl)
    refine getItem_tuple_back ht (Heap.IsSliceOf.new _ vl vu vs) pl pu ps ?_ (by rw [List.size_toArray]; omega)
    refine ⟨.ref _, _, I5.laid (t' := s4.toks) (o := .tup ys.reverse) (fun b ob q => Heap.get?_push_of_some _ q) (Nat.le_refl _) ?_, rfl, q (w.al _ _) _ rfl (hr_al hr (I5.hok.fresh (Nat.le_refl _))) (ext_al (I5.hok.fresh (Nat.le_refl _))) (rt_p (new_tup hr (I5.hok.fresh (Nat.le_refl _)) (rps_rev rs)))⟩
    exact ⟨by rw [List.length_reverse]; exact hz, _, r.reverse, IsTup.new _ _⟩
  · cases ed

/-! ### one-place built-in functions -/
def rC1 (C : Ct) (f : Pd → Option Th) : List V → Hp → VK → Prop := fun vs H Q => ∃ v, vs = [v] ∧ rU1 C f v H Q
def blsP : List Pd → Option (List Bool)
  | [] => some []
  | .bl b :: r => (blsP r).map (b :: ·)
  | _ :: _ => none
def intsP : List Pd → Option (List Int)
  | [] => some []
  | .int b :: r => (intsP r).map (b :: ·)
  | _ :: _ => none
def strsP : List Pd → Option (List Str)
  | [] => some []
  | .str b :: r => (strsP r).map (b :: ·)
  | _ :: _ => none
theorem bls_of {w : Wd} : ∀ {xs : List Pd} {vs : List V} {bs : List Bool}, RPs C w xs vs → blsP xs = some bs → vs = bs.map V.bl
  | [], vs, bs, h, e => by
    unfold RPs RPgs at h
    cases e
    exact h
  | x :: xs, vs, bs, h, e => by
    unfold RPs RPgs at h
    obtain ⟨v, r, rfl, h1, h2⟩ := h
    cases x <;> try cases e
    rename_i b
    obtain ⟨cs, ec, rfl⟩ := Option.map_eq_some_iff.mp (show (blsP xs).map (b :: ·) = some bs from e)
    rw [rv_bl (rp_rv h1), bls_of h2 ec]
    rfl
theorem ints_of {w : Wd} : ∀ {xs : List Pd} {vs : List V} {bs : List Int}, RPs C w xs vs → intsP xs = some bs → vs = bs.map V.int
  | [], vs, bs, h, e => by
    unfold RPs RPgs at h
    cases e
    exact h
  | x :: xs, vs, bs, h, e => by
    unfold RPs RPgs at h
    obtain ⟨v, r, rfl, h1, h2⟩ := h
    cases x <;> try cases e
    rename_i b
    obtain ⟨cs, ec, rfl⟩ := Option.map_eq_some_iff.mp (show (intsP xs).map (b :: ·) = some bs from e)
    rw [rv_int (rp_rv h1), ints_of h2 ec]
    rfl
theorem strs_of {w : Wd} : ∀ {xs : List Pd} {vs : List V} {bs : List Str}, RPs C w xs vs → strsP xs = some bs → vs = bs.map V.str ∧ ∀ b ∈ bs, PyData.strOk b = true
  | [], vs, bs, h, e => by
    unfold RPs RPgs at h
    cases e
    exact ⟨h, fun b hb => absurd hb List.not_mem_nil⟩
  | x :: xs, vs, bs, h, e => by
    unfold RPs RPgs at h
    obtain ⟨v, r, rfl, h1, h2⟩ := h
    cases x <;> try cases e
    rename_i b
    obtain ⟨cs, ec, rfl⟩ := Option.map_eq_some_iff.mp (show (strsP xs).map (b :: ·) = some bs from e)
    obtain ⟨e1, e2, _⟩ := rv_str (rp_rv h1)
    obtain ⟨e3, e4⟩ := strs_of h2 ec
    rw [e1, e3]
    refine ⟨rfl, fun c hc => ?_⟩
    rcases List.mem_cons.mp hc with hc | hc
    · rw [hc]
      exact e2
    · exact e4 c hc
def lenP : Pd → Option Th
  | .str y => some (.p (.int (y.length : Nat)))
  | .tup xs => some (.p (.int (xs.length : Nat)))
  | .lst xs => some (.p (.int (xs.length : Nat)))
  | _ => none
def absP : Pd → Option Th
  | .int i => some (.p (.int (if i < 0 then -i else i)))
  | _ => none
def tupP : Pd → Option Th
  | .tup xs => some (.p (.tup xs))
  | .lst xs => some (.p (.tup xs))
  | _ => none
def lstP : Pd → Option Th
  | .tup xs => some (.tmp (.lst xs))
  | .lst xs => some (.tmp (.lst xs))
  | _ => none
def allP : Pd → Option Th
  | .lst xs => (blsP xs).map fun bs => .p (.bl (bs.all id))
  | _ => none
def anyP : Pd → Option Th
  | .lst xs => (blsP xs).map fun bs => .p (.bl (bs.any id))
  | _ => none
def sumP : Pd → Option Th
  | .lst xs => (intsP xs).map fun bs => .p (.int bs.sum)
  | _ => none
/-- short data that repr tells -/
def isSeq : Pd → Bool
  | .lst _ => true
  | .tup _ => true
  | _ => false
def reprP (x : Pd) : Option Th :=
  if (flat 50 x && (toD x).showable && decide ((toD x).shown.length ≤ 16777216) && PyData.strOk (toD x).shown && isSeq x) = true then some (.p (.str (toD x).shown)) else none
theorem cr1 {f : Value} {g : Pd → Option Th} (h : ∀ (pins : List (Addr × Obj)) (s : Shared) (σ : Sl) (w : Wd) (x : Pd) (v : V) (u : Value) (d : Th) (Q : VK), Inv X pins σ w.H s → HR C w → RV C w x v → RelV v u → g x = some d →
    (∀ w' z, w'.h = w.h → HR C w' → Ext 0 w w' → RT C w' w.H d z → Q z w'.H) → wpAny (model X.prog X.w) X.A (call f [u]) (EP X pins σ Q) X.xe s) : CallR X f (rC1 C g) := by
  intro pins s σ H xs us Q I r hq
  obtain ⟨v, rfl, w, x, d, rfl, hr, rx, e, q⟩ := hq
  obtain ⟨u, rfl, ru⟩ := vals1 r
  exact h pins s σ w x v u d Q I hr rx ru e q
theorem ok_len (hK : X.K = C.K) : CallR X (.builtin "len") (rC1 C lenP) := cr1 fun pins s σ w x v u d Q I hr rx ru e q => by
  unfold lenP at e
  split at e
  · cases e
    obtain ⟨ez, _, l⟩ := rv_str rx
    exact call_len pins s σ w.H [v] [u] Q I (.cons ru .nil) ⟨v, _, rfl, by rw [ez]; exact ⟨l, rfl⟩, q w _ rfl hr Ext.refl (rt_p rp_int)⟩
  · cases e
    obtain ⟨a, vs, ez, sq, rs⟩ := rv_tup rx
    exact call_len pins s σ w.H [v] [u] Q I (.cons ru .nil) ⟨v, _, rfl, by rw [ez, hK]; exact .inr ⟨vs, sq, rps_len _ _ rs⟩, q w _ rfl hr Ext.refl (rt_p rp_int)⟩
  · cases e
    obtain ⟨a, vs, ez, sq, rs⟩ := rv_lst rx
    exact call_len pins s σ w.H [v] [u] Q I (.cons ru .nil) ⟨v, _, rfl, by rw [ez, hK]; exact .inl ⟨vs, sq, rps_len _ _ rs⟩, q w _ rfl hr Ext.refl (rt_p rp_int)⟩
  · cases e
theorem ok_abs : CallR X (.builtin "abs") (rC1 C absP) := cr1 fun pins s σ w x v u d Q I hr rx ru e q => by
  unfold absP at e
  split at e
  · cases e
    rw [rv_int rx] at ru
    exact call_abs pins s σ w.H _ [u] Q I (.cons ru .nil) ⟨_, rfl, q w _ rfl hr Ext.refl (rt_p rp_int)⟩
  · cases e
theorem ok_tup (hK : X.K = C.K) : CallR X (.type "tuple") (rC1 C tupP) := cr1 fun pins s σ w x v u d Q I hr rx ru e q => by
  unfold tupP at e
  split at e
  · cases e
    obtain ⟨a, vs, ez, sq, rs⟩ := rv_tup rx
    refine call_tuple_of pins s σ w.H [v] [u] Q I (.cons ru .nil) ⟨a, vs, by rw [ez], .inr ⟨by rw [hK]; exact sq, q w _ rfl hr Ext.refl ?_⟩⟩
    show RPg C w.g (.tup _) _
    unfold RPg
    exact ⟨a, vs, rfl, sq, rs⟩
  · cases e
    obtain ⟨a, vs, ez, sq, rs⟩ := rv_lst rx
    exact call_tuple_of pins s σ w.H [v] [u] Q I (.cons ru .nil) ⟨a, vs, by rw [ez], .inl ⟨by rw [hK]; exact sq, fun p hp => q (w.al p _) _ rfl (hr_al hr hp) (ext_al hp) (rt_p (new_tup hr hp rs))⟩⟩
  · cases e
theorem ok_lst (hK : X.K = C.K) : CallR X (.type "list") (rC1 C lstP) := cr1 fun pins s σ w x v u d Q I hr rx ru e q => by
  unfold lstP at e
  split at e
  · cases e
    obtain ⟨a, vs, ez, sq, rs⟩ := rv_tup rx
    exact call_list_of pins s σ w.H [v] [u] Q I (.cons ru .nil) ⟨a, vs, by rw [ez], .inr (by rw [hK]; exact sq), fun p hp => q (w.al p _) _ rfl (hr_al hr hp) (ext_al hp) (new_lst hr hp rs)⟩
  · cases e
    obtain ⟨a, vs, ez, sq, rs⟩ := rv_lst rx
    exact call_list_of pins s σ w.H [v] [u] Q I (.cons ru .nil) ⟨a, vs, by rw [ez], .inl (by rw [hK]; exact sq), fun p hp => q (w.al p _) _ rfl (hr_al hr hp) (ext_al hp) (new_lst hr hp rs)⟩
  · cases e
theorem ok_all (hK : X.K = C.K) (hc : X.calm = true) : CallR X (.builtin "all") (rC1 C allP) := cr1 fun pins s σ w x v u d Q I hr rx ru e q => by
  unfold allP at e
  split at e
  · obtain ⟨bs, eb, rfl⟩ := Option.map_eq_some_iff.mp e
    obtain ⟨a, vs, ez, sq, rs⟩ := rv_lst rx
    rw [bls_of rs eb, ← hK] at sq
    exact cr_all hc pins s σ w.H [v] [u] Q I (.cons ru .nil) ⟨a, bs, by rw [ez], sq, q w _ rfl hr Ext.refl (rt_p rp_bl)⟩
  · cases e
theorem ok_any (hK : X.K = C.K) (hc : X.calm = true) : CallR X (.builtin "any") (rC1 C anyP) := cr1 fun pins s σ w x v u d Q I hr rx ru e q => by
  unfold anyP at e
  split at e
  · obtain ⟨bs, eb, rfl⟩ := Option.map_eq_some_iff.mp e
    obtain ⟨a, vs, ez, sq, rs⟩ := rv_lst rx
    rw [bls_of rs eb, ← hK] at sq
    exact cr_any hc pins s σ w.H [v] [u] Q I (.cons ru .nil) ⟨a, bs, by rw [ez], sq, q w _ rfl hr Ext.refl (rt_p rp_bl)⟩
  · cases e
theorem ok_sum (hK : X.K = C.K) (hc : X.calm = true) : CallR X (.builtin "sum") (rC1 C sumP) := cr1 fun pins s σ w x v u d Q I hr rx ru e q => by
  unfold sumP at e
  split at e
  · obtain ⟨bs, eb, rfl⟩ := Option.map_eq_some_iff.mp e
    obtain ⟨a, vs, ez, sq, rs⟩ := rv_lst rx
    rw [ints_of rs eb, ← hK] at sq
    exact cr_sum hc pins s σ w.H [v] [u] Q I (.cons ru .nil) ⟨a, bs, by rw [ez], sq, q w _ rfl hr Ext.refl (rt_p rp_int)⟩
  · cases e
theorem ok_repr (hK : X.K = C.K) (hu : X.A.units + 64 < cLine) (hg : X.A.guards = some []) : CallR X (.builtin "repr") (rC1 C reprP) := cr1 fun pins s σ w x v u d Q I hr rx ru e q => by
  unfold reprP at e
  split at e
  · rename_i hc
    cases e
    simp only [Bool.and_eq_true, decide_eq_true_eq] at hc
    obtain ⟨⟨⟨⟨h1, h2⟩, h3⟩, h4⟩, h5⟩ := hc
    obtain ⟨d1, c1⟩ := dp_of 50 x v h1 rx
    rw [← hK] at d1
    obtain ⟨as, r1⟩ := Dp.reads I _ _ _ d1 ru
    have p1 := depth_flat 50 x h1
    have hS := sizeLine_eq
    have fin : ∀ h' u tk, (∀ b o, s.heap.get? b = some o → h'.get? b = some o) → EP X pins σ Q (.str (toD x).shown u) { s with heap := h', toks := tk } := fun h' u tk k =>
      ⟨.str _, w.H, I.kept k, ⟨_, rfl⟩, q w _ rfl hr Ext.refl (rt_p (rp_str h4 (by omega)))⟩
    have go : ∀ a, v = .ref a → wpAny (model X.prog X.w) X.A (call (.builtin "repr") [u]) (EP X pins σ Q) X.xe s := fun a ea => by
      rw [ea] at ru
      obtain rfl : u = Value.ref a := ru
      exact repr_of_reads' r1 h2 (PyData.noDict_hsm (PyData.hasDict_of_canLay _ c1)) hg (by omega) (fun _ _ z => z) fin (by omega)
    cases x with
    | lst xs =>
      obtain ⟨a, vs, ez, _⟩ := rv_lst rx
      exact go a ez
    | tup xs =>
      obtain ⟨a, vs, ez, _⟩ := rv_tup rx
      exact go a ez
    | _ => cases h5
  · cases e
end
end Pv

/-! ## text Pv8 -/
set_option Elab.async false
set_option linter.all false
set_option maxRecDepth 100000
set_option autoImplicit false
/-! Pv8: argument lists, displays, the call of a def. -/
namespace Pv
open PySem PySem.Spec PyProof.Rows L2

/-! ### argument lists -/
def stow : Th → Th
  | .tmp x => .p x
  | d => d
def sArgs : List SE → SA
  | [] => fun _ h => .ok [] h
  | f :: r => fun δ h => (f δ h).bind fun d h => (sArgs r δ h).bind fun ds h => .ok (stow d :: ds) h
/-- items made plain, one behind the other -/
def sPl : List SE → En → Hs → Rs (List Pd)
  | [] => fun _ h => .ok [] h
  | f :: r => fun δ h => (f δ h).bind fun d h => match plain d h with
    | some (x, h) => (sPl r δ h).bind fun xs h => .ok (x :: xs) h
    | none => .bad
def sTup (r : En → Hs → Rs (List Pd)) : SE := fun δ h => (r δ h).bind fun xs h => if xs.length ≤ 16777216 then .ok (.p (.tup xs)) h else .bad
def sLst (r : En → Hs → Rs (List Pd)) : SE := fun δ h => (r δ h).bind fun xs h => if xs.length ≤ 16777216 then .ok (.tmp (.lst xs)) h else .bad
/-- plain items wanted -/
def Pop (X : Kx) (w : Wd) (σ : Sl) (Q : List V → Hp → Prop) : Rs (List Pd) → Prop
  | .ok xs h' => ∀ w' vs, w'.h = h' → HR X.C w' → Ext 0 w w' → RPs X.C w' xs vs → Q vs w'.H
  | .exc c fs h' => ∀ w' cls d, w'.h = h' → HR X.C w' → Ext 0 w w' → RX X.C w' c fs cls d → X.W cls d σ w'.H
  | .bad => False
def tP (X : Kx) (f : En → Hs → Rs (List Pd)) : TA := fun σ H Q => ∃ w δ, At X σ H w δ ∧ Pop X w σ Q (f δ w.h)
section
variable {Z : Kx} {w w1 : Wd} {σ : Sl} {δ : En}
theorem pop_mono {Q Q' : List V → Hp → Prop} {r : Rs (List Pd)} (h : Pop Z w σ Q r) (k : ∀ v H, Q v H → Q' v H) : Pop Z w σ Q' r := by
  cases r with
  | ok d h' => exact fun w' v e hr x t => k _ _ (h w' v e hr x t)
  | exc c fs h' => exact h
  | bad => exact h
theorem pop_ext {Q : List V → Hp → Prop} {r : Rs (List Pd)} (x : Ext 0 w w1) (h : Pop Z w σ Q r) : Pop Z w1 σ Q r := by
  cases r with
  | ok d h' => exact fun w' v e hr y t => h w' v e hr (x.trans y) t
  | exc c fs h' => exact fun w' cls d e hr y t => h w' cls d e hr (x.trans y) t
  | bad => exact h
theorem po_bindP {Q : VK} {r : Rs (List Pd)} {k : List Pd → Hs → Rs Th} (h : Po Z w σ Q (r.bind k)) :
    Pop Z w σ (fun vs H1 => ∃ w1 xs, w1.H = H1 ∧ HR Z.C w1 ∧ Ext 0 w w1 ∧ RPs Z.C w1 xs vs ∧ Po Z w σ Q (k xs w1.h)) r := by
  cases r with
  | ok d h' =>
    intro w1 v e hr x t
    refine ⟨w1, d, rfl, hr, x, t, ?_⟩
    rw [e]
    exact h
  | exc c fs h' => exact h
  | bad => exact h
theorem pop_bind {Q : List V → Hp → Prop} {r : Rs Th} {k : Th → Hs → Rs (List Pd)} (h : Pop Z w σ Q (r.bind k)) :
    Po Z w σ (fun v H1 => ∃ w1 d, w1.H = H1 ∧ HR Z.C w1 ∧ Ext 0 w w1 ∧ RT Z.C w1 w.H d v ∧ Pop Z w σ Q (k d w1.h)) r := by
  cases r with
  | ok d h' =>
    intro w1 v e hr x t
    refine ⟨w1, d, rfl, hr, x, t, ?_⟩
    rw [e]
    exact h
  | exc c fs h' => exact h
  | bad => exact h
theorem pop_bindP {Q : List V → Hp → Prop} {r : Rs (List Pd)} {k : List Pd → Hs → Rs (List Pd)} (h : Pop Z w σ Q (r.bind k)) :
    Pop Z w σ (fun vs H1 => ∃ w1 xs, w1.H = H1 ∧ HR Z.C w1 ∧ Ext 0 w w1 ∧ RPs Z.C w1 xs vs ∧ Pop Z w σ Q (k xs w1.h)) r := by
  cases r with
  | ok d h' =>
    intro w1 v e hr x t
    refine ⟨w1, d, rfl, hr, x, t, ?_⟩
    rw [e]
    exact h
  | exc c fs h' => exact h
  | bad => exact h
/-- a thing put by: the world behind -/
theorem stow_ok {C : Ct} {n : Nat} {w0 : Wd} (hr : HR C w) (x : Ext n w0 w) {d : Th} {v : V} (t : RT C w w0.H d v) : ∃ w', w'.h = w.h ∧ w'.H = w.H ∧ HR C w' ∧ Ext n w0 w' ∧ isTmp (stow d) = false ∧ RT C w' (fun _ => none) (stow d) v := by
  cases d with
  | p z => exact ⟨w, rfl, rfl, hr, x, rfl, t⟩
  | ref l => exact ⟨w, rfl, rfl, hr, x, rfl, t⟩
  | exc c fs => exact ⟨w, rfl, rfl, hr, x, rfl, t⟩
  | tmp z =>
    obtain ⟨w', e1, e2, e3, e4, e5⟩ := plain_ok hr x t (show plain (.tmp z) w.h = some (z, w.h) from rfl)
    exact ⟨w', e1, e2, e3, e4, rfl, e5⟩
variable {Y : Cx} {e : Expr} {es : List Expr} {f : SE} {fs : List SE}
theorem rd_nil {Q : List V → Hp → Prop} {H : Hp} (h : tA Z (sArgs []) σ H Q) : tNil σ H Q := by
  obtain ⟨w, δ, a, h⟩ := h
  have q := h w [] rfl a.hr Ext.refl .nil
  rw [a.eH] at q
  exact q
theorem rts_ext {C : Ct} {n : Nat} {w w' : Wd} {ds : List Th} {vs : List V} (hr : HR C w) (x : Ext 0 w w') (h : RTs C w ds vs) : RTs C w' ds vs := Paired.mapP h fun _ _ z => ⟨z.1, rt_ext0 hr x z.2⟩
theorem rd_cons {Q : List V → Hp → Prop} {H : Hp} (h : tA Z (sArgs (f :: fs)) σ H Q) : tCons (tE Z f) (tA Z (sArgs fs)) σ H Q := by
  obtain ⟨w, δ, a, h⟩ := h
  refine ⟨w, δ, a, po_mono (pos_bind h) fun v H1 ⟨w1, d, e1, hr, x, t, h1⟩ => ?_⟩
  subst e1
  obtain ⟨w2, e1, e2, hr2, x2, t1, t2⟩ := stow_ok hr x t
  rw [← e1] at h1
  rw [← e2]
  refine ⟨w2, δ, a.on hr2 x2, ?_⟩
  have h2 : PoL Z w2 σ Q ((sArgs fs δ w2.h).bind fun ds h => .ok (stow d :: ds) h) := pos_ext x2 h1
  refine pos_mono (pos_bindA h2) fun us H3 ⟨w3, ds, e3, hr3, x3, t3, h3⟩ => ?_
  subst e3
  exact h3 w3 (v :: us) rfl hr3 x3 (.cons ⟨t1, rt_ext0 hr2 x3 t2⟩ t3)
theorem rd_pnil {Q : List V → Hp → Prop} {H : Hp} (h : tP Z (sPl []) σ H Q) : tNil σ H Q := by
  obtain ⟨w, δ, a, h⟩ := h
  have q := h w [] rfl a.hr Ext.refl rps_nil
  rw [a.eH] at q
  exact q
theorem rd_pcons {Q : List V → Hp → Prop} {H : Hp} (h : tP Z (sPl (f :: fs)) σ H Q) : tCons (tE Z f) (tP Z (sPl fs)) σ H Q := by
  obtain ⟨w, δ, a, h⟩ := h
  refine ⟨w, δ, a, po_mono (pop_bind h) fun v H1 ⟨w1, d, e1, hr, x, t, h1⟩ => ?_⟩
  subst e1
  split at h1
  · rename_i y h' ep
    obtain ⟨w2, e1, e2, hr2, x2, t2⟩ := plain_ok hr x t ep
    rw [← e1] at h1
    rw [← e2]
    refine ⟨w2, δ, a.on hr2 x2, ?_⟩
    refine pop_mono (pop_bindP (pop_ext x2 h1)) fun us H3 ⟨w3, xs, e3, hr3, x3, t3, h3⟩ => ?_
    subst e3
    exact h3 w3 (v :: us) rfl hr3 x3 (rps_cons (rp_ext hr2 x3 _ _ t2) t3)
  · exact False.elim h1
theorem rd_tup {r : En → Hs → Rs (List Pd)} {Q : VK} {H : Hp} (h : tE Z (sTup r) σ H Q) : tTup (tP Z r) σ H Q := by
  obtain ⟨w, δ, a, h⟩ := h
  refine ⟨w, δ, a, pop_mono (po_bindP h) fun vs H1 ⟨w1, xs, e1, hr, x, t, h1⟩ => ?_⟩
  subst e1
  have hS := sizeLine_eq
  split at h1
  · rename_i hl
    exact ⟨by rw [← rps_len _ _ t]; omega, fun p hp => h1 (w1.al p _) _ rfl (hr_al hr hp) (x.trans (ext_al hp)) (rt_p (new_tup hr hp t))⟩
  · exact False.elim h1
theorem rd_lst {r : En → Hs → Rs (List Pd)} {Q : VK} {H : Hp} (h : tE Z (sLst r) σ H Q) : tLst (tP Z r) σ H Q := by
  obtain ⟨w, δ, a, h⟩ := h
  refine ⟨w, δ, a, pop_mono (po_bindP h) fun vs H1 ⟨w1, xs, e1, hr, x, t, h1⟩ => ?_⟩
  subst e1
  have hS := sizeLine_eq
  split at h1
  · rename_i hl
    exact ⟨by rw [← rps_len _ _ t]; omega, fun p hp => h1 (w1.al p _) _ rfl (hr_al hr hp) (x.trans (ext_al hp)) (rt_old (new_lst hr hp t) fun a z => x.none_of z)⟩
  · exact False.elim h1
end

/-! ### a def's promise -/
structure RoomV (k : Nat) (A : Around) : Prop where
  r : Room k A
  g : A.guards = some []
theorem RoomV.mono {j k : Nat} {A : Around} (r : RoomV k A) (h : j ≤ k) : RoomV j A := ⟨r.r.mono h, r.g⟩
theorem RoomV.deeper {k : Nat} {A : Around} (r : RoomV (k + 1) A) (env : Env) : RoomV k (A.deeper env) := ⟨r.r.deeper env, r.g⟩
structure FnV (C : Ct) (k : Nat) (f : Addr) (fd : FuncData) (ps : List Str) (sp : Sp) : Prop where
  len : ∀ vs H Q E, sp vs H Q E → vs.length = ps.length
  run : ∀ (A : Around) (outer : List Env) (s : Shared) (H : Hp) (args : Args) (us : List Value) (vs : List V) (Q : VK) (E : XK), RoomV k A → Env0 C.P C.w C.K C.mg C.base A outer s H → BindsTo s fd args (ps.zip us) → Vals vs us → sp vs H Q E →
    codeAny (model C.P C.w) A (.call (.ref f) args) (CR (CX C.P C.w) outer C.P C.w H s Q E) s
theorem fn_ofV {C : Ct} {k : Nat} {f : Addr} {name qual : Str} {params : Arguments} {body : List Stmt} {scope : Scope} {dV kV doc pm cdv ct oc : Value} {an od : Option Addr}
    {osl : Array (Option Value)} {N ps : List Str} {sp : Sp} (lk : C.K.lookup f = some ⟨oc, od, .func (PySem.W.fnOf name qual params body scope dV kV doc pm an cdv ct), osl⟩) (hcd : PySem.W.codeIn C.K cdv qual = true) (S : FnScope N ps scope)
    (len : ∀ vs H Q E, sp vs H Q E → vs.length = ps.length)
    (hbody : ∀ (A : Around) (outer : List Env) (s : Shared) (H : Hp) (vs : List V) (Q : VK) (E : XK), RoomV k (A.deeper (envOfC qual scope s.heap.objs.size f cdv)) → sp vs H Q E →
      ∃ t, PSs (cxOf (CX C.P C.w) C.P C.w C.K C.mg C.base N qual scope f cdv A outer s H E) body t ∧ t { nx := fun _ H' => Q .non H', rt := Q } (start N vs) H) :
    FnV C (k + 1) f (PySem.W.fnOf name qual params body scope dV kV doc pm an cdv ct) ps sp := by
  refine ⟨len, fun A outer s H args us vs Q E hr e0 hb r hsp => ?_⟩
  have hl := len _ _ _ _ hsp
  have KX : C.K.In s.heap := e0.mod.kin.keeps fun b o e => (e0.bs b o e).1
  have lim : s.heap.NoLimit := e0.mod.nolimit.keeps fun b o e => (e0.bs b o e).1
  have hkind : ∀ y ∈ ps.zip us, scope.names.lookup y.1 = some .local ∨ (scope.names.lookup y.1 = some .cell ∧ ((cellsFrom (s.heap.objs.size + 1) scope.names []).lookup y.1).isSome = true) := fun ⟨n, v⟩ hy => by
    rcases S.par n (List.of_mem_zip hy).1 with q | q
    · exact .inl q
    · exact .inr ⟨q, PySem.W.cellsFrom_some _ _ _ (.inl q)⟩
  refine codeAny_call_function hr.r.depth (KX _ _ lk) rfl S.co S.gen rfl (PySem.W.codeRec_of KX hcd) (hb _ _ _ _ ?_)
  refine wpAny_newFunctionEnv_cells S.kind hkind fun env he s1 x => ?_
  subst he
  refine ⟨lim.keeps x.toInCall.keep, codeAny_func ?_⟩
  obtain ⟨t, ht, hq⟩ := hbody A outer s H vs Q E (hr.deeper _) hsp
  have I : Inv (cxOf (CX C.P C.w) C.P C.w C.K C.mg C.base N qual scope f cdv A outer s H E) [] (start N vs) H s1 := inv_start S hr.r.hd e0 hl r x
  refine wpAny_mono (ht.run [] s1 (start N vs) H _ I hq) (fun fl s' hs => ?_) fun e s' hs => hs
  have fin : ∀ {σ' : Sl} {H' : Hp} {v : V} {u : Value}, Inv (cxOf (CX C.P C.w) C.P C.w C.K C.mg C.base N qual scope f cdv A outer s H E) [] σ' H' s' → RelV v u → Q v H' → CE outer C.P C.w H s Q u s' :=
    fun {σ' H' v u} J rv q => ⟨v, H', J.os, J.bare, J.base, J.hok, rv, q⟩
  cases fl with
  | ret u =>
    obtain ⟨v, σ', H', J, rv, q⟩ := hs
    exact fin J rv q
  | next =>
    obtain ⟨σ', H', J, q⟩ := hs
    exact fin (v := V.non) (u := Value.none) J rfl q
  | brk =>
    obtain ⟨_, _, _, q⟩ := hs
    exact False.elim q
  | cont =>
    obtain ⟨_, _, _, q⟩ := hs
    exact False.elim q
end Pv

/-! ## text Pv9 -/
set_option Elab.async false
set_option linter.all false
set_option maxRecDepth 100000
set_option autoImplicit false
/-! Pv9: the call of a def: its own small heap of what it is handed. -/
namespace Pv
open PySem PySem.Spec PyProof.Rows L2

/-! ### places -/
def posN (l : Nat) : List Nat → Nat
  | [] => 0
  | k :: r => if k = l then 0 else posN l r + 1
theorem posN_get {l : Nat} : ∀ {rs : List Nat}, l ∈ rs → rs[posN l rs]? = some l
  | [], h => absurd h List.not_mem_nil
  | k :: r, h => by
    unfold posN
    by_cases e : k = l
    · rw [if_pos e, e]
      rfl
    · rw [if_neg e, List.getElem?_cons_succ]
      rcases List.mem_cons.mp h with q | q
      · exact absurd q.symm e
      · exact posN_get q
def refsOf : List Th → List Nat
  | [] => []
  | .ref l :: r => if l ∈ refsOf r then refsOf r else l :: refsOf r
  | _ :: r => refsOf r
theorem refs_nodup : ∀ ds : List Th, (refsOf ds).Nodup
  | [] => List.nodup_nil
  | .ref l :: r => by
    unfold refsOf
    split
    · exact refs_nodup r
    · rename_i h
      exact List.nodup_cons.mpr ⟨h, refs_nodup r⟩
  | .p _ :: r => refs_nodup r
  | .tmp _ :: r => refs_nodup r
  | .exc _ _ :: r => refs_nodup r
theorem refs_mem : ∀ {ds : List Th} {l : Nat}, .ref l ∈ ds → l ∈ refsOf ds
  | [], l, h => absurd h List.not_mem_nil
  | d :: r, l, h => by
    rcases List.mem_cons.mp h with q | q
    · subst q
      unfold refsOf
      split
      · assumption
      · exact .head _
    · have ih := refs_mem q
      cases d with
      | ref k =>
        unfold refsOf
        split
        · exact ih
        · exact .tail _ ih
      | _ => exact ih
def argOk : Th → Bool
  | .p _ => true
  | .ref _ => true
  | _ => false
def argOf (rs : List Nat) : Th → Th
  | .ref l => .ref (posN l rs)
  | d => d
def resOf (rs : List Nat) : Th → Th
  | .ref i => .ref (rs.getD i 0)
  | d => d
def subH (h : Hs) : List Nat → Option Hs
  | [] => some []
  | l :: r => match h[l]?, subH h r with
    | some o, some t => some (o :: t)
    | _, _ => none
def putH (h : Hs) : List Nat → Hs → Hs
  | l :: r, o :: t => (putH h r t).set l o
  | _, _ => h
/-- a def's reading: things in, a thing out; the heap: the objects that are handed in -/
abbrev SF := List Th → Hs → Rs Th
def callF (run : SF) (ds : List Th) (h : Hs) : Rs Th :=
  if ds.all argOk = true then match subH h (refsOf ds) with
    | some hs => match run (ds.map (argOf (refsOf ds))) hs with
      | .ok d hs' => .ok (resOf (refsOf ds) d) (putH h (refsOf ds) hs')
      | .exc c fs hs' => .exc c fs (putH h (refsOf ds) hs')
      | .bad => .bad
    | none => .bad
  else .bad
/-- what a def's promise is, by its reading -/
def spOf (C : Ct) (ps : List Str) (run : SF) : Sp := fun vs H Q E => vs.length = ps.length ∧ ∃ w ds, w.H = H ∧ HR C w ∧ w.ex = none ∧ ds.all argOk = true ∧ Paired (RT C w fun _ => none) ds vs ∧
  Po ⟨C, fun cls d _ H => E cls d H, none⟩ w [] Q (run ds w.h)

theorem subH_len {h : Hs} : ∀ {rs : List Nat} {hs : Hs}, subH h rs = some hs → hs.length = rs.length
  | [], hs, e => by cases e; rfl
  | l :: r, hs, e => by
    unfold subH at e
    split at e
    · rename_i o t e1 e2
      cases e
      rw [List.length_cons, List.length_cons, subH_len e2]
    · cases e
theorem subH_get {h : Hs} : ∀ {rs : List Nat} {hs : Hs} {i l : Nat}, subH h rs = some hs → rs[i]? = some l → hs[i]? = h[l]? ∧ l < h.length
  | [], hs, i, l, e, q => by simp at q
  | k :: r, hs, i, l, e, q => by
    unfold subH at e
    split at e
    · rename_i o t e1 e2
      cases e
      cases i with
      | zero =>
        simp at q
        subst q
        exact ⟨e1.symm, (List.getElem?_eq_some_iff.mp e1).1⟩
      | succ i =>
        rw [List.getElem?_cons_succ] at q ⊢
        exact subH_get e2 q
    · cases e
theorem putH_len {h : Hs} : ∀ (rs : List Nat) (hs : Hs), (putH h rs hs).length = h.length
  | [], hs => rfl
  | l :: r, [] => rfl
  | l :: r, o :: t => by
    unfold putH
    rw [List.length_set, putH_len r t]
theorem putH_out {h : Hs} {l : Nat} : ∀ {rs : List Nat} {hs : Hs}, l ∉ rs → (putH h rs hs)[l]? = h[l]?
  | [], hs, n => rfl
  | k :: r, [], n => rfl
  | k :: r, o :: t, n => by
    unfold putH
    have h1 : k ≠ l := fun e => n (e ▸ .head _)
    rw [List.getElem?_set_ne h1]
    exact putH_out fun z => n (.tail _ z)
theorem putH_in {h : Hs} {i l : Nat} : ∀ {rs : List Nat} {hs : Hs}, rs.Nodup → hs.length = rs.length → rs[i]? = some l → l < h.length → (putH h rs hs)[l]? = hs[i]?
  | [], hs, _, _, q, _ => by simp at q
  | k :: r, [], _, z, _, _ => by simp at z
  | k :: r, o :: t, nd, z, q, lt => by
    unfold putH
    obtain ⟨n1, n2⟩ := List.nodup_cons.mp nd
    cases i with
    | zero =>
      simp at q
      subst q
      rw [List.getElem?_set_self (by rw [putH_len]; exact lt)]
      rfl
    | succ i =>
      rw [List.getElem?_cons_succ] at q ⊢
      have ne : k ≠ l := fun e => n1 (by rw [e]; exact List.mem_of_getElem? q)
      rw [List.getElem?_set_ne ne]
      exact putH_in n2 (by simpa using z) q lt

theorem nd_ix {α : Type} : ∀ {l : List α} {i j : Nat} {x : α}, l.Nodup → l[i]? = some x → l[j]? = some x → i = j
  | [], i, j, x, _, h, _ => by simp at h
  | a :: l, 0, 0, x, _, _, _ => rfl
  | a :: l, 0, j + 1, x, nd, h, k => by
    simp at h k
    subst h
    exact absurd (List.mem_of_getElem? k) (List.nodup_cons.mp nd).1
  | a :: l, i + 1, 0, x, nd, h, k => by
    simp at h k
    subst k
    exact absurd (List.mem_of_getElem? h) (List.nodup_cons.mp nd).1
  | a :: l, i + 1, j + 1, x, nd, h, k => by
    have h : l[i]? = some x := by simpa using h
    have k : l[j]? = some x := by simpa using k
    rw [nd_ix (List.nodup_cons.mp nd).2 h k]
section
variable {C : Ct} {w w1 : Wd} {rs : List Nat}
/-- the world of what is handed in -/
def Wd.sub (w : Wd) (rs : List Nat) (hs : Hs) : Wd := ⟨rs.map fun l => w.ms.getD l 0, hs, w.g, none⟩
theorem sub_ms (hr : HR C w) {hs : Hs} (e : subH w.h rs = some hs) {i l : Nat} (q : rs[i]? = some l) : (w.sub rs hs).ms[i]? = w.ms[l]? := by
  have lt := (subH_get e q).2
  rw [← hr.len] at lt
  show (rs.map fun l => w.ms.getD l 0)[i]? = _
  rw [List.getElem?_map, q]
  show some (w.ms.getD l 0) = w.ms[l]?
  rw [List.getD_eq_getElem?_getD, List.getElem?_eq_getElem lt]
  rfl
theorem sub_ix {hs : Hs} (e : subH w.h rs = some hs) {i : Nat} (h : i < hs.length) : ∃ l, rs[i]? = some l := by
  rw [subH_len e] at h
  exact ⟨rs[i], List.getElem?_eq_getElem h⟩
theorem sub_alive {hs : Hs} (e : subH w.h rs = some hs) {i : Nat} (a : alive hs i) : ∃ l, rs[i]? = some l ∧ alive w.h l := by
  obtain ⟨x, q⟩ := a
  obtain ⟨l, z⟩ := sub_ix e (List.getElem?_eq_some_iff.mp q).1
  exact ⟨l, z, x, by rw [← (subH_get e z).1]; exact q⟩
theorem sub_live (hr : HR C w) {hs : Hs} (e : subH w.h rs = some hs) {a : Addr} (h : (w.sub rs hs).live a) : ∃ l ∈ rs, alive w.h l ∧ w.ms[l]? = some a := by
  obtain ⟨i, al, m⟩ := h
  obtain ⟨l, z, al'⟩ := sub_alive e al
  exact ⟨l, List.mem_of_getElem? z, al', by rw [← sub_ms hr e z]; exact m⟩
theorem hr_sub (hr : HR C w) {hs : Hs} (nd : rs.Nodup) (e : subH w.h rs = some hs) : HR C (w.sub rs hs) where
  len := by show (rs.map _).length = hs.length; rw [List.length_map, subH_len e]
  obj := fun i o a q m => by
    have q : hs[i]? = some o := q
    obtain ⟨l, z⟩ := sub_ix e (List.getElem?_eq_some_iff.mp q).1
    rw [(subH_get e z).1] at q
    rw [sub_ms hr e z] at m
    have r := hr.obj l o a q m
    cases o with
    | dead => trivial
    | own x => exact r
    | frz x => exact r
  nf := fun a h => by
    obtain ⟨l, _, al, m⟩ := sub_live hr e h
    exact hr.nf a ⟨l, al, m⟩
  inj := fun i j a h1 h2 m1 m2 => by
    obtain ⟨l1, z1, a1⟩ := sub_alive e h1
    obtain ⟨l2, z2, a2⟩ := sub_alive e h2
    rw [sub_ms hr e z1] at m1
    rw [sub_ms hr e z2] at m2
    have q := hr.inj l1 l2 a a1 a2 m1 m2
    subst q
    exact nd_ix nd z1 z2
  fh := hr.fh
/-- .. and behind the call -/
def Wd.back (w : Wd) (rs : List Nat) (w1 : Wd) : Wd := ⟨w.ms, putH w.h rs w1.h, w1.g, w.ex⟩
theorem back_alive {hs : Hs} (nd : rs.Nodup) (e : subH w.h rs = some hs) (x : Ext 0 (w.sub rs hs) w1) {l : Nat} (h : alive (putH w.h rs w1.h) l) : alive w.h l := by
  obtain ⟨y, q⟩ := h
  by_cases hl : l ∈ rs
  · obtain ⟨i, hi, z⟩ := List.mem_iff_getElem.mp hl
    have z' : rs[i]? = some l := by rw [List.getElem?_eq_getElem hi, z]
    rw [putH_in nd (x.ln.trans (subH_len e)) z' (subH_get e z').2] at q
    obtain ⟨l', z2, al⟩ := sub_alive e (x.lv i (Nat.zero_le _) ⟨y, q⟩)
    rw [z'] at z2
    cases z2
    exact al
  · exact ⟨y, by rw [putH_out hl] at q; exact q⟩
theorem ext_back (hr : HR C w) {hs : Hs} (nd : rs.Nodup) (e : subH w.h rs = some hs) (x : Ext 0 (w.sub rs hs) w1) : Ext 0 w (w.back rs w1) where
  fr := fun a o q n => x.fr a o q fun z => by
    obtain ⟨l, _, al, m⟩ := sub_live hr e z
    exact n ⟨l, al, m⟩
  tr := x.tr
  ff := x.ff
  fn := fun a f => by
    rcases x.fn a f with z | z | z
    · exact .inl z
    · exact .inr (.inl z)
    · obtain ⟨l, _, al, m⟩ := sub_live hr e z
      exact .inr (.inr ⟨l, al, m⟩)
  lv := fun l _ h => back_alive nd e x h
  mm := fun _ _ => rfl
  nw := fun l a h => absurd h (Nat.not_lt_zero _)
  ln := putH_len _ _
  ex := rfl
theorem hr_back (hr : HR C w) {hs : Hs} (nd : rs.Nodup) (e : subH w.h rs = some hs) (x : Ext 0 (w.sub rs hs) w1) (hr1 : HR C w1) : HR C (w.back rs w1) where
  len := by show w.ms.length = (putH w.h rs w1.h).length; rw [putH_len]; exact hr.len
  obj := fun l o a q m => by
    have q : (putH w.h rs w1.h)[l]? = some o := q
    have m : w.ms[l]? = some a := m
    by_cases hl : l ∈ rs
    · obtain ⟨i, hi, z⟩ := List.mem_iff_getElem.mp hl
      have z' : rs[i]? = some l := by rw [List.getElem?_eq_getElem hi, z]
      rw [putH_in nd (x.ln.trans (subH_len e)) z' (subH_get e z').2] at q
      have m1 : w1.ms[i]? = some a := by rw [x.mm i (Nat.zero_le _), sub_ms hr e z']; exact m
      have r := hr1.obj i o a q m1
      cases o with
      | dead => trivial
      | own x => exact r
      | frz x => exact r
    · rw [putH_out hl] at q
      have r := hr.obj l o a q m
      have E := ext_back hr nd e x
      cases o with
      | dead => trivial
      | own y =>
        refine ob_ext hr E (fun u z => x.fr a u z fun k => ?_) r
        obtain ⟨l', h1, al, m'⟩ := sub_live hr e k
        exact hl ((hr.inj l l' a ⟨_, q⟩ al m m') ▸ h1)
      | frz y => exact ⟨ob_ext hr E (fun u z => E.fr a u z fun k => hr.nf a k r.2) r.1, x.ff a r.2⟩
  nf := fun a ⟨l, al, m⟩ f => by
    have m : w.ms[l]? = some a := m
    have al0 := back_alive nd e x al
    by_cases hl : l ∈ rs
    · obtain ⟨i, hi, z⟩ := List.mem_iff_getElem.mp hl
      have z' : rs[i]? = some l := by rw [List.getElem?_eq_getElem hi, z]
      obtain ⟨y, q⟩ := al
      have q : (putH w.h rs w1.h)[l]? = some (.own y) := q
      rw [putH_in nd (x.ln.trans (subH_len e)) z' (subH_get e z').2] at q
      exact hr1.nf a ⟨i, ⟨y, q⟩, by rw [x.mm i (Nat.zero_le _), sub_ms hr e z']; exact m⟩ f
    · rcases x.fn a f with k | k | k
      · exact hr.nf a ⟨l, al0, m⟩ k
      · exact live_there hr ⟨l, al0, m⟩ k
      · obtain ⟨l', h1, al', m'⟩ := sub_live hr e k
        exact hl ((hr.inj l l' a al0 al' m m') ▸ h1)
  inj := fun l l' a h1 h2 m1 m2 => hr.inj l l' a (back_alive nd e x h1) (back_alive nd e x h2) m1 m2
  fh := hr1.fh
theorem rt_back (hr : HR C w) {hs : Hs} (nd : rs.Nodup) (e : subH w.h rs = some hs) (x : Ext 0 (w.sub rs hs) w1) {d : Th} {v : V} (h : RT C w1 w.H d v) : RT C (w.back rs w1) w.H (resOf rs d) v := by
  cases d with
  | p y => exact h
  | ref i =>
    obtain ⟨a, m, ev⟩ := h
    rw [x.mm i (Nat.zero_le _)] at m
    have lt := (List.getElem?_eq_some_iff.mp m).1
    have lt : i < rs.length := by simpa [Wd.sub] using lt
    have z : rs[i]? = some (rs.getD i 0) := by rw [List.getD_eq_getElem?_getD, List.getElem?_eq_getElem lt]; rfl
    rw [sub_ms hr e z] at m
    exact ⟨a, m, ev⟩
  | tmp y =>
    obtain ⟨a, ev, o, f, n, z⟩ := h
    refine ⟨a, ev, o, f, fun k => ?_, z⟩
    obtain ⟨l, al, m⟩ := k
    exact live_there hr ⟨l, back_alive nd e x al, m⟩ z
  | exc c fs =>
    obtain ⟨a, m, ev⟩ := h
    rw [x.ex] at m
    cases m
theorem rt_sub (hr : HR C w) {hs : Hs} (e : subH w.h rs = some hs) {d : Th} {v : V} (k : argOk d = true) (hl : ∀ l, d = .ref l → l ∈ rs) (h : RT C w (fun _ => none) d v) : RT C (w.sub rs hs) (fun _ => none) (argOf rs d) v := by
  cases d with
  | p y => exact h
  | ref l =>
    obtain ⟨a, m, ev⟩ := h
    exact ⟨a, by rw [sub_ms hr e (posN_get (hl l rfl))]; exact m, ev⟩
  | tmp y => cases k
  | exc c fs => cases k
theorem arg_ok {rs : List Nat} {d : Th} (h : argOk d = true) : argOk (argOf rs d) = true := by
  cases d <;> first | rfl | cases h
theorem paired_sub (hr : HR C w) {hs : Hs} (e : subH w.h rs = some hs) : ∀ {ds : List Th} {vs : List V}, ds.all argOk = true → (∀ l, .ref l ∈ ds → l ∈ rs) → Paired (RT C w fun _ => none) ds vs → Paired (RT C (w.sub rs hs) fun _ => none) (ds.map (argOf rs)) vs
  | _, _, _, _, .nil => .nil
  | d :: ds, v :: vs, k, hl, .cons r t => by
    rw [List.all_cons, Bool.and_eq_true] at k
    exact .cons (rt_sub hr e k.1 (fun l q => hl l (by rw [q]; exact .head _)) r) (paired_sub hr e k.2 (fun l q => hl l (.tail _ q)) t)
theorem all_argOk {rs : List Nat} {ds : List Th} (h : ds.all argOk = true) : (ds.map (argOf rs)).all argOk = true := by
  rw [List.all_map]
  rw [List.all_eq_true] at h ⊢
  exact fun d hd => arg_ok (h d hd)
/-- THE CALL: what is wanted behind it is what the promise gives -/
theorem sp_of_call {Z : Kx} {σ : Sl} {Q : VK} {run : SF} {ds : List Th} {vs : List V} {ps : List Str} (hr : HR Z.C w) (r : RTs Z.C w ds vs) (hl : vs.length = ps.length) (h : Po Z w σ Q (callF run ds w.h)) :
    spOf Z.C ps run vs w.H Q (fun cls d H' => Z.W cls d σ H') := by
  unfold callF at h
  split at h
  · rename_i hok
    split at h
    · rename_i hs e
      have nd := refs_nodup ds
      refine ⟨hl, w.sub (refsOf ds) hs, ds.map (argOf (refsOf ds)), rfl, hr_sub hr nd e, rfl, all_argOk hok, paired_sub hr e hok (fun l q => refs_mem q) (Paired.mapP r fun _ _ z => z.2), ?_⟩
      show Po _ (w.sub (refsOf ds) hs) [] Q (run (ds.map (argOf (refsOf ds))) hs)
      cases er : run (ds.map (argOf (refsOf ds))) hs with
      | ok d h' =>
        rw [er] at h
        intro w1 v e1 hr1 x t
        exact h (w.back (refsOf ds) w1) v (by show putH w.h (refsOf ds) w1.h = _; rw [e1]) (hr_back hr nd e x hr1) (ext_back hr nd e x) (rt_back hr nd e x t)
      | exc c fs h' =>
        rw [er] at h
        intro w1 cls d e1 hr1 x t
        exact h (w.back (refsOf ds) w1) cls d (by show putH w.h (refsOf ds) w1.h = _; rw [e1]) (hr_back hr nd e x hr1) (ext_back hr nd e x) t
      | bad =>
        rw [er] at h
        exact h
    · exact False.elim h
  · exact False.elim h
end
end Pv

/-! ## text Pva -/
set_option Elab.async false
set_option linter.all false
set_option maxRecDepth 100000
set_option autoImplicit false
/-! Pva: what a code block knows; names; calls of defs and built-in functions by name. -/
namespace Pv
open PySem PySem.Spec PyProof.Rows L2

/-- what is written of a code block -/
structure Si where
  N : List Str
  sc : Scope
  calm : Bool := true
  fn : Str → Bool := fun _ => true
  top : Bool := true
/-- a code block runs -/
structure Fit (Z : Kx) (si : Si) (k : Nat) (X : Cx) : Prop where
  P : X.prog = Z.C.P
  w : X.w = Z.C.w
  K : X.K = Z.C.K
  mg : X.mg = Z.C.mg
  base : X.base = Z.C.base
  N : X.N = si.N
  nd : si.N.Nodup
  sc : X.env.scope = si.sc
  un : X.A.units + 64 < cLine
  calm : si.calm = true → X.calm = true ∧ RoomV k X.A ∧ PassesOwn (model X.prog X.w) X.A X.env X.xe
  tk : Takes X Z.W
  fn : ∀ x, si.fn x = true → X.fn x = true
  exn : si.calm = true → Z.ex = none
  stk : si.top = true → X.stack = X.env :: X.outer ∧ X.env.frame = some X.env.locals
  ex : ∀ x, Z.ex = some x → ∃ oe, (x.a, oe) ∈ X.pn ∧ Zc x.cls x.d oe ∧ ∃ vs, oe.data = .fields vs

def isVis : Option NameKind → Bool
  | some .local => true
  | some .cell => true
  | some .free => true
  | _ => false
def okNm (x : Str) : Bool := !(x == ("__debug__" : Str)) && !(x == ("__classdict__" : Str)) && !(x == ("__name__" : Str))
def ixS (x : Str) : List Str → Option Nat
  | [] => none
  | y :: r => if x = y then some 0 else (ixS x r).map (· + 1)
theorem ixS_get {x : Str} : ∀ {l : List Str} {i : Nat}, ixS x l = some i → l[i]? = some x
  | [], i, h => by cases h
  | y :: r, i, h => by
    unfold ixS at h
    split at h
    · rename_i e
      cases h
      rw [e]
      rfl
    · obtain ⟨j, e, rfl⟩ := Option.map_eq_some_iff.mp h
      rw [List.getElem?_cons_succ]
      exact ixS_get e
/-- the slot of a name -/
def slot (si : Si) (x : Str) : Option Nat := if (isVis (si.sc.names.lookup x) && okNm x) = true then ixS x si.N else none
def glob (si : Si) (x : Str) : Bool := okNm x && decide (si.sc.names.lookup x = some .globalImplicit)

section
variable {Z : Kx} {si : Si} {k : Nat} {X : Cx} {x : Str} {i : Nat} {pos : PySem.Pos}
theorem okNm_d (h : okNm x = true) : (x == ("__debug__" : Str)) = false := by
  unfold okNm at h
  simp only [Bool.and_eq_true, Bool.not_eq_true'] at h
  exact h.1.1
theorem okNm_c (h : okNm x = true) : (x == ("__classdict__" : Str)) = false := by
  unfold okNm at h
  simp only [Bool.and_eq_true, Bool.not_eq_true'] at h
  exact h.1.2
theorem okNm_n (h : okNm x = true) : x ≠ "__name__" := by
  unfold okNm at h
  simp only [Bool.and_eq_true, Bool.not_eq_true'] at h
  exact fun e => by
    have z := h.2
    rw [e] at z
    simp at z
theorem slot_ok (F : Fit Z si k X) (h : slot si x = some i) : X.N[i]? = some x ∧ Vis X.env.scope x ∧ okNm x = true := by
  unfold slot at h
  split at h
  · rename_i e
    rw [Bool.and_eq_true] at e
    refine ⟨by rw [F.N]; exact ixS_get h, ?_, e.2⟩
    have e := e.1
    unfold Vis
    rw [F.sc]
    cases q : si.sc.names.lookup x with
    | none => rw [q] at e; cases e
    | some kd =>
      rw [q] at e
      cases kd <;> first | exact .inl rfl | exact .inr (.inl rfl) | exact .inr (.inr rfl) | cases e
  · cases h
theorem glob_ok (F : Fit Z si k X) (h : glob si x = true) : Gl X x ∧ okNm x = true := by
  unfold glob at h
  rw [Bool.and_eq_true] at h
  refine ⟨?_, h.1⟩
  show X.env.scope.names.lookup x = _
  rw [F.sc]
  exact of_decide_eq_true h.2
theorem pe_slot (F : Fit Z si k X) (h : slot si x = some i) : PE X (.Name x pos) (tE Z (sVar i)) := by
  obtain ⟨h1, h2, h3⟩ := slot_ok F h
  exact pe_imp (pe_var h1 h2 (okNm_d h3) (okNm_c h3)) fun σ H Q q => rd_var q
/-- a module's constant -/
def VarOk (C : Ct) (x : Str) (d : Pd) : Prop := ∃ u v, C.mg x = some u ∧ RelV v u ∧ ∀ w, RP C w d v
theorem pe_globV (F : Fit Z si k X) (h : glob si x = true) {d : Pd} (g : VarOk Z.C x d) : PE X (.Name x pos) (tE Z (sC d)) := by
  obtain ⟨u, v, h1, h2, h3⟩ := g
  obtain ⟨h4, h5⟩ := glob_ok F h
  exact pe_imp (pe_glob h4 (by rw [F.mg]; exact h1) h2 (okNm_d h5)) fun σ H Q q => rd_const h3 q
end

/-! ### written arguments -/
def noStar : Expr → Bool
  | .Starred _ _ => false
  | _ => true
theorem star_cons {e : Expr} {es : List Expr} {env : Env} (h : noStar e = true) : starEach (e :: es) env = (false, eval e env) :: starEach es env := by
  cases e <;> first | rfl | cases h
theorem star_any {pos : PySem.Pos} {env : Env} : ∀ {es : List Expr}, es.all noStar = true → (backTo pos (starEach es env)).any (·.1) = false
  | [], _ => rfl
  | e :: es, h => by
    rw [List.all_cons, Bool.and_eq_true] at h
    rw [star_cons h.1]
    show (false || (backTo pos (starEach es env)).any (·.1)) = false
    rw [star_any h.2]
    rfl
def kwN : List Keyword → Option (List Str)
  | [] => some []
  | ⟨some n, _, _⟩ :: r => (kwN r).map (n :: ·)
  | ⟨none, _, _⟩ :: _ => none
theorem kwN_ok {pos : PySem.Pos} {env : Env} : ∀ {kws : List Keyword} {ks : List Str}, kwN kws = some ks →
    (backToKw pos (keywordEach kws env)).all (·.1.isSome) = true ∧ (backToKw pos (keywordEach kws env)).filterMap (·.1) = ks ∧ (backToKw pos (keywordEach kws env)).any (·.1.isNone) = false
  | [], ks, h => by cases h; exact ⟨rfl, rfl, rfl⟩
  | ⟨some n, v, p⟩ :: r, ks, h => by
    obtain ⟨l, e, rfl⟩ := Option.map_eq_some_iff.mp (show (kwN r).map (n :: ·) = some ks from h)
    obtain ⟨h1, h2, h3⟩ := kwN_ok (pos := pos) (env := env) e
    refine ⟨?_, ?_, ?_⟩
    · show (true && (backToKw pos (keywordEach r env)).all (·.1.isSome)) = true
      rw [h1]
      rfl
    · show n :: (backToKw pos (keywordEach r env)).filterMap (·.1) = n :: l
      rw [h2]
    · show (false || (backToKw pos (keywordEach r env)).any (·.1.isNone)) = false
      rw [h3]
      rfl
  | ⟨none, _, _⟩ :: _, _, h => by cases h

/-! ### how arguments are bound -/
inductive Src where
  | pos (i : Nat) | kw (j : Nat) | df (j : Nat)
def pick {α : Type} (z : α) (src : List Src) (us ws ds : List α) : List α := src.map fun
  | .pos i => us.getD i z
  | .kw j => ws.getD j z
  | .df j => ds.getD j z
theorem paired_getD {α β : Type} {R : α → β → Prop} {z : α} {z' : β} (hz : R z z') : ∀ {xs : List α} {ys : List β} {i : Nat}, Paired R xs ys → R (xs.getD i z) (ys.getD i z')
  | _, _, _, .nil => by simpa using hz
  | _, _, 0, .cons r _ => r
  | _, _, i + 1, .cons _ t => by simpa using paired_getD (i := i) hz t
theorem pick_rel {α β : Type} {R : α → β → Prop} {z : α} {z' : β} (hz : R z z') {us ws ds : List α} {us' ws' ds' : List β} (h1 : Paired R us us') (h2 : Paired R ws ws') (h3 : Paired R ds ds') : ∀ src : List Src, Paired R (pick z src us ws ds) (pick z' src us' ws' ds')
  | [] => .nil
  | s :: r => by
    have ih := pick_rel hz h1 h2 h3 r
    cases s with
    | pos i => exact .cons (paired_getD hz h1) ih
    | kw i => exact .cons (paired_getD hz h2) ih
    | df i => exact .cons (paired_getD hz h3) ih
/-- a way to call a def: how many by place, which by name; where each parameter comes from -/
structure Pat where
  np : Nat
  ks : List Str
  src : List Src
  ds : List Pd := []
/-- a def, as it may be called -/
structure Fi where
  ps : List Str
  run : SF
  pats : List Pat
structure PatOk (C : Ct) (fd : FuncData) (ps : List Str) (p : Pat) : Prop where
  ex : ∃ (ds : List Value) (dvs : List V), Vals dvs ds ∧ (∀ w, RPs C w p.ds dvs) ∧ ∀ (s : Shared) (us ws : List Value), C.K.In s.heap → us.length = p.np → ws.length = p.ks.length → BindsTo s fd ⟨us, p.ks.zip ws⟩ (ps.zip (pick .none p.src us ws ds))
  len : p.src.length = ps.length
structure FiOk (C : Ct) (k : Nat) (x : Str) (fi : Fi) : Prop where
  ex : ∃ f fd, C.mg x = some (.ref f) ∧ PySem.W.keepIn C.K (.ref f) = true ∧ FnV C k f fd fi.ps (spOf C fi.ps fi.run) ∧ ∀ p ∈ fi.pats, PatOk C fd fi.ps p
def sCall (run : SF) (p : Pat) (a b : SA) : SE := fun δ h => (a δ h).bind fun us h => (b δ h).bind fun ws h =>
  if us.length = p.np ∧ ws.length = p.ks.length then callF run (pick (.p .non) p.src us ws (p.ds.map .p)) h else .bad

section
variable {Z : Kx} {si : Si} {k : Nat} {X : Cx} {x : Str} {pos q : PySem.Pos} {e : Expr} {es : List Expr} {kws : List Keyword} {ks : List Str}
theorem rts_ps {C : Ct} {w : Wd} : ∀ {xs : List Pd} {vs : List V}, RPs C w xs vs → Paired (fun d v => isTmp d = false ∧ RT C w (fun _ => none) d v) (xs.map Th.p) vs
  | [], vs, h => by
    unfold RPs RPgs at h
    rw [h]
    exact .nil
  | y :: xs, vs, h => by
    unfold RPs RPgs at h
    obtain ⟨v, r, rfl, h1, h2⟩ := h
    exact .cons ⟨rfl, h1⟩ (rts_ps h2)
theorem run_V {C : Ct} {pins : List (Addr × Obj)} {σ : Sl} {H : Hp} {s : Shared} {Q : VK} {f : Addr} {fd : FuncData} {ps : List Str} {sp : Sp} {us : List Value} {vs : List V} {E : XK} {kw : List (Str × Value)} {pv : List Value} (hP : X.prog = C.P) (hw : X.w = C.w) (hK : X.K = C.K) (hmg : X.mg = C.mg) (hb : X.base = C.base)
    (F : FnV C k f fd ps sp) (hr : RoomV k X.A) (b : BindsTo s fd ⟨pv, kw⟩ (ps.zip us)) (hx : PassesAt (CX X.prog X.w) X σ E)
    (I : Inv X pins σ H s) (r : Vals vs us) (h : sp vs H Q E) : wpAny (model X.prog X.w) X.A (call (.ref f) pv kw) (EP X pins σ Q) X.xe s := by
  have e0 := I.env0
  rw [hP, hw, hK, hmg, hb] at e0
  have run := F.run X.A X.stack s H ⟨pv, kw⟩ us vs Q E hr e0 b r h
  rw [← hP, ← hw] at run
  refine wpAny_call (codeAny_mono run fun r s' hq => ?_)
  cases r with
  | error e => exact hx pins H s e s' I hq
  | ok fl =>
    cases fl with
    | ret u => exact I.after hq
    | next => exact False.elim hq
    | brk => exact False.elim hq
    | cont => exact False.elim hq
/-- what is wanted of the arguments -/
theorem rd_call {run : SF} {p : Pat} {ps : List Str} {a b : SA} {dvs : List V} {σ : Sl} {H : Hp} {Q : VK} (hl : p.src.length = ps.length) (hd : ∀ w, RPs Z.C w p.ds dvs) (h : tE Z (sCall run p a b) σ H Q) :
    tA Z a σ H fun vs H1 => tA Z b σ H1 fun zs H2 => vs.length = p.np ∧ zs.length = p.ks.length ∧ spOf Z.C ps run (pick .non p.src vs zs dvs) H2 Q (fun cls d H' => Z.W cls d σ H') := by
  obtain ⟨w, δ, A, h⟩ := h
  refine ⟨w, δ, A, pos_mono (po_bindA h) fun vs H1 ⟨w1, ds, e1, hr, x, t, h1⟩ => ?_⟩
  subst e1
  refine ⟨w1, δ, A.on hr x, pos_mono (po_bindA (po_ext x h1)) fun zs H2 ⟨w2, ws, e2, hr2, x2, t2, h2⟩ => ?_⟩
  subst e2
  have h2 := po_ext x2 h2
  have t' := rts_ext (n := 0) hr x2 t
  split at h2
  · rename_i c
    refine ⟨by rw [← Paired.length t]; exact c.1, by rw [← Paired.length t2]; exact c.2, ?_⟩
    refine sp_of_call hr2 (pick_rel ⟨rfl, rt_p (w := w2) rp_non⟩ t' t2 (rts_ps (hd w2)) p.src) ?_ h2
    show (p.src.map _).length = _
    rw [List.length_map]
    exact hl
  · exact False.elim h2
theorem pe_fn {fi : Fi} {p : Pat} {a b : SA} (F : Fit Z si k X) (hc : si.calm = true) (hg : glob si x = true) (ok : FiOk Z.C k x fi) (hp : p ∈ fi.pats) (hks : kwN kws = some p.ks) (hst : es.all noStar = true)
    (ha : PA X es (tA Z a)) (ha0 : es = [] → ∀ {σ : Sl} {H : Hp} {Q : List V → Hp → Prop}, tA Z a σ H Q → Q [] H) (hb : PK X kws (tA Z b)) : PE X (.Call (.Name x q) es kws pos) (tE Z (sCall fi.run p a b)) := by
  refine ⟨fun pins s σ H Q I h => ?_⟩
  obtain ⟨f, fd, mf, kf, G, gp⟩ := ok.ex
  obtain ⟨⟨ds, dvs, rd, hd, hbind⟩, hl⟩ := gp p hp
  have h := rd_call (ps := fi.ps) hl hd h
  obtain ⟨g1, g2⟩ := glob_ok F hg
  obtain ⟨k1, k2, k3⟩ := kwN_ok (pos := pos) (env := X.env) hks
  obtain ⟨_, hr, _⟩ := F.calm hc
  have kf : PySem.W.keepIn X.K (.ref f) = true := by rw [F.K]; exact kf
  refine wpAny_Call_Name_kw (ld_glob I g1 (by rw [F.mg]; exact mf) ?_ (okNm_d g2))
  have fin : ∀ {s2 : Shared} {H2 : Hp} {us ws : List Value} {vs zs : List V}, Inv X pins σ H2 s2 → Vals vs us → Vals zs ws → vs.length = p.np → zs.length = p.ks.length → spOf Z.C fi.ps fi.run (pick .non p.src vs zs dvs) H2 Q (fun cls d H' => Z.W cls d σ H') →
      wpAny (model X.prog X.w) X.A (call (.ref f) us (p.ks.zip ws)) (EP X pins σ Q) X.xe s2 := fun {s2 H2 us ws vs zs} I2 r rz l1 l2 h2 => by
    have K2 := I2.kIn
    rw [F.K] at K2
    exact run_V F.P F.w F.K F.mg F.base G hr (hbind s2 us ws K2 (r.length.symm.trans l1) (rz.length.symm.trans l2)) (passAt F.tk σ) I2 (pick_rel (R := RelV) (show RelV .non .none from rfl) r rz rd p.src) h2
  cases es with
  | nil =>
    have h := ha0 rfl h
    refine PySem.W.callWith_KW0 (h₀ := X.base) I.ok.mod.kin kf k1 ?_ ?_
    · refine thn (hb.run pos pins s σ H _ I h) fun ws s2 ⟨zs, H2, I2, rz, l1, l2, q2⟩ => ⟨I2.kIn, ?_⟩
      rw [k2]
      exact fin I2 .nil rz l1 l2 q2
    · rw [k3, Bool.or_false]
      rfl
  | cons e es =>
    rw [List.all_cons, Bool.and_eq_true] at hst
    refine PySem.W.callWith_KW (h₀ := X.base) I.ok.mod.kin kf k1 (thn (ha.run pos pins s σ H _ I h) fun us s1 ⟨vs, H1, I1, r, q⟩ => ?_) ?_ (star_cons hst.1)
    · refine thn (hb.run pos pins s1 σ H1 _ I1 q) fun ws s2 ⟨zs, H2, I2, rz, l1, l2, q2⟩ => ⟨I2.kIn, ?_⟩
      rw [k2]
      exact fin I2 r rz l1 l2 q2
    · rw [k3, Bool.or_false]
      exact star_any (by rw [List.all_cons, hst.1, hst.2]; rfl)
end
end Pv

/-! ## text Pvb -/
set_option Elab.async false
set_option linter.all false
set_option maxRecDepth 100000
set_option autoImplicit false
/-! Pvb: argument lists as a whole; built-in functions by name; isinstance. -/
namespace Pv
open PySem PySem.Spec PyProof.Rows L2

section
variable {Z : Kx} {si : Si} {k : Nat} {X : Cx} {x : Str} {pos q : PySem.Pos}
theorem pa_all {c : Expr → SE} (h : ∀ e, PE X e (tE Z (c e))) : ∀ {es : List Expr}, es.all noStar = true → PA X es (tA Z (sArgs (es.map c)))
  | [], _ => pa_imp pa_nil fun _ _ _ q => rd_nil q
  | e :: es, hs => by
    rw [List.all_cons, Bool.and_eq_true] at hs
    exact pa_imp (pa_cons (h e) (pa_all h hs.2) (star_cons hs.1)) fun _ _ _ q => rd_cons q
theorem pa_allP {c : Expr → SE} (h : ∀ e, PE X e (tE Z (c e))) : ∀ {es : List Expr}, es.all noStar = true → PA X es (tP Z (sPl (es.map c)))
  | [], _ => pa_imp pa_nil fun _ _ _ q => rd_pnil q
  | e :: es, hs => by
    rw [List.all_cons, Bool.and_eq_true] at hs
    exact pa_imp (pa_cons (h e) (pa_allP h hs.2) (star_cons hs.1)) fun _ _ _ q => rd_pcons q
def kwV : Keyword → Expr
  | ⟨_, v, _⟩ => v
theorem pk_all {c : Expr → SE} (h : ∀ e, PE X e (tE Z (c e))) : ∀ {kws : List Keyword}, PK X kws (tA Z (sArgs (kws.map fun w => c (kwV w))))
  | [] => pk_imp pk_nil fun _ _ _ q => rd_nil q
  | ⟨n, e, p⟩ :: es => pk_imp (pk_cons (h e) (pk_all h)) fun _ _ _ q => rd_cons q
theorem noarg {c : Expr → SE} {es : List Expr} (h : es = []) {σ : Sl} {H : Hp} {Q : List V → Hp → Prop} (q : tA Z (sArgs (es.map c)) σ H Q) : Q [] H := by
  subst h
  exact rd_nil q

/-! ### built-in functions of one operand -/
def bf (calm : Bool) (x : Str) : Option (Pd → Option Th) :=
  if x = "len" then some lenP
  else if x = "abs" then some absP
  else if x = "tuple" then some tupP
  else if x = "list" then some lstP
  else if calm = false then none
  else if x = "all" then some allP
  else if x = "any" then some anyP
  else if x = "sum" then some sumP
  else if x = "repr" then some reprP
  else none
theorem rd_c1 {f : Pd → Option Th} {te : TE} {σ : Sl} {H : Hp} {Q : VK} (h : tUn (rU1 Z.C f) te σ H Q) (mono : ∀ σ H Q Q', (∀ v H1, Q v H1 → Q' v H1) → te σ H Q → te σ H Q') : tCB (rC1 Z.C f) (tCons te tNil) σ H Q :=
  mono _ _ _ _ (fun v H1 q => ⟨v, rfl, q⟩) h
theorem te_mono {f : SE} : ∀ (σ : Sl) (H : Hp) (Q Q' : VK), (∀ v H1, Q v H1 → Q' v H1) → tE Z f σ H Q → tE Z f σ H Q' := fun _ _ _ _ k ⟨w, δ, a, h⟩ => ⟨w, δ, a, po_mono h k⟩
theorem pe_bf {f : Pd → Option Th} {e : Expr} {a : SE} (F : Fit Z si k X) (hg : glob si x = true) (hm : Z.C.mg x = none) (hb : bf si.calm x = some f) (hs : noStar e = true) (he : PE X e (tE Z a)) :
    PE X (.Call (.Name x q) [e] [] pos) (tE Z (s1 f a)) := by
  obtain ⟨g1, g2⟩ := glob_ok F hg
  have hm' : X.mg x = none := by rw [F.mg]; exact hm
  have st := star_cons (env := X.env) (es := []) hs
  have fin : ∀ {t : TE}, PE X (.Call (.Name x q) [e] [] pos) (tCB (rC1 Z.C f) (tCons (tE Z a) tNil)) → PE X (.Call (.Name x q) [e] [] pos) (tE Z (s1 f a)) := fun h => pe_imp h fun σ H Q z => rd_c1 (rd_s1 z) te_mono
  have B : ∀ id : String, bootBuiltins x = some (.builtin id) → CallR X (.builtin id) (rC1 Z.C f) → PE X (.Call (.Name x q) [e] [] pos) (tE Z (s1 f a)) := fun id hv hc =>
    fin (t := tCB (rC1 Z.C f) (tCons (tE Z a) tNil)) (pe_callB hc g1 hm' hv (pa_cons he pa_nil st) (okNm_n g2) (okNm_d g2) st rfl)
  have T : ∀ id : String, bootBuiltins x = some (.type id) → CallR X (.type id) (rC1 Z.C f) → PE X (.Call (.Name x q) [e] [] pos) (tE Z (s1 f a)) := fun id hv hc =>
    fin (t := tCB (rC1 Z.C f) (tCons (tE Z a) tNil)) (pe_callTy hc g1 hm' hv (pa_cons he pa_nil st) (okNm_n g2) (okNm_d g2) st rfl)
  unfold bf at hb
  split at hb
  · rename_i ex
    cases hb
    exact B "len" (by rw [ex]; exact boot_len) (ok_len F.K)
  split at hb
  · rename_i ex
    cases hb
    exact B "abs" (by rw [ex]; exact boot_abs) ok_abs
  split at hb
  · rename_i ex
    cases hb
    exact T "tuple" (by rw [ex]; exact PyProof.Rows.boot_tuple) (ok_tup F.K)
  split at hb
  · rename_i ex
    cases hb
    exact T "list" (by rw [ex]; exact PyProof.Rows.boot_list) (ok_lst F.K)
  split at hb
  · cases hb
  rename_i hc
  have hc : si.calm = true := by
    cases z : si.calm with
    | true => rfl
    | false => exact absurd z hc
  obtain ⟨c1, c2, _⟩ := F.calm hc
  split at hb
  · rename_i ex
    cases hb
    exact B "all" (by rw [ex]; exact boot_all) (ok_all F.K c1)
  split at hb
  · rename_i ex
    cases hb
    exact B "any" (by rw [ex]; exact boot_any) (ok_any F.K c1)
  split at hb
  · rename_i ex
    cases hb
    exact B "sum" (by rw [ex]; exact boot_sum) (ok_sum F.K c1)
  split at hb
  · rename_i ex
    cases hb
    exact B "repr" (by rw [ex]; exact boot_repr) (ok_repr F.K F.un c2.g)
  · cases hb
end

/-! ### isinstance -/
inductive Ty where
  | NoneType | bool | int | str | tuple | list | dict
def Ty.nm : Ty → String
  | .NoneType => "NoneType"
  | .bool => "bool"
  | .int => "int"
  | .str => "str"
  | .tuple => "tuple"
  | .list => "list"
  | .dict => "dict"
def Ty.of (x : Str) : Option Ty := if x = "int" then some .int else if x = "bool" then some .bool else if x = "str" then some .str else if x = "tuple" then some .tuple else if x = "list" then some .list else if x = "dict" then some .dict else none
def tyP : Pd → Option Ty
  | .non => some .NoneType
  | .bl _ => some .bool
  | .int _ => some .int
  | .str _ => some .str
  | .tup _ => some .tuple
  | .lst _ => some .list
  | .dct _ _ => some .dict
  | _ => none
def Ty.sub : Ty → Ty → Bool
  | .NoneType, .NoneType => true
  | .bool, .bool => true
  | .bool, .int => true
  | .int, .int => true
  | .str, .str => true
  | .tuple, .tuple => true
  | .list, .list => true
  | .dict, .dict => true
  | _, _ => false
def Ty.mro : Ty → List Value
  | .bool => [.type "bool", .type "int", .type "object"]
  | t => [.type t.nm, .type "object"]
theorem Ty.kit {K : PySem.W.Frag} : ∀ a b : Ty, PySem.W.kitOne K (.type a.nm) (.type b.nm) = some (a.sub b) := by
  intro a b
  apply kit_ty
  have m : ∀ a : Ty, PySem.fastBuiltinMro a.nm = some a.mro := fun a => by cases a <;> decide +kernel
  have k : ∀ a : Ty, PySem.W.kitMeta a.nm = true := fun a => by cases a <;> decide +kernel
  unfold kitB
  rw [if_pos (k b), m a]
  cases a <;> cases b <;> rfl
theorem Ty.of_ok {x : Str} {t : Ty} (h : Ty.of x = some t) : bootBuiltins x = some (.type t.nm) := by
  unfold Ty.of at h
  split at h
  · rename_i e
    cases h
    rw [e]
    exact PyProof.Rows.boot_int
  split at h
  · rename_i e
    cases h
    rw [e]
    exact PyProof.Rows.boot_bool
  split at h
  · rename_i e
    cases h
    rw [e]
    exact PyProof.Rows.boot_str
  split at h
  · rename_i e
    cases h
    rw [e]
    exact PyProof.Rows.boot_tuple
  split at h
  · rename_i e
    cases h
    rw [e]
    exact PyProof.Rows.boot_list
  split at h
  · rename_i e
    cases h
    rw [e]
    exact PyProof.Rows.boot_dict
  · cases h
theorem ty_of {C : Ct} {w : Wd} {x : Pd} {v : V} {t : Ty} (h : RV C w x v) (e : tyP x = some t) : TyX C.K w.H v (.type t.nm) := by
  cases x with
  | non => rw [rv_non h]; cases e; exact .base .non
  | bl b => rw [rv_bl h]; cases e; exact .base (.bl b)
  | int b => rw [rv_int h]; cases e; exact .base (.int b)
  | str b => rw [(rv_str h).1]; cases e; exact .base (.str b)
  | tup xs =>
    obtain ⟨a, vs, ev, s, _⟩ := rv_tup h
    rw [ev]
    cases e
    rcases s with (s | ⟨o, s⟩) | ⟨o, its, n, h1, h2, _⟩
    · exact .base (.tup s)
    · exact .fTuple s
    · exact .kTuple h1 h2
  | lst xs =>
    obtain ⟨a, vs, ev, s, _⟩ := rv_lst h
    rw [ev]
    cases e
    rcases s with (s | ⟨o, s⟩) | ⟨o, its, n, h1, h2, _⟩
    · exact .base (.lst s)
    · exact .base (.frz s)
    · exact .kList h1 h2
  | dct ks ws =>
    obtain ⟨a, kvs, ev, s, _⟩ := h
    rw [ev]
    cases e
    exact .base (.dK s)
  | ty n => cases e
  | cls n => cases e
/-- one of the classes -/
def anyB : List (Option Bool) → Option Bool
  | [] => some false
  | some true :: _ => some true
  | some false :: r => anyB r
  | none :: _ => none
/-- sub c D: is the exception class c one of D's -/
def isiT (sub : Str → Str → Option Bool) (names : List Str) : Th → Hs → Option Bool
  | .exc c [], _ => if sub c c = some true then anyB (names.map (sub c)) else none
  | d, h => match view d h with
    | some x => match tyP x with
      | some t => anyB (names.map fun n => (Ty.of n).map t.sub)
      | none => none
    | none => none
def sIsi (sub : Str → Str → Option Bool) (names : List Str) (a : SE) : SE := fun δ h => (a δ h).bind fun d h => match isiT sub names d h with
  | some b => .ok (.p (.bl b)) h
  | none => .bad
/-- a class by its name -/
def ClsAt (C : Ct) (x : Str) (c : Value) : Prop := C.mg x = some c ∨ (C.mg x = none ∧ bootBuiltins x = some c)
/-- what the text's exception classes say -/
structure SubOk (C : Ct) (sub : Str → Str → Option Bool) : Prop where
  one : ∀ c D b, sub c D = some b → ∃ ac cv, C.mg c = some (.ref ac) ∧ ClsAt C D cv ∧ ((∃ n, cv = .type n) ∨ ∃ a, cv = .ref a) ∧ PySem.W.kitOne C.K (.ref ac) cv = some b ∧ PySem.W.exmOne C.K (.ref ac) cv = some b ∧ ExcC C.K ac
theorem kitAny_B {K : PySem.W.Frag} {t : Value} : ∀ {cs : List Value} {bs : List (Option Bool)} {b : Bool}, anyB bs = some b → Paired (fun c o => ∀ r, o = some r → PySem.W.kitOne K t c = some r) cs bs → PySem.W.kitAny K t cs = some b
  | _, _, b, h, .nil => by cases h; rfl
  | c :: cs, o :: bs, b, h, .cons r t => by
    cases o with
    | none => cases h
    | some k =>
      refine kitAny_cons (r k rfl) (fun e => ?_) (fun e => ?_)
      · subst e
        exact kitAny_B (show anyB bs = some b from h) t
      · subst e
        cases h
        rfl

/-- a class that may stand in isinstance, by its name -/
def ClsKn (C : Ct) (x : Str) : Prop := ∃ v cv, ClsV v cv ∧ RelV v cv ∧ ClsAt C x cv
theorem clsAt_uni {C : Ct} {x : Str} {c c' : Value} (h : ClsAt C x c) (h' : ClsAt C x c') : c = c' := by
  rcases h with h | ⟨h1, h2⟩ <;> rcases h' with h' | ⟨h3, h4⟩
  · rw [h] at h'; cases h'; rfl
  · rw [h] at h3; cases h3
  · rw [h1] at h'; cases h'
  · rw [h2] at h4; cases h4; rfl
section
variable {Z : Kx} {si : Si} {k : Nat} {X : Cx} {x : Str} {pos q : PySem.Pos} {sub : Str → Str → Option Bool}
theorem pe_cls (F : Fit Z si k X) (hg : glob si x = true) {v : V} {cv : Value} (r : RelV v cv) (h : ClsAt Z.C x cv) : PE X (.Name x q) (tC v) := by
  obtain ⟨g1, g2⟩ := glob_ok F hg
  rcases h with h | ⟨h1, h2⟩
  · exact pe_glob g1 (by rw [F.mg]; exact h) r (okNm_d g2)
  · exact pe_bltn g1 (by rw [F.mg]; exact h1) h2 r (okNm_n g2) (okNm_d g2)
/-- what isinstance is told of: the thing, the classes -/
def rIsG (Z : Kx) (X : Cx) (cs : List Value) (b : Bool) : V → Hp → Prop := fun x H => (∃ t, TyX X.K H x t ∧ PySem.W.kitAny X.K t cs = some b) ∨ ∃ y ac, Z.ex = some y ∧ x = .ref y.a ∧ y.cls = .ref ac ∧ y.d = none ∧ ExcC X.K ac ∧ PySem.W.kitAny X.K (.ref ac) cs = some b
theorem kit_names {K : PySem.W.Frag} {t : Value} {f : Str → Option Bool} {R : Str → Value → Prop} (hf : ∀ n c, R n c → ∀ r, f n = some r → PySem.W.kitOne K t c = some r) : ∀ {names : List Str} {cs : List Value}, Paired R names cs → Paired (fun c o => ∀ r, o = some r → PySem.W.kitOne K t c = some r) cs (names.map f)
  | _, _, .nil => .nil
  | _, _, .cons r rr => .cons (fun b e => hf _ _ r b e) (kit_names hf rr)
theorem view_rv {C : Ct} {w : Wd} {H0 : Hp} {d : Th} {v : V} {y : Pd} (hr : HR C w) (t : RT C w H0 d v) (e : view d w.h = some y) : RV C w y v := view_ok hr t e
theorem rd_isi {names : List Str} {a : SE} {cs : List Value} (F : Fit Z si k X) (so : SubOk Z.C sub) (hc : Paired (fun n c => ClsAt Z.C n c ∧ (∀ t, Ty.of n = some t → Z.C.mg n = none)) names cs) {σ : Sl} {H : Hp} {Q : VK} (h : tE Z (sIsi sub names a) σ H Q) :
    tE Z a σ H fun x H1 => ∃ b, rIsG Z X cs b x H1 ∧ ∀ H2, (H2 = H1 ∨ ∃ p vs, H1 p = none ∧ H2 = upd H1 p (.tup vs)) → Q (.bl b) H2 := by
  obtain ⟨w, δ, A, h⟩ := h
  refine ⟨w, δ, A, po_mono (po_bind h) fun v H1 ⟨w1, d, e1, hr, x, t, h1⟩ => ?_⟩
  subst e1
  split at h1
  · rename_i b eb
    refine ⟨b, ?_, fun H2 e2 => ?_⟩
    · have data : ∀ y, view d w1.h = some y → (match tyP y with
          | some t => anyB (names.map fun n => (Ty.of n).map t.sub)
          | none => none) = some b → rIsG Z X cs b v w1.H := fun y ey e => by
        split at e
        · rename_i t' et
          refine .inl ⟨.type t'.nm, by rw [F.K]; exact ty_of (view_ok hr t ey) et, kitAny_B e (kit_names (fun n c hn r er => ?_) hc)⟩
          obtain ⟨u, eu, rfl⟩ := Option.map_eq_some_iff.mp er
          have : c = .type u.nm := clsAt_uni hn.1 (.inr ⟨hn.2 u eu, Ty.of_ok eu⟩)
          rw [this]
          exact Ty.kit t' u
        · cases e
      cases d with
      | exc c fs =>
        cases fs with
        | cons _ _ => cases eb
        | nil =>
          have eb : (if sub c c = some true then anyB (names.map (sub c)) else none) = some b := eb
          split at eb
          · rename_i ecc
            obtain ⟨ad, e3, e4⟩ := t
            rw [x.ex, A.ex] at e3
            obtain ⟨y, e5, e6⟩ := Option.map_eq_some_iff.mp e3
            obtain ⟨e7, e8, e9⟩ : y.a = ad ∧ y.c = c ∧ y.fs = [] := by simpa using e6
            obtain ⟨ac, m, ec, hd⟩ := A.xr y e5
            rw [e8] at m
            have hd : y.d = none := by
              rcases hd with ⟨_, hd⟩ | ⟨hd, _⟩
              · exact hd
              · exact absurd e9 hd
            obtain ⟨ac', _, m', _, _, _, _, EC⟩ := so.one c c true ecc
            rw [m] at m'
            cases m'
            refine .inr ⟨y, ac, e5, by rw [e4, e7], ec, hd, by rw [F.K]; exact EC, kitAny_B eb (kit_names (fun n cv hn r er => ?_) hc)⟩
            obtain ⟨ac2, cv2, m2, k2, _, k3, _, _⟩ := so.one c n r er
            rw [m] at m2
            cases m2
            rw [clsAt_uni hn.1 k2, F.K]
            exact k3
          · cases eb
      | p y => exact data y rfl eb
      | tmp y => exact data y rfl eb
      | ref l =>
        have eb : (match view (.ref l) w1.h with
          | some x => match tyP x with
            | some t => anyB (names.map fun n => (Ty.of n).map t.sub)
            | none => none
          | none => none) = some b := eb
        split at eb
        · rename_i y ey
          exact data y ey eb
        · cases eb
    · rcases e2 with e2 | ⟨p, vs, hp, e2⟩
      · rw [e2]
        exact h1 w1 _ rfl hr x (rt_p rp_bl)
      · rw [e2]
        exact h1 (w1.al p (.tup vs)) _ rfl (hr_al hr hp) (x.trans (ext_al hp)) (rt_p rp_bl)
  · exact False.elim h1
/-- the call isinstance(x, c), isinstance(x, (c, ..)) -/
theorem isi_run (F : Fit Z si k X) {pins : List (Addr × Obj)} {s : Shared} {σ : Sl} {H : Hp} {Q : VK} {x : V} {u : Value} {cs : List Value} {b : Bool} (I : Inv X pins σ H s) (rx : RelV x u) (h : ∃ H0, rIsG Z X cs b x H0 ∧ (H = H0 ∨ ∃ p vs, H0 p = none ∧ H = upd H0 p (.tup vs))) (q : Q (.bl b) H)
    {E : Value → Shared → Prop} : (∀ c, cs = [c] → wpAny (model X.prog X.w) X.A (call (.builtin "isinstance") [u, c]) (EP X pins σ Q) E s) ∧
      ∀ tp o, s.heap.get? tp = some o → o.cls = .type "tuple" → o.slots = o.slots → (∃ n, o.data = .seq cs.toArray n) → wpAny (model X.prog X.w) X.A (call (.builtin "isinstance") [u, .ref tp]) (EP X pins σ Q) E s := by
  obtain ⟨H0, hg, hH⟩ := h
  have fin : ∀ tk, EP X pins σ Q (.bool b) { s with toks := tk } := fun tk => ⟨.bl b, H, I.tok tk, rfl, q⟩
  have kit : ∃ (t : Value) (P : Heap → Prop), PySem.W.KitX X.K u t P ∧ P s.heap ∧ u ≠ .builtin "__main__.__loader__#opaque" ∧ PySem.W.kitAny X.K t cs = some b := by
    rcases hg with ⟨t, ty, e⟩ | ⟨y, ac, e5, ex, ec, hd, EC, e⟩
    · have ty' : TyX X.K H x t := by
        rcases hH with hH | ⟨p, vs, hp, hH⟩
        · rw [hH]; exact ty
        · rw [hH]
          cases ty with
          | base h =>
            refine .base ?_
            cases h with
            | lst e' => exact .lst (by rw [upd_ne (ne_of_none e' hp)]; exact e')
            | frz e' => exact .frz (by rw [upd_ne (ne_of_none e' hp)]; exact e')
            | tup e' => exact .tup (by rw [upd_ne (ne_of_none e' hp)]; exact e')
            | dK e' => exact .dK (by rw [upd_ne (ne_of_none e' hp)]; exact e')
            | dT e' => exact .dT (by rw [upd_ne (ne_of_none e' hp)]; exact e')
            | ins e' a1 a2 a3 a4 a5 => exact .ins (by rw [upd_ne (ne_of_none e' hp)]; exact e') a1 a2 a3 a4 a5
            | non => exact .non
            | bl z => exact .bl z
            | int z => exact .int z
            | str z => exact .str z
            | flt z => exact .flt z
          | byt z => exact .byt z
          | set e' => exact .set (by rw [upd_ne (ne_of_none e' hp)]; exact e')
          | kList a c => exact .kList a c
          | kTuple a c => exact .kTuple a c
          | kDict a c => exact .kDict a c
          | fTuple e' => exact .fTuple (by rw [upd_ne (ne_of_none e' hp)]; exact e')
          | fDict e' => exact .fDict (by rw [upd_ne (ne_of_none e' hp)]; exact e')
      obtain ⟨P, Z', p, hx⟩ := kit_of I rx ty'
      exact ⟨t, P, Z', p, hx, e⟩
    · obtain ⟨oe, hm, hz, hf⟩ := F.ex y e5
      rw [ex] at rx
      obtain rfl : u = Value.ref y.a := rx
      obtain ⟨hget, _⟩ := I.pin (y.a, oe) (List.mem_append_left _ hm)
      have J : PySem.W.InstAt s.heap y.a oe ac none := by
        obtain ⟨vs, hv⟩ := hf
        obtain ⟨h1, h2⟩ := hz
        rw [ec] at h1
        rw [hd] at h2
        obtain ⟨oc, od, oda, osl⟩ := oe
        dsimp only at h1 h2 hv
        subst h1 h2 hv
        exact ⟨hget, rfl, rfl, trivial⟩
      exact ⟨_, _, PySem.W.handS_kitx_exc EC.hg EC.hk EC.hs EC.hd EC.ha EC.hn EC.ht EC.hm, J, (fun z => nomatch z), e⟩
  obtain ⟨t, P, Z', p, hx, e⟩ := kit
  refine ⟨fun c ec => ?_, fun tp o ho hc _ hd => ?_⟩
  · subst ec
    have e1 : PySem.W.kitOne X.K t c = some b := by
      unfold PySem.W.kitAny at e
      split at e
      · rename_i z
        rw [z]
        exact e
      · rename_i z
        rw [z]
        exact e
      · cases e
    exact PySem.W.kia_one Z' I.kIn p e1 hx fin
  · obtain ⟨n, hd⟩ := hd
    obtain ⟨oc, od, dt, sl⟩ := o
    dsimp only at hc hd
    subst hc hd
    exact PySem.W.kia_tup Z' I.kIn p ho e hx fin
end
end Pv

/-! ## text Pvc -/
set_option Elab.async false
set_option linter.all false
set_option maxRecDepth 100000
set_option autoImplicit false
/-! Pvc: isinstance as an expression; what a loop walks. -/
namespace Pv
open PySem PySem.Spec PyProof.Rows L2
def nameOf : Expr → Option Str
  | .Name n _ => some n
  | _ => none
def namesOf : List Expr → Option (List Str)
  | [] => some []
  | e :: r => match nameOf e, namesOf r with
    | some n, some ns => some (n :: ns)
    | _, _ => none
/-- the second operand of isinstance -/
def clsArg : Expr → Option (List Str)
  | .Name n _ => some [n]
  | .Tuple es _ _ => namesOf es
  | _ => none
/-- a class that is known by its name -/
structure ClOk (C : Ct) (n : Str) : Prop where
  kn : ClsKn C n
  ty : ∀ t, Ty.of n = some t → C.mg n = none
section
variable {Z : Kx} {si : Si} {k : Nat} {X : Cx} {x : Str} {pos q : PySem.Pos} {sub : Str → Str → Option Bool}
theorem pa_names (F : Fit Z si k X) : ∀ {es : List Expr} {ns : List Str}, namesOf es = some ns → ns.all (glob si) = true → (∀ n ∈ ns, ClOk Z.C n) →
    ∃ (vs : List V) (cs : List Value), PA X es (fun _ H Q => Q vs H) ∧ (∀ us, Vals vs us → us = cs) ∧ Paired (fun n c => ClsAt Z.C n c ∧ (∀ t, Ty.of n = some t → Z.C.mg n = none)) ns cs ∧ vs.length = ns.length
  | [], ns, h, _, _ => by
    cases h
    exact ⟨[], [], pa_nil, fun us r => by cases r; rfl, .nil, rfl⟩
  | e :: es, ns, h, hg, hk => by
    unfold namesOf at h
    split at h
    · rename_i n ns' e1 e2
      cases h
      rw [List.all_cons, Bool.and_eq_true] at hg
      obtain ⟨vs, cs, p, r, c, l⟩ := pa_names F e2 hg.2 fun m hm => hk m (.tail _ hm)
      have K := hk n (.head _)
      obtain ⟨v, cv, k1, k2, k3⟩ := K.kn
      cases e with
      | Name m q =>
        cases e1
        refine ⟨v :: vs, cv :: cs, pa_imp (pa_cons (pe_cls F hg.1 k2 k3) p (star_cons rfl)) fun _ _ _ z => z, fun us ru => ?_, .cons ⟨k3, K.ty⟩ c, by rw [List.length_cons, List.length_cons, l]⟩
        cases ru with
        | cons r1 r2 => rw [k1.eq r1, r _ r2]
      | _ => cases e1
    · cases h
theorem pe_isi {names : List Str} {e T : Expr} {a : SE} (F : Fit Z si k X) (so : SubOk Z.C sub) (hg : glob si "isinstance" = true) (hm : Z.C.mg "isinstance" = none) (hs : noStar e = true) (he : PE X e (tE Z a)) (hT : clsArg T = some names)
    (hl : names.length ≤ 1000) (hn : names.all (glob si) = true) (hk : ∀ n ∈ names, ClOk Z.C n) : PE X (.Call (.Name "isinstance" q) [e, T] [] pos) (tE Z (sIsi sub names a)) := by
  obtain ⟨g1, g2⟩ := glob_ok F hg
  have hm' : X.mg "isinstance" = none := by rw [F.mg]; exact hm
  cases T with
  | Name n q2 =>
    cases hT
    obtain ⟨vs, cs, p, r, c, l⟩ := pa_names F (es := [.Name n q2]) rfl hn hk
    have hc : CallR X (.builtin "isinstance") (fun xs H Q => ∃ y b, xs = y :: vs ∧ rIsG Z X cs b y H ∧ Q (.bl b) H) := by
      intro pins s σ H xs us Q I ru h
      obtain ⟨y, b, rfl, hG, hQ⟩ := h
      cases ru with
      | cons r1 r2 =>
        have ec := r _ r2
        subst ec
        cases c with
        | cons c1 c2 =>
          cases c2
          exact (isi_run F I r1 ⟨H, hG, .inl rfl⟩ hQ).1 _ rfl
    refine pe_imp (pe_callB hc g1 hm' boot_isinstance (pa_cons he p (star_cons hs)) (okNm_n g2) (okNm_d g2) (star_cons hs) rfl) fun σ H Q z => ?_
    exact te_mono _ _ _ _ (fun y H1 ⟨b, h1, h2⟩ => ⟨y, b, rfl, h1, h2 _ (.inl rfl)⟩) (rd_isi F so c z)
  | Tuple es k3 q3 =>
    obtain ⟨vs, cs, p, r, c, l⟩ := pa_names F (es := es) hT hn hk
    have pt : PE X (.Tuple es k3 q3) (tTup fun _ H Q => Q vs H) := pe_tup p
    have hc : CallR X (.builtin "isinstance") (fun xs H Q => ∃ y b tp H0, xs = [y, .ref tp] ∧ H0 tp = none ∧ H = upd H0 tp (.tup vs) ∧ rIsG Z X cs b y H0 ∧ Q (.bl b) H) := by
      intro pins s σ H xs us Q I ru h
      obtain ⟨y, b, tp, H0, rfl, hp, eH, hG, hQ⟩ := h
      obtain ⟨u1, u2, rfl, r1, r2⟩ := vals2 ru
      cases (show u2 = Value.ref tp from r2)
      have hT' : H tp = some (.tup vs) := by rw [eH]; exact upd_same
      obtain ⟨_, its, rv, o, h1, h2, n, h3⟩ := (show ObjOk X.prog X.w H s.heap tp (.tup vs) from I.hok tp _ hT')
      have ec := r _ rv
      subst ec
      exact (isi_run F I r1 ⟨H0, hG, .inr ⟨tp, vs, hp, eH⟩⟩ hQ).2 tp o h1 h2 rfl ⟨n, h3⟩
    refine pe_imp (pe_callB hc g1 hm' boot_isinstance (pa_cons he (pa_cons pt pa_nil (star_cons rfl)) (star_cons hs)) (okNm_n g2) (okNm_d g2) (star_cons hs) rfl) fun σ H Q z => ?_
    have hS := sizeLine_eq
    refine te_mono _ _ _ _ (fun y H1 ⟨b, h1, h2⟩ => ?_) (rd_isi F so c z)
    exact ⟨by omega, fun p hp => ⟨y, b, p, H1, rfl, hp, rfl, h1, h2 _ (.inr ⟨p, vs, hp, rfl⟩)⟩⟩
  | _ => cases hT
end
end Pv

/-! ## text Pvd -/
set_option Elab.async false
set_option linter.all false
set_option maxRecDepth 100000
set_option autoImplicit false
/-! Pvd: what loops and comprehensions walk. -/
namespace Pv
open PySem PySem.Spec PyProof.Rows L2

/-- an iterator serves just these -/
structure Srv (C : Ct) (w1 : Wd) (J : It) (xs : List Pd) : Prop where
  go : ∀ n w' i, HR C w' → Ext n w1 w' → i < xs.length → J.go i w'.H
  yl : ∀ n w' i x H', HR C w' → Ext n w1 w' → i < xs.length → J.yld i w'.H x H' → ∃ w'' y, w''.H = H' ∧ w''.h = w'.h ∧ HR C w'' ∧ Ext 0 w' w'' ∧ xs[i]? = some y ∧ RP C w'' y x
  st : ∀ n w', HR C w' → Ext n w1 w' → J.stop xs.length w'.H
abbrev SI := En → Hs → Rs (List Pd)
def Poi (Z : Kx) (w : Wd) (σ : Sl) (R : It → Hp → Prop) : Rs (List Pd) → Prop
  | .ok xs h' => ∀ w1 J, w1.h = h' → HR Z.C w1 → Ext 0 w w1 → Srv Z.C w1 J xs → R J w1.H
  | .exc c fs h' => ∀ w' cls d, w'.h = h' → HR Z.C w' → Ext 0 w w' → RX Z.C w' c fs cls d → Z.W cls d σ w'.H
  | .bad => False
def tI (Z : Kx) (f : SI) : TI := fun σ H R => ∃ w δ, At Z σ H w δ ∧ Poi Z w σ R (f δ w.h)
theorem pi_imp {X : Cx} {tg e : Expr} {t t' : TI} (h : PI X tg e t) (k : ∀ σ H R, t' σ H R → t σ H R) : PI X tg e t' := ⟨fun pins s σ H R I q => h.run pins s σ H R I (k σ H R q)⟩
def iBad : SI := fun _ _ => .bad
theorem pi_bad {X : Cx} {Z : Kx} {tg e : Expr} : PI X tg e (tI Z iBad) := ⟨fun _ _ _ _ _ _ ⟨_, _, _, h⟩ => False.elim h⟩

/-- the items of a value -/
def itemsP : Pd → Option (List Pd)
  | .lst xs => some xs
  | .tup xs => some xs
  | .str z => some (z.cps.toList.map fun c => .str ⟨#[c]⟩)
  | _ => none
def iVal (f : SE) : SI := fun δ h => (f δ h).bind fun d h => match plain d h with
  | some (x, h) => match itemsP x with
    | some xs => .ok xs h
    | none => .bad
  | none => .bad
/-- range(j), range(i, j) -/
def rngP (i j : Int) : List Pd := (List.range (j - i).toNat).map fun (k : Nat) => .int (i + (k : Int))
def small62 (i : Int) : Bool := decide (-(4611686018427387904) ≤ i ∧ i < 4611686018427387904)
def iR1 (f : SA) : SI := fun δ h => (f δ h).bind fun ds h => match ds with
  | [.p (.int j)] => if small62 j = true then .ok (rngP 0 j) h else .bad
  | _ => .bad
def iR2 (f : SA) : SI := fun δ h => (f δ h).bind fun ds h => match ds with
  | [.p (.int i), .p (.int j)] => if (small62 i && small62 j) = true then .ok (rngP i j) h else .bad
  | _ => .bad

section
variable {X : Cx} {Z : Kx} {tg e : Expr} {w w1 : Wd}
theorem poi_bind {σ : Sl} {R : It → Hp → Prop} {r : Rs Th} {k : Th → Hs → Rs (List Pd)} (h : Poi Z w σ R (r.bind k)) :
    Po Z w σ (fun v H1 => ∃ w1 d, w1.H = H1 ∧ HR Z.C w1 ∧ Ext 0 w w1 ∧ RT Z.C w1 w.H d v ∧ Poi Z w σ R (k d w1.h)) r := by
  cases r with
  | ok d h' =>
    intro w1 v e hr x t
    refine ⟨w1, d, rfl, hr, x, t, ?_⟩
    rw [e]
    exact h
  | exc c fs h' => exact h
  | bad => exact h
theorem poi_bindA {σ : Sl} {R : It → Hp → Prop} {r : Rs (List Th)} {k : List Th → Hs → Rs (List Pd)} (h : Poi Z w σ R (r.bind k)) :
    PoL Z w σ (fun v H1 => ∃ w1 d, w1.H = H1 ∧ HR Z.C w1 ∧ Ext 0 w w1 ∧ RTs Z.C w1 d v ∧ Poi Z w σ R (k d w1.h)) r := by
  cases r with
  | ok d h' =>
    intro w1 v e hr x t
    refine ⟨w1, d, rfl, hr, x, t, ?_⟩
    rw [e]
    exact h
  | exc c fs h' => exact h
  | bad => exact h
theorem srv_list {C : Ct} {a : Addr} {xs : List Pd} {vs : List V} (hr : HR C w1) (s : SL C w1.g a vs) (r : RPs C w1 xs vs) : Srv C w1 (Itl C.K a) xs where
  go := fun n w' i _ x hi => by
    obtain ⟨v, e⟩ : ∃ v, vs[i]? = some v := ⟨vs[i]'(by rw [← rps_len _ _ r]; exact hi), List.getElem?_eq_getElem _⟩
    exact ⟨vs, v, sl_sq (sl_ext hr x s), e⟩
  yl := fun n w' i v H' hr' x hi y => by
    obtain ⟨rfl, y⟩ := y
    obtain ⟨z, e1, e2⟩ := rps_get' r (y vs (sl_sq (sl_ext hr x s)))
    exact ⟨w', z, rfl, rfl, hr', Ext.refl, e1, rp_ext hr x _ _ e2⟩
  st := fun n w' _ x => ⟨vs, sl_sq (sl_ext hr x s), by rw [rps_len _ _ r]; exact Nat.le_refl _⟩
theorem srv_tup {C : Ct} {a : Addr} {xs : List Pd} {vs : List V} (hr : HR C w1) (s : SqT C.K w1.H a vs) (r : RPs C w1 xs vs) : Srv C w1 (Itt C.K a) xs where
  go := fun n w' i _ x hi => by
    obtain ⟨v, e⟩ : ∃ v, vs[i]? = some v := ⟨vs[i]'(by rw [← rps_len _ _ r]; exact hi), List.getElem?_eq_getElem _⟩
    exact ⟨vs, v, sqT_ext hr x s, e⟩
  yl := fun n w' i v H' hr' x hi y => by
    obtain ⟨rfl, y⟩ := y
    obtain ⟨z, e1, e2⟩ := rps_get' r (y vs (sqT_ext hr x s))
    exact ⟨w', z, rfl, rfl, hr', Ext.refl, e1, rp_ext hr x _ _ e2⟩
  st := fun n w' _ x => ⟨vs, sqT_ext hr x s, by rw [rps_len _ _ r]; exact Nat.le_refl _⟩
theorem srv_str {C : Ct} {z : Str} (h : PyData.strOk z = true) : Srv C w1 (Its z) (z.cps.toList.map fun c => .str ⟨#[c]⟩) where
  go := fun n w' i _ x hi => by
    show i < z.cps.size
    simpa using hi
  yl := fun n w' i v H' hr' x hi y => by
    obtain ⟨rfl, c, e, rfl⟩ := y
    have e' : z.cps.toList[i]? = some c := by simpa using e
    have hS := sizeLine_eq
    refine ⟨w', _, rfl, rfl, hr', Ext.refl, by rw [List.getElem?_map, e']; rfl, rp_str (str_sign h (List.mem_of_getElem? e')) (by show 1 ≤ sizeLine; rw [hS]; decide)⟩
  st := fun n w' _ x => by
    show z.cps.size ≤ _
    simp
theorem srv_rng {C : Ct} {i j : Int} : Srv C w1 (Itr i (j - i).toNat) (rngP i j) where
  go := fun n w' k _ x hk => by
    show k < _
    unfold rngP at hk
    simpa using hk
  yl := fun n w' k v H' hr' x hk y => by
    obtain ⟨rfl, rfl⟩ := y
    unfold rngP at hk ⊢
    have hk : k < (j - i).toNat := by simpa using hk
    exact ⟨w', _, rfl, rfl, hr', Ext.refl, by rw [List.getElem?_map, List.getElem?_range hk]; rfl, rp_int⟩
  st := fun n w' _ x => by
    show _ ≤ _
    unfold rngP
    simp
/-- any value that may be walked -/
def rVal (K : PySem.W.Frag) (R : It → Hp → Prop) : V → Hp → Prop := fun x H1 => (∃ a, x = .ref a ∧ (∃ xs, SqL K H1 a xs) ∧ R (Itl K a) H1) ∨ (∃ a, x = .ref a ∧ (∃ xs, SqT K H1 a xs) ∧ R (Itt K a) H1) ∨ ∃ z, x = .str z ∧ R (Its z) H1
theorem pi_val {te : TE} (he : PE X e te) : PI X tg e (fun σ H R => te σ H (rVal X.K R)) := by
  refine ⟨fun pins s σ H R I h => ?_⟩
  refine thn (he.run pins s σ H _ I h) fun v s1 ⟨x, H1, I1, r1, q1⟩ => ?_
  rcases q1 with ⟨a, ex, ⟨xs, hq⟩, q⟩ | ⟨a, ex, ⟨xs, hq⟩, q⟩ | ⟨z, ex, q⟩
  · subst ex
    cases r1
    obtain ⟨its, rv, p, hz⟩ := I1.list hq
    refine wpAny_pyIter_list p.isList ?_
    refine ⟨s1.heap.objs.size, [s1.heap.objs.size], _, _, H1, rfl, I1.kept (t' := s1.toks) fun b o e => Heap.get?_push_of_some _ e, turn_list a _, ⟨_, Heap.get?_push_size _ rfl, rfl, rfl⟩, fun b hb => ?_, q⟩
    have e : b = s1.heap.objs.size := by simpa using hb
    subst e
    exact I1.fpOk (Nat.le_refl _) (I1.hok.fresh (Nat.le_refl _))
  · subst ex
    cases r1
    obtain ⟨its, rv, p, hz⟩ := I1.tuple hq
    refine wpAny_pyIter_tuple (show s1.heap.IsTuple a its.toArray from p) ?_
    refine ⟨s1.heap.objs.size, [s1.heap.objs.size], _, _, H1, rfl, I1.kept (t' := s1.toks) fun b o e => Heap.get?_push_of_some _ e, turn_tuple a _, ⟨_, Heap.get?_push_size _ rfl, rfl, rfl⟩, fun b hb => ?_, q⟩
    have e : b = s1.heap.objs.size := by simpa using hb
    subst e
    exact I1.fpOk (Nat.le_refl _) (I1.hok.fresh (Nat.le_refl _))
  · subst ex
    obtain ⟨t, rfl⟩ := r1
    cases ha : z.cps.all (· < 128)
    · exact wpAny_pyIter_wide ha (pi_one (tk := s1.toks) I1 _ (turn_str _ z t "str_iterator" (.inr rfl)) ⟨_, Heap.get?_push_size _ rfl, rfl, rfl⟩ q)
    · exact wpAny_pyIter_ascii ha (pi_one (tk := s1.toks) I1 _ (turn_str _ z t "str_ascii_iterator" (.inl rfl)) ⟨_, Heap.get?_push_size _ rfl, rfl, rfl⟩ q)
theorem pi_iVal {f : SE} (hK : X.K = Z.C.K) (he : PE X e (tE Z f)) : PI X tg e (tI Z (iVal f)) := by
  refine pi_imp (pi_val he) fun σ H R h => ?_
  obtain ⟨w, δ, A, h⟩ := h
  refine ⟨w, δ, A, po_mono (poi_bind h) fun v H1 ⟨w1, d, e1, hr, x, t, h1⟩ => ?_⟩
  subst e1
  split at h1
  · rename_i y h' ep
    obtain ⟨w2, e1, e2, hr2, x2, t2⟩ := plain_ok hr x t ep
    split at h1
    · rename_i xs ei
      rw [hK, ← e2]
      cases y with
      | lst ys =>
        cases ei
        have t2 : RPg Z.C w2.g (.lst xs) v := t2
        unfold RPg at t2
        obtain ⟨a, vs, ev, s, r⟩ := t2
        exact .inl ⟨a, ev, ⟨vs, sl_sq s⟩, h1 w2 _ e1 hr2 x2 (srv_list hr2 s r)⟩
      | tup ys =>
        cases ei
        have t2 : RPg Z.C w2.g (.tup xs) v := t2
        unfold RPg at t2
        obtain ⟨a, vs, ev, s, r⟩ := t2
        exact .inr (.inl ⟨a, ev, ⟨vs, s⟩, h1 w2 _ e1 hr2 x2 (srv_tup hr2 s r)⟩)
      | str z =>
        cases ei
        obtain ⟨ev, so, _⟩ := rv_str (rp_rv t2)
        exact .inr (.inr ⟨z, ev, h1 w2 _ e1 hr2 x2 (srv_str so)⟩)
      | _ => cases ei
    · exact False.elim h1
  · exact False.elim h1
theorem small_ok {i : Int} (h : small62 i = true) : -(2 ^ 62) ≤ i ∧ i < 2 ^ 62 := by
  unfold small62 at h
  have h := of_decide_eq_true h
  omega
theorem pi_rng1 {si : Si} {k : Nat} {b : Expr} {f : SA} {p pos : PySem.Pos} (F : Fit Z si k X) (hg : glob si "range" = true) (hm : Z.C.mg "range" = none) (hs : noStar b = true) (ha : PA X [b] (tA Z f)) : PI X tg (.Call (.Name "range" p) [b] [] pos) (tI Z (iR1 f)) := by
  obtain ⟨g1, g2⟩ := glob_ok F hg
  have hm' : X.mg "range" = none := by rw [F.mg]; exact hm
  refine pi_imp (pi_range1 g1 hm' ha (star_cons (es := []) hs)) fun σ H R h => ?_
  obtain ⟨w, δ, A, h⟩ := h
  refine ⟨w, δ, A, pos_mono (poi_bindA h) fun vs H1 ⟨w1, ds, e1, hr, x, t, h1⟩ => ?_⟩
  subst e1
  split at h1
  · rename_i j
    split at h1
    · rename_i hj
      obtain ⟨b1, b2⟩ := small_ok hj
      cases t with
      | cons r1 r2 =>
        cases r2
        have ev := rv_int (rp_rv (show RP Z.C w1 (.int j) _ from r1.2))
        rw [ev]
        have e0 : (j - 0).toNat = j.toNat := by rw [Int.sub_zero]
        have s := srv_rng (C := Z.C) (w1 := w1) (i := 0) (j := j)
        rw [e0] at s
        exact ⟨j, rfl, b1, b2, h1 w1 _ rfl hr x s⟩
    · exact False.elim h1
  · exact False.elim h1
theorem pi_rng2 {si : Si} {k : Nat} {b c : Expr} {f : SA} {p pos : PySem.Pos} (F : Fit Z si k X) (hg : glob si "range" = true) (hm : Z.C.mg "range" = none) (hs : noStar b = true) (hs2 : noStar c = true) (ha : PA X [b, c] (tA Z f)) : PI X tg (.Call (.Name "range" p) [b, c] [] pos) (tI Z (iR2 f)) := by
  obtain ⟨g1, g2⟩ := glob_ok F hg
  have hm' : X.mg "range" = none := by rw [F.mg]; exact hm
  have st := star_cons (env := X.env) (es := []) hs2
  refine pi_imp (pi_range2 g1 hm' ha (by rw [star_cons hs, st]; rfl) st) fun σ H R h => ?_
  obtain ⟨w, δ, A, h⟩ := h
  refine ⟨w, δ, A, pos_mono (poi_bindA h) fun vs H1 ⟨w1, ds, e1, hr, x, t, h1⟩ => ?_⟩
  subst e1
  split at h1
  · rename_i i j
    split at h1
    · rename_i hj
      rw [Bool.and_eq_true] at hj
      obtain ⟨b1, b2⟩ := small_ok hj.1
      obtain ⟨b3, b4⟩ := small_ok hj.2
      cases t with
      | cons r1 r2 =>
        cases r2 with
        | cons r2 r3 =>
          cases r3
          rw [rv_int (rp_rv (show RP Z.C w1 (.int i) _ from r1.2)), rv_int (rp_rv (show RP Z.C w1 (.int j) _ from r2.2))]
          exact ⟨i, j, rfl, ⟨b1, b2, b3, b4⟩, h1 w1 _ rfl hr x srv_rng⟩
    · exact False.elim h1
  · exact False.elim h1
end
end Pv

/-! ## text Pve -/
set_option Elab.async false
set_option linter.all false
set_option maxRecDepth 100000
set_option autoImplicit false
/-! Pve: targets, list comprehensions. -/
namespace Pv
open PySem PySem.Spec PyProof.Rows L2

/-! ### targets of plain data -/
abbrev TB := Pd → En → Option En
def bName (i : Nat) : TB := fun x δ => if i < δ.length then some (δ.set i (some (.p x))) else none
def bAll : List TB → List Pd → En → Option En
  | [], [], δ => some δ
  | b :: bs, x :: xs, δ => match b x δ with
    | some δ1 => bAll bs xs δ1
    | none => none
  | _, _, _ => none
def bTup (bs : List TB) : TB := fun x δ => match x with
  | .tup xs => bAll bs xs δ
  | _ => none
def bNo : TB := fun _ _ => none
/-- is: the slots that are written -/
def tG (Z : Kx) (is : List Nat) (b : TB) : TG := fun v σ H Q => ∃ w δ x δ', At Z σ H w δ ∧ RP Z.C w x v ∧ b x δ = some δ' ∧ ∀ σ', At Z σ' H w δ' → (∀ i, i ∉ is → σ'[i]? = σ[i]?) → σ'.length = σ.length → Q σ' H
def tGs (Z : Kx) (is : List Nat) (bs : List TB) : TGs := fun vs σ H Q => ∃ w δ xs δ', At Z σ H w δ ∧ RPs Z.C w xs vs ∧ bAll bs xs δ = some δ' ∧ ∀ σ', At Z σ' H w δ' → (∀ i, i ∉ is → σ'[i]? = σ[i]?) → σ'.length = σ.length → Q σ' H
section
variable {X : Cx} {Z : Kx} {w : Wd} {σ : Sl} {δ : En} {H : Hp}
theorem er_set {C : Ct} {i : Nat} {d : Th} {v : V} (h : ER C w σ δ) (k : okAt δ.length i d) (r : RT C w (fun _ => none) d v) : ER C w (σ.set i (some v)) (δ.set i (some d)) where
  len := by rw [List.length_set, List.length_set]; exact h.len
  le := by rw [List.length_set]; exact h.le
  at_ := fun j e q => by
    rw [List.length_set]
    by_cases hj : i = j
    · subst hj
      by_cases hi : i < δ.length
      · rw [List.getElem?_set_self hi] at q
        cases q
        exact ⟨k, v, by rw [List.getElem?_set_self (by rw [h.len]; exact hi)], r⟩
      · rw [List.getElem?_eq_none (by simpa using hi)] at q
        cases q
    · rw [List.getElem?_set_ne hj] at q ⊢
      exact h.at_ j e q
theorem At.set {i : Nat} {d : Th} {v : V} (a : At Z σ H w δ) (k : okAt δ.length i d) (r : RT Z.C w (fun _ => none) d v) : At Z (σ.set i (some v)) H w (δ.set i (some d)) := ⟨a.eH, a.hr, er_set a.er k r, a.ex, a.xr⟩
theorem pg_imp {e : Expr} {t t' : TG} (h : PG X e t) (k : ∀ v σ H Q, t' v σ H Q → t v σ H Q) : PG X e t' := ⟨fun pins s σ H v u Q I r q => h.run pins s σ H v u Q I r (k v σ H Q q)⟩
theorem pgs_imp {e : List Expr} {t t' : TGs} (h : PGs X e t) (k : ∀ v σ H Q, t' v σ H Q → t v σ H Q) : PGs X e t' := ⟨fun pins s σ H v u Q I r q => h.run pins s σ H v u Q I r (k v σ H Q q)⟩
theorem pg_no {e : Expr} {is : List Nat} : PG X e (tG Z is bNo) := ⟨fun _ _ _ _ _ _ _ _ _ ⟨_, _, _, _, _, _, e, _⟩ => nomatch e⟩
/-- a name that may be written -/
def asg (si : Si) (x : Str) : Option Nat := if (okNm x && (decide (si.sc.names.lookup x = some .local) || (decide (si.sc.names.lookup x = some .cell) && si.fn x))) = true then ixS x si.N else none
theorem asg_ok {si : Si} {k : Nat} {x : Str} {i : Nat} (F : Fit Z si k X) (h : asg si x = some i) : X.N.Nodup ∧ X.N[i]? = some x ∧ L2.Loc X.env.scope x ∧ (X.fn x = true ∨ X.env.scope.names.lookup x = some .local) := by
  unfold asg at h
  split at h
  · rename_i e
    simp only [Bool.and_eq_true, Bool.or_eq_true, decide_eq_true_eq] at e
    have nd := F.nd
    rw [← F.N] at nd
    refine ⟨nd, by rw [F.N]; exact ixS_get h, ?_, ?_⟩
    · unfold L2.Loc
      rw [F.sc]
      rcases e.2 with q | q
      · exact .inl q
      · exact .inr q.1
    · rw [F.sc]
      rcases e.2 with q | q
      · exact .inr q
      · exact .inl (F.fn x q.2)
  · cases h
theorem pg_bName {si : Si} {k : Nat} {x : Str} {i : Nat} {pos : PySem.Pos} (F : Fit Z si k X) (h : asg si x = some i) : PG X (.Name x pos) (tG Z [i] (bName i)) := by
  obtain ⟨nd, hi, hx, hf⟩ := asg_ok F h
  refine pg_imp (pg_name nd hi hx hf) fun v σ H Q ⟨w, δ, x, δ', a, r, e, q⟩ => ?_
  unfold bName at e
  split at e
  · cases e
    exact q _ (a.set trivial (rt_p r)) (fun j hj => List.getElem?_set_ne (fun z => hj (by simp [z]))) (List.length_set ..)
  · cases e
theorem pgs_bNil : PGs X [] (tGs Z [] []) := pgs_imp pgs_nil fun v σ H Q ⟨w, δ, xs, δ', a, r, e, q⟩ => by
  cases xs with
  | nil =>
    cases e
    unfold RPs RPgs at r
    exact ⟨r, q σ a (fun _ _ => rfl) rfl⟩
  | cons _ _ => cases e
theorem assign_cons {e : Expr} {es : List Expr} {env : Env} (h : noStar e = true) : (assignEach (e :: es) env).map (·.2) = assign e env :: (assignEach es env).map (·.2) := by
  cases e <;> first | rfl | cases h
theorem assign_star {env : Env} : ∀ {es : List Expr}, es.all noStar = true → (assignEach es env).length = es.length ∧ (assignEach es env).findIdx? (·.1) = none
  | [], _ => ⟨rfl, rfl⟩
  | e :: es, h => by
    rw [List.all_cons, Bool.and_eq_true] at h
    obtain ⟨h1, h2⟩ := assign_star (env := env) h.2
    have e0 : assignEach (e :: es) env = (false, assign e env) :: assignEach es env := by
      have h := h.1
      cases e <;> first | rfl | cases h
    rw [e0]
    refine ⟨by rw [List.length_cons, h1, List.length_cons], ?_⟩
    rw [List.findIdx?_cons, h2]
    rfl
theorem pgs_bCons {e : Expr} {es : List Expr} {is js : List Nat} {b : TB} {bs : List TB} (h1 : PG X e (tG Z is b)) (h2 : PGs X es (tGs Z js bs)) (hs : noStar e = true) : PGs X (e :: es) (tGs Z (is ++ js) (b :: bs)) := by
  refine pgs_imp (pgs_cons h1 h2 (assign_cons hs)) fun vs σ H Q ⟨w, δ, xs, δ', a, r, e, q⟩ => ?_
  cases xs with
  | nil => cases e
  | cons x xs =>
    unfold RPs RPgs at r
    obtain ⟨v, rr, ev, r1, r2⟩ := r
    have e : (match b x δ with
      | some δ1 => bAll bs xs δ1
      | none => none) = some δ' := e
    split at e
    · rename_i δ1 e1
      refine ⟨v, rr, ev, w, δ, x, δ1, a, r1, e1, fun σ1 a1 n1 l1 => ⟨w, δ1, xs, δ', a1, r2, e, fun σ2 a2 n2 l2 => q σ2 a2 (fun i hi => ?_) (l2.trans l1)⟩⟩
      rw [List.mem_append, not_or] at hi
      rw [n2 i hi.2, n1 i hi.1]
    · cases e
theorem pg_bTup {es : List Expr} {is : List Nat} {bs : List TB} {k : Nat} {pos : PySem.Pos} (hK : X.K = Z.C.K) (hc : X.calm = true) (hs : es.all noStar = true) (hl : bs.length = es.length) (h : PGs X es (tGs Z is bs)) : PG X (.Tuple es k pos) (tG Z is (bTup bs)) := by
  obtain ⟨l1, l2⟩ := assign_star (env := X.env) hs
  refine pg_imp (pg_tup hc h l1 l2) fun v σ H Q ⟨w, δ, x, δ', a, r, e, q⟩ => ?_
  unfold bTup at e
  split at e
  · rename_i xs
    obtain ⟨p, vs, ev, sq, rs⟩ := rv_tup (rp_rv r)
    refine ⟨p, vs, ev, by rw [hK, ← a.eH]; exact sq, ?_, w, δ, xs, δ', a, rs, e, q⟩
    rw [← rps_len _ _ rs, ← hl]
    have len : ∀ (bs : List TB) (xs : List Pd) (δ δ' : En), bAll bs xs δ = some δ' → xs.length = bs.length := by
      intro bs
      induction bs with
      | nil =>
        intro xs δ δ' e
        cases xs with
        | nil => rfl
        | cons _ _ => cases e
      | cons b bs ih =>
        intro xs δ δ' e
        cases xs with
        | nil => cases e
        | cons x xs =>
          have e : (match b x δ with
            | some δ1 => bAll bs xs δ1
            | none => none) = some δ' := e
          split at e
          · rw [List.length_cons, List.length_cons, ih _ _ _ e]
          · cases e
    exact len _ _ _ _ e
  · cases e
end

/-! ### an object that nobody knows is written -/
def Wd.put (w : Wd) (p : Addr) (o : HO) : Wd := { w with g := ⟨w.F, upd w.H p o⟩ }
section
variable {C : Ct} {w w1 : Wd} {D : Addr} {o u : HO} {n : Nat}
theorem sl_put {a : Addr} {vs : List V} (f : ¬ w.F D) (h : SL C w.g a vs) : SL C (w.put D o).g a vs := by
  rcases h with ⟨h, k⟩ | h
  · have ne : a ≠ D := fun e => f (e ▸ k)
    refine .inl ⟨?_, k⟩
    rcases h with h | ⟨ob, h⟩
    · exact .inl ((upd_ne ne).trans h)
    · exact .inr ⟨ob, (upd_ne ne).trans h⟩
  · exact .inr h
theorem sqT_put {a : Addr} {vs : List V} (hD : w.H D = some u) (hu : isChg u = true) (h : SqT C.K w.H a vs) : SqT C.K (w.put D o).H a vs := by
  rcases h with h | h
  · rcases h with h | ⟨ob, h⟩
    · have ne : a ≠ D := fun e => by
        rw [e, hD] at h
        cases h
        cases hu
      exact .inl (.inl ((upd_ne ne).trans h))
    · have ne : a ≠ D := fun e => by
        rw [e, hD] at h
        cases h
        cases hu
      exact .inl (.inr ⟨ob, (upd_ne ne).trans h⟩)
  · exact .inr h
mutual
theorem rp_put (hD : w.H D = some u) (hu : isChg u = true) (f : ¬ w.F D) : ∀ (p : Pd) (v : V), RPg C w.g p v → RPg C (w.put D o).g p v
  | .non, v, h => by unfold RPg at h ⊢; exact h
  | .bl b, v, h => by unfold RPg at h ⊢; exact h
  | .int i, v, h => by unfold RPg at h ⊢; exact h
  | .str s, v, h => by unfold RPg at h ⊢; exact h
  | .ty n, v, h => by unfold RPg at h ⊢; exact h
  | .cls c, v, h => by unfold RPg at h ⊢; exact h
  | .tup xs, v, h => by
    unfold RPg at h ⊢
    obtain ⟨b, vs, e, s, r⟩ := h
    exact ⟨b, vs, e, sqT_put hD hu s, rps_put hD hu f xs vs r⟩
  | .lst xs, v, h => by
    unfold RPg at h ⊢
    obtain ⟨b, vs, e, s, r⟩ := h
    exact ⟨b, vs, e, sl_put f s, rps_put hD hu f xs vs r⟩
  | .dct ks ws, v, h => by
    unfold RPg at h ⊢
    obtain ⟨b, kvs, e, s, k, q, r⟩ := h
    exact ⟨b, kvs, e, (upd_ne fun (z : b = D) => f (by rw [← z]; exact k)).trans s, k, q, rps_put hD hu f ws _ r⟩
theorem rps_put (hD : w.H D = some u) (hu : isChg u = true) (f : ¬ w.F D) : ∀ (ps : List Pd) (vs : List V), RPgs C w.g ps vs → RPgs C (w.put D o).g ps vs
  | [], vs, h => by unfold RPgs at h ⊢; exact h
  | p :: ps, vs, h => by
    unfold RPgs at h ⊢
    obtain ⟨v, r, e, h1, h2⟩ := h
    exact ⟨v, r, e, rp_put hD hu f p v h1, rps_put hD hu f ps r h2⟩
end
theorem ob_put {a : Addr} {y : Pd} (hD : w.H D = some u) (hu : isChg u = true) (f : ¬ w.F D) (ne : a ≠ D) (h : OB C w.g y a) : OB C (w.put D o).g y a := by
  cases y with
  | lst xs =>
    obtain ⟨vs, e, r⟩ := h
    exact ⟨vs, (upd_ne ne).trans e, rps_put hD hu f xs vs r⟩
  | dct ks ws =>
    obtain ⟨kvs, e, q, r⟩ := h
    exact ⟨kvs, (upd_ne ne).trans e, q, rps_put hD hu f ws _ r⟩
  | _ => exact False.elim h
theorem hr_put (hr : HR C w) (hD : w.H D = some u) (hu : isChg u = true) (f : ¬ w.F D) (l : ¬ w.live D) : HR C (w.put D o) where
  len := hr.len
  obj := fun j ob a e m => by
    have q := hr.obj j ob a e m
    cases ob with
    | dead => trivial
    | own x => exact ob_put hD hu f (fun z => l ⟨j, ⟨x, e⟩, by rw [← z]; exact m⟩) q
    | frz x => exact ⟨ob_put hD hu f (fun (z : a = D) => f (by rw [← z]; exact q.2)) q.1, q.2⟩
  nf := hr.nf
  inj := hr.inj
  fh := fun a k => upd_tr (hr.fh a k)
/-- seen from a world in which D wasn't -/
theorem ext_put (x : Ext n w1 w) (h : w1.H D = none) : Ext n w1 (w.put D o) where
  fr := fun a ob e k => (upd_ne (ne_of_none e h)).trans (x.fr a ob e k)
  tr := fun a e => upd_tr (x.tr a e)
  ff := x.ff
  fn := x.fn
  lv := x.lv
  mm := x.mm
  nw := x.nw
  ln := x.ln
  ex := x.ex
end

/-! ### list comprehensions -/
def wipeE (δ : En) : List Nat → En
  | [] => δ
  | v :: vs => (wipeE δ vs).set v none
def compGo (b : TB) (t : SB) (e : SE) : List Pd → En → List Pd → Hs → Rs (List Pd)
  | [], _, acc, h => .ok acc h
  | x :: r, δ, acc, h => match b x δ with
    | some δ1 => match t δ1 h with
      | .ok true h => match e δ1 h with
        | .ok d h => match plain d h with
          | some (y, h) => if acc.length < 16777216 then compGo b t e r δ (acc ++ [y]) h else .bad
          | none => .bad
        | _ => .bad
      | .ok false h => compGo b t e r δ acc h
      | _ => .bad
    | none => .bad
def sLc (it : SI) (vs : List Nat) (b : TB) (t : SB) (e : SE) : SE := fun δ h => (it δ h).bind fun xs h => match compGo b t e xs (wipeE δ vs) [] h with
  | .ok acc h => .ok (.tmp (.lst acc)) h
  | _ => .bad
def Kx.blk (Z : Kx) : Kx := ⟨Z.C, fun _ _ _ _ => False, Z.ex⟩
section
variable {X : Cx} {Z : Kx} {w w1 : Wd} {σ : Sl} {δ : En}
theorem er_none {C : Ct} {i : Nat} (h : ER C w σ δ) : ER C w (σ.set i none) (δ.set i none) where
  len := by rw [List.length_set, List.length_set]; exact h.len
  le := by rw [List.length_set]; exact h.le
  at_ := fun j e q => by
    rw [List.length_set]
    by_cases hj : i = j
    · subst hj
      by_cases hi : i < δ.length
      · rw [List.getElem?_set_self hi] at q
        cases q
      · rw [List.getElem?_eq_none (by simpa using hi)] at q
        cases q
    · rw [List.getElem?_set_ne hj] at q ⊢
      exact h.at_ j e q
theorem er_wipe {C : Ct} (h : ER C w σ δ) : ∀ vs : List Nat, ER C w (wipe σ vs) (wipeE δ vs)
  | [] => h
  | _ :: vs => er_none (er_wipe h vs)
theorem wipe_none {σ : Sl} {i : Nat} : ∀ {vs : List Nat}, i ∈ vs → i < σ.length → (wipe σ vs)[i]? = some none
  | v :: vs, h, hl => by
    unfold wipe
    by_cases e : v = i
    · subst e
      rw [List.getElem?_set_self (by rw [wipe_length]; exact hl)]
    · rw [List.getElem?_set_ne e]
      rcases List.mem_cons.mp h with q | q
      · exact absurd q.symm e
      · exact wipe_none q hl
theorem wipe_out {σ : Sl} {i : Nat} : ∀ {vs : List Nat}, i ∉ vs → (wipe σ vs)[i]? = σ[i]?
  | [], h => rfl
  | v :: vs, h => by
    unfold wipe
    rw [List.getElem?_set_ne fun e => h (by rw [e]; exact .head _)]
    exact wipe_out fun q => h (.tail _ q)
theorem wipe_eq {σ σ2 : Sl} {vs is : List Nat} (h : ∀ i, i ∉ is → σ2[i]? = (wipe σ vs)[i]?) (hl : σ2.length = (wipe σ vs).length) (sub : ∀ i ∈ is, i ∈ vs) : wipe σ2 vs = wipe σ vs := by
  apply List.ext_getElem?
  intro i
  by_cases hi : i ∈ vs
  · by_cases l : i < σ.length
    · rw [wipe_none hi l, wipe_none hi (by rw [hl, wipe_length]; exact l)]
    · rw [List.getElem?_eq_none (by rw [wipe_length, hl, wipe_length]; omega), List.getElem?_eq_none (by rw [wipe_length]; omega)]
  · rw [wipe_out hi, h i fun q => hi (sub i q), wipe_out hi]
theorem At.wipe {H : Hp} (a : At Z σ H w δ) (vs : List Nat) : At Z.blk (L2.wipe σ vs) H w (wipeE δ vs) := ⟨a.eH, a.hr, er_wipe a.er vs, a.ex, a.xr⟩
/-- THE RULE -/
theorem rd_lc {it : SI} {vs is : List Nat} {b : TB} {t : SB} {e : SE} {H : Hp} {Q : VK} (sub : ∀ i ∈ is, i ∈ vs) (h : tE Z (sLc it vs b t e) σ H Q) : tLc (tI Z it) (tG Z.blk is b) (tT Z.blk t) (tE Z.blk e) vs σ H Q := by
  obtain ⟨w, δ, A, h⟩ := h
  have h : Po Z w σ Q ((it δ w.h).bind fun xs h => match compGo b t e xs (wipeE δ vs) [] h with
    | .ok acc h => .ok (.tmp (.lst acc)) h
    | _ => .bad) := h
  have G : ∀ (r : Rs (List Pd)), Prop := fun r => True
  refine ⟨w, δ, A, ?_⟩
  cases ei : it δ w.h with
  | exc c fs h' =>
    rw [ei] at h
    exact h
  | bad =>
    rw [ei] at h
    exact h
  | ok xs h' =>
    rw [ei] at h
    have h : Po Z w σ Q (match compGo b t e xs (wipeE δ vs) [] h' with
      | .ok acc h => .ok (.tmp (.lst acc)) h
      | _ => .bad) := h
    intro w1 J e1 hr1 x1 S D hD
    rw [← e1] at h
    have A1 := A.on hr1 x1
    have hS := sizeLine_eq
    refine ⟨fun i m H => m = xs.length - i ∧ i ≤ xs.length ∧ ∃ w' acc avs, w'.H = H ∧ HR Z.C w' ∧ Ext 0 w1 w' ∧ w'.H D = some (.lst avs) ∧ ¬ w'.F D ∧ ¬ w'.live D ∧ RPs Z.C w' acc avs ∧
      Po Z w σ Q (match compGo b t e (xs.drop i) (wipeE δ vs) acc w'.h with
        | .ok acc h => .ok (.tmp (.lst acc)) h
        | _ => .bad), ⟨xs.length, rfl, Nat.zero_le _, w1.al D (.lst []), [], [], rfl, hr_al hr1 hD, ext_al hD, upd_same, fun f => hr1.fh D f hD, fun l => live_there hr1 l hD, rps_nil, h⟩, ?_⟩
    rintro i m H' ⟨em, hi, w', acc, avs, eH, hr', x', hD', nf, nl, ra, hp⟩
    subst eH
    by_cases hlt : i < xs.length
    · refine .inr ⟨S.go 0 w' i hr' x' hlt, fun H2 => ∃ w2 acc2 avs2, w2.H = H2 ∧ HR Z.C w2 ∧ Ext 0 w1 w2 ∧ w2.H D = some (.lst avs2) ∧ ¬ w2.F D ∧ ¬ w2.live D ∧ RPs Z.C w2 acc2 avs2 ∧
        Po Z w σ Q (match compGo b t e (xs.drop (i + 1)) (wipeE δ vs) acc2 w2.h with
          | .ok acc h => .ok (.tmp (.lst acc)) h
          | _ => .bad), fun H2 n2 => ⟨xs.length - (i + 1), by omega, rfl, hlt, n2⟩, fun v H2 y => ?_⟩
      obtain ⟨w2, z, e2, eh, hr2, x2, ez, rz⟩ := S.yl 0 w' i v H2 hr' x' hlt y
      subst e2
      rw [List.drop_eq_getElem_cons hlt] at hp
      have ez' : xs[i] = z := by
        rw [List.getElem?_eq_getElem hlt] at ez
        exact Option.some.inj ez
      rw [ez', ← eh] at hp
      have hp : Po Z w σ Q (match (match b z (wipeE δ vs) with
        | some δ1 => match t δ1 w2.h with
          | .ok true h => match e δ1 h with
            | .ok d h => match plain d h with
              | some (y, h) => if acc.length < 16777216 then compGo b t e (xs.drop (i + 1)) (wipeE δ vs) (acc ++ [y]) h else .bad
              | none => .bad
            | _ => .bad
          | .ok false h => compGo b t e (xs.drop (i + 1)) (wipeE δ vs) acc h
          | _ => .bad
        | none => .bad) with
          | .ok acc h => .ok (.tmp (.lst acc)) h
          | _ => .bad) := hp
      have X2 := x'.trans x2
      have k2 : ∀ {w3 : Wd}, Ext 0 w' w3 → w3.H D = some (.lst avs) ∧ ¬ w3.F D ∧ ¬ w3.live D := fun {w3} x3 => by
        have ne : w'.H D ≠ none := by rw [hD']; exact fun z => nomatch z
        refine ⟨x3.fr D _ hD' nl, fun f => ?_, x3.dead ne nl⟩
        rcases x3.fn D f with q | q | q
        · exact nf q
        · exact ne q
        · exact nl q
      cases eb : b z (wipeE δ vs) with
      | none =>
        simp only [eb] at hp
        exact False.elim hp
      | some δ1 =>
        simp only [eb] at hp
        refine ⟨w2, wipeE δ vs, z, δ1, (A1.on hr2 X2).wipe vs, rz, eb, fun σ2 A2 n2 l2 => ⟨wipe_eq n2 l2 sub, w2, δ1, A2, ?_⟩⟩
        cases et : t δ1 w2.h with
        | exc c fs h3 =>
          simp only [et] at hp
          exact False.elim hp
        | bad =>
          simp only [et] at hp
          exact False.elim hp
        | ok c h3 =>
          simp only [et] at hp
          intro w3 e3 hr3 x3
          rw [← e3] at hp
          have X3 := x2.trans x3
          cases c with
          | false =>
            obtain ⟨q1, q2, q3⟩ := k2 X3
            exact ⟨w3, acc, avs, rfl, hr3, x'.trans X3, q1, q2, q3, rps_ext hr' X3 _ _ ra, hp⟩
          | true =>
            refine ⟨w3, δ1, A2.on hr3 x3, ?_⟩
            cases ee : e δ1 w3.h with
            | exc c fs h4 =>
              simp only [ee] at hp
              exact False.elim hp
            | bad =>
              simp only [ee] at hp
              exact False.elim hp
            | ok d h4 =>
              simp only [ee] at hp
              intro w4 v4 e4 hr4 x4 t4
              rw [← e4] at hp
              cases ep : plain d w4.h with
              | none =>
                simp only [ep] at hp
                exact False.elim hp
              | some yh =>
                obtain ⟨y4, h5⟩ := yh
                simp only [ep] at hp
                by_cases ha : acc.length < 16777216
                · simp only [if_pos ha] at hp
                  obtain ⟨w5, f1, f2, hr5, x5, r5⟩ := plain_ok hr4 x4 t4 ep
                  rw [← f1] at hp
                  have X5 := X3.trans x5
                  obtain ⟨q1, q2, q3⟩ := k2 X5
                  refine ⟨avs, by rw [← f2]; exact q1, by rw [← rps_len _ _ ra]; omega, w5.put D (.lst (avs ++ [v4])), acc ++ [y4], avs ++ [v4], by rw [← f2]; rfl, hr_put hr5 q1 rfl q2 q3, ext_put (x'.trans X5) hD, upd_same, q2, q3, ?_, hp⟩
                  exact rps_put q1 rfl q2 _ _ (rps_append (rps_ext hr' X5 _ _ ra) (rps_cons r5 rps_nil))
                · simp only [if_neg ha] at hp
                  exact False.elim hp
    · have ei : i = xs.length := by omega
      subst ei
      refine .inl ⟨S.st 0 w' hr' x', ?_⟩
      rw [List.drop_of_length_le (Nat.le_refl _)] at hp
      exact hp w' (.ref D) rfl hr' (x1.trans x') ⟨D, rfl, ⟨avs, hD', ra⟩, nf, nl, x1.none_of hD⟩
end
end Pv

/-! ## text Pvf -/
set_option Elab.async false
set_option linter.all false
set_option maxRecDepth 100000
set_option autoImplicit false
/-! Pvf: comprehension blocks, slices, displays, methods as expressions. -/
namespace Pv
open PySem PySem.Spec PyProof.Rows L2

def Si.blk (si : Si) (scope : Scope) : Si := { N := si.N, sc := relS scope si.sc, calm := si.calm, fn := fun x => scope.names.lookup x == some .cell, top := false }
section
variable {Z : Kx} {si : Si} {k : Nat} {X : Cx}
theorem fit_blk (F : Fit Z si k X) (hc : si.calm = true) (hn : Z.ex = none) (s : Shared) (H : Hp) (scope : Scope) (cl : List (Str × Addr)) (C : Addr) (fp : List Addr) : Fit Z.blk (si.blk scope) k (X.blk s H scope (compEnvC scope cl C X.env) fp) where
  P := F.P
  w := F.w
  K := F.K
  mg := F.mg
  base := F.base
  N := F.N
  nd := F.nd
  sc := by
    show relS scope X.env.scope = relS scope si.sc
    rw [F.sc]
  un := F.un
  calm := fun _ => ⟨(F.calm hc).1, (F.calm hc).2.1, PassesOwn.never⟩
  tk := takes_none5
  fn := fun x h => h
  exn := fun _ => hn
  stk := fun z => Bool.noConfusion z
  ex := fun x h => by
    have h : Z.ex = some x := h
    rw [hn] at h
    cases h
/-- the own names of a block -/
def ownOf (N : List Str) (scope : Scope) : List (Str × Nat) := scope.names.filterMap fun (n, k) => match k with
  | .local => (ixS n N).map fun i => (n, i)
  | .cell => (ixS n N).map fun i => (n, i)
  | _ => none
def notSet : Expr → Bool
  | .Set _ _ _ => false
  | _ => true
theorem notSet_ok {e : Expr} {env : Env} (h : notSet e = true) : ∀ x, foldedSetIterable e env x = pure x := by
  cases e <;> first | (intro x; rfl) | cases h
def bYes : SB := fun _ h => .ok true h
theorem rd_yes {σ : Sl} {H : Hp} {Q : Bool → Hp → Prop} (h : tT Z bYes σ H Q) : tYes σ H Q := by
  obtain ⟨w, δ, a, h⟩ := h
  have q := h w rfl a.hr Ext.refl
  rw [a.eH] at q
  exact q
theorem pts_imp {Y : Cx} {l : List Expr} {t t' : TT} (h : PTs Y l t) (k : ∀ σ H Q, t' σ H Q → t σ H Q) : PTs Y l t' := ⟨fun pins s σ H Q I q => h.run pins s σ H Q I (k σ H Q q)⟩
theorem pe_lcG {elt tg iter : Expr} {ifs : List Expr} {scope : Scope} {pos : PySem.Pos} {it : SI} {is : List Nat} {b : TB} {t : SB} {e : SE} (F : Fit Z si k X) (hc : si.calm = true) (hi : PI X tg iter (tI Z it)) (ok : blkC si.N si.sc scope (ownOf si.N scope) = true)
    (hg : ∀ Y, Fit Z.blk (si.blk scope) k Y → PG Y tg (tG Z.blk is b)) (ht : ∀ Y, Fit Z.blk (si.blk scope) k Y → PTs Y ifs (tT Z.blk t)) (he : ∀ Y, Fit Z.blk (si.blk scope) k Y → PE Y elt (tE Z.blk e)) (hs : notSet iter = true)
    (sub : is.all (fun i => ((ownOf si.N scope).map (·.2)).contains i) = true) : PE X (.ListComp elt [⟨tg, iter, ifs, 0⟩] scope pos) (tE Z (sLc it ((ownOf si.N scope).map (·.2)) b t e)) := by
  have hn := F.exn hc
  have nd := F.nd
  rw [← F.N] at nd
  refine pe_imp (pe_lc (own := ownOf si.N scope) (F.calm hc).1 nd hi (by rw [F.N, F.sc]; exact blkOk_by ok) (fun s H C cl fp => hg _ (fit_blk F hc hn s H scope cl C fp)) (fun s H C cl fp => ht _ (fit_blk F hc hn s H scope cl C fp)) (fun s H C cl fp => he _ (fit_blk F hc hn s H scope cl C fp)) (notSet_ok hs)) fun σ H Q h => ?_
  refine rd_lc (fun i hi => ?_) h
  rw [List.all_eq_true] at sub
  simpa using sub i hi

/-! ### slices -/
def sSl (a : SE) (lo hi : SE) : SE := fun δ h => (a δ h).bind fun d h => (lo δ h).bind fun l h => (hi δ h).bind fun u h => match view d h with
  | some x => match l, u with
    | .p (.int i), .p (.int j) => (match slP x (some i) (some j) with | some r => .ok r h | none => .bad)
    | .p (.int i), .p .non => (match slP x (some i) none with | some r => .ok r h | none => .bad)
    | .p .non, .p (.int j) => (match slP x none (some j) with | some r => .ok r h | none => .bad)
    | .p .non, .p .non => (match slP x none none with | some r => .ok r h | none => .bad)
    | _, _ => .bad
  | none => .bad
/-- a slice's part: None where it is left out -/
def partP : Th → Option (Option Int)
  | .p (.int i) => some (some i)
  | .p .non => some none
  | _ => none
def sPart (f : SE) : SE := fun δ h => (f δ h).bind fun d h => match d with
  | .p (.int i) => .ok (.p (.int i)) h
  | _ => .bad
def tO (Z : Kx) (f : SE) : TO := fun σ H Q => ∃ w δ, At Z σ H w δ ∧ match f δ w.h with
  | .ok d h' => ∀ w' o, w'.h = h' → HR Z.C w' → Ext 0 w w' → partP d = some o → Q o w'.H
  | .exc c fs h' => ∀ w' cls d, w'.h = h' → HR Z.C w' → Ext 0 w w' → RX Z.C w' c fs cls d → Z.W cls d σ w'.H
  | .bad => False
theorem po_imp {e : Option Expr} {t t' : TO} (h : PO X e t) (k : ∀ σ H Q, t' σ H Q → t σ H Q) : PO X e t' := ⟨fun pins s σ H Q I q => h.run pins s σ H Q I (k σ H Q q)⟩
theorem po_noneG : PO X none (tO Z (sC .non)) := po_imp po_none fun σ H Q ⟨w, δ, a, h⟩ => by
  have q := h w none rfl a.hr Ext.refl rfl
  rw [a.eH] at q
  exact q
theorem po_someG {e : Expr} {f : SE} (he : PE X e (tE Z f)) : PO X (some e) (tO Z (sPart f)) := po_imp (po_some he) fun σ H Q ⟨w, δ, a, h⟩ => by
  refine ⟨w, δ, a, ?_⟩
  unfold sPart at h
  cases ef : f δ w.h with
  | bad =>
    rw [ef] at h
    exact h
  | exc c fs h' =>
    rw [ef] at h
    exact h
  | ok d h' =>
    rw [ef] at h
    intro w' v e1 hr x t
    rw [bind_ok] at h
    cases d with
    | p y =>
      cases y with
      | int i =>
        have ev := rv_int (rp_rv (show RP Z.C w' (.int i) v from t))
        exact ⟨i, ev, h w' (some i) e1 hr x rfl⟩
      | _ => exact False.elim h
    | _ => exact False.elim h
theorem rd_sl {a lo hi : SE} {σ : Sl} {H : Hp} {Q : VK} (h : tE Z (sSl a lo hi) σ H Q) : tSl (rSl Z.C) (tE Z a) (tO Z lo) (tO Z hi) σ H Q := by
  obtain ⟨w, δ, A, h⟩ := h
  refine ⟨w, δ, A, po_mono (po_bind h) fun v H1 ⟨w1, d, e1, hr, x, t, h1⟩ => ?_⟩
  subst e1
  refine ⟨w1, δ, A.on hr x, ?_⟩
  have h1 := po_ext x h1
  cases el : lo δ w1.h with
  | bad =>
    rw [el] at h1
    exact h1
  | exc c fs h' =>
    rw [el] at h1
    exact h1
  | ok l h' =>
    rw [el] at h1
    intro w2 o e2 hr2 x2 po
    rw [bind_ok, ← e2] at h1
    refine ⟨w2, δ, (A.on hr x).on hr2 x2, ?_⟩
    have h1 := po_ext x2 h1
    cases eu : hi δ w2.h with
    | bad =>
      rw [eu] at h1
      exact h1
    | exc c fs h' =>
      rw [eu] at h1
      exact h1
    | ok u h' =>
      rw [eu] at h1
      intro w3 o2 e3 hr3 x3 po2
      rw [bind_ok, ← e3] at h1
      have h1 := po_ext x3 h1
      have t3 := rt_ext0 hr2 x3 (rt_ext0 hr x2 t)
      cases ev : view d w3.h with
      | none =>
        simp only [ev] at h1
        exact False.elim h1
      | some y =>
        simp only [ev] at h1
        have R := view_ok hr3 t3 ev
        have fin : ∀ r, (match slP y o o2 with
          | some r => Rs.ok r w3.h
          | none => .bad) = r → Po Z w3 σ Q r → rSl Z.C v o o2 w3.H Q := fun r er hp => by
          subst er
          cases es : slP y o o2 with
          | none =>
            rw [es] at hp
            exact False.elim hp
          | some r =>
            rw [es] at hp
            exact ⟨w3, y, r, rfl, hr3, R, es, hp⟩
        unfold partP at po po2
        split at po <;> first | cases po | skip
        · split at po2 <;> first | cases po2 | skip
          · exact fin _ rfl h1
          · exact fin _ rfl h1
        · split at po2 <;> first | cases po2 | skip
          · exact fin _ rfl h1
          · exact fin _ rfl h1

/-! ### {} -/
def sDic : SE := fun _ h => .ok (.tmp (.dct [] [])) h
theorem pe_dic {pos : PySem.Pos} : PE X (.Dict [] [] pos) (tE Z sDic) := pe_imp pe_dnewK fun σ H Q ⟨w, δ, a, h⟩ p hp => by
  rw [← a.eH] at hp ⊢
  exact h (w.al p (.dK [])) (.ref p) rfl (hr_al a.hr hp) (ext_al hp) ⟨p, rfl, ⟨[], upd_same, rfl, rps_nil⟩, fun f => a.hr.fh p f hp, fun q => live_there a.hr q hp, hp⟩

/-! ### sep.join(texts) -/
def joinP (a : Str) (y : Pd) : Option Th := match itemsP y with
  | some xs => match strsP xs with
    | some ys => if ((ys.map (·.length)).sum + ys.length * a.length ≤ 16777216 ∧ PyData.strOk (Txt.join a ys) = true ∧ (Txt.join a ys).length ≤ 16777216 ∧ isSeq y = true) then some (.p (.str (Txt.join a ys))) else none
    | none => none
  | none => none
def sJoin (a b : SE) : SE := fun δ h => (a δ h).bind fun d h => match d with
  | .p (.str z) => (b δ h).bind fun e h => lift1 (joinP z) e h
  | _ => .bad
def plainBase : Expr → Bool
  | .Call _ _ _ _ => false
  | _ => true
theorem plainBase_ok {o : Expr} {f : Str} {env : Env} {wh : Sem Value} (h : plainBase o = true) : attributeBase o f env wh = wh := by
  cases o <;> first | rfl | cases h
theorem pe_joinG {o e : Expr} {a b : SE} {apos pos : PySem.Pos} (F : Fit Z si k X) (ho : PE X o (tE Z a)) (he : PE X e (tE Z b)) (hs : noStar e = true) (hb : plainBase o = true) (hl : (apos.endLine == pos.line) = true) : PE X (.Call (.Attribute o "join" apos) [e] [] pos) (tE Z (sJoin a b)) := by
  refine pe_imp (pe_join ho he (star_cons (es := []) hs) (plainBase_ok hb) hl) fun σ H Q h => ?_
  obtain ⟨w, δ, A, h⟩ := h
  have hS := sizeLine_eq
  refine ⟨w, δ, A, po_mono (po_bind h) fun v H1 ⟨w1, d, e1, hr, x, t, h1⟩ => ?_⟩
  subst e1
  cases d with
  | p y =>
    cases y with
    | str z =>
      obtain ⟨ev, _, _⟩ := rv_str (rp_rv (show RP Z.C w1 (.str z) v from t))
      refine ⟨⟨z, ev⟩, w1, δ, A.on hr x, po_mono (po_bind (po_ext x h1)) fun u H2 ⟨w2, d2, e2, hr2, x2, t2, h2⟩ => ?_⟩
      subst e2
      obtain ⟨w3, y, r, e3, hr3, ry, er, q⟩ := rd_lift1 hr2 t2 (po_ext x2 h2)
      unfold joinP at er
      split at er
      · rename_i xs ei
        split at er
        · rename_i ys es
          split at er
          · rename_i c
            cases er
            obtain ⟨c1, c2, c3, c4⟩ := c
            rw [← e3]
            have fin := q w3 _ rfl hr3 Ext.refl (rt_p (rp_str c2 (by omega)))
            cases y with
            | lst l =>
              cases ei
              obtain ⟨p, vs, ep, sq, rs⟩ := rv_lst ry
              have evs := (strs_of rs es).1
              exact ⟨z, p, ys, ev, by rw [ep], .inl (by rw [F.K, ← evs]; exact sq), c1, fin⟩
            | tup l =>
              cases ei
              obtain ⟨p, vs, ep, sq, rs⟩ := rv_tup ry
              have evs := (strs_of rs es).1
              exact ⟨z, p, ys, ev, by rw [ep], .inr (by rw [F.K, ← evs]; exact sq), c1, fin⟩
            | _ => cases c4
          · cases er
        · cases er
      · cases er
    | _ => exact False.elim h1
  | _ => exact False.elim h1
end
end Pv

/-! ## text Pvg -/
set_option Elab.async false
set_option linter.all false
set_option maxRecDepth 100000
set_option autoImplicit false
/-! Pvg: an expression's reading from its text. -/
namespace Pv
open PySem PySem.Spec PyProof.Rows L2

/-- what the text's module tells: its defs, constants, the built-in names, the exception classes -/
structure Gs where
  fn : Str → Option Fi
  var : Str → Option Pd
  blt : Str → Bool
  sub : Str → Str → Option Bool
  cl : Str → Bool
structure GsOk (G : Gs) (C : Ct) (k : Nat) : Prop where
  fn : ∀ x fi, G.fn x = some fi → FiOk C k x fi
  var : ∀ x d, G.var x = some d → VarOk C x d
  blt : ∀ x, G.blt x = true → C.mg x = none
  sub : SubOk C G.sub
  cl : ∀ x, G.cl x = true → ClOk C x

/-! ### targets -/
def tgt : Nat → Si → Expr → List Nat × TB
  | 0, _, _ => ([], bNo)
  | n + 1, si, e => match e with
    | .Name x _ => match asg si x with
      | some i => ([i], bName i)
      | none => ([], bNo)
    | .Tuple es _ _ => if (es.all noStar && si.calm) = true then (((es.map (tgt n si)).map (·.1)).flatten, bTup ((es.map (tgt n si)).map (·.2))) else ([], bNo)
    | _ => ([], bNo)
section
variable {Z : Kx} {si : Si} {k : Nat} {X : Cx}
theorem pg_tgt (F : Fit Z si k X) : ∀ (n : Nat) (e : Expr), PG X e (tG Z (tgt n si e).1 (tgt n si e).2)
  | 0, e => pg_no
  | n + 1, e => by
    unfold tgt
    split
    · rename_i x p
      split
      · rename_i i h
        exact pg_bName F h
      · exact pg_no
    · rename_i es m p
      split
      · rename_i h
        rw [Bool.and_eq_true] at h
        have all : ∀ es : List Expr, es.all noStar = true → PGs X es (tGs Z ((es.map (tgt n si)).map (·.1)).flatten ((es.map (tgt n si)).map (·.2))) := by
          intro es
          induction es with
          | nil => intro _; exact pgs_bNil
          | cons e es ih =>
            intro h
            rw [List.all_cons, Bool.and_eq_true] at h
            exact pgs_bCons (pg_tgt F n e) (ih h.2) h.1
        exact pg_bTup F.K (F.calm h.2).1 h.1 (by simp) (all es h.1)
      · exact pg_no
    · exact pg_no
end

/-! ### the step -/
structure Cmp where
  E : Si → Expr → SE
  T : Si → Expr → SB
def isSl : Expr → Bool
  | .Slice _ _ _ _ => true
  | _ => false
def cArgs (c : Cmp) (si : Si) (es : List Expr) : SA := sArgs (es.map (c.E si))
def cKws (c : Cmp) (si : Si) (kws : List Keyword) : SA := sArgs (kws.map fun w => c.E si (kwV w))
def cIsi (G : Gs) (c : Cmp) (si : Si) : List Expr → SE
  | [e, T] => match clsArg T with
    | some ns => if (noStar e && decide (ns.length ≤ 1000) && ns.all (glob si) && ns.all G.cl) = true then sIsi G.sub ns (c.E si e) else sBad
    | none => sBad
  | _ => sBad
def cBlt (c : Cmp) (si : Si) (f : Str) : List Expr → SE
  | [e] => match bf si.calm f with
    | some g => if noStar e = true then s1 g (c.E si e) else sBad
    | none => sBad
  | _ => sBad
def cCall (G : Gs) (c : Cmp) (si : Si) (f : Str) (args : List Expr) (kws : List Keyword) : SE :=
  if glob si f = true then match G.fn f with
    | some fi => match kwN kws with
      | some ks => match fi.pats.find? fun p => decide (p.np = args.length) && decide (p.ks = ks) with
        | some p => if (args.all noStar && si.calm) = true then sCall fi.run p (cArgs c si args) (cKws c si kws) else sBad
        | none => sBad
      | none => sBad
    | none => if G.blt f = true then match kws with
      | [] => if f = "isinstance" then cIsi G c si args else cBlt c si f args
      | _ :: _ => sBad
      else sBad
  else sBad
def cMeth (c : Cmp) (si : Si) (o : Expr) (m : Str) (args : List Expr) (line : Bool) : SE := match args with
  | [e] => if (decide (m = "join") && noStar e && plainBase o && line) = true then sJoin (c.E si o) (c.E si e) else sBad
  | _ => sBad
def cIter (G : Gs) (c : Cmp) (si : Si) (e : Expr) : SI := match e with
  | .Call (.Name f _) args [] _ => if f = "range" then (if (glob si f && G.blt f) = true then match args with
      | [a] => if noStar a = true then iR1 (cArgs c si [a]) else iBad
      | [a, b] => if (noStar a && noStar b) = true then iR2 (cArgs c si [a, b]) else iBad
      | _ => iBad
      else iBad) else iVal (c.E si e)
  | e => iVal (c.E si e)
def cLc (G : Gs) (c : Cmp) (si : Si) (elt : Expr) (gs : List Comprehension) (scope : Scope) : SE := match gs with
  | [⟨tg, iter, ifs, 0⟩] =>
    if (si.calm && blkC si.N si.sc scope (ownOf si.N scope) && notSet iter && (tgt 5 (si.blk scope) tg).1.all (fun i => ((ownOf si.N scope).map (·.2)).contains i)) = true then
      match ifs with
      | [] => sLc (cIter G c si iter) ((ownOf si.N scope).map (·.2)) (tgt 5 (si.blk scope) tg).2 bYes (c.E (si.blk scope) elt)
      | [t] => sLc (cIter G c si iter) ((ownOf si.N scope).map (·.2)) (tgt 5 (si.blk scope) tg).2 (c.T (si.blk scope) t) (c.E (si.blk scope) elt)
      | _ => sBad
    else sBad
  | _ => sBad
def cSub (c : Cmp) (si : Si) (e sl : Expr) : SE := match sl with
  | .Slice lo hi none _ => sSl (c.E si e) (match lo with | some a => sPart (c.E si a) | none => sC .non) (match hi with | some a => sPart (c.E si a) | none => sC .non)
  | .Slice none none (some (.UnaryOp .USub (.Constant (.int 1) _ _) _)) _ => s1 revP (c.E si e)
  | b => if isSl b = true then sBad else s2 ixP (c.E si e) (c.E si b)
def cCon : Const → SE
  | .none => sC .non
  | .bool b => sC (.bl b)
  | .int i => sC (.int i)
  | .str x => if (PyData.strOk x && decide (x.length ≤ 16777216)) = true then sC (.str x) else sBad
  | _ => sBad
def cName (G : Gs) (si : Si) (x : Str) : SE := match slot si x with
  | some i => sVar i
  | none => if glob si x = true then match G.var x with
    | some d => sC d
    | none => sBad
    else sBad
def stE (G : Gs) (c : Cmp) (si : Si) (e : Expr) : SE := match e with
  | .Name x _ => cName G si x
  | .Constant v _ _ => cCon v
  | .BinOp a op b _ => s2 (binP op) (c.E si a) (c.E si b)
  | .UnaryOp .Not a _ => sNot (c.E si a)
  | .UnaryOp .USub a _ => s1 negP (c.E si a)
  | .BoolOp _ [a] _ => c.E si a
  | .BoolOp .And (a :: b :: r) pos => sAnd (c.E si a) (c.E si (.BoolOp .And (b :: r) pos))
  | .BoolOp .Or (a :: b :: r) pos => sOr (c.E si a) (c.E si (.BoolOp .Or (b :: r) pos))
  | .IfExp t a b _ => sIf (c.T si t) (c.E si a) (c.E si b)
  | .Compare a [op] [b] _ => if behindInMarks op b = true then sBad else s2 (cmpT op) (c.E si a) (c.E si b)
  | .Compare a [op, op'] [b, d] _ => if lastMarks [op, op'] [b, d] = true then sBad else sChain (cmpP op) (cmpP op') (c.E si a) (c.E si b) (c.E si d)
  | .Subscript e sl _ => cSub c si e sl
  | .Tuple es _ _ => if es.all noStar = true then sTup (sPl (es.map (c.E si))) else sBad
  | .List es _ => if es.all noStar = true then sLst (sPl (es.map (c.E si))) else sBad
  | .Dict [] [] _ => sDic
  | .ListComp elt gs scope _ => cLc G c si elt gs scope
  | .Call (.Name f _) args kws _ => cCall G c si f args kws
  | .Call (.Attribute o m ap) args [] pos => cMeth c si o m args (ap.endLine == pos.line)
  | _ => sBad
def stT (c : Cmp) (e' : SE) (si : Si) (e : Expr) : SB := match e with
  | .UnaryOp .Not a _ => bNot (c.T si a)
  | .BoolOp _ [a] _ => c.T si a
  | .BoolOp .And (a :: b :: r) pos => bAnd (c.T si a) (c.T si (.BoolOp .And (b :: r) pos))
  | .BoolOp .Or (a :: b :: r) pos => bOr (c.T si a) (c.T si (.BoolOp .Or (b :: r) pos))
  | .BoolOp _ [] _ => bBad
  | .IfExp _ _ _ _ => bBad
  | .Compare a [op] [b] _ => if behindInMarks op b = true then bBad else bTru (s2 (cmpT op) (c.E si a) (c.E si b))
  | .Compare a [op, op'] [b, d] _ => if lastMarks [op, op'] [b, d] = true then bBad else bTru (sChain (cmpP op) (cmpP op') (c.E si a) (c.E si b) (c.E si d))
  | .Compare _ _ _ _ => bBad
  | _ => bTru e'
def cmp (G : Gs) : Nat → Cmp
  | 0 => ⟨fun _ _ => sBad, fun _ _ => bBad⟩
  | n + 1 => ⟨stE G (cmp G n), fun si e => stT (cmp G n) (stE G (cmp G n) si e) si e⟩
end Pv

/-! ## text Pvh -/
set_option Elab.async false
set_option linter.all false
set_option maxRecDepth 100000
set_option autoImplicit false
/-! Pvh: the readings are right. -/
namespace Pv
open PySem PySem.Spec PyProof.Rows L2

section
variable {Z : Kx} {σ : Sl} {H : Hp}
theorem rd_bB {f : SE} {Q : Bool → Hp → Prop} (hb : ∀ δ h d h', f δ h = .ok d h' → ∃ b, d = .p (.bl b)) (h : tT Z (bTru f) σ H Q) : tE Z f σ H fun x H' => ∃ k, x = .bl k ∧ Q k H' := by
  obtain ⟨w, δ, a, h⟩ := rd_bTru h
  refine ⟨w, δ, a, ?_⟩
  have hb := hb δ w.h
  cases er : f δ w.h with
  | ok d h' =>
    rw [er] at h
    intro w' v e hr x t
    obtain ⟨c, tv, q⟩ := h w' v e hr x t
    obtain ⟨b, rfl⟩ := hb d h' er
    have e2 : v = .bl b := by
      have t : RPg Z.C w'.g (.bl b) v := t
      unfold RPg at t
      exact t
    rw [e2] at tv
    have tv : c = b := tv
    exact ⟨b, e2, by rw [← tv]; exact q⟩
  | exc c fs h' =>
    rw [er] at h
    exact h
  | bad =>
    rw [er] at h
    exact h
theorem lift2_bl {op : CmpOp} {d e r : Th} {h h' : Hs} (q : lift2 (cmpT op) d e h = .ok r h') : ∃ b, r = .p (.bl b) := by
  unfold lift2 at q
  split at q
  · split at q
    · rename_i z er
      unfold cmpT at er
      obtain ⟨b, _, eb⟩ := Option.map_eq_some_iff.mp er
      cases q
      exact ⟨b, eb.symm⟩
    · cases q
  · cases q
theorem chain_bl {op op' : CmpOp} {f g k : SE} {δ : En} {h h' : Hs} {r : Th} (q : sChain (cmpP op) (cmpP op') f g k δ h = .ok r h') : ∃ b, r = .p (.bl b) := by
  unfold sChain at q
  cases e1 : f δ h with
  | exc => rw [e1] at q; cases q
  | bad => rw [e1] at q; cases q
  | ok d h1 =>
    rw [e1, bind_ok] at q
    cases e2 : g δ h1 with
    | exc => rw [e2] at q; cases q
    | bad => rw [e2] at q; cases q
    | ok e h2 =>
      rw [e2, bind_ok] at q
      split at q
      · split at q
        · cases e3 : k δ h2 with
          | exc => rw [e3] at q; cases q
          | bad => rw [e3] at q; cases q
          | ok e' h3 =>
            rw [e3, bind_ok] at q
            exact lift2_bl (op := op') q
        · cases q
          exact ⟨_, rfl⟩
        · cases q
      · cases q
end

structure CmpOk (G : Gs) (C : Ct) (k : Nat) (c : Cmp) : Prop where
  E : ∀ (Z : Kx) (si : Si) (X : Cx) (e : Expr), Z.C = C → Fit Z si k X → PE X e (tE Z (c.E si e))
  T : ∀ (Z : Kx) (si : Si) (X : Cx) (e : Expr), Z.C = C → Fit Z si k X → PT X e (tT Z (c.T si e))
  W : ∀ (Z : Kx) (si : Si) (X : Cx) (op : BoolOp) (es : List Expr) (pos : PySem.Pos), Z.C = C → Fit Z si k X → PW X (.BoolOp op es pos) (tT Z (c.T si (.BoolOp op es pos)))
section
variable {G : Gs} {C : Ct} {k : Nat} {c : Cmp} {Z : Kx} {si : Si} {X : Cx}
theorem ok_con {v : Const} {j : Nat} {pos : PySem.Pos} : PE X (.Constant v j pos) (tE Z (cCon v)) := by
  unfold cCon
  cases v with
  | none => exact pe_imp pe_non fun σ H Q h => rd_const (fun w => rp_non) h
  | bool b => exact pe_imp pe_bl fun σ H Q h => rd_const (fun w => rp_bl) h
  | int i => exact pe_imp pe_int fun σ H Q h => rd_const (fun w => rp_int) h
  | str x =>
    show PE X _ (tE Z (if (PyData.strOk x && decide (x.length ≤ 16777216)) = true then sC (.str x) else sBad))
    split
    · rename_i h
      rw [Bool.and_eq_true] at h
      have hS := sizeLine_eq
      have h2 := of_decide_eq_true h.2
      exact pe_imp pe_str fun σ H Q q => rd_const (fun w => rp_str h.1 (by omega)) q
    · exact pe_bad
  | _ => exact pe_bad
theorem ok_name (G0 : GsOk G C k) (hZ : Z.C = C) (F : Fit Z si k X) {x : Str} {pos : PySem.Pos} : PE X (.Name x pos) (tE Z (cName G si x)) := by
  unfold cName
  split
  · rename_i i h
    exact pe_slot F h
  · split
    · rename_i hg
      split
      · rename_i d hd
        exact pe_globV F hg (by rw [hZ]; exact G0.var x d hd)
      · exact pe_bad
    · exact pe_bad
theorem ok_args (c0 : CmpOk G C k c) (hZ : Z.C = C) (F : Fit Z si k X) {es : List Expr} (h : es.all noStar = true) : PA X es (tA Z (cArgs c si es)) := pa_all (fun e => c0.E Z si X e hZ F) h
theorem ok_cIsi (G0 : GsOk G C k) (c0 : CmpOk G C k c) (hZ : Z.C = C) (F : Fit Z si k X) {args : List Expr} {q pos : PySem.Pos} (hg : glob si "isinstance" = true) (hb : G.blt "isinstance" = true) : PE X (.Call (.Name "isinstance" q) args [] pos) (tE Z (cIsi G c si args)) := by
  unfold cIsi
  split
  · rename_i e T
    split
    · rename_i ns hT
      split
      · rename_i h
        simp only [Bool.and_eq_true, decide_eq_true_eq] at h
        obtain ⟨⟨⟨h1, h2⟩, h3⟩, h4⟩ := h
        rw [List.all_eq_true] at h4
        exact pe_isi F (by rw [hZ]; exact G0.sub) hg (by rw [hZ]; exact G0.blt _ hb) h1 (c0.E Z si X e hZ F) hT h2 h3 fun n hn => by rw [hZ]; exact G0.cl n (h4 n hn)
      · exact pe_bad
    · exact pe_bad
  · exact pe_bad
theorem ok_cBlt (G0 : GsOk G C k) (c0 : CmpOk G C k c) (hZ : Z.C = C) (F : Fit Z si k X) {f : Str} {args : List Expr} {q pos : PySem.Pos} (hg : glob si f = true) (hb : G.blt f = true) : PE X (.Call (.Name f q) args [] pos) (tE Z (cBlt c si f args)) := by
  unfold cBlt
  split
  · rename_i e
    split
    · rename_i g hf
      split
      · rename_i h
        exact pe_bf F hg (by rw [hZ]; exact G0.blt _ hb) hf h (c0.E Z si X e hZ F)
      · exact pe_bad
    · exact pe_bad
  · exact pe_bad
theorem ok_cCall (G0 : GsOk G C k) (c0 : CmpOk G C k c) (hZ : Z.C = C) (F : Fit Z si k X) {f : Str} {args : List Expr} {kws : List Keyword} {q pos : PySem.Pos} : PE X (.Call (.Name f q) args kws pos) (tE Z (cCall G c si f args kws)) := by
  unfold cCall
  split
  · rename_i hg
    split
    · rename_i fi hfi
      split
      · rename_i ks hks
        split
        · rename_i p hp
          split
          · rename_i h
            rw [Bool.and_eq_true] at h
            have h1 := List.find?_some hp
            simp only [Bool.and_eq_true, decide_eq_true_eq] at h1
            exact pe_fn F h.2 hg (by rw [hZ]; exact G0.fn f fi hfi) (List.mem_of_find?_eq_some hp) (by rw [h1.2]; exact hks) h.1 (ok_args c0 hZ F h.1) (fun e σ H Q z => noarg e z) (pk_all fun e => c0.E Z si X e hZ F)
          · exact pe_bad
        · exact pe_bad
      · exact pe_bad
    · split
      · rename_i hb
        split
        · split
          · rename_i e
            subst e
            exact ok_cIsi G0 c0 hZ F hg hb
          · exact ok_cBlt G0 c0 hZ F hg hb
        · exact pe_bad
      · exact pe_bad
  · exact pe_bad
theorem ok_cMeth (c0 : CmpOk G C k c) (hZ : Z.C = C) (F : Fit Z si k X) {o : Expr} {m : Str} {args : List Expr} {ap pos : PySem.Pos} : PE X (.Call (.Attribute o m ap) args [] pos) (tE Z (cMeth c si o m args (ap.endLine == pos.line))) := by
  unfold cMeth
  split
  · rename_i e
    split
    · rename_i h
      simp only [Bool.and_eq_true, decide_eq_true_eq] at h
      obtain ⟨⟨⟨rfl, h2⟩, h3⟩, h4⟩ := h
      exact pe_joinG F (c0.E Z si X o hZ F) (c0.E Z si X e hZ F) h2 h3 h4
    · exact pe_bad
  · exact pe_bad
theorem ok_iter (G0 : GsOk G C k) (c0 : CmpOk G C k c) (hZ : Z.C = C) (F : Fit Z si k X) {tg e : Expr} : PI X tg e (tI Z (cIter G c si e)) := by
  have gen : PI X tg e (tI Z (iVal (c.E si e))) := pi_iVal F.K (c0.E Z si X e hZ F)
  unfold cIter
  split
  · rename_i f p args q
    split
    · rename_i ef
      subst ef
      split
      · rename_i h
        rw [Bool.and_eq_true] at h
        have hm : Z.C.mg "range" = none := by rw [hZ]; exact G0.blt _ h.2
        split
        · rename_i a
          split
          · rename_i hs
            exact pi_rng1 F h.1 hm hs (ok_args c0 hZ F (by rw [List.all_cons, hs]; rfl))
          · exact pi_bad
        · rename_i a b
          split
          · rename_i hs
            rw [Bool.and_eq_true] at hs
            exact pi_rng2 F h.1 hm hs.1 hs.2 (ok_args c0 hZ F (by rw [List.all_cons, List.all_cons, hs.1, hs.2]; rfl))
          · exact pi_bad
        · exact pi_bad
      · exact pi_bad
    · exact gen
  · exact gen
theorem ok_lc (G0 : GsOk G C k) (c0 : CmpOk G C k c) (hZ : Z.C = C) (F : Fit Z si k X) {elt : Expr} {gs : List Comprehension} {scope : Scope} {pos : PySem.Pos} : PE X (.ListComp elt gs scope pos) (tE Z (cLc G c si elt gs scope)) := by
  unfold cLc
  split
  · rename_i tg iter ifs
    split
    · rename_i h
      simp only [Bool.and_eq_true] at h
      obtain ⟨⟨⟨h1, h2⟩, h3⟩, h4⟩ := h
      split
      · exact pe_lcG F h1 (ok_iter G0 c0 hZ F) h2 (fun Y FY => pg_tgt FY 5 tg) (fun Y FY => pts_imp pts_nil fun σ H Q z => rd_yes z) (fun Y FY => c0.E Z.blk _ Y elt hZ FY) h3 h4
      · rename_i t
        exact pe_lcG F h1 (ok_iter G0 c0 hZ F) h2 (fun Y FY => pg_tgt FY 5 tg) (fun Y FY => pts_one (c0.T Z.blk _ Y t hZ FY)) (fun Y FY => c0.E Z.blk _ Y elt hZ FY) h3 h4
      · exact pe_bad
    · exact pe_bad
  · exact pe_bad
theorem plainIx_ok {b : Expr} (h : isSl b = false) : PlainIx b := by
  cases b <;> first | (intro o i; rfl) | cases h
theorem ok_csub (c0 : CmpOk G C k c) (hZ : Z.C = C) (F : Fit Z si k X) {e sl : Expr} {pos : PySem.Pos} : PE X (.Subscript e sl pos) (tE Z (cSub c si e sl)) := by
  have he := c0.E Z si X e hZ F
  unfold cSub
  split
  · rename_i lo hi p
    have part : ∀ o : Option Expr, PO X o (tO Z (match o with | some a => sPart (c.E si a) | none => sC .non)) := fun o => by
      cases o with
      | none => exact po_noneG
      | some a => exact po_someG (c0.E Z si X a hZ F)
    exact pe_imp (pe_slice (ok_sl F.K) he (part lo) (part hi)) fun σ H Q h => rd_sl h
  · exact pe_imp (pe_rev F.K he) fun σ H Q h => rd_s1 h
  · split
    · exact pe_bad
    · rename_i h
      exact pe_imp (pe_ix (ok_ix F.K) he (c0.E Z si X sl hZ F) (plainIx_ok (by simpa using h))) fun σ H Q q => rd_s2 q
theorem ok_stE (G0 : GsOk G C k) (c0 : CmpOk G C k c) (hZ : Z.C = C) (F : Fit Z si k X) (e : Expr) : PE X e (tE Z (stE G c si e)) := by
  have E := fun e => c0.E Z si X e hZ F
  have T := fun e => c0.T Z si X e hZ F
  unfold stE
  split
  · exact ok_name G0 hZ F
  · exact ok_con
  · exact pe_imp (pe_op (ok_bin F.K _) (E _) (E _)) fun σ H Q h => rd_s2 h
  · exact pe_imp (pe_notT (E _)) fun σ H Q h => by rw [F.K]; exact rd_not h
  · exact pe_imp (pe_un ok_neg (E _)) fun σ H Q h => rd_s1 h
  · exact pe_one (E _)
  · exact pe_imp (pe_andT (E _) (E _)) fun σ H Q h => by rw [F.K]; exact rd_and h
  · exact pe_imp (pe_orT (E _) (E _)) fun σ H Q h => by rw [F.K]; exact rd_or h
  · exact pe_imp (pe_ifExp (T _) (E _) (E _)) fun σ H Q h => rd_if h
  · split
    · exact pe_bad
    · rename_i h
      exact pe_imp (pe_cmpR (ok_cmpT F.K F.un _) (E _) (E _) (by simpa using h)) fun σ H Q q => rd_s2 q
  · split
    · exact pe_bad
    · rename_i h
      exact pe_imp (pe_chain (ok_cmpT F.K F.un _) (ok_cmpT F.K F.un _) (E _) (E _) (E _) (by simpa using h)) fun σ H Q q => rd_chain q
  · exact ok_csub c0 hZ F
  · split
    · rename_i h
      exact pe_imp (pe_tup (pa_allP E h)) fun σ H Q q => rd_tup q
    · exact pe_bad
  · split
    · rename_i h
      exact pe_imp (pe_lst (pa_allP E h)) fun σ H Q q => rd_lst q
    · exact pe_bad
  · exact pe_dic
  · exact ok_lc G0 c0 hZ F
  · exact ok_cCall G0 c0 hZ F
  · exact ok_cMeth c0 hZ F
  · exact pe_bad
theorem ok_stW (c0 : CmpOk G C k c) (hZ : Z.C = C) (F : Fit Z si k X) {e' : SE} (op : BoolOp) (es : List Expr) (pos : PySem.Pos) : PW X (.BoolOp op es pos) (tT Z (stT c e' si (.BoolOp op es pos))) := by
  have T := fun e => c0.T Z si X e hZ F
  match op, es with
  | op, [] => exact pw_bad
  | .And, [a] => exact pw_and1 (T a)
  | .Or, [a] => exact pw_or1 (T a)
  | .And, a :: b :: r => exact pw_imp (pw_and (T a) (c0.W Z si X .And (b :: r) pos hZ F)) fun σ H Q h => rd_bAnd h
  | .Or, a :: b :: r => exact pw_imp (pw_or (T a) (c0.W Z si X .Or (b :: r) pos hZ F)) fun σ H Q h => rd_bOr h
theorem ok_stT (c0 : CmpOk G C k c) (hZ : Z.C = C) (F : Fit Z si k X) {e : Expr} {e' : SE} (he : PE X e (tE Z e')) : PT X e (tT Z (stT c e' si e)) := by
  have E := fun e => c0.E Z si X e hZ F
  have T := fun e => c0.T Z si X e hZ F
  have gen : (∀ whole, isTrue e X.env whole = (do let v ← whole; standAt e.pos; holding [v] (truthy v))) → PT X e (tT Z (bTru e')) := fun h =>
    pt_imp (pt_truth he h) fun σ H Q q => by rw [F.K]; exact rd_bTru q
  match e, he, gen with
  | .BoolOp op es pos, _, _ => exact (ok_stW c0 hZ F op es pos).pt
  | .UnaryOp .Not a pos, _, _ => exact pt_imp (pt_not (T a)) fun σ H Q h => rd_bNot h
  | .UnaryOp .USub a pos, _, gen => exact gen fun _ => rfl
  | .UnaryOp .UAdd a pos, _, gen => exact gen fun _ => rfl
  | .UnaryOp .Invert a pos, _, gen => exact gen fun _ => rfl
  | .IfExp _ _ _ _, _, _ => exact pt_bad
  | .Compare a ops cs pos, _, _ =>
    unfold stT
    split
    · rename_i z
      cases z
    · rename_i z
      cases z
    · rename_i z
      cases z
    · rename_i z
      cases z
    · rename_i z
      cases z
    · rename_i z
      cases z
    · rename_i z
      cases z
      split
      · exact pt_bad
      · rename_i h
        exact pt_imp (pt_cmpR (ok_cmpT F.K F.un _) (E _) (E _) (by simpa using h)) fun σ H Q q => rd_bCmp q
    · rename_i z
      cases z
      split
      · exact pt_bad
      · rename_i h
        refine pt_imp (pt_chain (ok_cmpT F.K F.un _) (ok_cmpT F.K F.un _) (E _) (E _) (E _) (by simpa using h)) fun σ H Q q => ?_
        exact rd_chain (rd_bB (fun δ h d h' z => chain_bl z) q)
    · exact pt_bad
    · rename_i h
      exact (h _ _ _ _ rfl).elim
  | .NamedExpr _ _ _, _, gen => exact gen fun _ => rfl
  | .BinOp _ _ _ _, _, gen => exact gen fun _ => rfl
  | .Lambda _ _ _ _, _, gen => exact gen fun _ => rfl
  | .Dict _ _ _, _, gen => exact gen fun _ => rfl
  | .Set _ _ _, _, gen => exact gen fun _ => rfl
  | .ListComp _ _ _ _, _, gen => exact gen fun _ => rfl
  | .SetComp _ _ _ _, _, gen => exact gen fun _ => rfl
  | .DictComp _ _ _ _ _, _, gen => exact gen fun _ => rfl
  | .GeneratorExp _ _ _ _, _, gen => exact gen fun _ => rfl
  | .Await _ _, _, gen => exact gen fun _ => rfl
  | .Yield _ _, _, gen => exact gen fun _ => rfl
  | .YieldFrom _ _, _, gen => exact gen fun _ => rfl
  | .Call _ _ _ _, _, gen => exact gen fun _ => rfl
  | .FormattedValue _ _ _ _, _, gen => exact gen fun _ => rfl
  | .JoinedStr _ _, _, gen => exact gen fun _ => rfl
  | .Constant _ _ _, _, gen => exact gen fun _ => rfl
  | .Attribute _ _ _, _, gen => exact gen fun _ => rfl
  | .Subscript _ _ _, _, gen => exact gen fun _ => rfl
  | .Starred _ _, _, gen => exact gen fun _ => rfl
  | .Name _ _, _, gen => exact gen fun _ => rfl
  | .List _ _, _, gen => exact gen fun _ => rfl
  | .Tuple _ _ _, _, gen => exact gen fun _ => rfl
  | .Slice _ _ _ _, _, gen => exact gen fun _ => rfl
/-- every expression's reading is right -/
theorem cmp_ok (G0 : GsOk G C k) : ∀ n : Nat, CmpOk G C k (cmp G n)
  | 0 => ⟨fun _ _ _ _ _ _ => pe_bad, fun _ _ _ _ _ _ => pt_bad, fun _ _ _ _ _ _ _ _ => pw_bad⟩
  | n + 1 => ⟨fun Z si X e hZ F => ok_stE G0 (cmp_ok G0 n) hZ F e, fun Z si X e hZ F => ok_stT (cmp_ok G0 n) hZ F (ok_stE G0 (cmp_ok G0 n) hZ F e), fun Z si X op es pos hZ F => ok_stW (cmp_ok G0 n) hZ F op es pos⟩
end
end Pv

/-! ## text Pvi -/
set_option Elab.async false
set_option linter.all false
set_option maxRecDepth 100000
set_option autoImplicit false
/-! Pvi: statements: what they do; blocks, if, return, names written. -/
namespace Pv
open PySem PySem.Spec PyProof.Rows L2

inductive Rf where
  | nx (δ : En) (h : Hs) | bk (δ : En) (h : Hs) | ct (δ : En) (h : Hs) | rt (d : Th) (h : Hs) | exc (c : Str) (fs : Fs) (δ : En) (h : Hs) | bad
abbrev SS := En → Hs → Rf
/-- an expression's end within a statement -/
def Rs.to {α : Type} (r : Rs α) (δ : En) (k : α → Hs → Rf) : Rf := match r with
  | .ok a h => k a h
  | .exc c fs h => .exc c fs δ h
  | .bad => .bad
@[simp] theorem to_ok {α : Type} {a : α} {h : Hs} {δ : En} {k : α → Hs → Rf} : (Rs.ok a h).to δ k = k a h := rfl
@[simp] theorem to_exc {α : Type} {c : Str} {fs : Fs} {h : Hs} {δ : En} {k : α → Hs → Rf} : (Rs.exc c fs h : Rs α).to δ k = .exc c fs δ h := rfl
@[simp] theorem to_bad {α : Type} {δ : En} {k : α → Hs → Rf} : (Rs.bad : Rs α).to δ k = .bad := rfl
def Rf.then (r : Rf) (k : SS) : Rf := match r with
  | .nx δ h => k δ h
  | r => r
@[simp] theorem then_nx {δ : En} {h : Hs} {k : SS} : (Rf.nx δ h).then k = k δ h := rfl
@[simp] theorem then_bk {δ : En} {h : Hs} {k : SS} : (Rf.bk δ h).then k = .bk δ h := rfl
@[simp] theorem then_ct {δ : En} {h : Hs} {k : SS} : (Rf.ct δ h).then k = .ct δ h := rfl
@[simp] theorem then_rt {d : Th} {h : Hs} {k : SS} : (Rf.rt d h).then k = .rt d h := rfl
@[simp] theorem then_exc {c : Str} {fs : Fs} {δ : En} {h : Hs} {k : SS} : (Rf.exc c fs δ h).then k = .exc c fs δ h := rfl
@[simp] theorem then_bad {k : SS} : Rf.bad.then k = .bad := rfl

/-- what is wanted behind a statement; n: the slots -/
def PoS (Z : Kx) (n : Nat) (w : Wd) (D : Ends) : Rf → Prop
  | .nx δ' h' => ∀ w' σ', w'.h = h' → HR Z.C w' → Ext n w w' → ER Z.C w' σ' δ' → δ'.length = n → D.nx σ' w'.H
  | .bk δ' h' => ∀ w' σ', w'.h = h' → HR Z.C w' → Ext n w w' → ER Z.C w' σ' δ' → δ'.length = n → D.bk σ' w'.H
  | .ct δ' h' => ∀ w' σ', w'.h = h' → HR Z.C w' → Ext n w w' → ER Z.C w' σ' δ' → δ'.length = n → D.ct σ' w'.H
  | .rt d h' => ∀ w' v, w'.h = h' → HR Z.C w' → Ext n w w' → RT Z.C w' w.H d v → D.rt v w'.H
  | .exc c fs δ' h' => ∀ w' σ' cls d, w'.h = h' → HR Z.C w' → Ext n w w' → ER Z.C w' σ' δ' → δ'.length = n → RX Z.C w' c fs cls d → Z.W cls d σ' w'.H
  | .bad => False
def tS (Z : Kx) (n : Nat) (f : SS) : TS := fun D σ H => ∃ w δ, At Z σ H w δ ∧ δ.length = n ∧ PoS Z n w D (f δ w.h)
def xBad : SS := fun _ _ => .bad
section
variable {Z : Kx} {n : Nat} {w w1 : Wd} {σ : Sl} {δ : En} {D : Ends} {H : Hp}
theorem pos_ext' {r : Rf} (x : Ext n w w1) (h : PoS Z n w D r) : PoS Z n w1 D r := by
  cases r with
  | nx δ' h' => exact fun w' σ' e hr y er l => h w' σ' e hr (x.trans y) er l
  | bk δ' h' => exact fun w' σ' e hr y er l => h w' σ' e hr (x.trans y) er l
  | ct δ' h' => exact fun w' σ' e hr y er l => h w' σ' e hr (x.trans y) er l
  | rt d h' => exact fun w' v e hr y t => h w' v e hr (x.trans y) (rt_old t fun a z => x.none_of z)
  | exc c fs δ' h' => exact fun w' σ' cls d e hr y er l t => h w' σ' cls d e hr (x.trans y) er l t
  | bad => exact h
theorem At.onS {w' : Wd} {σ' : Sl} {δ' : En} (a : At Z σ H w δ) (hr : HR Z.C w') (x : Ext n w w') (er : ER Z.C w' σ' δ') : At Z σ' w'.H w' δ' := ⟨rfl, hr, er, x.ex.trans a.ex, fun y e => rx_ext a.hr x (a.xr y e)⟩
/-- an expression within a statement -/
theorem pos_to {r : Rs Th} {k : Th → Hs → Rf} (a : At Z σ H w δ) (l : δ.length = n) (h : PoS Z n w D (r.to δ k)) :
    Po Z w σ (fun v H1 => ∃ w1 d, w1.H = H1 ∧ HR Z.C w1 ∧ Ext 0 w w1 ∧ RT Z.C w1 w.H d v ∧ PoS Z n w D (k d w1.h)) r := by
  cases r with
  | ok d h' =>
    intro w1 v e hr x t
    refine ⟨w1, d, rfl, hr, x, t, ?_⟩
    rw [e]
    exact h
  | exc c fs h' => exact fun w' cls d e hr x t => h w' σ cls d e hr x.up (er_ext a.hr x a.er) l t
  | bad => exact h
theorem pos_toB {r : Rs Bool} {k : Bool → Hs → Rf} (a : At Z σ H w δ) (l : δ.length = n) (h : PoS Z n w D (r.to δ k)) :
    Pob Z w σ (fun b H1 => ∃ w1, w1.H = H1 ∧ HR Z.C w1 ∧ Ext 0 w w1 ∧ PoS Z n w D (k b w1.h)) r := by
  cases r with
  | ok d h' =>
    intro w1 e hr x
    refine ⟨w1, rfl, hr, x, ?_⟩
    rw [e]
    exact h
  | exc c fs h' => exact fun w' cls d e hr x t => h w' σ cls d e hr x.up (er_ext a.hr x a.er) l t
  | bad => exact h

/-! ### the combinators -/
def xNext : SS := fun δ h => .nx δ h
def xBrk : SS := fun δ h => .bk δ h
def xCnt : SS := fun δ h => .ct δ h
def xSeq (f g : SS) : SS := fun δ h => (f δ h).then g
def xDrop (f : SE) : SS := fun δ h => (f δ h).to δ fun _ h => .nx δ h
def xRet (f : SE) : SS := fun δ h => (f δ h).to δ fun d h => .rt d h
def xRetN : SS := fun _ h => .rt (.p .non) h
def xIf (t : SB) (f g : SS) : SS := fun δ h => (t δ h).to δ fun b h => match b with
  | true => f δ h
  | false => g δ h
/-- a name is written -/
def asgT (i : Nat) (d : Th) (δ : En) (h : Hs) : Rf := if i < δ.length then match d with
  | .p x => .nx (δ.set i (some (.p x))) h
  | .tmp x => .nx (δ.set i (some (.ref i))) (h.set i (.own x))
  | .ref l => if δ.length ≤ l then .nx (δ.set i (some (.ref l))) h else match plain (.ref l) h with
    | some (x, h) => .nx (δ.set i (some (.p x))) h
    | none => .bad
  | .exc _ _ => .bad
  else .bad
def xAsg (i : Nat) (f : SE) : SS := fun δ h => (f δ h).to δ fun d h => asgT i d δ h
variable {X : Cx} {st : Stmt} {sts : List Stmt}
theorem ps_imp {t t' : TS} (h : PS X st t) (k : ∀ D σ H, t' D σ H → t D σ H) : PS X st t' := ⟨fun pins s σ H D I q => h.run pins s σ H D I (k D σ H q)⟩
theorem pss_imp {t t' : TS} (h : PSs X sts t) (k : ∀ D σ H, t' D σ H → t D σ H) : PSs X sts t' := ⟨fun pins s σ H D I q => h.run pins s σ H D I (k D σ H q)⟩
theorem ps_bad : PS X st (tS Z n xBad) := ⟨fun _ _ _ _ _ _ ⟨_, _, _, _, h⟩ => False.elim h⟩
theorem rd_next (h : tS Z n xNext D σ H) : tNext D σ H := by
  obtain ⟨w, δ, a, l, h⟩ := h
  have q := h w σ rfl a.hr Ext.refl a.er l
  rw [a.eH] at q
  exact q
theorem rd_brk (h : tS Z n xBrk D σ H) : tBreak D σ H := by
  obtain ⟨w, δ, a, l, h⟩ := h
  have q := h w σ rfl a.hr Ext.refl a.er l
  rw [a.eH] at q
  exact q
theorem rd_cnt (h : tS Z n xCnt D σ H) : tCont D σ H := by
  obtain ⟨w, δ, a, l, h⟩ := h
  have q := h w σ rfl a.hr Ext.refl a.er l
  rw [a.eH] at q
  exact q
theorem rd_seq {f g : SS} (h : tS Z n (xSeq f g) D σ H) : tSeq (tS Z n f) (tS Z n g) D σ H := by
  obtain ⟨w, δ, a, l, h⟩ := h
  refine ⟨w, δ, a, l, ?_⟩
  have h : PoS Z n w D ((f δ w.h).then g) := h
  cases e : f δ w.h with
  | nx δ' h' =>
    rw [e, then_nx] at h
    intro w' σ' eh hr x er l'
    rw [← eh] at h
    exact ⟨w', δ', a.onS hr x er, l', pos_ext' x h⟩
  | bk δ' h' => rw [e] at h; exact h
  | ct δ' h' => rw [e] at h; exact h
  | rt d h' => rw [e] at h; exact h
  | exc c fs δ' h' => rw [e] at h; exact h
  | bad => rw [e] at h; exact h
theorem rd_drop {f : SE} (h : tS Z n (xDrop f) D σ H) : tDrop (tE Z f) D σ H := by
  obtain ⟨w, δ, a, l, h⟩ := h
  refine ⟨w, δ, a, po_mono (pos_to a l h) fun v H1 ⟨w1, d, e1, hr, x, t, h1⟩ => ?_⟩
  subst e1
  exact h1 w1 σ rfl hr x.up (er_ext a.hr x a.er) l
theorem rd_ret {f : SE} (h : tS Z n (xRet f) D σ H) : tRet (tE Z f) D σ H := by
  obtain ⟨w, δ, a, l, h⟩ := h
  refine ⟨w, δ, a, po_mono (pos_to a l h) fun v H1 ⟨w1, d, e1, hr, x, t, h1⟩ => ?_⟩
  subst e1
  exact h1 w1 v rfl hr x.up t
theorem rd_retN (h : tS Z n xRetN D σ H) : tRetN D σ H := by
  obtain ⟨w, δ, a, l, h⟩ := h
  have q := h w .non rfl a.hr Ext.refl (rt_p rp_non)
  rw [a.eH] at q
  exact q
theorem rd_ifS {t : SB} {f g : SS} (h : tS Z n (xIf t f g) D σ H) : tIfS (tT Z t) (tS Z n f) (tS Z n g) D σ H := by
  obtain ⟨w, δ, a, l, h⟩ := h
  refine ⟨w, δ, a, pob_mono (pos_toB a l h) fun b H1 ⟨w1, e1, hr, x, h1⟩ => ?_⟩
  subst e1
  cases b with
  | true => exact ⟨w1, δ, a.on hr x, l, pos_ext' x.up h1⟩
  | false => exact ⟨w1, δ, a.on hr x, l, pos_ext' x.up h1⟩
/-- a new object comes to a slot -/
def Wd.own (w : Wd) (i : Nat) (x : Pd) (a : Addr) : Wd := { w with ms := w.ms.set i a, h := w.h.set i (.own x) }
theorem own_get {i l : Nat} {x : Pd} {o : Ob} {a : Addr} (q : (w.own i x a).h[l]? = some o) : (l = i ∧ o = .own x) ∨ (l ≠ i ∧ w.h[l]? = some o) := by
  have q : (w.h.set i (.own x))[l]? = some o := q
  by_cases e : i = l
  · subst e
    by_cases hi : i < w.h.length
    · rw [List.getElem?_set_self hi] at q
      cases q
      exact .inl ⟨rfl, rfl⟩
    · rw [List.getElem?_eq_none (by simpa using hi)] at q
      cases q
  · rw [List.getElem?_set_ne e] at q
    exact .inr ⟨fun z => e z.symm, q⟩
theorem own_ms {i l : Nat} {x : Pd} {a : Addr} (ne : l ≠ i) : (w.own i x a).ms[l]? = w.ms[l]? := List.getElem?_set_ne fun z => ne z.symm
theorem own_ms_self {C : Ct} (hr : HR C w) {i : Nat} {x : Pd} {a b : Addr} (hi : i < w.h.length) (q : (w.own i x a).ms[i]? = some b) : b = a := by
  have q : (w.ms.set i a)[i]? = some b := q
  rw [List.getElem?_set_self (by rw [hr.len]; exact hi)] at q
  exact (Option.some.inj q).symm
theorem hr_own {C : Ct} (hr : HR C w) {i : Nat} {x : Pd} {a : Addr} (hi : i < w.h.length) (o : OB C w.g x a) (f : ¬ w.F a) (l : ¬ w.live a) : HR C (w.own i x a) where
  len := by show (w.ms.set i a).length = (w.h.set i _).length; rw [List.length_set, List.length_set]; exact hr.len
  obj := fun j ob b q m => by
    rcases own_get q with ⟨rfl, rfl⟩ | ⟨ne, q⟩
    · rw [own_ms_self hr hi m]
      exact o
    · rw [own_ms ne] at m
      have r := hr.obj j ob b q m
      cases ob with
      | dead => trivial
      | own y => exact r
      | frz y => exact r
  nf := fun b ⟨j, ⟨y, q⟩, m⟩ k => by
    rcases own_get q with ⟨rfl, _⟩ | ⟨ne, q⟩
    · rw [own_ms_self hr hi m] at k
      exact f k
    · rw [own_ms ne] at m
      exact hr.nf b ⟨j, ⟨y, q⟩, m⟩ k
  inj := fun j j' b ⟨y, q⟩ ⟨y', q'⟩ m m' => by
    rcases own_get q with ⟨rfl, _⟩ | ⟨ne, q2⟩ <;> rcases own_get q' with ⟨e', _⟩ | ⟨ne', q2'⟩
    · exact e'.symm
    · rw [own_ms_self hr hi m] at m'
      rw [own_ms ne'] at m'
      exact absurd ⟨j', ⟨y', q2'⟩, m'⟩ l
    · subst e'
      rw [own_ms_self hr hi m'] at m
      rw [own_ms ne] at m
      exact absurd ⟨j, ⟨y, q2⟩, m⟩ l
    · rw [own_ms ne] at m
      rw [own_ms ne'] at m'
      exact hr.inj j j' b ⟨y, q2⟩ ⟨y', q2'⟩ m m'
  fh := hr.fh
theorem ext_own {C : Ct} (hr : HR C w1) {i : Nat} {y : Pd} {a : Addr} (x : Ext n w w1) (hi : i < n) (hl : i < w1.h.length) (z : w.H a = none) : Ext n w (w1.own i y a) where
  fr := x.fr
  tr := x.tr
  ff := x.ff
  fn := x.fn
  lv := fun l hl' ⟨o, q⟩ => by
    rcases own_get q with ⟨rfl, _⟩ | ⟨_, q⟩
    · exact absurd hi (Nat.not_lt_of_le hl')
    · exact x.lv l hl' ⟨o, q⟩
  mm := fun l hl => by
    rw [own_ms (fun e => by rw [e] at hl; exact absurd hi (Nat.not_lt_of_le hl))]
    exact x.mm l hl
  nw := fun l b ln ⟨o, q⟩ m => by
    rcases own_get q with ⟨rfl, _⟩ | ⟨ne, q⟩
    · rw [own_ms_self hr hl m]
      exact .inl z
    · rw [own_ms ne] at m
      exact x.nw l b ln ⟨o, q⟩ m
  ln := by show (w1.h.set i _).length = w.h.length; rw [List.length_set]; exact x.ln
  ex := x.ex
/-- the slots behind -/
theorem er_own {C : Ct} {i : Nat} {y : Pd} {a : Addr} (h : ER C w σ δ) (hr : HR C w) (hi : i < δ.length) : ER C (w.own i y a) (σ.set i (some (.ref a))) (δ.set i (some (.ref i))) where
  len := by rw [List.length_set, List.length_set]; exact h.len
  le := by
    rw [List.length_set]
    show δ.length ≤ (w.h.set i _).length
    rw [List.length_set]
    exact h.le
  at_ := fun j e q => by
    rw [List.length_set]
    have hl : i < w.h.length := Nat.lt_of_lt_of_le hi h.le
    by_cases hj : i = j
    · subst hj
      rw [List.getElem?_set_self hi] at q
      cases q
      refine ⟨.inl rfl, .ref a, by rw [List.getElem?_set_self (by rw [h.len]; exact hi)], a, ?_, rfl⟩
      show (w.ms.set i a)[i]? = some a
      rw [List.getElem?_set_self (by rw [hr.len]; exact hl)]
    · rw [List.getElem?_set_ne hj] at q ⊢
      obtain ⟨k, v, e1, r⟩ := h.at_ j e q
      refine ⟨k, v, e1, ?_⟩
      cases e with
      | p z => exact r
      | ref l =>
        obtain ⟨b, m, ev⟩ := r
        have ne : l ≠ i := fun z => by
          subst z
          have k : l = j ∨ δ.length ≤ l := k
          rcases k with k | k
          · exact hj k
          · exact absurd hi (Nat.not_lt_of_le k)
        exact ⟨b, by rw [own_ms ne]; exact m, ev⟩
      | tmp z => exact False.elim k
      | exc c fs => exact r
/-- THE WRITING OF A NAME: from a world w1 behind the value -/
theorem pos_asg {i : Nat} {d : Th} {v : V} (a : At Z σ H w δ) (l : δ.length = n) (hr : HR Z.C w1) (x : Ext 0 w w1) (t : RT Z.C w1 w.H d v) (h : PoS Z n w D (asgT i d δ w1.h)) : D.nx (σ.set i (some v)) w1.H := by
  have er1 := er_ext a.hr x a.er
  unfold asgT at h
  split at h
  · rename_i hi
    split at h
    · rename_i y
      exact h w1 _ rfl hr x.up (er_set er1 trivial (rt_p t)) (by rw [List.length_set]; exact l)
    · rename_i y
      obtain ⟨ad, ev, o, f, nl, z⟩ := t
      have hl : i < w1.h.length := Nat.lt_of_lt_of_le hi er1.le
      have hn : i < n := by rw [← l]; exact hi
      rw [ev]
      exact h (w1.own i y ad) _ rfl (hr_own hr hl o f nl) (ext_own hr x.up hn hl z) (er_own er1 hr hi) (by rw [List.length_set]; exact l)
    · rename_i l'
      split at h
      · rename_i hge
        exact h w1 _ rfl hr x.up (er_set er1 (.inr hge) (rt_any rfl t)) (by rw [List.length_set]; exact l)
      · split at h
        · rename_i y h' ep
          obtain ⟨w2, e1, e2, hr2, x2, t2⟩ := plain_ok hr x t ep
          rw [← e2]
          exact h w2 _ e1 hr2 x2.up (er_set (er_ext a.hr x2 a.er) trivial (rt_p t2)) (by rw [List.length_set]; exact l)
        · exact False.elim h
    · exact False.elim h
  · exact False.elim h
theorem rd_asg {i : Nat} {f : SE} (h : tS Z n (xAsg i f) D σ H) : tAsg (tE Z f) (gName i) D σ H := by
  obtain ⟨w, δ, a, l, h⟩ := h
  refine ⟨w, δ, a, po_mono (pos_to a l h) fun v H1 ⟨w1, d, e1, hr, x, t, h1⟩ => ?_⟩
  subst e1
  exact pos_asg a l hr x t h1
end
end Pv

/-! ## text Pvj -/
set_option Elab.async false
set_option linter.all false
set_option maxRecDepth 100000
set_option autoImplicit false
/-! Pvj: loops, stores into lists, raise, try. -/
namespace Pv
open PySem PySem.Spec PyProof.Rows L2

/-! ### for -/
def forGo (b : TB) (body : SS) : List Pd → SS
  | [], δ, h => .nx δ h
  | x :: r, δ, h => match b x δ with
    | some δ1 => match body δ1 h with
      | .nx δ2 h => forGo b body r δ2 h
      | .ct δ2 h => forGo b body r δ2 h
      | .bk δ2 h => .nx δ2 h
      | q => q
    | none => .bad
def xFor (it : SI) (b : TB) (body : SS) : SS := fun δ h => (it δ h).to δ fun xs h => forGo b body xs δ h
/-! ### while -/
def whileGo (t : SB) (body : SS) : Nat → SS
  | 0, _, _ => .bad
  | m + 1, δ, h => match t δ h with
    | .ok true h => match body δ h with
      | .nx δ2 h => whileGo t body m δ2 h
      | .ct δ2 h => whileGo t body m δ2 h
      | .bk δ2 h => .nx δ2 h
      | q => q
    | .ok false h => .nx δ h
    | .exc c fs h => .exc c fs δ h
    | .bad => .bad
open Classical in
noncomputable def xWhile (t : SB) (body : SS) : SS := fun δ h => if q : ∃ m, whileGo t body m δ h ≠ .bad then whileGo t body q.choose δ h else .bad
/-- a name, a tuple of names is written by plain data -/
def xDst (b : TB) (f : SE) : SS := fun δ h => (f δ h).to δ fun d h => match plain d h with
  | some (x, h) => match b x δ with
    | some δ' => .nx δ' h
    | none => .bad
  | none => .bad
section
variable {Z : Kx} {n : Nat} {w w1 : Wd} {σ : Sl} {δ : En} {D : Ends} {H : Hp}
theorem pos_toI {R : It → Hp → Prop} {r : Rs (List Pd)} {k : List Pd → Hs → Rf} (a : At Z σ H w δ) (l : δ.length = n) (h : PoS Z n w D (r.to δ k)) (hR : ∀ xs h', r = .ok xs h' → ∀ w1 J, w1.h = h' → HR Z.C w1 → Ext 0 w w1 → Srv Z.C w1 J xs → PoS Z n w D (k xs w1.h) → R J w1.H) : Poi Z w σ R r := by
  cases r with
  | ok xs h' =>
    intro w1 J e hr x s
    rw [to_ok, ← e] at h
    exact hR xs h' rfl w1 J e hr x s h
  | exc c fs h' => exact fun w' cls d e hr x t => h w' σ cls d e hr x.up (er_ext a.hr x a.er) l t
  | bad => exact h
theorem rd_for {it : SI} {is : List Nat} {b : TB} {body : SS} (h : tS Z n (xFor it b body) D σ H) : tFor (tI Z it) (tG Z is b) (tS Z n body) D σ H := by
  obtain ⟨w, δ, a, l, h⟩ := h
  refine ⟨w, δ, a, pos_toI a l h fun xs h' _ w1 J e hr1 x1 S hp => ?_⟩
  refine ⟨fun i m σ' H' => m = xs.length - i ∧ i ≤ xs.length ∧ ∃ w' δ', At Z σ' H' w' δ' ∧ δ'.length = n ∧ Ext n w1 w' ∧ PoS Z n w D (forGo b body (xs.drop i) δ' w'.h), ⟨xs.length, rfl, Nat.zero_le _, w1, δ, a.on hr1 x1, l, Ext.refl, hp⟩, ?_⟩
  rintro i m σ' H' ⟨em, hi, w', δ', A', l', x', hp⟩
  obtain rfl := A'.eH
  by_cases hlt : i < xs.length
  · refine .inr ⟨S.go n w' i A'.hr x' hlt, fun σ2 H2 => ∃ w2 δ2, At Z σ2 H2 w2 δ2 ∧ δ2.length = n ∧ Ext n w1 w2 ∧ PoS Z n w D (forGo b body (xs.drop (i + 1)) δ2 w2.h), fun σ2 H2 n2 => ⟨xs.length - (i + 1), by omega, rfl, hlt, n2⟩, fun v H2 y => ?_⟩
    obtain ⟨w2, z, e2, eh, hr2, x2, ez, rz⟩ := S.yl n w' i v H2 A'.hr x' hlt y
    subst e2
    rw [List.drop_eq_getElem_cons hlt] at hp
    have ez' : xs[i] = z := by
      rw [List.getElem?_eq_getElem hlt] at ez
      exact Option.some.inj ez
    rw [ez', ← eh] at hp
    unfold forGo at hp
    cases eb : b z δ' with
    | none =>
      simp only [eb] at hp
      exact False.elim hp
    | some δ1 =>
      simp only [eb] at hp
      have X2 : Ext n w1 w2 := x'.trans x2.up
      have XW : Ext n w w2 := x1.up.trans X2
      have A2 := A'.on hr2 x2
      refine ⟨w2, δ', z, δ1, A2, rz, eb, fun σ2 B2 n2 l2 => ⟨w2, δ1, B2, ?_, ?_⟩⟩
      · rw [← B2.er.len, l2, A2.er.len]
        exact l'
      · cases er : body δ1 w2.h with
        | nx δ3 h3 =>
          simp only [er] at hp
          intro w3 σ3 e3 hr3 x3 er3 l3
          rw [← e3] at hp
          exact ⟨w3, δ3, B2.onS hr3 x3 er3, l3, X2.trans x3, hp⟩
        | ct δ3 h3 =>
          simp only [er] at hp
          intro w3 σ3 e3 hr3 x3 er3 l3
          rw [← e3] at hp
          exact ⟨w3, δ3, B2.onS hr3 x3 er3, l3, X2.trans x3, hp⟩
        | bk δ3 h3 =>
          simp only [er] at hp
          exact fun w3 σ3 e3 hr3 x3 er3 l3 => hp w3 σ3 e3 hr3 (XW.trans x3) er3 l3
        | rt d h3 =>
          simp only [er] at hp
          exact fun w3 v e3 hr3 x3 t => hp w3 v e3 hr3 (XW.trans x3) (rt_old t fun a z => XW.none_of z)
        | exc c fs δ3 h3 =>
          simp only [er] at hp
          exact fun w3 σ3 cls d e3 hr3 x3 er3 l3 t => hp w3 σ3 cls d e3 hr3 (XW.trans x3) er3 l3 t
        | bad =>
          simp only [er] at hp
          exact hp
  · have ei : i = xs.length := by omega
    subst ei
    refine .inl ⟨S.st n w' A'.hr x', ?_⟩
    rw [List.drop_of_length_le (Nat.le_refl _)] at hp
    exact hp w' σ' rfl A'.hr (x1.up.trans x') A'.er l'
theorem rd_while {t : SB} {body : SS} (h : tS Z n (xWhile t body) D σ H) : tWhile (tT Z t) (tS Z n body) D σ H := by
  obtain ⟨w, δ, a, l, h⟩ := h
  unfold xWhile at h
  split at h
  · rename_i q
    generalize q.choose = m0 at h
    refine ⟨fun m σ' H' => ∃ w' δ', At Z σ' H' w' δ' ∧ δ'.length = n ∧ Ext n w w' ∧ PoS Z n w D (whileGo t body m δ' w'.h), ⟨m0, w, δ, a, l, Ext.refl, h⟩, ?_⟩
    rintro m σ' H' ⟨w', δ', A', l', x', hp⟩
    obtain rfl := A'.eH
    cases m with
    | zero => exact False.elim hp
    | succ m =>
      unfold whileGo at hp
      refine ⟨w', δ', A', ?_⟩
      cases et : t δ' w'.h with
      | exc c fs h1 =>
        simp only [et] at hp
        exact fun w2 cls d e hr x t => hp w2 σ' cls d e hr (x'.trans x.up) (er_ext A'.hr x A'.er) l' t
      | bad =>
        simp only [et] at hp
        exact hp
      | ok c h1 =>
        simp only [et] at hp
        intro w2 e2 hr2 x2
        have A2 := A'.on hr2 x2
        have X2 : Ext n w w2 := x'.trans x2.up
        cases c with
        | false =>
          rw [if_neg (fun z => nomatch z)]
          exact hp w2 σ' e2 hr2 X2 A2.er l'
        | true =>
          rw [if_pos rfl]
          refine ⟨fun σ2 H2 => ∃ w' δ', At Z σ2 H2 w' δ' ∧ δ'.length = n ∧ Ext n w w' ∧ PoS Z n w D (whileGo t body m δ' w'.h), fun σ2 H2 n2 => ⟨m, Nat.lt_succ_self _, n2⟩, w2, δ', A2, l', ?_⟩
          rw [← e2] at hp
          cases er : body δ' w2.h with
          | nx δ3 h3 =>
            simp only [er] at hp
            intro w3 σ3 e3 hr3 x3 er3 l3
            rw [← e3] at hp
            exact ⟨w3, δ3, A2.onS hr3 x3 er3, l3, X2.trans x3, hp⟩
          | ct δ3 h3 =>
            simp only [er] at hp
            intro w3 σ3 e3 hr3 x3 er3 l3
            rw [← e3] at hp
            exact ⟨w3, δ3, A2.onS hr3 x3 er3, l3, X2.trans x3, hp⟩
          | bk δ3 h3 =>
            simp only [er] at hp
            exact fun w3 σ3 e3 hr3 x3 er3 l3 => hp w3 σ3 e3 hr3 (X2.trans x3) er3 l3
          | rt d h3 =>
            simp only [er] at hp
            exact fun w3 v e3 hr3 x3 t => hp w3 v e3 hr3 (X2.trans x3) (rt_old t fun a z => X2.none_of z)
          | exc c fs δ3 h3 =>
            simp only [er] at hp
            exact fun w3 σ3 cls d e3 hr3 x3 er3 l3 t => hp w3 σ3 cls d e3 hr3 (X2.trans x3) er3 l3 t
          | bad =>
            simp only [er] at hp
            exact hp
  · exact False.elim h
theorem rd_dst {is : List Nat} {b : TB} {f : SE} (h : tS Z n (xDst b f) D σ H) : tAsg (tE Z f) (tG Z is b) D σ H := by
  obtain ⟨w, δ, a, l, h⟩ := h
  refine ⟨w, δ, a, po_mono (pos_to a l h) fun v H1 ⟨w1, d, e1, hr, x, t, h1⟩ => ?_⟩
  subst e1
  split at h1
  · rename_i y h' ep
    obtain ⟨w2, e1, e2, hr2, x2, t2⟩ := plain_ok hr x t ep
    split at h1
    · rename_i δ' eb
      rw [← e2]
      refine ⟨w2, δ, y, δ', a.on hr2 x2, t2, eb, fun σ' A' _ l' => h1 w2 σ' e1 hr2 x2.up A'.er ?_⟩
      rw [← A'.er.len, l', a.er.len]
      exact l
    · exact False.elim h1
  · exact False.elim h1

/-! ### a list is written -/
/-- the object at the place l (address p) has a new content -/
def Wd.wr (w : Wd) (l : Nat) (x : Pd) (p : Addr) (o : HO) : Wd := { w with h := w.h.set l (.own x), g := ⟨w.F, upd w.H p o⟩ }
theorem ext_wr {l : Nat} {x y : Pd} {p : Addr} {o : HO} (e : w.h[l]? = some (.own y)) (m : w.ms[l]? = some p) : Ext 0 w (w.wr l x p o) where
  fr := fun a u q k => (upd_ne fun (z : a = p) => k ⟨l, ⟨y, e⟩, by rw [z]; exact m⟩).trans q
  tr := fun a q => upd_tr q
  ff := fun _ q => q
  fn := fun _ q => .inl q
  lv := fun j _ ⟨u, q⟩ => by
    have q : (w.h.set l (.own x))[j]? = some (.own u) := q
    by_cases z : l = j
    · subst z
      exact ⟨y, e⟩
    · rw [List.getElem?_set_ne z] at q
      exact ⟨u, q⟩
  mm := fun _ _ => rfl
  nw := fun j a h => absurd h (Nat.not_lt_zero _)
  ln := by show (w.h.set l _).length = _; rw [List.length_set]
  ex := rfl
theorem hr_wr {C : Ct} (hr : HR C w) {l : Nat} {x y : Pd} {p : Addr} {o : HO} (e : w.h[l]? = some (.own y)) (m : w.ms[l]? = some p) (new : OB C (w.wr l x p o).g x p) : HR C (w.wr l x p o) where
  len := by show w.ms.length = (w.h.set l _).length; rw [List.length_set]; exact hr.len
  obj := fun j ob a q0 m' => by
    have q : (w.h.set l (.own x))[j]? = some ob := q0
    clear q0
    by_cases z : l = j
    · subst z
      rw [List.getElem?_set_self (List.getElem?_eq_some_iff.mp e).1] at q
      cases q
      have m' : w.ms[l]? = some a := m'
      rw [m] at m'
      cases m'
      exact new
    · rw [List.getElem?_set_ne z] at q
      have r := hr.obj j ob a q m'
      have E : Ext 0 w (w.wr l x p o) := ext_wr e m
      cases ob with
      | dead => trivial
      | own u =>
        refine ob_ext hr E (fun u' z' => (upd_ne fun (k : a = p) => z ?_).trans z') r
        subst k
        exact hr.inj l j a ⟨y, e⟩ ⟨u, q⟩ m m'
      | frz u => exact ⟨ob_ext hr E (fun u' z' => (upd_ne fun (k : a = p) => hr.nf p ⟨l, ⟨y, e⟩, m⟩ (by rw [← k]; exact r.2)).trans z') r.1, r.2⟩
  nf := fun a ⟨j, ⟨u, q⟩, m'⟩ f => by
    have q : (w.h.set l (.own x))[j]? = some (.own u) := q
    by_cases z : l = j
    · subst z
      exact hr.nf a ⟨l, ⟨y, e⟩, m'⟩ f
    · rw [List.getElem?_set_ne z] at q
      exact hr.nf a ⟨j, ⟨u, q⟩, m'⟩ f
  inj := fun j j' a h1 h2 m1 m2 => hr.inj j j' a ((ext_wr (x := x) (o := o) e m).lv j (Nat.zero_le _) h1) ((ext_wr (x := x) (o := o) e m).lv j' (Nat.zero_le _) h2) m1 m2
  fh := fun a f => upd_tr (hr.fh a f)
/-- o[i] = f -/
def xSet (f o i : SE) : SS := fun δ h => (f δ h).to δ fun d h => match plain d h with
  | some (x, h) => (o δ h).to δ fun r h => (i δ h).to δ fun j h => match r, j with
    | .ref l, .p (.int k) => match h[l]? with
      | some (.own (.lst xs)) => match ixN xs.length k with
        | some m => .nx δ (h.set l (.own (.lst (xs.set m x))))
        | none => .bad
      | _ => .bad
    | _, _ => .bad
  | none => .bad
theorem rd_set {f o i : SE} (h : tS Z n (xSet f o i) D σ H) : tAsg (tE Z f) (gSub (tE Z o) (tE Z i) rSetL) D σ H := by
  obtain ⟨w, δ, a, l, h⟩ := h
  refine ⟨w, δ, a, po_mono (pos_to a l h) fun v H1 ⟨w1, d, e1, hr, x, t, h1⟩ => ?_⟩
  subst e1
  split at h1
  · rename_i y h' ep
    obtain ⟨w2, e1, e2, hr2, x2, t2⟩ := plain_ok hr x t ep
    rw [← e1] at h1
    rw [← e2]
    have A2 := a.on hr2 x2
    refine ⟨w2, δ, A2, po_mono (pos_to A2 l (pos_ext' x2.up h1)) fun v3 H3 ⟨w3, d3, e3, hr3, x3, t3, h3⟩ => ?_⟩
    subst e3
    have A3 := A2.on hr3 x3
    refine ⟨w3, δ, A3, po_mono (pos_to A3 l (pos_ext' x3.up h3)) fun v4 H4 ⟨w4, d4, e4, hr4, x4, t4, h4⟩ => ?_⟩
    subst e4
    have h4 := pos_ext' x4.up h4
    have t3 := rt_ext0 hr3 x4 t3
    cases d3 with
    | ref l' =>
      cases d4 with
      | p z =>
        cases z with
        | int k =>
          obtain ⟨p, m, ev⟩ := t3
          have e4 := rv_int (rp_rv (show RP Z.C w4 (.int k) v4 from t4))
          cases ex : w4.h[l']? with
          | none =>
            simp only [ex] at h4
            exact False.elim h4
          | some ob =>
            cases ob with
            | own yy =>
              cases yy with
              | lst xs =>
                simp only [ex] at h4
                cases ej : ixN xs.length k with
                | none =>
                  simp only [ej] at h4
                  exact False.elim h4
                | some j =>
                  simp only [ej] at h4
                  obtain ⟨vs, eH, rs⟩ := hr4.obj l' _ p ex m
                  have E := ext_wr (x := .lst (xs.set j y)) (o := .lst (vs.set j v)) ex m
                  have ry := rp_ext hr2 (x3.trans x4) _ _ t2
                  have N := hr_wr hr4 (x := .lst (xs.set j y)) (o := .lst (vs.set j v)) ex m ⟨vs.set j v, upd_same, rps_ext hr4 E _ _ (rps_set ry j rs)⟩
                  refine ⟨p, vs, k, j, ev, e4, eH, by rw [← rps_len _ _ rs]; exact ej, ?_⟩
                  exact h4 (w4.wr l' _ p _) σ rfl N E.up (er_ext hr4 E (A3.on hr4 x4).er) l
              | _ =>
                simp only [ex] at h4
                exact False.elim h4
            | _ =>
              simp only [ex] at h4
              exact False.elim h4
        | _ => exact False.elim h4
      | _ => exact False.elim h4
    | _ => exact False.elim h4
  · exact False.elim h1
end
end Pv

/-! ## text Pvk -/
set_option Elab.async false
set_option linter.all false
set_option maxRecDepth 100000
set_option autoImplicit false
/-! Pvk: raise, try; statements from their text. -/
namespace Pv
open PySem PySem.Spec PyProof.Rows L2

/-! ### raise -/
structure RaiseOk (C : Ct) (x : Str) : Prop where
  ex : ∃ (aC : Addr) (B newId initId : String) (bmB : List Value), C.mg x = some (.ref aC) ∧ ExcBaseFacts B newId initId bmB ∧ PySem.W.excIn C.K aC bmB newId = true ∧ PySem.W.keepIn C.K (.ref aC) = true ∧ PySem.W.subIn C.K (.ref aC) (.type "BaseException") = some true ∧ PySem.W.typeIn C.K (.ref aC) = some (.type "type")
def xRaise (c : Str) (fs : Fs) : SS := fun δ h => .exc c fs δ h
section
variable {Z : Kx} {n : Nat} {w w1 : Wd} {σ : Sl} {δ : En} {D : Ends} {H : Hp} {si : Si} {k : Nat} {X : Cx}
theorem ps_raiseG {x m : Str} {j : Nat} {p p2 pos pos2 : PySem.Pos} (F : Fit Z si k X) (hc : si.calm = true) (hg : glob si x = true) (ok : RaiseOk Z.C x) : PS X (.Raise (some (.Call (.Name x p) [.Constant (.str m) j p2] [] pos)) none pos2) (tS Z n (xRaise x [])) := by
  obtain ⟨aC, B, newId, initId, bmB, h1, h2, h3, h4, h5, h6⟩ := ok.ex
  obtain ⟨g1, g2⟩ := glob_ok F hg
  rw [← F.K] at h3 h4 h5 h6
  refine ps_imp (ps_raise (F.calm hc).1 F.tk (pmk_own h2 h3 (by rw [F.mg]; exact h1) h4 (raises_own h5 h6) g1 (okNm_d g2))) fun D σ H ⟨w, δ, a, l, h⟩ => ?_
  have q := h w σ (.ref aC) none rfl a.hr Ext.refl a.er l ⟨aC, h1, rfl, .inl ⟨rfl, rfl⟩⟩
  rw [a.eH] at q
  exact q

/-! ### try -/
def noExc : Option Th → Bool
  | some (.exc _ _) => false
  | _ => true
def clr (i : Nat) : Rf → Rf
  | .nx δ h => if (δ.set i none).all noExc = true then .nx (δ.set i none) h else .bad
  | .bk δ h => if (δ.set i none).all noExc = true then .bk (δ.set i none) h else .bad
  | .ct δ h => if (δ.set i none).all noExc = true then .ct (δ.set i none) h else .bad
  | .rt (.exc _ _) _ => .bad
  | .rt d h => .rt d h
  | .exc _ _ _ _ => .bad
  | .bad => .bad
def xTry (sub : Str → Str → Option Bool) (i : Nat) (cl : Str) (body suite : SS) : SS := fun δ h => match body δ h with
  | .exc c fs δ1 h1 => match sub c cl with
    | some true => clr i (suite (δ1.set i (some (.exc c fs))) h1)
    | some false => .exc c fs δ1 h1
    | none => .bad
  | r => r
/-- another exception is handled -/
def Wd.x (w : Wd) (e : Option (Addr × Str × Fs)) : Wd := { w with ex := e }
theorem hr_x {C : Ct} {e : Option (Addr × Str × Fs)} (hr : HR C w) : HR C (w.x e) where
  len := hr.len
  obj := fun l o a q m => by
    have r := hr.obj l o a q m
    cases o with
    | dead => trivial
    | own y => exact r
    | frz y => exact r
  nf := hr.nf
  inj := hr.inj
  fh := hr.fh
theorem ext_x {e : Option (Addr × Str × Fs)} (x : Ext n (w.x e) w1) : Ext n w (w1.x w.ex) where
  fr := x.fr
  tr := x.tr
  ff := x.ff
  fn := x.fn
  lv := x.lv
  mm := x.mm
  nw := x.nw
  ln := x.ln
  ex := rfl
theorem rt_x {C : Ct} {e : Option (Addr × Str × Fs)} {d : Th} {v : V} {H0 : Hp} (ne : noExc (some d) = true) (h : RT C w H0 d v) : RT C (w.x e) H0 d v := by
  cases d with
  | p y => exact h
  | ref l => exact h
  | tmp y => exact h
  | exc c fs => cases ne
theorem er_x {C : Ct} {e : Option (Addr × Str × Fs)} (ne : δ.all noExc = true) (h : ER C w σ δ) : ER C (w.x e) σ δ := ⟨h.len, h.le, fun i d q => by
  obtain ⟨k, v, e1, r⟩ := h.at_ i d q
  rw [List.all_eq_true] at ne
  exact ⟨k, v, e1, rt_x (ne _ (List.mem_of_getElem? q)) r⟩⟩
theorem er_x0 {C : Ct} {e : Option (Addr × Str × Fs)} (z : w.ex = none) (h : ER C w σ δ) : ER C (w.x e) σ δ := ⟨h.len, h.le, fun i d q => by
  obtain ⟨k, v, e1, r⟩ := h.at_ i d q
  refine ⟨k, v, e1, rt_x ?_ r⟩
  cases d with
  | exc c fs =>
    obtain ⟨a, m, _⟩ := r
    rw [z] at m
    cases m
  | _ => rfl⟩
/-- behind the suite -/
theorem pos_clr {i : Nat} {Zs : Kx} {e : Option (Addr × Str × Fs)} (hC : Zs.C = Z.C) {r : Rf} (h : PoS Z n w D (clr i r)) : PoS Zs n (w.x e) { nx := fun σ' H' => D.nx (σ'.set i none) H', rt := D.rt, bk := fun σ' H' => D.bk (σ'.set i none) H', ct := fun σ' H' => D.ct (σ'.set i none) H' } r := by
  have slots : ∀ {δ : En} {w' : Wd} {σ' : Sl}, (δ.set i none).all noExc = true → ER Zs.C w' σ' δ → ER Z.C (w'.x w.ex) (σ'.set i none) (δ.set i none) := fun {δ w' σ'} hn er => by
    rw [hC] at er
    exact er_x hn (er_none er)
  cases r with
  | nx δ h' =>
    have h : PoS Z n w D (if (δ.set i none).all noExc = true then .nx (δ.set i none) h' else .bad) := h
    split at h
    · rename_i hn
      intro w' σ' eh hr x er l
      rw [hC] at hr
      exact h (w'.x w.ex) _ eh (hr_x hr) (ext_x x) (slots hn er) (by rw [List.length_set]; exact l)
    · exact False.elim h
  | bk δ h' =>
    have h : PoS Z n w D (if (δ.set i none).all noExc = true then .bk (δ.set i none) h' else .bad) := h
    split at h
    · rename_i hn
      intro w' σ' eh hr x er l
      rw [hC] at hr
      exact h (w'.x w.ex) _ eh (hr_x hr) (ext_x x) (slots hn er) (by rw [List.length_set]; exact l)
    · exact False.elim h
  | ct δ h' =>
    have h : PoS Z n w D (if (δ.set i none).all noExc = true then .ct (δ.set i none) h' else .bad) := h
    split at h
    · rename_i hn
      intro w' σ' eh hr x er l
      rw [hC] at hr
      exact h (w'.x w.ex) _ eh (hr_x hr) (ext_x x) (slots hn er) (by rw [List.length_set]; exact l)
    · exact False.elim h
  | rt d h' =>
    intro w' v eh hr x t
    rw [hC] at hr t
    have key : noExc (some d) = true → PoS Z n w D (.rt d h') → D.rt v w'.H := fun ne h => h (w'.x w.ex) v eh (hr_x hr) (ext_x x) (rt_x ne t)
    cases d with
    | exc c fs => exact False.elim h
    | p y => exact key rfl h
    | ref l => exact key rfl h
    | tmp y => exact key rfl h
  | exc c fs δ h' => exact False.elim h
  | bad => exact False.elim h
/-- the contexts within -/
theorem fit_try (F : Fit Z si k X) {W : WX} {pn : List (Addr × Obj)} {xe : Value → Shared → Prop} (hc : si.calm = true) (tk : Takes (X.tr pn xe) W) (hp : PassesOwn (model X.prog X.w) X.A X.env xe) : Fit ⟨Z.C, W, Z.ex⟩ si k (X.tr pn xe) where
  P := F.P
  w := F.w
  K := F.K
  mg := F.mg
  base := F.base
  N := F.N
  nd := F.nd
  sc := F.sc
  un := F.un
  calm := fun _ => ⟨(F.calm hc).1, (F.calm hc).2.1, hp⟩
  tk := tk
  fn := F.fn
  exn := F.exn
  stk := F.stk
  ex := fun x h => by
    have h : Z.ex = some x := h
    rw [F.exn hc] at h
    cases h
def Si.hot (si : Si) : Si := { si with calm := false }
theorem fit_suite (F : Fit Z si k X) {a : Addr} {oe : Obj} {cls : Value} {d : Option Addr} {pn : List (Addr × Obj)} {c : Str} {fs : Fs} (hz : Zc cls d oe) (hf : ∃ vs, oe.data = .fields vs) : Fit ⟨Z.C, fun _ _ _ _ => False, some ⟨a, cls, d, c, fs⟩⟩ si.hot k (X.suite a ((a, oe) :: pn)) where
  P := F.P
  w := F.w
  K := F.K
  mg := F.mg
  base := F.base
  N := F.N
  nd := F.nd
  sc := F.sc
  un := F.un
  calm := fun z => Bool.noConfusion z
  tk := takes_none5
  fn := F.fn
  exn := fun z => Bool.noConfusion z
  stk := F.stk
  ex := fun x h => by
    cases h
    exact ⟨oe, .head _, hz, hf⟩
theorem ps_tryG {sub : Str → Str → Option Bool} {x nme : Str} {i : Nat} {body suite : List Stmt} {b₀ : Stmt} {np pos pos' : PySem.Pos} {fb fs : SS} (F : Fit Z si k X) (hc : si.calm = true) (ht : si.top = true) (so : SubOk Z.C sub) (hg : glob si x = true) (hi : ixS nme si.N = some i) (hl : si.sc.names.lookup nme = some .local) (hcl : ClsKn Z.C x)
    (hb : ∀ (Z' : Kx) (Y : Cx), Z'.C = Z.C → Fit Z' si k Y → PSs Y body (tS Z' n fb)) (hs : ∀ (Z' : Kx) (Y : Cx), Z'.C = Z.C → Fit Z' si.hot k Y → PSs Y (b₀ :: suite) (tS Z' n fs)) :
    PS X (.Try body [.ExceptHandler (some (.Name x np)) (some nme) (b₀ :: suite) pos'] [] [] pos) (tS Z n (xTry sub i x fb fs)) := by
  obtain ⟨v, cv, _, _, hcv⟩ := hcl
  obtain ⟨g1, g2⟩ := glob_ok F hg
  obtain ⟨s1, s2⟩ := F.stk ht
  have nd := F.nd
  rw [← F.N] at nd
  have hN : Names X x cv := ⟨g1, okNm_d g2, by
    rcases hcv with h | ⟨h1, h2⟩
    · exact .inl (by rw [F.mg]; exact h)
    · exact .inr ⟨by rw [F.mg]; exact h1, h2, okNm_n g2⟩⟩
  refine ps_imp (ps_try_as (i := i) (tb := fun W => tS ⟨Z.C, W, Z.ex⟩ n fb) (ts := fun a cls d D σ H => ∃ c gs, tS ⟨Z.C, fun _ _ _ _ => False, some ⟨a, cls, d, c, gs⟩⟩ n fs D σ H) s1 s2 nd (by rw [F.N]; exact ixS_get hi) (by show X.env.scope.names.lookup nme = _; rw [F.sc]; exact hl) hN F.tk
    (fun W pn xe tk hp => hb _ _ rfl (fit_try F hc tk hp)) (fun a oe cls d pn hz hf => ⟨fun pins s σ H D I ⟨c, gs, h⟩ => (hs ⟨Z.C, fun _ _ _ _ => False, some ⟨a, cls, d, c, gs⟩⟩ _ rfl (fit_suite F hz hf)).run pins s σ H D I h⟩)) fun D σ H ⟨w, δ, A, l, h⟩ => ?_
  refine ⟨w, δ, ⟨A.eH, A.hr, A.er, A.ex, A.xr⟩, l, ?_⟩
  have h : PoS Z n w D (match fb δ w.h with
    | .exc c fs' δ1 h1 => match sub c x with
      | some true => clr i (fs (δ1.set i (some (.exc c fs'))) h1)
      | some false => .exc c fs' δ1 h1
      | none => .bad
    | r => r) := h
  cases er : fb δ w.h with
  | nx δ' h' => rw [er] at h; exact h
  | bk δ' h' => rw [er] at h; exact h
  | ct δ' h' => rw [er] at h; exact h
  | rt d h' => rw [er] at h; exact h
  | bad => rw [er] at h; exact h
  | exc c gs δ1 h1 =>
    rw [er] at h
    have h : PoS Z n w D (match sub c x with
      | some true => clr i (fs (δ1.set i (some (.exc c gs))) h1)
      | some false => .exc c gs δ1 h1
      | none => .bad) := h
    intro w' σ' cls d eh hr X' er' l' rx
    cases es : sub c x with
    | none =>
      simp only [es] at h
      exact False.elim h
    | some b =>
      simp only [es] at h
      obtain ⟨ac, cv', m1, m2, _, _, m3, _⟩ := so.one c x b es
      have ec : cv' = cv := clsAt_uni m2 hcv
      subst ec
      obtain ⟨ac2, m4, ecls, _⟩ := id rx
      rw [m1] at m4
      cases m4
      refine ⟨b, by rw [ecls, F.K]; exact m3, fun eb a ha => ?_, fun eb => ?_⟩
      · subst eb
        have wn : w'.ex = none := by
          have q := A.ex
          rw [F.exn hc] at q
          exact X'.ex.trans q
        have er2 : ER Z.C (w'.x (some (a, c, gs))) (σ'.set i (some (.ref a))) (δ1.set i (some (.exc c gs))) := er_set (er_x0 wn er') trivial ⟨a, rfl, rfl⟩
        refine ⟨c, gs, w'.x (some (a, c, gs)), δ1.set i (some (.exc c gs)), ⟨rfl, hr_x hr, er2, rfl, fun y e => ?_⟩, by rw [List.length_set]; exact l', ?_⟩
        · cases e
          exact rx
        · refine pos_clr (Z := Z) (Zs := ⟨Z.C, fun _ _ _ _ => False, some ⟨a, cls, d, c, gs⟩⟩) (e := some (a, c, gs)) (w := w') (D := D) rfl ?_
          show PoS Z n w' D (clr i (fs (δ1.set i (some (.exc c gs))) w'.h))
          rw [eh]
          exact pos_ext' X' h
      · subst eb
        exact h w' σ' cls d eh hr X' er' l' rx
end
end Pv

/-! ## text Pvl -/
set_option Elab.async false
set_option linter.all false
set_option maxRecDepth 100000
set_option autoImplicit false
/-! Pvl: statements from their text, sound. -/
namespace Pv
open PySem PySem.Spec PyProof.Rows L2

def noComp : Expr → Bool
  | .ListComp _ _ _ _ => false
  | .SetComp _ _ _ _ => false
  | .DictComp _ _ _ _ _ => false
  | _ => true
theorem sw_none {e : Expr} {t : Option Expr} {l : Nat} {env : Env} (h : noComp e = true) : swapsWith e t l env = pure false := by
  cases e <;> first | rfl | cases h
theorem sw_sole {e t : Expr} {l : Nat} {env : Env} (h : noComp e = true) : swapsWithSole [t] e l env = pure false := by
  unfold swapsWithSole
  exact sw_none h
section
variable {G : Gs} {C : Ct} {k n : Nat} {c : Cmp} {Z : Kx} {si : Si} {X : Cx}
theorem ps_setLcG {y : Str} {py spos : PySem.Pos} {i : Nat} {elt tg iter : Expr} {ifs : List Expr} {scope : Scope} {pos : PySem.Pos} {it : SI} {is : List Nat} {b : TB} {t : SB} {e : SE} (F : Fit Z si k X) (hy : asg si y = some i) (hc : si.calm = true) (hi : PI X tg iter (tI Z it)) (ok : blkC si.N si.sc scope (ownOf si.N scope) = true)
    (hg : ∀ Y, Fit Z.blk (si.blk scope) k Y → PG Y tg (tG Z.blk is b)) (ht : ∀ Y, Fit Z.blk (si.blk scope) k Y → PTs Y ifs (tT Z.blk t)) (he : ∀ Y, Fit Z.blk (si.blk scope) k Y → PE Y elt (tE Z.blk e)) (hs : notSet iter = true)
    (sub : is.all (fun i => ((ownOf si.N scope).map (·.2)).contains i) = true) : PS X (.Assign [.Name y py] (.ListComp elt [⟨tg, iter, ifs, 0⟩] scope pos) spos) (tS Z n (xAsg i (sLc it ((ownOf si.N scope).map (·.2)) b t e))) := by
  have hn := F.exn hc
  obtain ⟨nd, h1, h2, h3⟩ := asg_ok F hy
  have sub' : ∀ j ∈ is, j ∈ (ownOf si.N scope).map (·.2) := fun j hj => by
    rw [List.all_eq_true] at sub
    simpa using sub j hj
  have sw : swapsWith (.ListComp elt [⟨tg, iter, ifs, 0⟩] scope pos) (some (.Name y py)) spos.line X.env = pure (X.env.blockKind == .function && X.env.kindOf y == some .local && py.line == pos.line && !(scope.names.any fun (n, k) => n == y && (k == .local || k == .cell))) := rfl
  cases eb : (X.env.blockKind == .function && X.env.kindOf y == some .local && py.line == pos.line && !(scope.names.any fun (n, k) => n == y && (k == .local || k == .cell))) with
  | false =>
    rw [eb] at sw
    exact ps_imp (ps_set nd h1 h2 (pe_lcG F hc hi ok hg ht he hs sub) sw h3) fun D σ H h => rd_asg h
  | true =>
    rw [eb] at sw
    simp only [Bool.and_eq_true] at eb
    have hl : X.env.scope.names.lookup y = some .local := eq_of_beq eb.1.1.2
    refine ps_imp (ps_setLc (own := ownOf si.N scope) (F.calm hc).1 nd h1 hl sw hi (by rw [F.N, F.sc]; exact blkOk_by ok) (fun s H C cl fp => hg _ (fit_blk F hc hn s H scope cl C fp)) (fun s H C cl fp => ht _ (fit_blk F hc hn s H scope cl C fp)) (fun s H C cl fp => he _ (fit_blk F hc hn s H scope cl C fp)) (notSet_ok hs)) fun D σ H h => ?_
    exact rd_lc sub' (rd_asg h)
theorem ps_asgBad {st : Stmt} {i : Nat} : PS X st (tS Z n (xAsg i sBad)) := ⟨fun _ _ _ _ _ _ ⟨_, _, _, _, h⟩ => False.elim h⟩
theorem ok_setLc (G0 : GsOk G C k) (c0 : CmpOk G C k c) (hZ : Z.C = C) (F : Fit Z si k X) {y : Str} {py spos : PySem.Pos} {i : Nat} (hy : asg si y = some i) {elt : Expr} {gs : List Comprehension} {scope : Scope} {pos : PySem.Pos} : PS X (.Assign [.Name y py] (.ListComp elt gs scope pos) spos) (tS Z n (xAsg i (cLc G c si elt gs scope))) := by
  unfold cLc
  split
  · rename_i tg iter ifs
    split
    · rename_i h
      simp only [Bool.and_eq_true] at h
      obtain ⟨⟨⟨h1, h2⟩, h3⟩, h4⟩ := h
      split
      · exact ps_setLcG F hy h1 (ok_iter G0 c0 hZ F) h2 (fun Y FY => pg_tgt FY 5 tg) (fun Y FY => pts_imp pts_nil fun σ H Q z => rd_yes z) (fun Y FY => c0.E Z.blk _ Y elt hZ FY) h3 h4
      · rename_i t
        exact ps_setLcG F hy h1 (ok_iter G0 c0 hZ F) h2 (fun Y FY => pg_tgt FY 5 tg) (fun Y FY => pts_one (c0.T Z.blk _ Y t hZ FY)) (fun Y FY => c0.E Z.blk _ Y elt hZ FY) h3 h4
      · exact ps_asgBad
    · exact ps_asgBad
  · exact ps_asgBad
end

/-! ### statements -/
def notTup : Expr → Bool
  | .Tuple _ _ _ => false
  | _ => true
def cAsg (G : Gs) (c : Cmp) (si : Si) (t e : Expr) : SS := match t with
  | .Name y _ => match asg si y with
    | some i => match e with
      | .ListComp elt gs scope _ => xAsg i (cLc G c si elt gs scope)
      | e => if noComp e = true then xAsg i (c.E si e) else xBad
    | none => xBad
  | .Tuple es m p => if (noComp e && notTup e) = true then xDst (tgt 5 si (.Tuple es m p)).2 (c.E si e) else xBad
  | .Subscript o i _ => if (noComp e && !isSl i) = true then xSet (c.E si e) (c.E si o) (c.E si i) else xBad
  | _ => xBad
def xSeqs : List SS → SS
  | [] => xNext
  | [f] => f
  | f :: g :: r => xSeq f (xSeqs (g :: r))
noncomputable def stm1 (G : Gs) (rz : Str → Bool) (c : Cmp) (f : Si → Stmt → SS) (si : Si) (s : Stmt) : SS := match s with
    | .Expr e _ => if noComp e = true then xDrop (c.E si e) else xBad
    | .Assign [t] e _ => cAsg G c si t e
    | .Return (some e) _ => xRet (c.E si e)
    | .Return none _ => xRetN
    | .If t a b _ => xIf (c.T si t) (xSeqs (a.map (f si))) (xSeqs (b.map (f si)))
    | .For tg it body [] _ => if (si.calm && notSet it) = true then xFor (cIter G c si it) (tgt 5 si tg).2 (xSeqs (body.map (f si))) else xBad
    | .While t body [] _ => if si.calm = true then xWhile (c.T si t) (xSeqs (body.map (f si))) else xBad
    | .Pass _ => xNext
    | .Break _ => xBrk
    | .Continue _ => xCnt
    | .Raise (some (.Call (.Name x _) [.Constant (.str _) _ _] [] _)) none _ => if (si.calm && glob si x && rz x) = true then xRaise x [] else xBad
    | .Try body [.ExceptHandler (some (.Name x _)) (some nme) (b₀ :: suite) _] [] [] _ => match ixS nme si.N with
      | some i => if (si.calm && si.top && glob si x && G.cl x && decide (si.sc.names.lookup nme = some .local)) = true then
        xTry G.sub i x (xSeqs (body.map (f si))) (xSeqs ((b₀ :: suite).map (f si.hot))) else xBad
      | none => xBad
    | _ => xBad
noncomputable def stm (G : Gs) (rz : Str → Bool) (c : Cmp) : Nat → Si → Stmt → SS
  | 0 => fun _ _ => xBad
  | m + 1 => stm1 G rz c (stm G rz c m)
noncomputable def stms (G : Gs) (rz : Str → Bool) (c : Cmp) (m : Nat) (si : Si) (sts : List Stmt) : SS := xSeqs (sts.map (stm G rz c m si))
section
variable {G : Gs} {rz : Str → Bool} {C : Ct} {k n : Nat} {c : Cmp} {Z : Kx} {si : Si} {X : Cx}
theorem assign_one {t : Expr} {env : Env} (h : noStar t = true) : (assignEach [t] env).map (·.2) = [assign t env] := by
  cases t <;> first | rfl | cases h
theorem ok_cAsg (G0 : GsOk G C k) (c0 : CmpOk G C k c) (hZ : Z.C = C) (F : Fit Z si k X) {t e : Expr} {pos : PySem.Pos} : PS X (.Assign [t] e pos) (tS Z n (cAsg G c si t e)) := by
  unfold cAsg
  split
  · rename_i y py
    split
    · rename_i i hy
      split
      · exact ok_setLc G0 c0 hZ F hy
      · split
        · rename_i h
          obtain ⟨nd, h1, h2, h3⟩ := asg_ok F hy
          exact ps_imp (ps_set nd h1 h2 (c0.E Z si X e hZ F) (sw_none h) h3) fun D σ H h => rd_asg h
        · exact ps_bad
    · exact ps_bad
  · rename_i es m p
    split
    · rename_i h
      rw [Bool.and_eq_true] at h
      have hw : swappedStores [.Tuple es m p] e X.env = pure none := by
        have h2 := h.2
        cases e <;> first | rfl | cases h2
      exact ps_imp (ps_asg (c0.E Z si X e hZ F) (pg_tgt F 5 (.Tuple es m p)) (sw_sole h.1) hw rfl) fun D σ H h => rd_dst h
    · exact ps_bad
  · rename_i o i p
    split
    · rename_i h
      rw [Bool.and_eq_true] at h
      have ha : ∀ v, assign (.Subscript o i p) X.env v = (do
          let ov ← holding [v] (eval o X.env)
          let iv ← holding [v, ov] (eval i X.env)
          standAt p
          holding [v, ov, iv] (setItem ov iv v)
          release [v, ov, iv] []) := by
        have h2 := h.2
        cases i <;> first | (intro v; rfl) | cases h2
      have hw : swappedStores [.Subscript o i p] e X.env = pure none := by cases e <;> rfl
      exact ps_imp (ps_asg (c0.E Z si X e hZ F) (pg_sub (c0.E Z si X o hZ F) (c0.E Z si X i hZ F) set_list ha) (sw_sole h.1) hw rfl) fun D σ H h => rd_set h
    · exact ps_bad
  · exact ps_bad
theorem pss_all {f : Stmt → SS} {sts : List Stmt} (h : ∀ s, PS X s (tS Z n (f s))) : PSs X sts (tS Z n (xSeqs (sts.map f))) := by
  induction sts with
  | nil => exact pss_imp pss_nil fun D σ H q => rd_next q
  | cons s sts ih =>
    cases sts with
    | nil => exact pss_one (h s)
    | cons s2 r => exact pss_imp (pss_cons (h s) ih) fun D σ H q => rd_seq q
theorem stm_ok (G0 : GsOk G C k) (hr : ∀ x, rz x = true → RaiseOk C x) (c0 : CmpOk G C k c) : ∀ (m : Nat) (Z : Kx) (si : Si) (X : Cx) (s : Stmt), Z.C = C → Fit Z si k X → PS X s (tS Z n (stm G rz c m si s))
  | 0, Z, si, X, s, _, _ => ps_bad
  | m + 1, Z, si, X, s, hZ, F => by
    have ih := fun s => stm_ok G0 hr c0 m Z si X s hZ F
    have E := fun e => c0.E Z si X e hZ F
    have T := fun e => c0.T Z si X e hZ F
    show PS X s (tS Z n (stm1 G rz c (stm G rz c m) si s))
    unfold stm1
    split
    · split
      · rename_i h
        exact ps_imp (ps_expr (E _) (sw_none h)) fun D σ H q => rd_drop q
      · exact ps_bad
    · exact ok_cAsg G0 c0 hZ F
    · exact ps_imp (ps_ret (E _)) fun D σ H q => rd_ret q
    · exact ps_imp ps_retN fun D σ H q => rd_retN q
    · exact ps_imp (ps_if (T _) (pss_all ih) (pss_all ih)) fun D σ H q => rd_ifS q
    · split
      · rename_i h
        rw [Bool.and_eq_true] at h
        obtain ⟨h1, h2, h3⟩ := F.calm h.1
        exact ps_imp (ps_for h3 h1 (ok_iter G0 c0 hZ F) (pg_tgt F 5 _) (pss_all ih) (notSet_ok h.2)) fun D σ H q => rd_for q
      · exact ps_bad
    · split
      · rename_i h
        obtain ⟨h1, h2, h3⟩ := F.calm h
        exact ps_imp (ps_while h3 (T _) (pss_all ih)) fun D σ H q => rd_while q
      · exact ps_bad
    · exact ps_imp ps_pass fun D σ H q => rd_next q
    · exact ps_imp ps_break fun D σ H q => rd_brk q
    · exact ps_imp ps_continue fun D σ H q => rd_cnt q
    · split
      · rename_i h
        simp only [Bool.and_eq_true] at h
        exact ps_raiseG F h.1.1 h.1.2 (by rw [hZ]; exact hr _ h.2)
      · exact ps_bad
    · split
      · rename_i i hi
        split
        · rename_i h
          simp only [Bool.and_eq_true, decide_eq_true_eq] at h
          obtain ⟨⟨⟨⟨h1, h2⟩, h3⟩, h4⟩, h5⟩ := h
          exact ps_tryG F h1 h2 (by rw [hZ]; exact G0.sub) h3 hi h5 (by rw [hZ]; exact (G0.cl _ h4).kn) (fun Z' Y e FY => pss_all fun s => stm_ok G0 hr c0 m Z' si Y s (e.trans hZ) FY) (fun Z' Y e FY => pss_all fun s => stm_ok G0 hr c0 m Z' si.hot Y s (e.trans hZ) FY)
        · exact ps_bad
      · exact ps_bad
    · exact ps_bad
theorem stms_ok (G0 : GsOk G C k) (hr : ∀ x, rz x = true → RaiseOk C x) (c0 : CmpOk G C k c) (m : Nat) (hZ : Z.C = C) (F : Fit Z si k X) {sts : List Stmt} : PSs X sts (tS Z n (stms G rz c m si sts)) := pss_all fun s => stm_ok G0 hr c0 m Z si X s hZ F
end
end Pv

/-! ## text Pvm -/
set_option Elab.async false
set_option linter.all false
set_option maxRecDepth 100000
set_option autoImplicit false
/-! Pvm: defs from their text; the module's table; the law's entry. -/
namespace Pv
open PySem PySem.Spec PyProof.Rows L2

/-! ### a def's body from its entry to its end -/
def inT (n : Nat) : Th → Th
  | .ref l => .ref (n + l)
  | d => d
def entry (n : Nat) (ds : List Th) : En := (ds.map fun d => some (inT n d)) ++ List.replicate (n - ds.length) none
def outT (n : Nat) (d : Th) (h : Hs) : Option Th := match d with
  | .p x => some (.p x)
  | .tmp x => some (.tmp x)
  | .ref l => if l < n then match h[l]? with
    | some (.own x) => some (.tmp x)
    | some (.frz x) => some (.p x)
    | _ => none
    else some (.ref (l - n))
  | .exc _ _ => none
def runF (n : Nat) (f : SS) : SF := fun ds hs => match f (entry n ds) (List.replicate n .dead ++ hs) with
  | .nx _ h => .ok (.p .non) (h.drop n)
  | .rt d h => match outT n d h with
    | some d' => .ok d' (h.drop n)
    | none => .bad
  | .exc c fs _ h => .exc c fs (h.drop n)
  | _ => .bad
/-- the world of the body -/
def Wd.inn (w : Wd) (n : Nat) : Wd := ⟨List.replicate n 0 ++ w.ms, List.replicate n .dead ++ w.h, w.g, none⟩
def Wd.out (w : Wd) (n : Nat) : Wd := ⟨w.ms.drop n, w.h.drop n, w.g, none⟩
section
variable {C : Ct} {n : Nat} {w w1 : Wd} {a : Addr}
theorem inn_lo {α : Type} {x : α} {ys : List α} {l : Nat} (h : l < n) : (List.replicate n x ++ ys)[l]? = some x := by
  rw [List.getElem?_append_left (by simpa using h), List.getElem?_replicate, if_pos h]
theorem inn_hi {α : Type} {x : α} {ys : List α} {l : Nat} (h : n ≤ l) : (List.replicate n x ++ ys)[l]? = ys[l - n]? := by
  rw [List.getElem?_append_right (by simpa using h), List.length_replicate]
theorem inn_alive {l : Nat} (h : alive (w.inn n).h l) : n ≤ l ∧ alive w.h (l - n) := by
  obtain ⟨x, e⟩ := h
  have e : (List.replicate n Ob.dead ++ w.h)[l]? = some (.own x) := e
  by_cases hl : l < n
  · rw [inn_lo hl] at e
    cases e
  · rw [inn_hi (Nat.le_of_not_lt hl)] at e
    exact ⟨Nat.le_of_not_lt hl, x, e⟩
theorem inn_live (h : (w.inn n).live a) : w.live a := by
  obtain ⟨l, al, m⟩ := h
  obtain ⟨hl, al⟩ := inn_alive al
  have m : (List.replicate n 0 ++ w.ms)[l]? = some a := m
  rw [inn_hi hl] at m
  exact ⟨l - n, al, m⟩
theorem hr_inn (hr : HR C w) : HR C (w.inn n) where
  len := by show (List.replicate n 0 ++ w.ms).length = (List.replicate n Ob.dead ++ w.h).length; rw [List.length_append, List.length_append, List.length_replicate, List.length_replicate, hr.len]
  obj := fun l o a e m => by
    have e : (List.replicate n Ob.dead ++ w.h)[l]? = some o := e
    have m : (List.replicate n 0 ++ w.ms)[l]? = some a := m
    by_cases hl : l < n
    · rw [inn_lo hl] at e
      cases e
      trivial
    · rw [inn_hi (Nat.le_of_not_lt hl)] at e m
      have r := hr.obj _ o a e m
      cases o with
      | dead => trivial
      | own y => exact r
      | frz y => exact r
  nf := fun a h => hr.nf a (inn_live h)
  inj := fun l l' a h h' m m' => by
    obtain ⟨q1, q2⟩ := inn_alive h
    obtain ⟨q3, q4⟩ := inn_alive h'
    have m : (List.replicate n 0 ++ w.ms)[l]? = some a := m
    have m' : (List.replicate n 0 ++ w.ms)[l']? = some a := m'
    rw [inn_hi q1] at m
    rw [inn_hi q3] at m'
    have := hr.inj _ _ a q2 q4 m m'
    omega
  fh := hr.fh
theorem out_alive {l : Nat} (h : alive (w.out n).h l) : alive w.h (n + l) := by
  obtain ⟨x, e⟩ := h
  have e : (w.h.drop n)[l]? = some (.own x) := e
  rw [List.getElem?_drop] at e
  exact ⟨x, e⟩
theorem out_ms {l : Nat} : (w.out n).ms[l]? = w.ms[n + l]? := List.getElem?_drop
theorem out_live (h : (w.out n).live a) : ∃ l, n ≤ l ∧ alive w.h l ∧ w.ms[l]? = some a := by
  obtain ⟨l, al, m⟩ := h
  rw [out_ms] at m
  exact ⟨n + l, Nat.le_add_right _ _, out_alive al, m⟩
theorem hr_out (hr : HR C w) : HR C (w.out n) where
  len := by show (w.ms.drop n).length = (w.h.drop n).length; rw [List.length_drop, List.length_drop, hr.len]
  obj := fun l o a e m => by
    have e : (w.h.drop n)[l]? = some o := e
    rw [List.getElem?_drop] at e
    rw [out_ms] at m
    have r := hr.obj _ o a e m
    cases o with
    | dead => trivial
    | own y => exact r
    | frz y => exact r
  nf := fun a h => by
    obtain ⟨l, _, al, m⟩ := out_live h
    exact hr.nf a ⟨l, al, m⟩
  inj := fun l l' a h h' m m' => by
    rw [out_ms] at m m'
    have := hr.inj _ _ a (out_alive h) (out_alive h') m m'
    omega
  fh := hr.fh
theorem ext_out (z : w.ex = none) (x : Ext n (w.inn n) w1) : Ext 0 w (w1.out n) where
  fr := fun a o e k => x.fr a o e fun q => k (inn_live q)
  tr := x.tr
  ff := x.ff
  fn := fun a f => by
    rcases x.fn a f with q | q | q
    · exact .inl q
    · exact .inr (.inl q)
    · exact .inr (.inr (inn_live q))
  lv := fun l _ h => by
    obtain ⟨_, q⟩ := inn_alive (x.lv (n + l) (Nat.le_add_right _ _) (out_alive h))
    rwa [Nat.add_sub_cancel_left] at q
  mm := fun l _ => by
    rw [out_ms, x.mm (n + l) (Nat.le_add_right _ _)]
    show (List.replicate n 0 ++ w.ms)[n + l]? = _
    rw [inn_hi (Nat.le_add_right _ _), Nat.add_sub_cancel_left]
  nw := fun l a h => absurd h (Nat.not_lt_zero _)
  ln := by
    show (w1.h.drop n).length = _
    rw [List.length_drop, x.ln]
    show (List.replicate n Ob.dead ++ w.h).length - n = _
    rw [List.length_append, List.length_replicate]
    omega
  ex := z.symm
theorem rt_out (hr : HR C w1) (x : Ext n (w.inn n) w1) {d d' : Th} {v : V} (t : RT C w1 w.H d v) (e : outT n d w1.h = some d') : RT C (w1.out n) w.H d' v := by
  unfold outT at e
  split at e
  · cases e
    exact t
  · cases e
    obtain ⟨a, ev, o, f, k, z⟩ := t
    exact ⟨a, ev, o, f, fun q => by
      obtain ⟨l, _, al, m⟩ := out_live q
      exact k ⟨l, al, m⟩, z⟩
  · rename_i l
    obtain ⟨a, m, ev⟩ := t
    split at e
    · rename_i hl
      split at e
      · rename_i y q
        cases e
        refine ⟨a, ev, hr.obj l _ a q m, hr.nf a ⟨l, ⟨y, q⟩, m⟩, fun k => ?_, ?_⟩
        · obtain ⟨l', h1, al, m'⟩ := out_live k
          have := hr.inj l l' a ⟨y, q⟩ al m m'
          omega
        · rcases x.nw l a hl ⟨y, q⟩ m with z | ⟨z, _⟩
          · exact z
          · obtain ⟨z, _⟩ := inn_alive z
            omega
      · rename_i y q
        cases e
        obtain ⟨o, f⟩ := hr.obj l _ a q m
        rw [ev]
        exact rp_of_ob o f
      · cases e
    · rename_i hl
      cases e
      refine ⟨a, ?_, ev⟩
      rw [out_ms]
      have : n + (l - n) = l := by omega
      rw [this]
      exact m
  · cases e
theorem paired_get {α β : Type} {R : α → β → Prop} : ∀ {xs : List α} {ys : List β} {i : Nat} {x : α}, Paired R xs ys → xs[i]? = some x → ∃ y, ys[i]? = some y ∧ R x y
  | _, _, _, _, .nil, e => by simp at e
  | _, _, 0, _, .cons r _, e => by simp at e; subst e; exact ⟨_, rfl, r⟩
  | _, _, i + 1, x, .cons _ t, e => by
    obtain ⟨u, h1, h2⟩ := paired_get (i := i) (x := x) t (by simpa using e)
    exact ⟨u, by simpa using h1, h2⟩
theorem er_entry (hr : HR C w) {N : List Str} {ds : List Th} {vs : List V} (ok : ds.all argOk = true) (r : Paired (RT C w fun _ => none) ds vs) (hl : vs.length ≤ N.length) : ER C (w.inn N.length) (L2.start N vs) (entry N.length ds) := by
  have l := Paired.length r
  have le : (entry N.length ds).length = N.length := by
    unfold entry
    rw [List.length_append, List.length_map, List.length_replicate]
    omega
  refine ⟨?_, ?_, fun i d q => ?_⟩
  · rw [le]
    unfold L2.start
    rw [List.length_append, List.length_map, List.length_replicate]
    omega
  · rw [le]
    show N.length ≤ (List.replicate N.length Ob.dead ++ w.h).length
    rw [List.length_append, List.length_replicate]
    omega
  · rw [le]
    unfold entry at q
    by_cases hi : i < ds.length
    · rw [List.getElem?_append_left (by simpa using hi), List.getElem?_map] at q
      cases e : ds[i]? with
      | none =>
        rw [e] at q
        cases q
      | some d0 =>
        rw [e] at q
        cases q
        obtain ⟨v, ev, rv⟩ := paired_get r e
        rw [List.all_eq_true] at ok
        have ok := ok d0 (List.mem_of_getElem? e)
        have hv : i < vs.length := by omega
        refine ⟨?_, v, ?_, ?_⟩
        · cases d0 with
          | p y => trivial
          | ref l => exact .inr (Nat.le_add_right _ _)
          | tmp y => cases ok
          | exc c fs => cases ok
        · unfold L2.start
          rw [List.getElem?_append_left (by simpa using hv), List.getElem?_map, ev]
          rfl
        · cases d0 with
          | p y => exact rv
          | ref l =>
            obtain ⟨a, m, e2⟩ := rv
            refine ⟨a, ?_, e2⟩
            show (List.replicate N.length 0 ++ w.ms)[N.length + l]? = some a
            rw [inn_hi (Nat.le_add_right _ _), Nat.add_sub_cancel_left]
            exact m
          | tmp y => cases ok
          | exc c fs => cases ok
    · rw [List.getElem?_append_right (by simpa using hi), List.getElem?_replicate] at q
      split at q <;> cases q
end

/-! ### the module's table -/
structure Df where
  name : Str
  ps : List Str
  N : List Str
  sc : Scope
  body : List Stmt
  pats : List Pat
def Df.si (d : Df) : Si := { N := d.N, sc := d.sc }
structure Md where
  defs : List Df
  var : Str → Option Pd
  blt : Str → Bool
  sub : Str → Str → Option Bool
  cl : Str → Bool
  rz : Str → Bool
def Md.get (M : Md) (x : Str) : Option Df := M.defs.find? fun d => decide (d.name = x)
def Md.gs (M : Md) (run : Str → SF) : Gs := { fn := fun x => (M.get x).map fun d => ⟨d.ps, run x, d.pats⟩, var := M.var, blt := M.blt, sub := M.sub, cl := M.cl }
/-- what the defs do; k: how deep they call -/
noncomputable def Md.sem (M : Md) : Nat → Str → SF
  | 0 => fun _ _ _ => .bad
  | k + 1 => fun x => match M.get x with
    | some d => runF d.N.length (stms (M.gs (M.sem k)) M.rz (cmp (M.gs (M.sem k)) 30) 30 d.si d.body)
    | none => fun _ _ => .bad
structure DfOk (C : Ct) (d : Df) : Prop where
  ex : ∃ f fd params dvs kws, C.mg d.name = some (.ref f) ∧ FunD C.K d.name d.name params d.body d.sc dvs kws f fd ∧ ∀ p ∈ d.pats, PatOk C fd d.ps p
  sc : FnScope d.N d.ps d.sc
structure MdOk (M : Md) (C : Ct) : Prop where
  defs : ∀ d ∈ M.defs, DfOk C d
  var : ∀ x d, M.var x = some d → VarOk C x d
  blt : ∀ x, M.blt x = true → C.mg x = none
  sub : SubOk C M.sub
  cl : ∀ x, M.cl x = true → ClOk C x
  rz : ∀ x, M.rz x = true → RaiseOk C x
section
variable {M : Md} {C : Ct} {k : Nat}
theorem fit_def {N : List Str} {qual : Str} {scope : Scope} {f : Addr} {cd : Value} {A : Around} {outer : List Env} {s : Shared} {H : Hp} {E : XK} (nd : N.Nodup) (hr : RoomV k (A.deeper (envOfC qual scope s.heap.objs.size f cd))) :
    Fit ⟨C, fun cls d _ H => E cls d H, none⟩ { N := N, sc := scope } k (cxOf (CX C.P C.w) C.P C.w C.K C.mg C.base N qual scope f cd A outer s H E) where
  P := rfl
  w := rfl
  K := rfl
  mg := rfl
  base := rfl
  N := rfl
  nd := nd
  sc := rfl
  un := hr.r.units
  calm := fun _ => ⟨rfl, hr, passes_of (K := fun e s'' => CX C.P C.w outer H s E e s'') (E₁ := fun e' s'' => CX C.P C.w outer H s E e' s'') rfl⟩
  tk := takes_of (E₁ := fun e' s'' => CX C.P C.w outer H s E e' s'') rfl rfl rfl rfl
  fn := fun _ _ => rfl
  exn := fun _ => rfl
  stk := fun _ => ⟨rfl, rfl⟩
  ex := fun x h => by cases h
theorem def_run (M0 : MdOk M C) {d : Df} {f : Addr} {fd : FuncData} {params : Arguments} {dvs : List V} {kws : List (Str × V)} (FD : FunD C.K d.name d.name params d.body d.sc dvs kws f fd) (S : FnScope d.N d.ps d.sc) (G0 : GsOk (M.gs (M.sem k)) C k) :
    FnV C (k + 1) f fd d.ps (spOf C d.ps (runF d.N.length (stms (M.gs (M.sem k)) M.rz (cmp (M.gs (M.sem k)) 30) 30 d.si d.body))) := by
  obtain ⟨oc, od, dV, kV, doc, pm, an, cdv, ct, osl, rfl, lk, hcd, _, _⟩ := FD.ex
  refine fn_ofV lk hcd S (fun vs H Q E z => z.1) fun A outer s H vs Q E hr hsp => ?_
  obtain ⟨hl, w, ds, eH, hrw, wex, ok, r, po⟩ := hsp
  refine ⟨_, stms_ok (n := d.N.length) (Z := ⟨C, fun cls d _ H => E cls d H, none⟩) (si := d.si) G0 M0.rz (cmp_ok G0 30) 30 rfl (fit_def S.nd hr), ?_⟩
  have hpl : d.ps.length ≤ d.N.length := by have := congrArg List.length S.pre; rw [List.length_take] at this; omega
  have hlen : (entry d.N.length ds).length = d.N.length := by
    unfold entry
    have := Paired.length r
    rw [List.length_append, List.length_map, List.length_replicate]
    omega
  refine ⟨w.inn d.N.length, entry d.N.length ds, ⟨eH, hr_inn hrw, er_entry hrw ok r (by omega), rfl, fun x z => by cases z⟩, hlen, ?_⟩
  have po : Po ⟨C, fun cls d _ H => E cls d H, none⟩ w [] Q (match stms (M.gs (M.sem k)) M.rz (cmp (M.gs (M.sem k)) 30) 30 d.si d.body (entry d.N.length ds) (List.replicate d.N.length .dead ++ w.h) with
    | .nx _ h => .ok (.p .non) (h.drop d.N.length)
    | .rt r h => match outT d.N.length r h with
      | some d' => .ok d' (h.drop d.N.length)
      | none => .bad
    | .exc c fs _ h => .exc c fs (h.drop d.N.length)
    | _ => .bad) := po
  show PoS _ _ _ _ (stms (M.gs (M.sem k)) M.rz (cmp (M.gs (M.sem k)) 30) 30 d.si d.body (entry d.N.length ds) (List.replicate d.N.length .dead ++ w.h))
  cases es : stms (M.gs (M.sem k)) M.rz (cmp (M.gs (M.sem k)) 30) 30 d.si d.body (entry d.N.length ds) (List.replicate d.N.length .dead ++ w.h) with
  | nx δ' h' =>
    simp only [es] at po
    exact fun w3 σ3 e3 hr3 x3 _ _ => po (w3.out d.N.length) .non (by show w3.h.drop _ = _; rw [e3]) (hr_out hr3) (ext_out wex x3) (rt_p rp_non)
  | bk δ' h' =>
    simp only [es] at po
    exact False.elim po
  | ct δ' h' =>
    simp only [es] at po
    exact False.elim po
  | bad =>
    simp only [es] at po
    exact False.elim po
  | exc c fs δ' h' =>
    simp only [es] at po
    exact fun w3 σ3 cls dd e3 hr3 x3 _ _ rx => po (w3.out d.N.length) cls dd (by show w3.h.drop _ = _; rw [e3]) (hr_out hr3) (ext_out wex x3) rx
  | rt t h' =>
    simp only [es] at po
    cases eo : outT d.N.length t h' with
    | none =>
      simp only [eo] at po
      exact False.elim po
    | some t' =>
      simp only [eo] at po
      exact fun w3 v e3 hr3 x3 tt => po (w3.out d.N.length) v (by show w3.h.drop _ = _; rw [e3]) (hr_out hr3) (ext_out wex x3) (rt_out hr3 x3 tt (by rw [e3]; exact eo))
theorem def_ok (M0 : MdOk M C) {d : Df} (h : DfOk C d) (G0 : GsOk (M.gs (M.sem k)) C k) : ∃ f fd, C.mg d.name = some (.ref f) ∧ PySem.W.keepIn C.K (.ref f) = true ∧
    FnV C (k + 1) f fd d.ps (spOf C d.ps (runF d.N.length (stms (M.gs (M.sem k)) M.rz (cmp (M.gs (M.sem k)) 30) 30 d.si d.body))) ∧ ∀ p ∈ d.pats, PatOk C fd d.ps p := by
  obtain ⟨f, fd, params, dvs, kws, hm, FD, hp⟩ := h.ex
  exact ⟨f, fd, hm, FD.kp, def_run M0 FD h.sc G0, hp⟩
theorem sem_succ {k : Nat} {x : Str} {d : Df} (e : M.get x = some d) : M.sem (k + 1) x = runF d.N.length (stms (M.gs (M.sem k)) M.rz (cmp (M.gs (M.sem k)) 30) 30 d.si d.body) := by
  show (match M.get x with
    | some d => runF d.N.length (stms (M.gs (M.sem k)) M.rz (cmp (M.gs (M.sem k)) 30) 30 d.si d.body)
    | none => fun _ _ => .bad) = _
  rw [e]
theorem get_some {x : Str} {d : Df} (h : M.get x = some d) : d ∈ M.defs ∧ d.name = x := ⟨List.mem_of_find?_eq_some h, by simpa using List.find?_some h⟩
/-- THE TABLE: each def does what its text says, at each depth -/
theorem sem_ok (M0 : MdOk M C) : ∀ k : Nat, GsOk (M.gs (M.sem k)) C k
  | 0 => ⟨fun x fi h => by
      obtain ⟨d, e, rfl⟩ := Option.map_eq_some_iff.mp (show (M.get x).map (fun d => (⟨d.ps, M.sem 0 x, d.pats⟩ : Fi)) = some fi from h)
      obtain ⟨hd, rfl⟩ := get_some e
      obtain ⟨f, fd, params, dvs, kws, hm, FD, hp⟩ := (M0.defs d hd).ex
      exact ⟨f, fd, hm, FD.kp, ⟨fun vs H Q E z => z.1, fun A outer s H args us vs Q E _ _ _ _ z => by
        obtain ⟨_, _, _, _, _, _, _, _, po⟩ := z
        exact False.elim po⟩, hp⟩, M0.var, M0.blt, M0.sub, M0.cl⟩
  | k + 1 => ⟨fun x fi h => by
      obtain ⟨d, e, rfl⟩ := Option.map_eq_some_iff.mp (show (M.get x).map (fun d => (⟨d.ps, M.sem (k + 1) x, d.pats⟩ : Fi)) = some fi from h)
      obtain ⟨hd, ex⟩ := get_some e
      have q := def_ok M0 (M0.defs d hd) (sem_ok M0 k)
      have es : M.sem (k + 1) x = runF d.N.length (stms (M.gs (M.sem k)) M.rz (cmp (M.gs (M.sem k)) 30) 30 d.si d.body) := by
        show (match M.get x with
          | some d => runF d.N.length (stms (M.gs (M.sem k)) M.rz (cmp (M.gs (M.sem k)) 30) 30 d.si d.body)
          | none => fun _ _ => .bad) = _
        rw [e]
      rw [ex, ← es] at q
      exact ⟨q⟩, M0.var, M0.blt, M0.sub, M0.cl⟩
end
end Pv

/-! ## text Pvn -/
set_option Elab.async false
set_option linter.all false
set_option maxRecDepth 100000
set_option autoImplicit false
/-! Pvn: the law's entry. -/
namespace Pv
open PySem PySem.Spec PyProof.Rows L2

/-- the script as plain data -/
abbrev scriptP (ns : List Int) : Pd := .lst (ns.map .int)
theorem rps_ints {C : Ct} {w : Wd} : ∀ ns : List Int, RPs C w (ns.map .int) (ns.map V.int)
  | [] => rps_nil
  | n :: ns => rps_cons rp_int (rps_ints ns)
/-- what the law wants -/
theorem sp_law {C : Ct} {x : Str} {run : SF} {H : Hp} {a : Addr} {ns : List Int} (hs : SqL C.K H a (ns.map V.int)) (hr : run [.p (scriptP ns)] [] = .ok (.p (.bl true)) []) :
    spOf C [x] run [.ref a] H (fun v _ => v = .bl true) (fun _ _ _ => False) := by
  refine ⟨rfl, ⟨[], [], ⟨fun b => b = a ∧ H a ≠ none, H⟩, none⟩, [.p (scriptP ns)], rfl, ⟨rfl, fun l o b e => by simp at e, fun b ⟨l, ⟨y, e⟩, _⟩ => by simp at e, fun l l' b ⟨y, e⟩ => by simp at e, fun b f => by rw [f.1]; exact f.2⟩, rfl, rfl, .cons ?_ .nil, ?_⟩
  · show RPg C _ (.lst (ns.map .int)) (.ref a)
    unfold RPg
    refine ⟨a, _, rfl, ?_, rps_ints (w := ⟨[], [], _, none⟩) ns⟩
    rcases hs with h | h
    · refine .inl ⟨h, rfl, ?_⟩
      rcases h with h | ⟨o, h⟩ <;> (rw [h]; exact fun z => nomatch z)
    · exact .inr h
  · rw [hr]
    exact fun w' v _ _ _ t => rv_bl (rp_rv (show RP C w' (.bl true) v from t))

/-- the promise of the law, at the heap behind the top -/
theorem enter_law {P : Program} {w : World} {K : PySem.W.Frag} {mg mb : Str → Option Value} {k : Nat} {fa a : Addr} {fd : FuncData} {x : Str} {run : SF} {s₁ : Shared} {vs : List Value} {ns : List Int}
    (KX : K.In s₁.heap) (hns : s₁.heap.Ns mainGlobals mg) (hb : s₁.heap.Ns builtinsNs mb) (hbb : ∀ x : Str, x ≠ "__name__" → mb x = bootBuiltins x) (hlim : s₁.heap.NoLimit) (hg : s₁.gens = #[])
    (ha : s₁.heap.get? a = some { cls := .type "list", data := .seq vs.toArray }) (hi : IntsAre vs ns) (hl : ns.length ≤ sizeLine) (hr : RoomV k callerA)
    (F : ∀ base : Heap, K.In base → base.Ns mainGlobals mg → FnV ⟨K, mg, P, w, base⟩ k fa fd [x] (spOf ⟨K, mg, P, w, base⟩ [x] run)) (hbind : ∀ (s : Shared) (u : Value), BindsTo s fd ⟨[u], []⟩ [(x, u)])
    (hrun : run [.p (scriptP ns)] [] = .ok (.p (.bl true)) []) :
    codeAny (model P w) callerA (.call (.ref fa) ⟨[.ref a], []⟩) (fun r s' => r = .ok (.ret (.bool true)) ∧ OldK s₁.heap s'.heap ∧ s'.os = s₁.os ∧ AllBare s'.gens) s₁ := by
  have rv := vals_ints hi
  have nmap : (ns.map V.int).length ≤ sizeLine := by rw [List.length_map]; exact hl
  -- the heap of the layer: the script alone is tracked, unless it is the module's
  have core : ∀ H : Hp, (∀ b u, H b = some u → b = a ∧ u = .frz { cls := .type "list", data := .seq vs.toArray } (.lst (ns.map V.int)) ∧ K.lookup a = none) → SqL K H a (ns.map V.int) →
      codeAny (model P w) callerA (.call (.ref fa) ⟨[.ref a], []⟩) (fun r s' => r = .ok (.ret (.bool true)) ∧ OldK s₁.heap s'.heap ∧ s'.os = s₁.os ∧ AllBare s'.gens) s₁ := by
    intro H only hS
    have hok : HOk P w H s₁.heap := fun b u e => by
      obtain ⟨rfl, rfl, _⟩ := only b u e
      exact ⟨ha, nmap, vs, _, rv, ha⟩
    have dictN : ∀ {b : Addr} {o : Obj} {es : Array DictEntry} {ep : Nat}, s₁.heap.get? b = some o → o.data = .dict es ep → H b = none := fun {b o es ep} e d => by
      cases q : H b with
      | none => rfl
      | some u =>
        obtain ⟨rfl, _, _⟩ := only b u q
        rw [ha] at e
        cases e
        have d' : Data.seq vs.toArray _ = Data.dict es ep := d
        cases d'
    have nsK : ∀ {b : Addr} {m : Str → Option Value}, s₁.heap.Ns b m → (hidT s₁.heap H).Ns b m := fun {b m} ⟨o, es, ep, e, d, r⟩ => ⟨o, es, ep, hidT_get e (dictN e d), d, r⟩
    have hKb : K.In (hidT s₁.heap H) := fun b o e => hidT_get (KX b o e) (by
      cases q : H b with
      | none => rfl
      | some u =>
        obtain ⟨rfl, _, n⟩ := only b u q
        rw [n] at e
        cases e)
    have e0 : Env0 P w K mg (hidT s₁.heap H) callerA [] s₁ H := ⟨rfl, ⟨hKb, nsK hns, ⟨mb, nsK hb, hbb⟩, let ⟨mc, h1, h2⟩ := hlim; ⟨mc, nsK h1, h2⟩⟩, fun b o e => of_hidT e, Nat.le_of_eq (hidT_size _ _), trivial, fun b hb => (List.not_mem_nil hb).elim, hok, .of_eq hg⟩
    refine codeAny_mono ((F _ hKb (nsK hns)).run callerA [] s₁ H ⟨[.ref a], []⟩ [.ref a] [.ref a] (fun v _ => v = .bl true) (fun _ _ _ => False) hr e0 (hbind s₁ (.ref a)) (.cons rfl .nil) (sp_law hS hrun)) fun r s' h => ?_
    cases r with
    | error e =>
      obtain ⟨_, _, _, _, _, _, _, _, _, _, _, _, z⟩ := h
      exact z.elim
    | ok fl =>
      cases fl with
      | next => exact False.elim h
      | brk => exact False.elim h
      | cont => exact False.elim h
      | ret u =>
        obtain ⟨v, H', os, bare, un, hok', r', q⟩ := h
        have q' : v = .bl true := q
        subst q'
        obtain rfl : u = Value.bool true := r'
        refine ⟨rfl, OldK.of_keep fun b o e => ?_, os, bare⟩
        cases q : H b with
        | none => exact un.keep b o e q (fun z => (List.not_mem_nil z).elim) (fun z => (List.not_mem_nil z).elim)
        | some u =>
          obtain ⟨rfl, rfl, _⟩ := only b u q
          obtain ⟨e2, _⟩ := hok' b _ (un.frzs b _ _ q)
          rw [ha] at e
          cases e
          exact e2
  cases hk : K.lookup a with
  | some o =>
    have e := KX a o hk
    rw [ha] at e
    cases e
    refine core (fun _ => none) (fun b u z => nomatch z) (.inr ⟨_, vs.toArray, _, hk, rfl, rfl, rfl, ?_, by simpa using rv⟩)
    rw [List.size_toArray, hi.length]
    exact hl
  | none =>
    refine core (fun b => if b = a then some (.frz { cls := .type "list", data := .seq vs.toArray } (.lst (ns.map V.int))) else none) (fun b u z => ?_) (.inl (.inr ⟨_, if_pos rfl⟩))
    by_cases hb : b = a
    · have z' := (if_pos hb).symm.trans z
      cases z'
      exact ⟨hb, rfl, hk⟩
    · have z' := (if_neg hb).symm.trans z
      cases z'
/-- THE WALK of a law whose def is read here -/
theorem walkV {l : PySem.W.OpenLaw} {n k : Nat} {q : Program} {loose : List Str} {XP : (Str → Option Value) → Heap → Prop} {YP : World → Heap → Prop} {d : DefRec} {x : Str} {run : SF}
    (hn : l.most = some n) (hn2 : n ≤ sizeLine) (hdf : d.params.defaults = []) (hr : RoomV k callerA) (hrun : ∀ ns : List Int, ns.length ≤ n → run [.p (scriptP ns)] [] = .ok (.p (.bl true)) [])
    (F : ∀ (w : World) (mg : Str → Option Value) (fa : Addr) (h : Heap), YP w h → h.Ns mainGlobals mg → mg d.name = some (.ref fa) →
      ∃ (K : PySem.W.Frag) (fd : FuncData), K.In h ∧ (∀ (s : Shared) (u : Value), BindsTo s fd ⟨[u], []⟩ [(x, u)]) ∧
        ∀ base : Heap, K.In base → base.Ns mainGlobals mg → FnV ⟨K, mg, l.prog, w, base⟩ k fa fd [x] (spOf ⟨K, mg, l.prog, w, base⟩ [x] run)) :
    PySem.W.WalkO q loose XP YP l.row.toRowW d [] (fun f vs => PySem.call f vs) := by
  refine Att.attach_call hn hdf fun w s₀ s₁ mg mb fa o pm cd doc a vs ns G Y ho hd hcd hmg hobj hints hlen hg => ?_
  obtain ⟨K, fd, KX, hb, hF⟩ := F w mg fa _ Y G.T.g hmg
  exact enter_law KX G.T.g G.T.b G.T.builtins G.T.nolimit hg hobj hints (Nat.le_trans hlen hn2) hr hF hb (hrun ns hlen)
end Pv

/-! ## text Pvo -/
set_option Elab.async false
set_option linter.all false
set_option maxRecDepth 100000
set_option autoImplicit false
/-! Pvo: a row's table, read off its head. -/
namespace Pv
open PySem PySem.Spec PyProof.Rows L2

/-! ### checks on the part of the heap -/
/-- a constant's value -/
def pdB (K : PySem.W.Frag) : Nat → Pd → Value → Bool
  | 0, _, _ => false
  | n + 1, d, u => match d, u with
    | .non, .none => true
    | .bl b, .bool c => b == c
    | .int i, .int j _ => decide (i = j)
    | .str x, .str y _ => decide (x = y) && (PyData.strOk x && decide (x.length ≤ sizeLine))
    | .tup xs, .ref a => (match K.lookup a with
      | some ⟨.type c, _, .seq its _, _⟩ => decide (c = "tuple") && (decide (its.size ≤ sizeLine) && (decide (xs.length = its.toList.length) && (xs.zip its.toList).all fun q => pdB K n q.1 q.2))
      | _ => false)
    | .lst xs, .ref a => (match K.lookup a with
      | some ⟨.type c, none, .seq its _, _⟩ => decide (c = "list") && (decide (its.size ≤ sizeLine) && (decide (xs.length = its.toList.length) && (xs.zip its.toList).all fun q => pdB K n q.1 q.2))
      | _ => false)
    | _, _ => false
theorem ba {a b : Bool} (h : (a && b) = true) : a = true ∧ b = true := Bool.and_eq_true_iff.mp h
theorem pdB_all {C : Ct} {n : Nat} (ih : ∀ (d : Pd) (u : Value), pdB C.K n d u = true → ∃ v, RelV v u ∧ ∀ w, RP C w d v) : ∀ {xs : List Pd} {us : List Value}, xs.length = us.length → ((xs.zip us).all fun q => pdB C.K n q.1 q.2) = true →
    ∃ vs, Vals vs us ∧ ∀ w, RPs C w xs vs
  | [], [], _, _ => ⟨[], .nil, fun w => rps_nil⟩
  | [], _ :: _, h, _ => by cases h
  | _ :: _, [], h, _ => by cases h
  | x :: xs, u :: us, h, c => by
    obtain ⟨c1, c2⟩ := ba (show (pdB C.K n x u && ((xs.zip us).all fun q => pdB C.K n q.1 q.2)) = true from c)
    obtain ⟨v, r, p⟩ := ih x u c1
    obtain ⟨vs, rs, ps⟩ := pdB_all ih (Nat.succ.inj h) c2
    exact ⟨v :: vs, .cons r rs, fun w => rps_cons (p w) (ps w)⟩
theorem pdB_ok {C : Ct} : ∀ (n : Nat) (d : Pd) (u : Value), pdB C.K n d u = true → ∃ v, RelV v u ∧ ∀ w, RP C w d v
  | 0, _, _, h => by cases h
  | n + 1, d, u, h => by
    cases d with
    | non => cases u with
      | none => exact ⟨.non, rfl, fun w => rp_non⟩
      | _ => cases h
    | bl b => cases u with
      | bool c =>
        have e : b = c := eq_of_beq (show (b == c) = true from h)
        subst e
        exact ⟨.bl b, rfl, fun w => rp_bl⟩
      | _ => cases h
    | int i => cases u with
      | int j t =>
        have e : i = j := of_decide_eq_true h
        subst e
        exact ⟨.int i, ⟨t, rfl⟩, fun w => rp_int⟩
      | _ => cases h
    | str x => cases u with
      | str y t =>
        obtain ⟨h1, h2⟩ := ba (show (decide (x = y) && (PyData.strOk x && decide (x.length ≤ sizeLine))) = true from h)
        obtain ⟨h2, h3⟩ := ba h2
        have e : x = y := of_decide_eq_true h1
        subst e
        exact ⟨.str x, ⟨t, rfl⟩, fun w => by
          show RPg C _ _ _
          unfold RPg
          exact ⟨rfl, h2, of_decide_eq_true h3⟩⟩
      | _ => cases h
    | tup xs => cases u with
      | ref a =>
        have h : (match C.K.lookup a with
          | some ⟨.type c, _, .seq its _, _⟩ => decide (c = "tuple") && (decide (its.size ≤ sizeLine) && (decide (xs.length = its.toList.length) && (xs.zip its.toList).all fun q => pdB C.K n q.1 q.2))
          | _ => false) = true := h
        split at h
        · rename_i c od its m osl q
          obtain ⟨h1, h2⟩ := ba h
          obtain ⟨h2, h3⟩ := ba h2
          obtain ⟨h3, h4⟩ := ba h3
          obtain ⟨vs, rs, ps⟩ := pdB_all (pdB_ok n) (of_decide_eq_true h3) h4
          refine ⟨.ref a, rfl, fun w => ?_⟩
          show RPg C _ _ _
          unfold RPg
          exact ⟨a, vs, rfl, .inr ⟨_, its, m, q, congrArg Value.type (of_decide_eq_true h1), rfl, of_decide_eq_true h2, rs⟩, ps w⟩
        · cases h
      | _ => cases h
    | lst xs => cases u with
      | ref a =>
        have h : (match C.K.lookup a with
          | some ⟨.type c, none, .seq its _, _⟩ => decide (c = "list") && (decide (its.size ≤ sizeLine) && (decide (xs.length = its.toList.length) && (xs.zip its.toList).all fun q => pdB C.K n q.1 q.2))
          | _ => false) = true := h
        split at h
        · rename_i c its m osl q
          obtain ⟨h1, h2⟩ := ba h
          obtain ⟨h2, h3⟩ := ba h2
          obtain ⟨h3, h4⟩ := ba h3
          obtain ⟨vs, rs, ps⟩ := pdB_all (pdB_ok n) (of_decide_eq_true h3) h4
          refine ⟨.ref a, rfl, fun w => ?_⟩
          show RPg C _ _ _
          unfold RPg
          exact ⟨a, vs, rfl, .inr ⟨_, its, m, q, congrArg Value.type (of_decide_eq_true h1), rfl, rfl, of_decide_eq_true h2, rs⟩, ps w⟩
        · cases h
      | _ => cases h
    | dct ks vs => cases u <;> cases h
    | ty m => cases u <;> cases h
    | cls x => cases u <;> cases h
def varB (K : PySem.W.Frag) (x : Str) (d : Pd) : Bool := match PySem.W.nsIn K mainGlobals x with
  | some (some u) => pdB K 20 d u
  | _ => false
def freeB (K : PySem.W.Frag) (x : Str) : Bool := He.eqO (PySem.W.nsIn K mainGlobals x) (some none)
/-- the class of a name -/
def clsV (K : PySem.W.Frag) (D : Str) : Option Value := match PySem.W.nsIn K mainGlobals D with
  | some (some (.ref a)) => some (.ref a)
  | some none => (match bootBuiltins D with
    | some (.type n) => some (.type n)
    | _ => none)
  | _ => none
def excB (K : PySem.W.Frag) (D : Addr) : Bool :=
  He.eqO (PySem.W.findIn K (.ref D) "__getattribute__") (some (some (.builtin "BaseException.__getattribute__"))) &&
  (He.eqO (PySem.W.findIn K (.ref D) "__getattr__") (some none) &&
  (decide (PySem.W.subIn K (.ref D) (.type "BaseException") = some true) &&
  (PySem.W.hasDictIn K D &&
  (He.eqO (PySem.W.findIn K (.ref D) "__class__") (some (some (.builtin "object.__class__"))) &&
  (He.eqO (PySem.W.specialIn K (.builtin "object.__class__") "__get__") (some (some (.builtin "getset_descriptor.__get__"))) &&
  (decide (PySem.W.takesIn K (.builtin "object.__class__") = some true) &&
  decide (PySem.W.mroIn K D (.type "object") = some true)))))))
theorem excB_ok {K : PySem.W.Frag} {D : Addr} (h : excB K D = true) : ExcC K D := by
  obtain ⟨h1, h⟩ := ba h
  obtain ⟨h2, h⟩ := ba h
  obtain ⟨h3, h⟩ := ba h
  obtain ⟨h4, h⟩ := ba h
  obtain ⟨h5, h⟩ := ba h
  obtain ⟨h6, h⟩ := ba h
  obtain ⟨h7, h8⟩ := ba h
  exact ⟨He.eqO_ok h1, He.eqO_ok h2, of_decide_eq_true h3, h4, He.eqO_ok h5, He.eqO_ok h6, of_decide_eq_true h7, of_decide_eq_true h8⟩
def subB (K : PySem.W.Frag) (q : (Str × Str) × Bool) : Bool := match clsV K q.1.1, clsV K q.1.2 with
  | some (.ref ac), some cv => decide (PySem.W.kitOne K (.ref ac) cv = some q.2) && (decide (PySem.W.exmOne K (.ref ac) cv = some q.2) && excB K ac)
  | _, _ => false
def clB (K : PySem.W.Frag) (x : Str) : Bool := (clsV K x).isSome && ((Ty.of x).isNone || freeB K x)
def rzB (K : PySem.W.Frag) (x : Str) : Bool := (He.Fa.glo x).ok K && (He.Fa.exc x).ok K

/-- a row's table -/
structure Mt where
  fn : List He.DefD
  vars : List (Str × Pd) := []
  frees : List Str := []
  subs : List ((Str × Str) × Bool) := []
  clss : List Str := []
  rzs : List Str := []
def Mt.chk (T : Mt) (K : PySem.W.Frag) : Bool :=
  (T.vars.all fun q => varB K q.1 q.2) && ((T.frees.all fun x => freeB K x) && ((T.subs.all fun q => subB K q) && ((T.clss.all fun x => clB K x) && ((T.rzs.all fun x => rzB K x) && (T.fn.all fun d => (He.Fa.glo d.at_.1).ok K && d.ok K)))))
def Mt.obs (T : Mt) (K : PySem.W.Frag) : He.AlD := (T.chk K, T.fn.map fun d => He.fnW K d.at_)
def Mt.val (T : Mt) : He.AlD := (true, T.fn.map He.DefD.val)
def Mt.Says (T : Mt) (K : PySem.W.Frag) : Prop := T.obs K = T.val
def Mt.obsG (T : Mt) (n : Nat) (g : Addr → Option Obj) : He.AlD := T.obs (He.frG g (He.asD g n))
def Mt.hook (T : Mt) (n : Nat) : PySem.W.Hook where
  α := He.AlD
  obs := fun s => T.obsG n s.heap.get?
  val := fun _ => T.val
  says := fun _ h => ∃ K : PySem.W.Frag, K.In h ∧ T.Says K
  of := fun _ _ e => ⟨_, He.frG_in, e⟩
  keeps := fun _ _ _ ⟨K, hK, c⟩ k => ⟨K, PySem.W.Frag.In.keeps hK k, c⟩
theorem Mt.obsG_eq {T : Mt} {n : Nat} {g : Addr → Option Obj} {s : Shared} (h : ∀ a, g a = s.heap.get? a) : T.obsG n g = (T.hook n).obs s := by
  have e : g = s.heap.get? := funext h
  rw [e] <;> rfl

/-! ### what the checks tell -/
section
variable {T : Mt} {C : Ct} {h : Heap}
theorem clsV_ok (X : C.K.In h) (G : h.Ns mainGlobals C.mg) {D : Str} {cv : Value} (e : clsV C.K D = some cv) : ClsAt C D cv ∧ ((∃ n, cv = .type n) ∨ ∃ a, cv = .ref a) := by
  unfold clsV at e
  split at e
  · rename_i a q
    cases e
    exact ⟨.inl (PySem.W.mg_of X G q), .inr ⟨a, rfl⟩⟩
  · rename_i q
    split at e
    · rename_i n z
      cases e
      exact ⟨.inr ⟨PySem.W.mg_none_of X G q, z⟩, .inl ⟨n, rfl⟩⟩
    · cases e
  · cases e
theorem freeB_ok (X : C.K.In h) (G : h.Ns mainGlobals C.mg) {x : Str} (e : freeB C.K x = true) : C.mg x = none := PySem.W.mg_none_of X G (He.eqO_ok e)
theorem clB_ok (X : C.K.In h) (G : h.Ns mainGlobals C.mg) {x : Str} (e : clB C.K x = true) : ClOk C x := by
  obtain ⟨e1, e2⟩ := ba e
  obtain ⟨cv, e3⟩ := Option.isSome_iff_exists.mp e1
  obtain ⟨k1, k2⟩ := clsV_ok X G e3
  refine ⟨?_, fun t et => ?_⟩
  · rcases k2 with ⟨n, rfl⟩ | ⟨a, rfl⟩
    · exact ⟨.ty n, .type n, .ty n, rfl, k1⟩
    · exact ⟨.ref a, .ref a, .own a, rfl, k1⟩
  · rw [et] at e2
    exact freeB_ok X G (by simpa using e2)
theorem varB_ok (X : C.K.In h) (G : h.Ns mainGlobals C.mg) {x : Str} {d : Pd} (e : varB C.K x d = true) : VarOk C x d := by
  unfold varB at e
  split at e
  · rename_i u q
    obtain ⟨v, r, p⟩ := pdB_ok 20 d u e
    exact ⟨u, v, PySem.W.mg_of X G q, r, p⟩
  · cases e
theorem subB_ok (X : C.K.In h) (G : h.Ns mainGlobals C.mg) {c D : Str} {b : Bool} (e : subB C.K ((c, D), b) = true) : ∃ ac cv, C.mg c = some (.ref ac) ∧ ClsAt C D cv ∧ ((∃ n, cv = .type n) ∨ ∃ a, cv = .ref a) ∧ PySem.W.kitOne C.K (.ref ac) cv = some b ∧ PySem.W.exmOne C.K (.ref ac) cv = some b ∧ ExcC C.K ac := by
  unfold subB at e
  split at e
  · rename_i ac cv e1 e2
    obtain ⟨k1, k2⟩ := ba e
    obtain ⟨k2, k3⟩ := ba k2
    obtain ⟨d1, d2⟩ := clsV_ok X G e2
    refine ⟨ac, cv, ?_, d1, d2, of_decide_eq_true k1, of_decide_eq_true k2, excB_ok k3⟩
    unfold clsV at e1
    split at e1
    · rename_i a q
      cases e1
      exact PySem.W.mg_of X G q
    · split at e1 <;> cases e1
    · cases e1
  · cases e
theorem rzB_ok (X : C.K.In h) (G : h.Ns mainGlobals C.mg) {x : Str} (e : rzB C.K x = true) (F : ExcBaseFacts "ValueError" "ValueError.__new__" "ValueError.__init__" He.veBase) : RaiseOk C x := by
  obtain ⟨e1, e2⟩ := ba e
  obtain ⟨a, b, c, d⟩ := He.exc_ok e2
  exact ⟨_, _, _, _, _, He.glo_ok X G e1, F, a, b, c, d⟩
/-- a way to call by which each parameter is written -/
theorem pat_all {x qual : Str} {params : Arguments} {body : List Stmt} {scope : Scope} {kws : List (Str × V)} {f : Addr} {fd : FuncData} {ps : List Str} {p : Pat} (F : FunD C.K x qual params body scope [] kws f fd) (hd : p.ds = []) (hl : p.src.length = ps.length)
    (e : ∀ (kV doc pm : Value) (an : Option Addr) (cdv ct : Value) (us ws : List Value), us.length = p.np → ws.length = p.ks.length → bindArgs (PySem.W.fnOf x qual params body scope .none kV doc pm an cdv ct) ⟨us, p.ks.zip ws⟩ = pure (ps.zip (pick .none p.src us ws []))) : PatOk C fd ps p := by
  obtain ⟨oc, od, dV, kV, doc, pm, an, cdv, ct, osl, rfl, lk, hcd, hD, hK⟩ := F.ex
  rcases hD with ⟨_, rfl⟩ | ⟨z, _⟩
  · exact ⟨⟨[], [], .nil, fun w => by rw [hd]; exact rps_nil, fun s us ws _ l1 l2 => .of_eq (e kV doc pm an cdv ct us ws l1 l2)⟩, hl⟩
  · exact absurd rfl z
/-- a way to call by which keyword-only parameters lack -/
theorem pat_kwd {x qual : Str} {params : Arguments} {body : List Stmt} {scope : Scope} {kws : List (Str × V)} {f : Addr} {fd : FuncData} {ps : List Str} {p : Pat} (ms : List (Str × V)) (F : FunD C.K x qual params body scope [] kws f fd) (hd : ∀ w, RPs C w p.ds (ms.map (·.2))) (hl : p.src.length = ps.length)
    (hk : kws ≠ []) (hms : ∀ q ∈ ms, q ∈ kws)
    (e : ∀ (D : Addr) (doc pm : Value) (an : Option Addr) (cdv ct : Value) (us ws mv : List Value), us.length = p.np → ws.length = p.ks.length → mv.length = ms.length → KwChain D ((ms.map (·.1)).zip mv) (bindArgs (PySem.W.fnOf x qual params body scope .none (.ref D) doc pm an cdv ct) ⟨us, p.ks.zip ws⟩) (ps.zip (pick .none p.src us ws mv))) : PatOk C fd ps p := by
  obtain ⟨oc, od, dV, kV, doc, pm, an, cdv, ct, osl, rfl, lk, hcd, hD, hK⟩ := F.ex
  rcases hD with ⟨_, rfl⟩ | ⟨z, _⟩
  · rcases hK with z | ⟨D, rfl, hq⟩
    · exact absurd z hk
    · obtain ⟨mv, l3, rk, hks⟩ := kwd_vals (ms := ms) fun q hm => hq q (hms q hm)
      exact ⟨⟨mv, _, rk, hd, fun s us ws X l1 l2 => BindsTo.of_looks fun M => KwChain.looks X hks (e D doc pm an cdv ct us ws mv l1 l2 l3)⟩, hl⟩
  · exact absurd rfl z
theorem Mt.Says.chk (c : T.Says C.K) : T.chk C.K = true := congrArg (fun z : He.AlD => z.1) c
theorem Mt.Says.def_ (c : T.Says C.K) (X : C.K.In h) (G : h.Ns mainGlobals C.mg) (i : Nat) {d : He.DefD} {x : Str} (e : T.fn[i]? = some d) (ex : d.at_ = (x, none)) : C.mg x = some (.ref (He.ga C.K x)) ∧ ∃ fd, FunD C.K d.name d.qual d.params d.body d.scope (d.dvs C.K) (d.kws C.K) (He.ga C.K x) fd := by
  obtain ⟨_, c1⟩ := ba c.chk
  obtain ⟨_, c1⟩ := ba c1
  obtain ⟨_, c1⟩ := ba c1
  obtain ⟨_, c1⟩ := ba c1
  obtain ⟨_, c1⟩ := ba c1
  obtain ⟨k1, k2⟩ := ba (List.all_eq_true.mp c1 d (List.mem_of_getElem? e))
  rw [ex] at k1
  have e1 : T.fn.map (fun d => He.fnW C.K d.at_) = T.fn.map He.DefD.val := congrArg (fun z : He.AlD => z.2) c
  have e2 : (T.fn.map fun d => He.fnW C.K d.at_)[i]? = (T.fn.map He.DefD.val)[i]? := by rw [e1]
  rw [List.getElem?_map, List.getElem?_map, e] at e2
  have fD := He.DefD.funD (Option.some.inj e2) k2
  have ea : He.fAd C.K d.at_ = He.ga C.K x := by rw [ex]; rfl
  rw [ea] at fD
  exact ⟨He.glo_ok X G k1, fD⟩
/-- the module's table of a row's -/
def Mt.md (T : Mt) (defs : List Df) : Md where
  defs := defs
  var := fun x => T.vars.lookup x
  blt := fun x => T.frees.contains x
  sub := fun c D => T.subs.lookup (c, D)
  cl := fun x => T.clss.contains x
  rz := fun x => T.rzs.contains x
theorem lookup_mem {α β : Type} [BEq α] [LawfulBEq α] {x : α} {y : β} : ∀ {l : List (α × β)}, l.lookup x = some y → (x, y) ∈ l
  | [], h => by cases h
  | (a, b) :: r, h => by
    by_cases e : (x == a) = true
    · have z : ((a, b) :: r).lookup x = some b := by rw [List.lookup_cons, e]
      rw [z] at h
      cases h
      rw [beq_iff_eq.mp e]
      exact .head _
    · have z : ((a, b) :: r).lookup x = r.lookup x := by
        rw [List.lookup_cons]
        simp only [Bool.not_eq_true] at e
        rw [e]
      rw [z] at h
      exact .tail _ (lookup_mem h)
/-- THE TABLE holds -/
theorem Mt.md_ok {defs : List Df} (c : T.Says C.K) (X : C.K.In h) (G : h.Ns mainGlobals C.mg) (F : T.rzs = [] ∨ ExcBaseFacts "ValueError" "ValueError.__new__" "ValueError.__init__" He.veBase) (D : ∀ d ∈ defs, DfOk C d) : MdOk (T.md defs) C := by
  obtain ⟨c1, c2⟩ := ba c.chk
  obtain ⟨c2, c3⟩ := ba c2
  obtain ⟨c3, c4⟩ := ba c3
  obtain ⟨c4, c5⟩ := ba c4
  obtain ⟨c5, _⟩ := ba c5
  exact {
    defs := D
    var := fun x d e => varB_ok X G (List.all_eq_true.mp c1 _ (lookup_mem e))
    blt := fun x e => freeB_ok X G (List.all_eq_true.mp c2 _ (List.mem_of_elem_eq_true e))
    sub := ⟨fun c D b e => subB_ok X G (List.all_eq_true.mp c3 _ (lookup_mem e))⟩
    cl := fun x e => clB_ok X G (List.all_eq_true.mp c4 _ (List.mem_of_elem_eq_true e))
    rz := fun x e => by
      rcases F with z | F
      · have e : T.rzs.contains x = true := e
        rw [z] at e
        cases e
      · exact rzB_ok X G (List.all_eq_true.mp c5 _ (List.mem_of_elem_eq_true e)) F }
end
end Pv

/-! ## text Pvp -/
set_option Elab.async false
set_option linter.all false
set_option maxRecDepth 100000
set_option autoImplicit false
/-! Pvp: what the readings compute, step by step. -/
namespace Pv
open PySem PySem.Spec PyProof.Rows L2
section
variable {a b c : SE} {t u : SB} {f g : SS} {δ : En} {h : Hs} {x y z : Pd} {d : Th} {i j l : Nat} {run : SF} {p : Pat} {A B : SA}
/-- a found value, or nothing -/
def got {α : Type} (o : Option α) (h : Hs) : Rs α := match o with
  | some r => .ok r h
  | none => .bad
@[simp] theorem got_some {α : Type} {r : α} : got (some r) h = .ok r h := rfl
@[simp] theorem got_none {α : Type} : got (none : Option α) h = .bad := rfl
@[simp] theorem view_p : view (.p x) h = some x := rfl
@[simp] theorem view_tmp : view (.tmp x) h = some x := rfl
@[simp] theorem plain_p : plain (.p x) h = some (x, h) := rfl
@[simp] theorem plain_tmp : plain (.tmp x) h = some (x, h) := rfl
@[simp] theorem sC_ev : sC x δ h = .ok (.p x) h := rfl
@[simp] theorem sVar_0 {e : Option Th} {δ : En} : sVar 0 (some d :: δ) h = .ok d h := rfl
@[simp] theorem sVar_s {e : Option Th} {δ : En} : sVar (i + 1) (e :: δ) h = sVar i δ h := by
  show (match (e :: δ)[i + 1]? with | some (some d) => Rs.ok d h | _ => .bad) = (match δ[i]? with | some (some d) => Rs.ok d h | _ => .bad)
  rw [List.getElem?_cons_succ]
theorem sVar_get (e : δ[i]? = some (some d)) : sVar i δ h = .ok d h := by
  show (match δ[i]? with | some (some d) => Rs.ok d h | _ => .bad) = _
  rw [e]
@[simp] theorem s1_ev {f : Pd → Option Th} : s1 f a δ h = (a δ h).bind fun d h => lift1 f d h := rfl
@[simp] theorem s2_ev {f : Pd → Pd → Option Th} : s2 f a b δ h = (a δ h).bind fun d h => (b δ h).bind fun e h => lift2 f d e h := rfl
theorem lift1_got {f : Pd → Option Th} (e : view d h = some x) : lift1 f d h = got (f x) h := by
  unfold lift1
  rw [e]
  dsimp only
  cases f x <;> rfl
theorem lift2_got {f : Pd → Pd → Option Th} {d2 : Th} (e : view d h = some x) (e2 : view d2 h = some y) : lift2 f d d2 h = got (f x y) h := by
  unfold lift2
  rw [e, e2]
  dsimp only
  cases f x y <;> rfl
@[simp] theorem lift1_p {f : Pd → Option Th} : lift1 f (.p x) h = got (f x) h := lift1_got rfl
@[simp] theorem lift1_t {f : Pd → Option Th} : lift1 f (.tmp x) h = got (f x) h := lift1_got rfl
@[simp] theorem lift2_pp {f : Pd → Pd → Option Th} : lift2 f (.p x) (.p y) h = got (f x y) h := lift2_got rfl rfl
@[simp] theorem lift2_pt {f : Pd → Pd → Option Th} : lift2 f (.p x) (.tmp y) h = got (f x y) h := lift2_got rfl rfl
@[simp] theorem lift2_tp {f : Pd → Pd → Option Th} : lift2 f (.tmp x) (.p y) h = got (f x y) h := lift2_got rfl rfl
@[simp] theorem lift2_tt {f : Pd → Pd → Option Th} : lift2 f (.tmp x) (.tmp y) h = got (f x y) h := lift2_got rfl rfl
theorem tru_got (e : view d h = some x) : tru d h = truP x := by
  unfold tru
  rw [e]
@[simp] theorem tru_p : tru (.p x) h = truP x := rfl
@[simp] theorem tru_t : tru (.tmp x) h = truP x := rfl
@[simp] theorem truP_bl {b : Bool} : truP (.bl b) = some b := rfl
@[simp] theorem truP_int {i : Int} : truP (.int i) = some (i != 0) := rfl
@[simp] theorem truP_non : truP .non = some false := rfl
@[simp] theorem sNot_ev : sNot a δ h = (a δ h).bind fun d h => match tru d h with
  | some b => .ok (.p (.bl (!b))) h
  | none => .bad := rfl
@[simp] theorem sAnd_ev : sAnd a b δ h = (a δ h).bind fun d h => match tru d h with
  | some true => b δ h
  | some false => .ok d h
  | none => .bad := rfl
@[simp] theorem sOr_ev : sOr a b δ h = (a δ h).bind fun d h => match tru d h with
  | some true => .ok d h
  | some false => b δ h
  | none => .bad := rfl
@[simp] theorem sIf_ev : sIf t a b δ h = (t δ h).bind fun c h => match c with
  | true => a δ h
  | false => b δ h := rfl
@[simp] theorem bTru_ev : bTru a δ h = (a δ h).bind fun d h => match tru d h with
  | some b => .ok b h
  | none => .bad := rfl
@[simp] theorem bNot_ev : bNot t δ h = (t δ h).bind fun c h => .ok (!c) h := rfl
@[simp] theorem bAnd_ev : bAnd t u δ h = (t δ h).bind fun c h => match c with
  | true => u δ h
  | false => .ok false h := rfl
@[simp] theorem bOr_ev : bOr t u δ h = (t δ h).bind fun c h => match c with
  | true => .ok true h
  | false => u δ h := rfl
@[simp] theorem bYes_ev : bYes δ h = .ok true h := rfl
@[simp] theorem sChain_ev {f g : Pd → Pd → Option Bool} : sChain f g a b c δ h = (a δ h).bind fun d h => (b δ h).bind fun e h => match view d h, view e h with
  | some x, some y => match f x y with
    | some true => (c δ h).bind fun k h => lift2 (fun x y => (g x y).map fun b => .p (.bl b)) e k h
    | some false => .ok (.p (.bl false)) h
    | none => .bad
  | _, _ => .bad := rfl
@[simp] theorem sArgs_nil : sArgs [] δ h = .ok [] h := rfl
@[simp] theorem sArgs_cons {r : List SE} : sArgs (a :: r) δ h = (a δ h).bind fun d h => (sArgs r δ h).bind fun ds h => .ok (stow d :: ds) h := rfl
@[simp] theorem sPl_nil : sPl [] δ h = .ok [] h := rfl
@[simp] theorem sPl_cons {r : List SE} : sPl (a :: r) δ h = (a δ h).bind fun d h => match plain d h with
    | some (x, h) => (sPl r δ h).bind fun xs h => .ok (x :: xs) h
    | none => .bad := rfl
@[simp] theorem stow_p : stow (.p x) = .p x := rfl
@[simp] theorem stow_t : stow (.tmp x) = .p x := rfl
@[simp] theorem stow_r : stow (.ref l) = .ref l := rfl
@[simp] theorem sTup_ev {r : En → Hs → Rs (List Pd)} : sTup r δ h = (r δ h).bind fun xs h => if xs.length ≤ 16777216 then .ok (.p (.tup xs)) h else .bad := rfl
@[simp] theorem sLst_ev {r : En → Hs → Rs (List Pd)} : sLst r δ h = (r δ h).bind fun xs h => if xs.length ≤ 16777216 then .ok (.tmp (.lst xs)) h else .bad := rfl
@[simp] theorem sDic_ev : sDic δ h = .ok (.tmp (.dct [] [])) h := rfl
@[simp] theorem sIsi_ev {sub : Str → Str → Option Bool} {ns : List Str} : sIsi sub ns a δ h = (a δ h).bind fun d h => got ((isiT sub ns d h).map fun b => .p (.bl b)) h := by
  show ((a δ h).bind fun d h => match isiT sub ns d h with | some b => Rs.ok (Th.p (.bl b)) h | none => Rs.bad) = _
  congr 1
  funext d h
  cases isiT sub ns d h <;> rfl
@[simp] theorem iVal_ev : iVal a δ h = (a δ h).bind fun d h => match plain d h with
  | some (x, h) => got (itemsP x) h
  | none => .bad := by
  show ((a δ h).bind fun d h => match plain d h with
  | some (x, h) => match itemsP x with
    | some xs => Rs.ok xs h
    | none => .bad
  | none => .bad) = _
  congr 1
  funext d h
  cases plain d h with
  | none => rfl
  | some q =>
    obtain ⟨x, h⟩ := q
    dsimp only
    cases itemsP x <;> rfl
@[simp] theorem items_lst {xs : List Pd} : itemsP (.lst xs) = some xs := rfl
@[simp] theorem items_tup {xs : List Pd} : itemsP (.tup xs) = some xs := rfl
@[simp] theorem items_str {x : Str} : itemsP (.str x) = some (x.cps.toList.map fun c => .str ⟨#[c]⟩) := rfl
@[simp] theorem iR1_ev : iR1 A δ h = (A δ h).bind fun ds h => match ds with
  | [.p (.int j)] => if small62 j = true then .ok (rngP 0 j) h else .bad
  | _ => .bad := rfl
@[simp] theorem iR2_ev : iR2 A δ h = (A δ h).bind fun ds h => match ds with
  | [.p (.int i), .p (.int j)] => if (small62 i && small62 j) = true then .ok (rngP i j) h else .bad
  | _ => .bad := rfl
@[simp] theorem sLc_ev {it : SI} {vs : List Nat} {b : TB} {e : SE} : sLc it vs b t e δ h = (it δ h).bind fun xs h => match compGo b t e xs (wipeE δ vs) [] h with
  | .ok acc h => .ok (.tmp (.lst acc)) h
  | _ => .bad := rfl
@[simp] theorem wipe_nil : wipeE δ [] = δ := rfl
@[simp] theorem wipe_cons {vs : List Nat} : wipeE δ (i :: vs) = (wipeE δ vs).set i none := rfl
@[simp] theorem sSl_ev {lo hi : SE} : sSl a lo hi δ h = (a δ h).bind fun d h => (lo δ h).bind fun l h => (hi δ h).bind fun u h => match view d h with
  | some x => match l, u with
    | .p (.int i), .p (.int j) => (match slP x (some i) (some j) with | some r => .ok r h | none => .bad)
    | .p (.int i), .p .non => (match slP x (some i) none with | some r => .ok r h | none => .bad)
    | .p .non, .p (.int j) => (match slP x none (some j) with | some r => .ok r h | none => .bad)
    | .p .non, .p .non => (match slP x none none with | some r => .ok r h | none => .bad)
    | _, _ => .bad
  | none => .bad := rfl
@[simp] theorem sPart_ev : sPart a δ h = (a δ h).bind fun d h => match d with
  | .p (.int i) => .ok (.p (.int i)) h
  | _ => .bad := rfl
@[simp] theorem sJoin_ev : sJoin a b δ h = (a δ h).bind fun d h => match d with
  | .p (.str z) => (b δ h).bind fun e h => lift1 (joinP z) e h
  | _ => .bad := rfl
@[simp] theorem sCall_ev : sCall run p A B δ h = (A δ h).bind fun us h => (B δ h).bind fun ws h =>
  if us.length = p.np ∧ ws.length = p.ks.length then callF run (pick (.p .non) p.src us ws (p.ds.map .p)) h else .bad := rfl
@[simp] theorem pick_nil {α : Type} {z : α} {us ws ds : List α} : pick z [] us ws ds = [] := rfl
@[simp] theorem pick_pos {α : Type} {z : α} {us ws ds : List α} {r : List Src} : pick z (.pos i :: r) us ws ds = us.getD i z :: pick z r us ws ds := rfl
@[simp] theorem pick_kw {α : Type} {z : α} {us ws ds : List α} {r : List Src} : pick z (.kw i :: r) us ws ds = ws.getD i z :: pick z r us ws ds := rfl
@[simp] theorem pick_df {α : Type} {z : α} {us ws ds : List α} {r : List Src} : pick z (.df i :: r) us ws ds = ds.getD i z :: pick z r us ws ds := rfl
/-! ### calls -/
@[simp] theorem refs_nil : refsOf [] = [] := rfl
@[simp] theorem refs_p {r : List Th} : refsOf (.p x :: r) = refsOf r := rfl
@[simp] theorem refs_ref {r : List Th} : refsOf (.ref l :: r) = if l ∈ refsOf r then refsOf r else l :: refsOf r := rfl
@[simp] theorem argOk_p : argOk (.p x) = true := rfl
@[simp] theorem argOk_r : argOk (.ref l) = true := rfl
@[simp] theorem argOf_p {rs : List Nat} : argOf rs (.p x) = .p x := rfl
@[simp] theorem argOf_r {rs : List Nat} : argOf rs (.ref l) = .ref (posN l rs) := rfl
@[simp] theorem posN_cons {rs : List Nat} {k : Nat} : posN l (k :: rs) = if k = l then 0 else posN l rs + 1 := rfl
@[simp] theorem resOf_p {rs : List Nat} : resOf rs (.p x) = .p x := rfl
@[simp] theorem resOf_t {rs : List Nat} : resOf rs (.tmp x) = .tmp x := rfl
@[simp] theorem resOf_r {rs : List Nat} : resOf rs (.ref l) = .ref (rs.getD l 0) := rfl
@[simp] theorem subH_nil : subH h [] = some [] := rfl
@[simp] theorem subH_cons {r : List Nat} : subH h (l :: r) = match h[l]?, subH h r with
    | some o, some t => some (o :: t)
    | _, _ => none := rfl
@[simp] theorem putH_nil {hs : Hs} : putH h [] hs = h := by cases hs <;> rfl
@[simp] theorem putH_cons {r : List Nat} {o : Ob} {hs : Hs} : putH h (l :: r) (o :: hs) = (putH h r hs).set l o := rfl
/-- what a call gives back -/
def backC (rs : List Nat) (h : Hs) : Rs Th → Rs Th
  | .ok d hs' => .ok (resOf rs d) (putH h rs hs')
  | .exc c fs hs' => .exc c fs (putH h rs hs')
  | .bad => .bad
@[simp] theorem backC_ok {rs : List Nat} {hs : Hs} : backC rs h (.ok d hs) = .ok (resOf rs d) (putH h rs hs) := rfl
@[simp] theorem backC_exc {rs : List Nat} {hs : Hs} {e : Str} {fs : Fs} : backC rs h (.exc e fs hs) = .exc e fs (putH h rs hs) := rfl
@[simp] theorem callF_ev {ds : List Th} : callF run ds h = if ds.all argOk = true then match subH h (refsOf ds) with
    | some hs => backC (refsOf ds) h (run (ds.map (argOf (refsOf ds))) hs)
    | none => .bad
  else .bad := by
  unfold callF
  split
  · cases subH h (refsOf ds) with
    | none => rfl
    | some hs =>
      dsimp only
      cases run (ds.map (argOf (refsOf ds))) hs <;> rfl
  · rfl
/-! ### bodies, statements -/
def endF (n : Nat) : Rf → Rs Th
  | .nx _ h => .ok (.p .non) (h.drop n)
  | .rt d h => match outT n d h with
    | some d' => .ok d' (h.drop n)
    | none => .bad
  | .exc c fs _ h => .exc c fs (h.drop n)
  | _ => .bad
theorem runF_ev {n : Nat} {ds : List Th} : runF n f ds h = endF n (f (entry n ds) (List.replicate n .dead ++ h)) := by
  unfold runF endF
  cases f (entry n ds) (List.replicate n .dead ++ h) <;> rfl
@[simp] theorem endF_nx {n : Nat} : endF n (.nx δ h) = .ok (.p .non) (h.drop n) := rfl
@[simp] theorem endF_exc {n : Nat} {e : Str} {fs : Fs} : endF n (.exc e fs δ h) = .exc e fs (h.drop n) := rfl
@[simp] theorem endF_p {n : Nat} : endF n (.rt (.p x) h) = .ok (.p x) (h.drop n) := rfl
@[simp] theorem endF_t {n : Nat} : endF n (.rt (.tmp x) h) = .ok (.tmp x) (h.drop n) := rfl
@[simp] theorem endF_r {n : Nat} : endF n (.rt (.ref l) h) = match outT n (.ref l) h with
    | some d' => .ok d' (h.drop n)
    | none => .bad := rfl
@[simp] theorem inT_p {n : Nat} : inT n (.p x) = .p x := rfl
@[simp] theorem inT_r {n : Nat} : inT n (.ref l) = .ref (n + l) := rfl
@[simp] theorem xSeqs_nil : xSeqs [] = xNext := rfl
@[simp] theorem xSeqs_one : xSeqs [f] = f := rfl
@[simp] theorem xSeqs_cons {r : List SS} : xSeqs (f :: g :: r) = xSeq f (xSeqs (g :: r)) := rfl
@[simp] theorem xSeq_ev : xSeq f g δ h = (f δ h).then g := rfl
@[simp] theorem then_nxt : (Rf.nx δ h).then g = g δ h := rfl
@[simp] theorem then_rtt : (Rf.rt d h).then g = .rt d h := rfl
@[simp] theorem then_bkk : (Rf.bk δ h).then g = .bk δ h := rfl
@[simp] theorem then_ctt : (Rf.ct δ h).then g = .ct δ h := rfl
@[simp] theorem then_exx {e : Str} {fs : Fs} : (Rf.exc e fs δ h).then g = .exc e fs δ h := rfl
@[simp] theorem xNext_ev : xNext δ h = .nx δ h := rfl
@[simp] theorem xBrk_ev : xBrk δ h = .bk δ h := rfl
@[simp] theorem xCnt_ev : xCnt δ h = .ct δ h := rfl
@[simp] theorem xDrop_ev : xDrop a δ h = (a δ h).to δ fun _ h => .nx δ h := rfl
@[simp] theorem xRet_ev : xRet a δ h = (a δ h).to δ fun d h => .rt d h := rfl
@[simp] theorem xRetN_ev : xRetN δ h = .rt (.p .non) h := rfl
@[simp] theorem xIf_ev : xIf t f g δ h = (t δ h).to δ fun b h => match b with
  | true => f δ h
  | false => g δ h := rfl
@[simp] theorem xAsg_ev : xAsg i a δ h = (a δ h).to δ fun d h => asgT i d δ h := rfl
@[simp] theorem asgT_p : asgT i (.p x) δ h = if i < δ.length then .nx (δ.set i (some (.p x))) h else .bad := rfl
@[simp] theorem asgT_t : asgT i (.tmp x) δ h = if i < δ.length then .nx (δ.set i (some (.ref i))) (h.set i (.own x)) else .bad := rfl
@[simp] theorem to_exx {α : Type} {e : Str} {fs : Fs} {k : α → Hs → Rf} : (Rs.exc e fs h : Rs α).to δ k = .exc e fs δ h := rfl
@[simp] theorem xRaise_ev {e : Str} {fs : Fs} : xRaise e fs δ h = .exc e fs δ h := rfl
@[simp] theorem xFor_ev {it : SI} {b : TB} : xFor it b f δ h = (it δ h).to δ fun xs h => forGo b f xs δ h := rfl
@[simp] theorem bName_ev : bName i x δ = if i < δ.length then some (δ.set i (some (.p x))) else none := rfl
end
@[simp] theorem compGo_nil {b : TB} {t : SB} {e : SE} {δ : En} {acc : List Pd} {h : Hs} : compGo b t e [] δ acc h = .ok acc h := rfl
@[simp] theorem compGo_cons {b : TB} {t : SB} {e : SE} {x : Pd} {r : List Pd} {δ : En} {acc : List Pd} {h : Hs} : compGo b t e (x :: r) δ acc h = match b x δ with
    | some δ1 => match t δ1 h with
      | .ok true h => match e δ1 h with
        | .ok d h => match plain d h with
          | some (y, h) => if acc.length < 16777216 then compGo b t e r δ (acc ++ [y]) h else .bad
          | none => .bad
        | _ => .bad
      | .ok false h => compGo b t e r δ acc h
      | _ => .bad
    | none => .bad := rfl
@[simp] theorem forGo_nil {b : TB} {body : SS} {δ : En} {h : Hs} : forGo b body [] δ h = .nx δ h := rfl
@[simp] theorem forGo_cons {b : TB} {body : SS} {x : Pd} {r : List Pd} {δ : En} {h : Hs} : forGo b body (x :: r) δ h = match b x δ with
    | some δ1 => match body δ1 h with
      | .nx δ2 h => forGo b body r δ2 h
      | .ct δ2 h => forGo b body r δ2 h
      | .bk δ2 h => .nx δ2 h
      | q => q
    | none => .bad := rfl
@[simp] theorem small62_ev {i : Int} : small62 i = decide (-(4611686018427387904) ≤ i ∧ i < 4611686018427387904) := rfl
theorem mem_rng {n : Nat} {x : Pd} (h : x ∈ rngP 0 n) : ∃ k, k < n ∧ x = .int (k : Int) := by
  unfold rngP at h
  obtain ⟨k, hk, rfl⟩ := List.mem_map.mp h
  rw [List.mem_range] at hk
  exact ⟨k, by simpa using hk, by simp⟩
theorem rng_get {n i : Nat} {x : Pd} (h : (rngP 0 n)[i]? = some x) : i < n ∧ x = .int (i : Int) := by
  unfold rngP at h
  obtain ⟨k, hk, rfl⟩ := List.getElem?_eq_some_iff.mp h
  simp at k ⊢
  exact k
theorem rng_len {n : Nat} : (rngP 0 n).length = n := by
  unfold rngP
  simp
@[simp] theorem xTry_ev {sub : Str → Str → Option Bool} {i : Nat} {cl : Str} {body suite : SS} {δ : En} {h : Hs} : xTry sub i cl body suite δ h = match body δ h with
  | .exc c fs δ1 h1 => match sub c cl with
    | some true => clr i (suite (δ1.set i (some (.exc c fs))) h1)
    | some false => .exc c fs δ1 h1
    | none => .bad
  | r => r := rfl
@[simp] theorem clr_rt {i : Nat} {x : Pd} {h : Hs} : clr i (.rt (.p x) h) = .rt (.p x) h := rfl
@[simp] theorem clr_nx {i : Nat} {δ : En} {h : Hs} : clr i (.nx δ h) = if (δ.set i none).all noExc = true then .nx (δ.set i none) h else .bad := rfl
@[simp] theorem clr_ct {i : Nat} {δ : En} {h : Hs} : clr i (.ct δ h) = if (δ.set i none).all noExc = true then .ct (δ.set i none) h else .bad := rfl
@[simp] theorem noExc_n : noExc none = true := rfl
@[simp] theorem noExc_p {x : Pd} : noExc (some (.p x)) = true := rfl
@[simp] theorem noExc_r {l : Nat} : noExc (some (.ref l)) = true := rfl
@[simp] theorem xSet_ev {f o i : SE} {δ : En} {h : Hs} : xSet f o i δ h = (f δ h).to δ fun d h => match plain d h with
  | some (x, h) => (o δ h).to δ fun r h => (i δ h).to δ fun j h => match r, j with
    | .ref l, .p (.int k) => match h[l]? with
      | some (.own (.lst xs)) => match ixN xs.length k with
        | some m => .nx δ (h.set l (.own (.lst (xs.set m x))))
        | none => .bad
      | _ => .bad
    | _, _ => .bad
  | none => .bad := rfl
theorem lift2_rp_ {f : Pd → Pd → Option Th} {l : Nat} {x y : Pd} {h : Hs} (e : view (.ref l) h = some x) : lift2 f (.ref l) (.p y) h = got (f x y) h := lift2_got e rfl
theorem lift1_r {f : Pd → Option Th} {l : Nat} {x : Pd} {h : Hs} (e : view (.ref l) h = some x) : lift1 f (.ref l) h = got (f x) h := lift1_got e
@[simp] theorem view_r {l : Nat} {h : Hs} : view (.ref l) h = match h[l]? with
  | some (.own x) => some x
  | some (.frz x) => some x
  | _ => none := rfl
@[simp] theorem plain_r {l : Nat} {h : Hs} : plain (.ref l) h = match h[l]? with
  | some (.own x) => some (x, h.set l (.frz x))
  | some (.frz x) => some (x, h)
  | _ => none := rfl
@[simp] theorem lift2_r1 {f : Pd → Pd → Option Th} {l : Nat} {e : Th} {h : Hs} : lift2 f (.ref l) e h = match view (.ref l) h with
  | some x => (match view e h with
    | some y => got (f x y) h
    | none => .bad)
  | none => .bad := by
  unfold lift2
  cases view (.ref l) h with
  | none => rfl
  | some x =>
    cases view e h with
    | none => rfl
    | some y =>
      dsimp only
      cases f x y <;> rfl
@[simp] theorem lift2_r2 {f : Pd → Pd → Option Th} {l : Nat} {e : Th} {h : Hs} : lift2 f e (.ref l) h = match view e h with
  | some x => (match view (.ref l) h with
    | some y => got (f x y) h
    | none => .bad)
  | none => .bad := by
  unfold lift2
  cases view e h with
  | none => rfl
  | some x =>
    cases view (.ref l) h with
    | none => rfl
    | some y =>
      dsimp only
      cases f x y <;> rfl
@[simp] theorem lift1_rr {f : Pd → Option Th} {l : Nat} {h : Hs} : lift1 f (.ref l) h = match view (.ref l) h with
  | some x => got (f x) h
  | none => .bad := by
  unfold lift1
  cases view (.ref l) h with
  | none => rfl
  | some x =>
    dsimp only
    cases f x <;> rfl
@[simp] theorem tru_r {l : Nat} {h : Hs} : tru (.ref l) h = match view (.ref l) h with
  | some x => truP x
  | none => none := rfl
theorem flats_of {n : Nat} : ∀ {xs : List Pd}, (∀ x, x ∈ xs → flat n x = true) → flats n xs = true
  | [], _ => by unfold flats; rfl
  | x :: xs, h => by
    unfold flats
    rw [h x (.head _), flats_of fun y hy => h y (.tail _ hy)]
    rfl
theorem flat_tup {n : Nat} {xs : List Pd} (h : flats n xs = true) : flat (n + 1) (.tup xs) = true := by unfold flat; exact h
theorem flat_lst {n : Nat} {xs : List Pd} (h : flats n xs = true) : flat (n + 1) (.lst xs) = true := by unfold flat; exact h
theorem flats_mem {n : Nat} : ∀ {xs : List Pd} {x : Pd}, flats n xs = true → x ∈ xs → flat n x = true
  | y :: xs, x, h, m => by
    unfold flats at h
    rw [Bool.and_eq_true] at h
    rcases List.mem_cons.mp m with e | m
    · rw [e]; exact h.1
    · exact flats_mem h.2 m
mutual
theorem flat_up {n m : Nat} (l : n ≤ m) : ∀ x : Pd, flat n x = true → flat m x = true
  | .non, _ => by unfold flat; rfl
  | .bl _, _ => by unfold flat; rfl
  | .int _, _ => by unfold flat; rfl
  | .str _, _ => by unfold flat; rfl
  | .tup xs, h => by
    cases n with
    | zero => unfold flat at h; cases h
    | succ n => cases m with
      | zero => omega
      | succ m =>
        unfold flat at h ⊢
        exact flats_up (by omega) xs h
  | .lst xs, h => by
    cases n with
    | zero => unfold flat at h; cases h
    | succ n => cases m with
      | zero => omega
      | succ m =>
        unfold flat at h ⊢
        exact flats_up (by omega) xs h
  | .dct _ _, h => by unfold flat at h; cases h
  | .ty _, h => by unfold flat at h; cases h
  | .cls _, h => by unfold flat at h; cases h
theorem flats_up {n m : Nat} (l : n ≤ m) : ∀ xs : List Pd, flats n xs = true → flats m xs = true
  | [], _ => by unfold flats; rfl
  | x :: xs, h => by
    unfold flats at h ⊢
    rw [Bool.and_eq_true] at h ⊢
    exact ⟨flat_up l x h.1, flats_up l xs h.2⟩
end
theorem eqP_nil {xs : List Pd} : eqP (.lst xs) (.lst []) = xs.isEmpty := by cases xs <;> rfl
theorem bls_map {α : Type} {p : α → Bool} : ∀ xs : List α, blsP (xs.map fun x => .bl (p x)) = some (xs.map p)
  | [] => rfl
  | x :: xs => by
    show (blsP (xs.map fun x => .bl (p x))).map (p x :: ·) = _
    rw [bls_map xs]
    rfl
theorem strs_map : ∀ xs : List Str, strsP (xs.map .str) = some xs
  | [] => rfl
  | x :: xs => by
    show (strsP (xs.map .str)).map (x :: ·) = _
    rw [strs_map xs]
    rfl
theorem join_eq {sep : Str} {ys : List Str} : Txt.join sep ys = Str.join sep ys := eq_of_beq (PyProof.Rows.join_plain_closes sep ys)
theorem sjoin_ok {sep : Str} (hs : PyData.strOk sep = true) : ∀ ys : List Str, (∀ y, y ∈ ys → PyData.strOk y = true) → PyData.strOk (Str.join sep ys) = true
  | [], _ => by
    show (#[] : Array Nat).all (· < 0x110000) = true
    simp
  | [y], h => h y (.head _)
  | y :: z :: r, h => by
    have e : Str.join sep (y :: z :: r) = y ++ sep ++ Str.join sep (z :: r) := rfl
    rw [e]
    exact strOk_app (strOk_app (h y (.head _)) hs) (sjoin_ok hs (z :: r) fun w hw => h w (.tail _ hw))
theorem sjoin_len {sep : Str} (hs : sep.length = 0) : ∀ ys : List Str, (Str.join sep ys).length = (ys.map (·.length)).sum
  | [] => rfl
  | [y] => by show y.length = y.length + 0; omega
  | y :: z :: r => by
    have e : Str.join sep (y :: z :: r) = y ++ sep ++ Str.join sep (z :: r) := rfl
    rw [e, app_len, app_len, sjoin_len hs (z :: r), hs]
    simp
theorem sum_ones : ∀ {ys : List Str}, (∀ y, y ∈ ys → y.length = 1) → (ys.map (·.length)).sum = ys.length
  | [], _ => rfl
  | y :: ys, h => by
    rw [List.map_cons, List.sum_cons, h y (.head _), sum_ones fun z hz => h z (.tail _ hz), List.length_cons]
    omega
theorem cutS_len {z : Str} {lo hi : Option Int} : (cutS z lo hi).length ≤ z.length := by
  show ((z.cps.toList.drop (HT.sIx z.length 0 lo)).take (HT.sIx z.length z.length hi - HT.sIx z.length 0 lo)).toArray.size ≤ z.cps.size
  rw [List.size_toArray, List.length_take, List.length_drop, Array.length_toList]
  omega
theorem cut_mem {α : Type} {xs : List α} {lo hi : Option Int} {x : α} (h : x ∈ cutP xs lo hi) : x ∈ xs := List.mem_of_mem_drop (List.mem_of_mem_take h)
theorem cut_len {α : Type} {xs : List α} {lo hi : Option Int} : (cutP xs lo hi).length ≤ xs.length := by
  unfold cutP
  rw [List.length_take, List.length_drop]
  omega
/-! ### operators -/
section
variable {i j : Int} {x y : Pd}
@[simp] theorem add_ii : binP .Add (.int i) (.int j) = some (.p (.int (i + j))) := rfl
@[simp] theorem add_tt {xs ys : List Pd} : binP .Add (.tup xs) (.tup ys) = if xs.length + ys.length ≤ 16777216 then some (.p (.tup (xs ++ ys))) else none := rfl
@[simp] theorem add_ll {xs ys : List Pd} : binP .Add (.lst xs) (.lst ys) = if xs.length + ys.length ≤ 16777216 then some (.tmp (.lst (xs ++ ys))) else none := rfl
@[simp] theorem add_ss {x y : Str} : binP .Add (.str x) (.str y) = if x.length + y.length ≤ 16777216 then some (.p (.str (x ++ y))) else none := rfl
@[simp] theorem sub_ii : binP .Sub (.int i) (.int j) = some (.p (.int (i - j))) := rfl
@[simp] theorem mul_ii : binP .Mult (.int i) (.int j) = if mulC i j then some (.p (.int (i * j))) else none := rfl
@[simp] theorem mulC_r (h1 : -18446744073709551616 < j) (h2 : j < 18446744073709551616) : mulC i j := .inr (.inl ⟨h1, h2⟩)
@[simp] theorem mulC_l (h1 : -18446744073709551616 < i) (h2 : i < 18446744073709551616) : mulC i j := .inl ⟨h1, h2⟩
@[simp] theorem fdiv_ii : binP .FloorDiv (.int i) (.int j) = if 0 < j ∧ j.natAbs.log2 < 9000 then some (.p (.int (i / j))) else none := rfl
@[simp] theorem mod_ii : binP .Mod (.int i) (.int j) = if 0 < j then some (.p (.int (i % j))) else none := rfl
@[simp] theorem pow_ii : binP .Pow (.int i) (.int j) = if 0 ≤ j ∧ j ≤ 1000000 ∧ i.natAbs < 18446744073709551616 then some (.p (.int (i ^ j.toNat))) else none := rfl
@[simp] theorem shl_ii : binP .LShift (.int i) (.int j) = if 0 ≤ j ∧ j ≤ 1000000 ∧ i.natAbs < 18446744073709551616 then some (.p (.int (i * 2 ^ j.toNat))) else none := rfl
@[simp] theorem shr_ii : binP .RShift (.int i) (.int j) = if 0 ≤ j then some (.p (.int (i / 2 ^ j.toNat))) else none := rfl
@[simp] theorem band_ii : binP .BitAnd (.int i) (.int j) = some (.p (.int (Builtin.bitAnd i j))) := rfl
@[simp] theorem bor_ii : binP .BitOr (.int i) (.int j) = some (.p (.int (Builtin.bitOr i j))) := rfl
@[simp] theorem neg_i : negP (.int i) = some (.p (.int (-i))) := rfl
@[simp] theorem cmpT_ev {op : CmpOp} : cmpT op x y = (cmpP op x y).map fun b => .p (.bl b) := rfl
@[simp] theorem lt_ii : cmpP .Lt (.int i) (.int j) = some (decide (i < j)) := rfl
@[simp] theorem le_ii : cmpP .LtE (.int i) (.int j) = some (decide (i ≤ j)) := rfl
@[simp] theorem gt_ii : cmpP .Gt (.int i) (.int j) = some (decide (j < i)) := rfl
@[simp] theorem ge_ii : cmpP .GtE (.int i) (.int j) = some (decide (j ≤ i)) := rfl
theorem eq_xx (h : flat 60 x = true) (h2 : flat 60 y = true) : cmpP .Eq x y = some (eqP x y) := if_pos (by rw [h, h2]; rfl)
theorem ne_xx (h : flat 60 x = true) (h2 : flat 60 y = true) : cmpP .NotEq x y = some (!eqP x y) := if_pos (by rw [h, h2]; rfl)
@[simp] theorem eq_ii : cmpP .Eq (.int i) (.int j) = some (decide (i = j)) := by rw [eq_xx rfl rfl]; simp [eqP]; rfl
@[simp] theorem ne_ii : cmpP .NotEq (.int i) (.int j) = some (!decide (i = j)) := by rw [ne_xx rfl rfl]; simp [eqP]; rfl
@[simp] theorem eq_ss {x y : Str} : cmpP .Eq (.str x) (.str y) = some (decide (x = y)) := rfl
@[simp] theorem ne_ss {x y : Str} : cmpP .NotEq (.str x) (.str y) = some (!decide (x = y)) := rfl
@[simp] theorem isN_non : cmpP .Is .non .non = some true := rfl
@[simp] theorem len_t {xs : List Pd} : lenP (.tup xs) = some (.p (.int (xs.length : Nat))) := rfl
@[simp] theorem len_l {xs : List Pd} : lenP (.lst xs) = some (.p (.int (xs.length : Nat))) := rfl
@[simp] theorem len_s {z : Str} : lenP (.str z) = some (.p (.int (z.length : Nat))) := rfl
@[simp] theorem abs_i : absP (.int i) = some (.p (.int (if i < 0 then -i else i))) := rfl
@[simp] theorem tup_t {xs : List Pd} : tupP (.tup xs) = some (.p (.tup xs)) := rfl
@[simp] theorem tup_l {xs : List Pd} : tupP (.lst xs) = some (.p (.tup xs)) := rfl
@[simp] theorem lst_t {xs : List Pd} : lstP (.tup xs) = some (.tmp (.lst xs)) := rfl
@[simp] theorem lst_l {xs : List Pd} : lstP (.lst xs) = some (.tmp (.lst xs)) := rfl
@[simp] theorem rev_t {xs : List Pd} : revP (.tup xs) = some (.p (.tup xs.reverse)) := rfl
@[simp] theorem rev_l {xs : List Pd} : revP (.lst xs) = some (.tmp (.lst xs.reverse)) := rfl
end
/-! ### loops -/
/-- what holds behind a loop that goes to its end -/
theorem forGo_inv {b : TB} {body : SS} (I : Nat → En → Hs → Prop) : ∀ {xs : List Pd} (m : Nat) {δ : En} {h : Hs}, I m δ h →
    (∀ (i : Nat) (x : Pd) (δ : En) (h : Hs), xs[i]? = some x → I (m + i) δ h → ∃ δ1 δ2 h2, b x δ = some δ1 ∧ (body δ1 h = .nx δ2 h2 ∨ body δ1 h = .ct δ2 h2) ∧ I (m + i + 1) δ2 h2) →
    ∃ δ' h', forGo b body xs δ h = .nx δ' h' ∧ I (m + xs.length) δ' h'
  | [], m, δ, h, i0, _ => ⟨δ, h, rfl, i0⟩
  | x :: r, m, δ, h, i0, st => by
    obtain ⟨δ1, δ2, h2, e1, e2, i1⟩ := st 0 x δ h rfl i0
    obtain ⟨δ', h', e3, i3⟩ := forGo_inv I (xs := r) (m + 1) i1 fun i y δ h e k => by
      have q := st (i + 1) y δ h (by simpa using e) (by rwa [Nat.add_assoc, Nat.add_comm 1 i] at k)
      rwa [← Nat.add_assoc, Nat.add_right_comm m i 1] at q
    refine ⟨δ', h', ?_, by rw [List.length_cons, Nat.add_comm r.length 1, ← Nat.add_assoc]; exact i3⟩
    show (match b x δ with
    | some δ1 => match body δ1 h with
      | .nx δ2 h => forGo b body r δ2 h
      | .ct δ2 h => forGo b body r δ2 h
      | .bk δ2 h => .nx δ2 h
      | q => q
    | none => .bad) = _
    rw [e1]
    rcases e2 with e2 | e2 <;> (dsimp only; rw [e2]; exact e3)
/-- the same, no count -/
theorem forGo_keep {b : TB} {body : SS} (I : En → Hs → Prop) {xs : List Pd} {δ : En} {h : Hs} (i0 : I δ h)
    (st : ∀ (x : Pd) (δ : En) (h : Hs), x ∈ xs → I δ h → ∃ δ1 δ2 h2, b x δ = some δ1 ∧ (body δ1 h = .nx δ2 h2 ∨ body δ1 h = .ct δ2 h2) ∧ I δ2 h2) :
    ∃ δ' h', forGo b body xs δ h = .nx δ' h' ∧ I δ' h' := by
  obtain ⟨δ', h', e, i⟩ := forGo_inv (fun _ => I) (xs := xs) 0 i0 fun i x δ h e k => st x δ h (List.mem_of_getElem? e) k
  exact ⟨δ', h', e, i⟩
/-- one round keeps what holds -/
def goes (I : En → Hs → Prop) (b : TB) (body : SS) (x : Pd) (δ : En) (h : Hs) : Prop := match b x δ with
  | some δ1 => (match body δ1 h with
    | .nx δ2 h2 => I δ2 h2
    | .ct δ2 h2 => I δ2 h2
    | _ => False)
  | none => False
theorem forGo_goes {b : TB} {body : SS} (I : En → Hs → Prop) {xs : List Pd} {δ : En} {h : Hs} (i0 : I δ h) (st : ∀ (x : Pd) (δ : En) (h : Hs), x ∈ xs → I δ h → goes I b body x δ h) :
    ∃ δ' h', forGo b body xs δ h = .nx δ' h' ∧ I δ' h' := by
  refine forGo_keep I i0 fun x δ h hx hI => ?_
  have q := st x δ h hx hI
  unfold goes at q
  split at q
  · rename_i δ1 e
    split at q
    · rename_i δ2 h2 e2
      exact ⟨δ1, δ2, h2, e, .inl e2, q⟩
    · rename_i δ2 h2 e2
      exact ⟨δ1, δ2, h2, e, .inr e2, q⟩
    · exact q.elim
  · exact q.elim
theorem forGo_goesN {b : TB} {body : SS} (I : Nat → En → Hs → Prop) {xs : List Pd} {δ : En} {h : Hs} (i0 : I 0 δ h) (st : ∀ (i : Nat) (x : Pd) (δ : En) (h : Hs), xs[i]? = some x → I i δ h → goes (I (i + 1)) b body x δ h) :
    ∃ δ' h', forGo b body xs δ h = .nx δ' h' ∧ I xs.length δ' h' := by
  obtain ⟨δ', h', e, i⟩ := forGo_inv (b := b) (body := body) I (xs := xs) 0 i0 fun i x δ h hx hI => by
    rw [Nat.zero_add] at hI
    have q := st i x δ h hx hI
    unfold goes at q
    split at q
    · rename_i δ1 e
      split at q
      · rename_i δ2 h2 e2
        exact ⟨δ1, δ2, h2, e, .inl e2, by rw [Nat.zero_add]; exact q⟩
      · rename_i δ2 h2 e2
        exact ⟨δ1, δ2, h2, e, .inr e2, by rw [Nat.zero_add]; exact q⟩
      · exact q.elim
    · exact q.elim
  exact ⟨δ', h', e, by rwa [Nat.zero_add] at i⟩
/-- a comprehension whose items come from the things alone -/
theorem compGo_map {b : TB} {t : SB} {e : SE} {δ : En} {h : Hs} (p : Pd → Bool) (g : Pd → Pd) : ∀ {xs : List Pd} {acc : List Pd},
    (∀ x, x ∈ xs → ∃ δ1, b x δ = some δ1 ∧ t δ1 h = .ok (p x) h ∧ (p x = true → ∃ d, e δ1 h = .ok d h ∧ plain d h = some (g x, h))) → acc.length + xs.length ≤ 16777216 →
    compGo b t e xs δ acc h = .ok (acc ++ (xs.filter p).map g) h
  | [], acc, _, _ => by
    show Rs.ok acc h = _
    simp
  | x :: r, acc, k, l => by
    rw [List.length_cons] at l
    obtain ⟨δ1, e1, e2, e3⟩ := k x (.head _)
    show (match b x δ with
    | some δ1 => match t δ1 h with
      | .ok true h => match e δ1 h with
        | .ok d h => match plain d h with
          | some (y, h) => if acc.length < 16777216 then compGo b t e r δ (acc ++ [y]) h else .bad
          | none => .bad
        | _ => .bad
      | .ok false h => compGo b t e r δ acc h
      | _ => .bad
    | none => .bad) = _
    rw [e1]
    dsimp only
    rw [e2]
    cases hp : p x with
    | false =>
      dsimp only
      rw [compGo_map p g (fun y hy => k y (.tail _ hy)) (by omega), List.filter_cons_of_neg (by simp [hp])]
    | true =>
      obtain ⟨d, e4, e5⟩ := e3 hp
      dsimp only
      rw [e4]
      dsimp only
      rw [e5]
      dsimp only
      rw [if_pos (by omega), compGo_map p g (fun y hy => k y (.tail _ hy)) (by simp; omega), List.filter_cons_of_pos hp, List.map_cons, List.append_assoc]
      rfl
/-- a comprehension that changes the heap -/
theorem compGo_inv {b : TB} {t : SB} {e : SE} {δ : En} (I : Hs → Prop) (R : Pd → Prop) : ∀ {xs : List Pd} {acc : List Pd} {h : Hs}, I h → (∀ y, y ∈ acc → R y) →
    (∀ (x : Pd) (h : Hs), x ∈ xs → I h → ∃ δ1 d h1 h2 y h3, b x δ = some δ1 ∧ t δ1 h = .ok true h1 ∧ e δ1 h1 = .ok d h2 ∧ plain d h2 = some (y, h3) ∧ I h3 ∧ R y) → acc.length + xs.length ≤ 16777216 →
    ∃ ys h', compGo b t e xs δ acc h = .ok ys h' ∧ I h' ∧ ys.length = acc.length + xs.length ∧ ∀ y, y ∈ ys → R y
  | [], acc, h, i0, r, _, _ => ⟨acc, h, rfl, i0, rfl, r⟩
  | x :: xs, acc, h, i0, r, k, l => by
    rw [List.length_cons] at l
    obtain ⟨δ1, d, h1, h2, y, h3, e1, e2, e3, e4, i1, r1⟩ := k x h (.head _) i0
    obtain ⟨ys, h', q1, q2, q3, q4⟩ := compGo_inv (b := b) (t := t) (e := e) (δ := δ) I R (xs := xs) (acc := acc ++ [y]) i1 (fun z hz => by
      rcases List.mem_append.mp hz with hz | hz
      · exact r z hz
      · rw [List.mem_singleton.mp hz]; exact r1) (fun z h hz => k z h (.tail _ hz)) (by simp; omega)
    refine ⟨ys, h', ?_, q2, by rw [q3]; simp; omega, q4⟩
    show (match b x δ with
    | some δ1 => match t δ1 h with
      | .ok true h => match e δ1 h with
        | .ok d h => match plain d h with
          | some (y, h) => if acc.length < 16777216 then compGo b t e xs δ (acc ++ [y]) h else .bad
          | none => .bad
        | _ => .bad
      | .ok false h => compGo b t e xs δ acc h
      | _ => .bad
    | none => .bad) = _
    rw [e1]
    dsimp only
    rw [e2]
    dsimp only
    rw [e3]
    dsimp only
    rw [e4]
    dsimp only
    rw [if_pos (by omega)]
    exact q1
end Pv

/-! ## text K01a -/
set_option Elab.async false
set_option linter.all false
set_option maxRecDepth 100000
set_option maxHeartbeats 0
/-! ### the row's table, printed by gen.py -/
/-! ### the row's table, printed by gen.py -/
namespace K01
open PySem PySem.Spec PyProof.Rows L2 Pv
def top (i : Nat) : Stmt := PySem.Challenge.pw_catchlanes_k01_numbers_in_bytes.main.body.getD i (.Pass ⟨0, 0, 0, 0⟩)
abbrev s_is_whole : Stmt := top 9
abbrev d_is_whole : Df := ⟨"is_whole", ["thing"], ["thing"], defScope s_is_whole, defBody s_is_whole, [⟨1, [], [.pos 0], []⟩, ⟨0, ["thing"], [.kw 0], []⟩]⟩
abbrev h_is_whole : He.DefD := ⟨("is_whole", none), "is_whole", "is_whole", defArgs s_is_whole, defBody s_is_whole, defScope s_is_whole, [], []⟩
abbrev s_is_from : Stmt := top 10
abbrev d_is_from : Df := ⟨"is_from", ["thing", "low", "high"], ["thing", "low", "high"], defScope s_is_from, defBody s_is_from, [⟨3, [], [.pos 0, .pos 1, .pos 2], []⟩]⟩
abbrev h_is_from : He.DefD := ⟨("is_from", none), "is_from", "is_from", defArgs s_is_from, defBody s_is_from, defScope s_is_from, [], []⟩
abbrev s_is_word : Stmt := top 11
abbrev d_is_word : Df := ⟨"is_word", ["thing"], ["thing", "sign"], defScope s_is_word, defBody s_is_word, [⟨1, [], [.pos 0], []⟩, ⟨0, ["thing"], [.kw 0], []⟩]⟩
abbrev h_is_word : He.DefD := ⟨("is_word", none), "is_word", "is_word", defArgs s_is_word, defBody s_is_word, defScope s_is_word, [], []⟩
abbrev s_is_bytes : Stmt := top 12
abbrev d_is_bytes : Df := ⟨"is_bytes", ["thing"], ["thing", "one"], defScope s_is_bytes, defBody s_is_bytes, [⟨1, [], [.pos 0], []⟩, ⟨0, ["thing"], [.kw 0], []⟩]⟩
abbrev h_is_bytes : He.DefD := ⟨("is_bytes", none), "is_bytes", "is_bytes", defArgs s_is_bytes, defBody s_is_bytes, defScope s_is_bytes, [], []⟩
abbrev s_bytes_of : Stmt := top 13
abbrev d_bytes_of : Df := ⟨"bytes_of", ["number", "size", "order"], ["number", "size", "order", "found", "at"], defScope s_bytes_of, defBody s_bytes_of, [⟨2, ["order"], [.pos 0, .pos 1, .kw 0], []⟩, ⟨2, [], [.pos 0, .pos 1, .df 0], [.str "big"]⟩, ⟨0, ["size", "order", "number"], [.kw 2, .kw 0, .kw 1], []⟩]⟩
abbrev h_bytes_of : He.DefD := ⟨("bytes_of", none), "bytes_of", "bytes_of", defArgs s_bytes_of, defBody s_bytes_of, defScope s_bytes_of, [], [("order", .str "big")]⟩
abbrev s_number_in : Stmt := top 14
abbrev d_number_in : Df := ⟨"number_in", ["some", "order"], ["some", "order", "found", "byte"], defScope s_number_in, defBody s_number_in, [⟨1, [], [.pos 0, .df 0], [.str "big"]⟩, ⟨1, ["order"], [.pos 0, .kw 0], []⟩, ⟨0, ["order", "some"], [.kw 1, .kw 0], []⟩]⟩
abbrev h_number_in : He.DefD := ⟨("number_in", none), "number_in", "number_in", defArgs s_number_in, defBody s_number_in, defScope s_number_in, [], [("order", .str "big")]⟩
abbrev s__law_left : Stmt := top 16
abbrev d__law_left : Df := ⟨"_law_left", ["cell"], ["cell", "left", "seed", "turn"], defScope s__law_left, defBody s__law_left, [⟨1, [], [.pos 0], []⟩]⟩
abbrev h__law_left : He.DefD := ⟨("_law_left", none), "_law_left", "_law_left", defArgs s__law_left, defBody s__law_left, defScope s__law_left, [], []⟩
abbrev s__law_digit : Stmt := top 17
abbrev d__law_digit : Df := ⟨"_law_digit", ["left", "wide"], ["left", "wide", "found"], defScope s__law_digit, defBody s__law_digit, [⟨2, [], [.pos 0, .pos 1], []⟩]⟩
abbrev h__law_digit : He.DefD := ⟨("_law_digit", none), "_law_digit", "_law_digit", defArgs s__law_digit, defBody s__law_digit, defScope s__law_digit, [], []⟩
abbrev s__law_of_number : Stmt := top 18
abbrev d__law_of_number : Df := ⟨"_law_of_number", ["worth", "wide", "way"], ["worth", "wide", "way", "found", "k"], defScope s__law_of_number, defBody s__law_of_number, [⟨3, [], [.pos 0, .pos 1, .pos 2], []⟩]⟩
abbrev h__law_of_number : He.DefD := ⟨("_law_of_number", none), "_law_of_number", "_law_of_number", defArgs s__law_of_number, defBody s__law_of_number, defScope s__law_of_number, [], []⟩
abbrev s__law_refused : Stmt := top 19
abbrev d__law_refused : Df := ⟨"_law_refused", ["item", "wide", "way"], ["item", "wide", "way", "e"], defScope s__law_refused, defBody s__law_refused, [⟨3, [], [.pos 0, .pos 1, .pos 2], []⟩]⟩
abbrev h__law_refused : He.DefD := ⟨("_law_refused", none), "_law_refused", "_law_refused", defArgs s__law_refused, defBody s__law_refused, defScope s__law_refused, [], []⟩
abbrev s__law_is_byte : Stmt := top 20
abbrev d__law_is_byte : Df := ⟨"_law_is_byte", ["item"], ["item"], defScope s__law_is_byte, defBody s__law_is_byte, [⟨1, [], [.pos 0], []⟩]⟩
abbrev h__law_is_byte : He.DefD := ⟨("_law_is_byte", none), "_law_is_byte", "_law_is_byte", defArgs s__law_is_byte, defBody s__law_is_byte, defScope s__law_is_byte, [], []⟩
abbrev s__law_items : Stmt := top 21
abbrev d__law_items : Df := ⟨"_law_items", ["left", "line"], ["left", "line", "found"], defScope s__law_items, defBody s__law_items, [⟨2, [], [.pos 0, .pos 1], []⟩]⟩
abbrev h__law_items : He.DefD := ⟨("_law_items", none), "_law_items", "_law_items", defArgs s__law_items, defBody s__law_items, defScope s__law_items, [], []⟩
abbrev s__law_words : Stmt := top 22
abbrev d__law_words : Df := ⟨"_law_words", ["left"], ["left", "letters", "one", "turn"], defScope s__law_words, defBody s__law_words, [⟨1, [], [.pos 0], []⟩]⟩
abbrev h__law_words : He.DefD := ⟨("_law_words", none), "_law_words", "_law_words", defArgs s__law_words, defBody s__law_words, defScope s__law_words, [], []⟩
abbrev s__law_word_so : Stmt := top 23
abbrev d__law_word_so : Df := ⟨"_law_word_so", ["item"], ["item", "letters", "sign"], defScope s__law_word_so, defBody s__law_word_so, [⟨1, [], [.pos 0], []⟩]⟩
abbrev h__law_word_so : He.DefD := ⟨("_law_word_so", none), "_law_word_so", "_law_word_so", defArgs s__law_word_so, defBody s__law_word_so, defScope s__law_word_so, [], []⟩
abbrev s__law_looks_right : Stmt := top 24
abbrev d__law_looks_right : Df := ⟨"_law_looks_right", ["left", "line"], ["left", "line", "item", "due", "one", "whole", "told"], defScope s__law_looks_right, defBody s__law_looks_right, [⟨2, [], [.pos 0, .pos 1], []⟩]⟩
abbrev h__law_looks_right : He.DefD := ⟨("_law_looks_right", none), "_law_looks_right", "_law_looks_right", defArgs s__law_looks_right, defBody s__law_looks_right, defScope s__law_looks_right, [], []⟩
abbrev s_law : Stmt := top 25
abbrev d_law : Df := ⟨"law", ["script"], ["script", "cell", "left", "wide", "top", "worth", "way", "due", "item"], defScope s_law, defBody s_law, [⟨1, [], [.pos 0], []⟩]⟩
abbrev h_law : He.DefD := ⟨("law", none), "law", "law", defArgs s_law, defBody s_law, defScope s_law, [], []⟩
abbrev defs : List Df := [d_is_whole, d_is_from, d_is_word, d_is_bytes, d_bytes_of, d_number_in, d__law_left, d__law_digit, d__law_of_number, d__law_refused, d__law_is_byte, d__law_items, d__law_words, d__law_word_so, d__law_looks_right, d_law]
abbrev T : Mt := { fn := [h_is_whole, h_is_from, h_is_word, h_is_bytes, h_bytes_of, h_number_in, h__law_left, h__law_digit, h__law_of_number, h__law_refused, h__law_is_byte, h__law_items, h__law_words, h__law_word_so, h__law_looks_right, h_law], vars := [("BYTE", .int 256), ("LONGEST", .int 8), ("LETTERS", .str "abcdefghijklmnopqrstuvwxyz")], frees := ["abs", "range", "isinstance", "tuple", "int", "repr", "bool", "ValueError", "list", "all", "str", "len"], subs := [(("NoNumber", "BenchError"), true), (("NoNumber", "ValueError"), true), (("NoNumber", "NoKind"), false), (("NoNumber", "NoWorth"), false), (("NoNumber", "NoNumber"), true)], clss := ["int", "bool", "str", "tuple", "BenchError", "ValueError", "NoKind", "NoWorth", "NoNumber"], rzs := ["NoNumber"] }
abbrev md : Md := T.md defs
section
variable {C : Ct} {h : Heap}
theorem ok_is_whole (X : C.K.In h) (G : h.Ns mainGlobals C.mg) (c : T.Says C.K) : DfOk C d_is_whole := by
  obtain ⟨m, fd, F⟩ := Mt.Says.def_ c X G 0 (d := h_is_whole) rfl rfl
  refine ⟨⟨_, fd, _, _, _, m, F, fun p hp => ?_⟩, ⟨rfl, rfl, rfl, by decide +kernel, rfl, by decide +kernel, by decide +kernel⟩⟩
  cases hp with
  | head =>
    exact pat_all F rfl rfl fun kV doc pm an cdv ct us ws h1 h2 => match us, ws, h1, h2 with | [_], [], _, _ => rfl
  | tail _ hp =>
  cases hp with
  | head =>
    exact pat_all F rfl rfl fun kV doc pm an cdv ct us ws h1 h2 => match us, ws, h1, h2 with | [], [_], _, _ => rfl
  | tail _ hp =>
  cases hp
theorem ok_is_from (X : C.K.In h) (G : h.Ns mainGlobals C.mg) (c : T.Says C.K) : DfOk C d_is_from := by
  obtain ⟨m, fd, F⟩ := Mt.Says.def_ c X G 1 (d := h_is_from) rfl rfl
  refine ⟨⟨_, fd, _, _, _, m, F, fun p hp => ?_⟩, ⟨rfl, rfl, rfl, by decide +kernel, rfl, by decide +kernel, by decide +kernel⟩⟩
  cases hp with
  | head =>
    exact pat_all F rfl rfl fun kV doc pm an cdv ct us ws h1 h2 => match us, ws, h1, h2 with | [_, _, _], [], _, _ => rfl
  | tail _ hp =>
  cases hp
theorem ok_is_word (X : C.K.In h) (G : h.Ns mainGlobals C.mg) (c : T.Says C.K) : DfOk C d_is_word := by
  obtain ⟨m, fd, F⟩ := Mt.Says.def_ c X G 2 (d := h_is_word) rfl rfl
  refine ⟨⟨_, fd, _, _, _, m, F, fun p hp => ?_⟩, ⟨rfl, rfl, rfl, by decide +kernel, rfl, by decide +kernel, by decide +kernel⟩⟩
  cases hp with
  | head =>
    exact pat_all F rfl rfl fun kV doc pm an cdv ct us ws h1 h2 => match us, ws, h1, h2 with | [_], [], _, _ => rfl
  | tail _ hp =>
  cases hp with
  | head =>
    exact pat_all F rfl rfl fun kV doc pm an cdv ct us ws h1 h2 => match us, ws, h1, h2 with | [], [_], _, _ => rfl
  | tail _ hp =>
  cases hp
theorem ok_is_bytes (X : C.K.In h) (G : h.Ns mainGlobals C.mg) (c : T.Says C.K) : DfOk C d_is_bytes := by
  obtain ⟨m, fd, F⟩ := Mt.Says.def_ c X G 3 (d := h_is_bytes) rfl rfl
  refine ⟨⟨_, fd, _, _, _, m, F, fun p hp => ?_⟩, ⟨rfl, rfl, rfl, by decide +kernel, rfl, by decide +kernel, by decide +kernel⟩⟩
  cases hp with
  | head =>
    exact pat_all F rfl rfl fun kV doc pm an cdv ct us ws h1 h2 => match us, ws, h1, h2 with | [_], [], _, _ => rfl
  | tail _ hp =>
  cases hp with
  | head =>
    exact pat_all F rfl rfl fun kV doc pm an cdv ct us ws h1 h2 => match us, ws, h1, h2 with | [], [_], _, _ => rfl
  | tail _ hp =>
  cases hp
theorem ok_bytes_of (X : C.K.In h) (G : h.Ns mainGlobals C.mg) (c : T.Says C.K) : DfOk C d_bytes_of := by
  obtain ⟨m, fd, F⟩ := Mt.Says.def_ c X G 4 (d := h_bytes_of) rfl rfl
  refine ⟨⟨_, fd, _, _, _, m, F, fun p hp => ?_⟩, ⟨rfl, rfl, rfl, by decide +kernel, rfl, by decide +kernel, by decide +kernel⟩⟩
  cases hp with
  | head =>
    exact pat_all F rfl rfl fun kV doc pm an cdv ct us ws h1 h2 => match us, ws, h1, h2 with | [_, _], [_], _, _ => rfl
  | tail _ hp =>
  cases hp with
  | head =>
    exact pat_kwd [("order", (.str "big" : He.Dv).v C.K)] F (fun w => rps_cons (by show RPg C _ _ _; unfold RPg; exact ⟨rfl, by decide +kernel, by decide +kernel⟩) (rps_nil)) rfl (by simp [He.DefD.kws]) (fun q hq => by first | exact hq | (simp at hq; simp [He.DefD.kws, hq])) fun D doc pm an cdv ct us ws mv h1 h2 h3 => match us, ws, mv, h1, h2, h3 with | [_, _], [], [_], _, _, _ => ⟨_, _, _, _, _, _, rfl, rfl, rfl⟩
  | tail _ hp =>
  cases hp with
  | head =>
    exact pat_all F rfl rfl fun kV doc pm an cdv ct us ws h1 h2 => match us, ws, h1, h2 with | [], [_, _, _], _, _ => rfl
  | tail _ hp =>
  cases hp
theorem ok_number_in (X : C.K.In h) (G : h.Ns mainGlobals C.mg) (c : T.Says C.K) : DfOk C d_number_in := by
  obtain ⟨m, fd, F⟩ := Mt.Says.def_ c X G 5 (d := h_number_in) rfl rfl
  refine ⟨⟨_, fd, _, _, _, m, F, fun p hp => ?_⟩, ⟨rfl, rfl, rfl, by decide +kernel, rfl, by decide +kernel, by decide +kernel⟩⟩
  cases hp with
  | head =>
    exact pat_kwd [("order", (.str "big" : He.Dv).v C.K)] F (fun w => rps_cons (by show RPg C _ _ _; unfold RPg; exact ⟨rfl, by decide +kernel, by decide +kernel⟩) (rps_nil)) rfl (by simp [He.DefD.kws]) (fun q hq => by first | exact hq | (simp at hq; simp [He.DefD.kws, hq])) fun D doc pm an cdv ct us ws mv h1 h2 h3 => match us, ws, mv, h1, h2, h3 with | [_], [], [_], _, _, _ => ⟨_, _, _, _, _, _, rfl, rfl, rfl⟩
  | tail _ hp =>
  cases hp with
  | head =>
    exact pat_all F rfl rfl fun kV doc pm an cdv ct us ws h1 h2 => match us, ws, h1, h2 with | [_], [_], _, _ => rfl
  | tail _ hp =>
  cases hp with
  | head =>
    exact pat_all F rfl rfl fun kV doc pm an cdv ct us ws h1 h2 => match us, ws, h1, h2 with | [], [_, _], _, _ => rfl
  | tail _ hp =>
  cases hp
theorem ok__law_left (X : C.K.In h) (G : h.Ns mainGlobals C.mg) (c : T.Says C.K) : DfOk C d__law_left := by
  obtain ⟨m, fd, F⟩ := Mt.Says.def_ c X G 6 (d := h__law_left) rfl rfl
  refine ⟨⟨_, fd, _, _, _, m, F, fun p hp => ?_⟩, ⟨rfl, rfl, rfl, by decide +kernel, rfl, by decide +kernel, by decide +kernel⟩⟩
  cases hp with
  | head =>
    exact pat_all F rfl rfl fun kV doc pm an cdv ct us ws h1 h2 => match us, ws, h1, h2 with | [_], [], _, _ => rfl
  | tail _ hp =>
  cases hp
theorem ok__law_digit (X : C.K.In h) (G : h.Ns mainGlobals C.mg) (c : T.Says C.K) : DfOk C d__law_digit := by
  obtain ⟨m, fd, F⟩ := Mt.Says.def_ c X G 7 (d := h__law_digit) rfl rfl
  refine ⟨⟨_, fd, _, _, _, m, F, fun p hp => ?_⟩, ⟨rfl, rfl, rfl, by decide +kernel, rfl, by decide +kernel, by decide +kernel⟩⟩
  cases hp with
  | head =>
    exact pat_all F rfl rfl fun kV doc pm an cdv ct us ws h1 h2 => match us, ws, h1, h2 with | [_, _], [], _, _ => rfl
  | tail _ hp =>
  cases hp
theorem ok__law_of_number (X : C.K.In h) (G : h.Ns mainGlobals C.mg) (c : T.Says C.K) : DfOk C d__law_of_number := by
  obtain ⟨m, fd, F⟩ := Mt.Says.def_ c X G 8 (d := h__law_of_number) rfl rfl
  refine ⟨⟨_, fd, _, _, _, m, F, fun p hp => ?_⟩, ⟨rfl, rfl, rfl, by decide +kernel, rfl, by decide +kernel, by decide +kernel⟩⟩
  cases hp with
  | head =>
    exact pat_all F rfl rfl fun kV doc pm an cdv ct us ws h1 h2 => match us, ws, h1, h2 with | [_, _, _], [], _, _ => rfl
  | tail _ hp =>
  cases hp
theorem ok__law_refused (X : C.K.In h) (G : h.Ns mainGlobals C.mg) (c : T.Says C.K) : DfOk C d__law_refused := by
  obtain ⟨m, fd, F⟩ := Mt.Says.def_ c X G 9 (d := h__law_refused) rfl rfl
  refine ⟨⟨_, fd, _, _, _, m, F, fun p hp => ?_⟩, ⟨rfl, rfl, rfl, by decide +kernel, rfl, by decide +kernel, by decide +kernel⟩⟩
  cases hp with
  | head =>
    exact pat_all F rfl rfl fun kV doc pm an cdv ct us ws h1 h2 => match us, ws, h1, h2 with | [_, _, _], [], _, _ => rfl
  | tail _ hp =>
  cases hp
theorem ok__law_is_byte (X : C.K.In h) (G : h.Ns mainGlobals C.mg) (c : T.Says C.K) : DfOk C d__law_is_byte := by
  obtain ⟨m, fd, F⟩ := Mt.Says.def_ c X G 10 (d := h__law_is_byte) rfl rfl
  refine ⟨⟨_, fd, _, _, _, m, F, fun p hp => ?_⟩, ⟨rfl, rfl, rfl, by decide +kernel, rfl, by decide +kernel, by decide +kernel⟩⟩
  cases hp with
  | head =>
    exact pat_all F rfl rfl fun kV doc pm an cdv ct us ws h1 h2 => match us, ws, h1, h2 with | [_], [], _, _ => rfl
  | tail _ hp =>
  cases hp
theorem ok__law_items (X : C.K.In h) (G : h.Ns mainGlobals C.mg) (c : T.Says C.K) : DfOk C d__law_items := by
  obtain ⟨m, fd, F⟩ := Mt.Says.def_ c X G 11 (d := h__law_items) rfl rfl
  refine ⟨⟨_, fd, _, _, _, m, F, fun p hp => ?_⟩, ⟨rfl, rfl, rfl, by decide +kernel, rfl, by decide +kernel, by decide +kernel⟩⟩
  cases hp with
  | head =>
    exact pat_all F rfl rfl fun kV doc pm an cdv ct us ws h1 h2 => match us, ws, h1, h2 with | [_, _], [], _, _ => rfl
  | tail _ hp =>
  cases hp
theorem ok__law_words (X : C.K.In h) (G : h.Ns mainGlobals C.mg) (c : T.Says C.K) : DfOk C d__law_words := by
  obtain ⟨m, fd, F⟩ := Mt.Says.def_ c X G 12 (d := h__law_words) rfl rfl
  refine ⟨⟨_, fd, _, _, _, m, F, fun p hp => ?_⟩, ⟨rfl, rfl, rfl, by decide +kernel, rfl, by decide +kernel, by decide +kernel⟩⟩
  cases hp with
  | head =>
    exact pat_all F rfl rfl fun kV doc pm an cdv ct us ws h1 h2 => match us, ws, h1, h2 with | [_], [], _, _ => rfl
  | tail _ hp =>
  cases hp
theorem ok__law_word_so (X : C.K.In h) (G : h.Ns mainGlobals C.mg) (c : T.Says C.K) : DfOk C d__law_word_so := by
  obtain ⟨m, fd, F⟩ := Mt.Says.def_ c X G 13 (d := h__law_word_so) rfl rfl
  refine ⟨⟨_, fd, _, _, _, m, F, fun p hp => ?_⟩, ⟨rfl, rfl, rfl, by decide +kernel, rfl, by decide +kernel, by decide +kernel⟩⟩
  cases hp with
  | head =>
    exact pat_all F rfl rfl fun kV doc pm an cdv ct us ws h1 h2 => match us, ws, h1, h2 with | [_], [], _, _ => rfl
  | tail _ hp =>
  cases hp
theorem ok__law_looks_right (X : C.K.In h) (G : h.Ns mainGlobals C.mg) (c : T.Says C.K) : DfOk C d__law_looks_right := by
  obtain ⟨m, fd, F⟩ := Mt.Says.def_ c X G 14 (d := h__law_looks_right) rfl rfl
  refine ⟨⟨_, fd, _, _, _, m, F, fun p hp => ?_⟩, ⟨rfl, rfl, rfl, by decide +kernel, rfl, by decide +kernel, by decide +kernel⟩⟩
  cases hp with
  | head =>
    exact pat_all F rfl rfl fun kV doc pm an cdv ct us ws h1 h2 => match us, ws, h1, h2 with | [_, _], [], _, _ => rfl
  | tail _ hp =>
  cases hp
theorem ok_law (X : C.K.In h) (G : h.Ns mainGlobals C.mg) (c : T.Says C.K) : DfOk C d_law := by
  obtain ⟨m, fd, F⟩ := Mt.Says.def_ c X G 15 (d := h_law) rfl rfl
  refine ⟨⟨_, fd, _, _, _, m, F, fun p hp => ?_⟩, ⟨rfl, rfl, rfl, by decide +kernel, rfl, by decide +kernel, by decide +kernel⟩⟩
  cases hp with
  | head =>
    exact pat_all F rfl rfl fun kV doc pm an cdv ct us ws h1 h2 => match us, ws, h1, h2 with | [_], [], _, _ => rfl
  | tail _ hp =>
  cases hp
theorem ok (X : C.K.In h) (G : h.Ns mainGlobals C.mg) (c : T.Says C.K) : MdOk md C := by
  refine Mt.md_ok c X G (.inr PySem.F.excBase_ValueError) fun d hd => ?_
  cases hd with
  | head => exact ok_is_whole X G c
  | tail _ hd =>
  cases hd with
  | head => exact ok_is_from X G c
  | tail _ hd =>
  cases hd with
  | head => exact ok_is_word X G c
  | tail _ hd =>
  cases hd with
  | head => exact ok_is_bytes X G c
  | tail _ hd =>
  cases hd with
  | head => exact ok_bytes_of X G c
  | tail _ hd =>
  cases hd with
  | head => exact ok_number_in X G c
  | tail _ hd =>
  cases hd with
  | head => exact ok__law_left X G c
  | tail _ hd =>
  cases hd with
  | head => exact ok__law_digit X G c
  | tail _ hd =>
  cases hd with
  | head => exact ok__law_of_number X G c
  | tail _ hd =>
  cases hd with
  | head => exact ok__law_refused X G c
  | tail _ hd =>
  cases hd with
  | head => exact ok__law_is_byte X G c
  | tail _ hd =>
  cases hd with
  | head => exact ok__law_items X G c
  | tail _ hd =>
  cases hd with
  | head => exact ok__law_words X G c
  | tail _ hd =>
  cases hd with
  | head => exact ok__law_word_so X G c
  | tail _ hd =>
  cases hd with
  | head => exact ok__law_looks_right X G c
  | tail _ hd =>
  cases hd with
  | head => exact ok_law X G c
  | tail _ hd =>
  cases hd
end
abbrev R : PySem.W.OpenRow := PySem.W.OpenLaw.row PySem.Challenge.rw_catchlanes_k01_numbers_in_bytes
abbrev loose : List Str := (["is_whole", "is_from", "is_word", "is_bytes", "bytes_of", "number_in", "_law_left", "_law_digit", "_law_of_number", "_law_refused", "_law_is_byte", "_law_items", "_law_words", "_law_word_so", "_law_looks_right", "BenchError", "NoWorth", "NoNumber", "NoKind", "LETTERS", "LONGEST", "BYTE"] : List Str)
abbrev hk : PySem.W.Hook := T.hook 6
def ob (s : PySem.W.SharedT) : He.AlD := T.obsG 6 (HandSHeadRun.getT s)
theorem ob_eq (s : PySem.W.SharedT) : ob s = hk.obs s.abs := Mt.obsG_eq (HandSHeadRun.getT_eq s)
theorem run (w : World) : HandSHeadRun.RunEq R (PySem.W.view R.prog [25]) hk ob 20000 loose w := by
  intro os
  kernel_rfl
theorem facts {P : Program} {w : World} {K : PySem.W.Frag} {h : Heap} {mg : Str → Option Value} {f : Addr} (X : K.In h) (G : h.Ns mainGlobals mg) (hfa : mg ("law" : Str) = some (.ref f)) (c : T.Says K) :
    ∃ fd : FuncData, (∀ (s : Shared) (v : Value), BindsTo s fd ⟨[v], []⟩ [("script", v)]) ∧ ∀ base : Heap, K.In base → base.Ns mainGlobals mg → FnV ⟨K, mg, P, w, base⟩ 20 f fd ["script"] (spOf ⟨K, mg, P, w, base⟩ ["script"] (md.sem 20 "law")) := by
  obtain ⟨m, fd, F⟩ := Mt.Says.def_ (C := ⟨K, mg, P, w, h⟩) c X G 15 (d := h_law) rfl rfl
  have e := hfa.symm.trans m
  cases e
  have b := FunD.bindsA (ps := ["script"]) F fun _ _ _ _ _ _ us hl => match us, hl with | [_], _ => rfl
  refine ⟨fd, fun s v => b s [v] rfl, fun base hK hG => ?_⟩
  have M0 := ok (C := ⟨K, mg, P, w, base⟩) X G c
  rw [show md.sem (20) "law" = _ from sem_succ (M := md) (x := "law") (d := d_law) rfl]
  exact def_run (d := d_law) M0 F ⟨rfl, rfl, rfl, by decide +kernel, rfl, by decide +kernel, by decide +kernel⟩ (sem_ok M0 _)
def t_is_whole (S : Str → SF) : SF := runF 1 (xSeqs [
  xRet (sAnd (sIsi md.sub ["int"] (sVar 0)) (sNot (sIsi md.sub ["bool"] (sVar 0))))])
theorem e_is_whole (S : Str → SF) : runF d_is_whole.N.length (stms (md.gs S) md.rz (cmp (md.gs S) 30) 30 d_is_whole.si d_is_whole.body) = t_is_whole S := by kernel_rfl
theorem m_is_whole (k : Nat) : md.sem (k + 1) "is_whole" = t_is_whole (md.sem k) := (sem_succ (M := md) (d := d_is_whole) rfl).trans (e_is_whole _)
def t_is_from (S : Str → SF) : SF := runF 3 (xSeqs [
  xRet (sAnd (sCall (S "is_whole") ⟨1, [], [.pos 0], []⟩ (sArgs [sVar 0]) (sArgs [])) (sChain (cmpP .LtE) (cmpP .LtE) (sVar 1) (sVar 0) (sVar 2)))])
theorem e_is_from (S : Str → SF) : runF d_is_from.N.length (stms (md.gs S) md.rz (cmp (md.gs S) 30) 30 d_is_from.si d_is_from.body) = t_is_from S := by kernel_rfl
theorem m_is_from (k : Nat) : md.sem (k + 1) "is_from" = t_is_from (md.sem k) := (sem_succ (M := md) (d := d_is_from) rfl).trans (e_is_from _)
def c_is_word_1 (S : Str → SF) : SE := s2 (cmpT .In) (sVar 1) (sC (.str "abcdefghijklmnopqrstuvwxyz"))
def t_is_word (S : Str → SF) : SF := runF 2 (xSeqs [
  xRet (sAnd (sIsi md.sub ["str"] (sVar 0)) (sAnd (sChain (cmpP .LtE) (cmpP .LtE) (sC (.int 1)) (s1 lenP (sVar 0)) (sC (.int 8))) (s1 allP (sLc (iVal (sVar 0)) [1] (bName 1) (bYes) (c_is_word_1 S)))))])
theorem e_is_word (S : Str → SF) : runF d_is_word.N.length (stms (md.gs S) md.rz (cmp (md.gs S) 30) 30 d_is_word.si d_is_word.body) = t_is_word S := by kernel_rfl
theorem m_is_word (k : Nat) : md.sem (k + 1) "is_word" = t_is_word (md.sem k) := (sem_succ (M := md) (d := d_is_word) rfl).trans (e_is_word _)
def c_is_bytes_1 (S : Str → SF) : SE := sCall (S "is_from") ⟨3, [], [.pos 0, .pos 1, .pos 2], []⟩ (sArgs [sVar 1, sC (.int 0), s2 (binP .Sub) (sC (.int 256)) (sC (.int 1))]) (sArgs [])
def t_is_bytes (S : Str → SF) : SF := runF 2 (xSeqs [
  xRet (sAnd (sIsi md.sub ["tuple"] (sVar 0)) (s1 allP (sLc (iVal (sVar 0)) [1] (bName 1) (bYes) (c_is_bytes_1 S))))])
theorem e_is_bytes (S : Str → SF) : runF d_is_bytes.N.length (stms (md.gs S) md.rz (cmp (md.gs S) 30) 30 d_is_bytes.si d_is_bytes.body) = t_is_bytes S := by kernel_rfl
theorem m_is_bytes (k : Nat) : md.sem (k + 1) "is_bytes" = t_is_bytes (md.sem k) := (sem_succ (M := md) (d := d_is_bytes) rfl).trans (e_is_bytes _)
def c_bytes_of_1 (S : Str → SF) : SE := s2 (binP .Mod) (s2 (binP .RShift) (sVar 0) (s2 (binP .Mult) (sC (.int 8)) (sVar 4))) (sC (.int 256))
def t_bytes_of (S : Str → SF) : SF := runF 5 (xSeqs [
  xIf (bNot (bTru (sCall (S "is_from") ⟨3, [], [.pos 0, .pos 1, .pos 2], []⟩ (sArgs [sVar 0, sC (.int 0), s2 (binP .Sub) (s2 (binP .LShift) (sC (.int 1)) (s2 (binP .Mult) (sC (.int 8)) (sVar 1))) (sC (.int 1))]) (sArgs [])))) (xSeqs [xRaise "NoNumber" []]) (xSeqs []),
  xAsg 3 (s1 tupP (sLc (iR1 (sArgs [sVar 1])) [4] (bName 4) (bYes) (c_bytes_of_1 S))),
  xRet (sIf (bTru (s2 (cmpT .Eq) (sVar 2) (sC (.str "small")))) (sVar 3) (s1 revP (sVar 3)))])
theorem e_bytes_of (S : Str → SF) : runF d_bytes_of.N.length (stms (md.gs S) md.rz (cmp (md.gs S) 30) 30 d_bytes_of.si d_bytes_of.body) = t_bytes_of S := by kernel_rfl
theorem m_bytes_of (k : Nat) : md.sem (k + 1) "bytes_of" = t_bytes_of (md.sem k) := (sem_succ (M := md) (d := d_bytes_of) rfl).trans (e_bytes_of _)
def f_number_in_1 (S : Str → SF) : SS := xSeqs [xAsg 2 (s2 (binP .Add) (s2 (binP .Mult) (sVar 2) (sC (.int 256))) (sVar 3))]
def t_number_in (S : Str → SF) : SF := runF 4 (xSeqs [
  xAsg 2 (sC (.int 0)),
  xFor (iVal (sIf (bTru (s2 (cmpT .Eq) (sVar 1) (sC (.str "big")))) (sVar 0) (s1 revP (sVar 0)))) (bName 3) (f_number_in_1 S),
  xRet (sVar 2)])
theorem e_number_in (S : Str → SF) : runF d_number_in.N.length (stms (md.gs S) md.rz (cmp (md.gs S) 30) 30 d_number_in.si d_number_in.body) = t_number_in S := by kernel_rfl
theorem m_number_in (k : Nat) : md.sem (k + 1) "number_in" = t_number_in (md.sem k) := (sem_succ (M := md) (d := d_number_in) rfl).trans (e_number_in _)
def f__law_left_1 (S : Str → SF) : SS := xSeqs [xAsg 2 (s2 (binP .Mod) (s2 (binP .Mult) (s2 (binP .Add) (s2 (binP .Mod) (sVar 2) (sC (.int 2147483629))) (sC (.int 30011))) (sC (.int 48271))) (sC (.int 2147483629))), xAsg 2 (s2 (binP .Add) (s2 (binP .Mod) (s2 (binP .Mult) (sVar 2) (sC (.int 39373))) (sC (.int 2147483647))) (sVar 3)), xAsg 1 (s2 (binP .Add) (s2 (binP .Mult) (sVar 1) (sC (.int 2147483629))) (sVar 2))]
def t__law_left (S : Str → SF) : SF := runF 4 (xSeqs [
  xAsg 1 (s1 absP (sVar 0)),
  xIf (bTru (s2 (cmpT .Lt) (sVar 1) (s2 (binP .Pow) (sC (.int 10)) (sC (.int 18))))) (xSeqs [xAsg 2 (sVar 0), xFor (iR1 (sArgs [sC (.int 40)])) (bName 3) (f__law_left_1 S)]) (xSeqs []),
  xRet (sLst (sPl [sVar 1]))])
theorem e__law_left (S : Str → SF) : runF d__law_left.N.length (stms (md.gs S) md.rz (cmp (md.gs S) 30) 30 d__law_left.si d__law_left.body) = t__law_left S := by kernel_rfl
theorem m__law_left (k : Nat) : md.sem (k + 1) "_law_left" = t__law_left (md.sem k) := (sem_succ (M := md) (d := d__law_left) rfl).trans (e__law_left _)
def t__law_digit (S : Str → SF) : SF := runF 3 (xSeqs [
  xAsg 2 (s2 (binP .Mod) (s2 ixP (sVar 0) (sC (.int 0))) (sVar 1)),
  xSet (s2 (binP .FloorDiv) (s2 ixP (sVar 0) (sC (.int 0))) (sVar 1)) (sVar 0) (sC (.int 0)),
  xRet (sVar 2)])
theorem e__law_digit (S : Str → SF) : runF d__law_digit.N.length (stms (md.gs S) md.rz (cmp (md.gs S) 30) 30 d__law_digit.si d__law_digit.body) = t__law_digit S := by kernel_rfl
theorem m__law_digit (k : Nat) : md.sem (k + 1) "_law_digit" = t__law_digit (md.sem k) := (sem_succ (M := md) (d := d__law_digit) rfl).trans (e__law_digit _)
def f__law_of_number_1 (S : Str → SF) : SS := xSeqs [xAsg 3 (s2 (binP .Add) (sTup (sPl [s2 (binP .BitAnd) (s2 (binP .RShift) (sVar 0) (s2 (binP .Mult) (sC (.int 8)) (sVar 4))) (sC (.int 255))])) (sVar 3))]
def t__law_of_number (S : Str → SF) : SF := runF 5 (xSeqs [
  xAsg 3 (sTup (sPl [])),
  xFor (iR1 (sArgs [sVar 1])) (bName 4) (f__law_of_number_1 S),
  xRet (sIf (bTru (s2 (cmpT .Eq) (sVar 2) (sC (.str "small")))) (s1 revP (sVar 3)) (sVar 3))])
theorem e__law_of_number (S : Str → SF) : runF d__law_of_number.N.length (stms (md.gs S) md.rz (cmp (md.gs S) 30) 30 d__law_of_number.si d__law_of_number.body) = t__law_of_number S := by kernel_rfl
theorem m__law_of_number (k : Nat) : md.sem (k + 1) "_law_of_number" = t__law_of_number (md.sem k) := (sem_succ (M := md) (d := d__law_of_number) rfl).trans (e__law_of_number _)
def t__law_refused (S : Str → SF) : SF := runF 4 (xSeqs [
  xTry md.sub 3 "NoNumber" (xSeqs [xDrop (sCall (S "bytes_of") ⟨2, ["order"], [.pos 0, .pos 1, .kw 0], []⟩ (sArgs [sVar 0, sVar 1]) (sArgs [sVar 2]))]) (xSeqs [xRet (sAnd (sIsi md.sub ["BenchError"] (sVar 3)) (sAnd (sIsi md.sub ["ValueError"] (sVar 3)) (sNot (sIsi md.sub ["NoKind", "NoWorth"] (sVar 3)))))]),
  xRet (sC (.bl false))])
theorem e__law_refused (S : Str → SF) : runF d__law_refused.N.length (stms (md.gs S) md.rz (cmp (md.gs S) 30) 30 d__law_refused.si d__law_refused.body) = t__law_refused S := by kernel_rfl
theorem m__law_refused (k : Nat) : md.sem (k + 1) "_law_refused" = t__law_refused (md.sem k) := (sem_succ (M := md) (d := d__law_refused) rfl).trans (e__law_refused _)
def t__law_is_byte (S : Str → SF) : SF := runF 1 (xSeqs [
  xRet (sAnd (sIsi md.sub ["int"] (sVar 0)) (sAnd (sNot (sIsi md.sub ["bool"] (sVar 0))) (sChain (cmpP .LtE) (cmpP .Lt) (sC (.int 0)) (sVar 0) (sC (.int 256)))))])
theorem e__law_is_byte (S : Str → SF) : runF d__law_is_byte.N.length (stms (md.gs S) md.rz (cmp (md.gs S) 30) 30 d__law_is_byte.si d__law_is_byte.body) = t__law_is_byte S := by kernel_rfl
theorem m__law_is_byte (k : Nat) : md.sem (k + 1) "_law_is_byte" = t__law_is_byte (md.sem k) := (sem_succ (M := md) (d := d__law_is_byte) rfl).trans (e__law_is_byte _)
def t__law_items (S : Str → SF) : SF := runF 3 (xSeqs [
  xAsg 2 (sLst (sPl [sVar 1, s1 lstP (sVar 1), s2 (binP .Add) (sVar 1) (sTup (sPl [sC (.int 256)])), s2 (binP .Add) (sVar 1) (sTup (sPl [s1 negP (sC (.int 1))])), s2 (binP .Add) (sVar 1) (sTup (sPl [sC (.bl true)])), sTup (sPl [sC .non]), sC .non, sC (.int 5), sC (.str "ab"), s2 (binP .Add) (sVar 1) (sTup (sPl [sC (.str "1")])), sTup (sPl [])])),
  xRet (s2 (binP .Add) (sVar 2) (sLst (sPl [sTup (sPl [sVar 1]), sDic, sSl (sVar 1) (sC .non) (sPart (sC (.int 1))), sC (.bl true), sC (.int 0), s1 negP (sC (.int 7)), s2 (binP .Pow) (sC (.int 10)) (sC (.int 30)), sTup (sPl [sCall (S "_law_digit") ⟨2, [], [.pos 0, .pos 1], []⟩ (sArgs [sVar 0, sC (.int 300)]) (sArgs [])])])))])
theorem e__law_items (S : Str → SF) : runF d__law_items.N.length (stms (md.gs S) md.rz (cmp (md.gs S) 30) 30 d__law_items.si d__law_items.body) = t__law_items S := by kernel_rfl
theorem m__law_items (k : Nat) : md.sem (k + 1) "_law_items" = t__law_items (md.sem k) := (sem_succ (M := md) (d := d__law_items) rfl).trans (e__law_items _)
def c__law_words_1 (S : Str → SF) : SE := s2 ixP (sVar 1) (sCall (S "_law_digit") ⟨2, [], [.pos 0, .pos 1], []⟩ (sArgs [sVar 0, sC (.int 26)]) (sArgs []))
def t__law_words (S : Str → SF) : SF := runF 4 (xSeqs [
  xAsg 1 (sC (.str "abcdefghijklmnopqrstuvwxyz")),
  xAsg 2 (sJoin (sC (.str "")) (sLc (iR1 (sArgs [s2 (binP .Add) (sC (.int 1)) (sCall (S "_law_digit") ⟨2, [], [.pos 0, .pos 1], []⟩ (sArgs [sVar 0, sC (.int 9)]) (sArgs []))])) [3] (bName 3) (bYes) (c__law_words_1 S))),
  xRet (sLst (sPl [sVar 2, sSl (sVar 2) (sC .non) (sPart (sC (.int 8))), s2 (binP .Add) (sVar 2) (sC (.str "A")), sC (.str ""), sC (.str "a b"), sC (.str "a1"), sC (.str "\n"), s2 (binP .Add) (sVar 2) (sC (.str "\n")), sC (.str "abcdefgh"), sC (.str "abcdefghi"), sC (.str "_"), sTup (sPl [sVar 2])]))])
theorem e__law_words (S : Str → SF) : runF d__law_words.N.length (stms (md.gs S) md.rz (cmp (md.gs S) 30) 30 d__law_words.si d__law_words.body) = t__law_words S := by kernel_rfl
theorem m__law_words (k : Nat) : md.sem (k + 1) "_law_words" = t__law_words (md.sem k) := (sem_succ (M := md) (d := d__law_words) rfl).trans (e__law_words _)
def g__law_word_so_1 (S : Str → SF) : SB := bTru (s2 (cmpT .NotIn) (sVar 2) (sVar 1))
def c__law_word_so_1 (S : Str → SF) : SE := sVar 2
def t__law_word_so (S : Str → SF) : SF := runF 3 (xSeqs [
  xAsg 1 (sC (.str "abcdefghijklmnopqrstuvwxyz")),
  xRet (sAnd (sIsi md.sub ["str"] (sVar 0)) (sAnd (sChain (cmpP .LtE) (cmpP .LtE) (sC (.int 1)) (s1 lenP (sVar 0)) (sC (.int 8))) (s2 (cmpT .Eq) (sLc (iVal (sVar 0)) [2] (bName 2) (g__law_word_so_1 S) (c__law_word_so_1 S)) (sLst (sPl [])))))])
theorem e__law_word_so (S : Str → SF) : runF d__law_word_so.N.length (stms (md.gs S) md.rz (cmp (md.gs S) 30) 30 d__law_word_so.si d__law_word_so.body) = t__law_word_so S := by kernel_rfl
theorem m__law_word_so (k : Nat) : md.sem (k + 1) "_law_word_so" = t__law_word_so (md.sem k) := (sem_succ (M := md) (d := d__law_word_so) rfl).trans (e__law_word_so _)
def g__law_looks_right_2 (S : Str → SF) : SB := bNot (bTru (sCall (S "_law_is_byte") ⟨1, [], [.pos 0], []⟩ (sArgs [sVar 4]) (sArgs [])))
def c__law_looks_right_2 (S : Str → SF) : SE := sVar 4
def f__law_looks_right_1 (S : Str → SF) : SS := xSeqs [xAsg 3 (sAnd (sIsi md.sub ["tuple"] (sVar 2)) (s2 (cmpT .Eq) (sLc (iVal (sVar 2)) [4] (bName 4) (g__law_looks_right_2 S) (c__law_looks_right_2 S)) (sLst (sPl [])))), xAsg 5 (sAnd (sIsi md.sub ["int"] (sVar 2)) (sNot (sIsi md.sub ["bool"] (sVar 2)))), xAsg 6 (sLst (sPl [sCall (S "is_bytes") ⟨1, [], [.pos 0], []⟩ (sArgs [sVar 2]) (sArgs []), sCall (S "is_bytes") ⟨0, ["thing"], [.kw 0], []⟩ (sArgs []) (sArgs [sVar 2]), sCall (S "is_whole") ⟨1, [], [.pos 0], []⟩ (sArgs [sVar 2]) (sArgs []), sCall (S "is_word") ⟨1, [], [.pos 0], []⟩ (sArgs [sVar 2]) (sArgs []), sCall (S "is_word") ⟨0, ["thing"], [.kw 0], []⟩ (sArgs []) (sArgs [sVar 2])])), xIf (bTru (s2 (cmpT .NotEq) (s1 reprP (sVar 6)) (s1 reprP (sLst (sPl [sVar 3, sVar 3, sVar 5, sCall (S "_law_word_so") ⟨1, [], [.pos 0], []⟩ (sArgs [sVar 2]) (sArgs []), sCall (S "_law_word_so") ⟨1, [], [.pos 0], []⟩ (sArgs [sVar 2]) (sArgs [])]))))) (xSeqs [xRet (sC (.bl false))]) (xSeqs [])]
def t__law_looks_right (S : Str → SF) : SF := runF 7 (xSeqs [
  xFor (iVal (s2 (binP .Add) (sCall (S "_law_items") ⟨2, [], [.pos 0, .pos 1], []⟩ (sArgs [sVar 0, sVar 1]) (sArgs [])) (sCall (S "_law_words") ⟨1, [], [.pos 0], []⟩ (sArgs [sVar 0]) (sArgs [])))) (bName 2) (f__law_looks_right_1 S),
  xRet (s2 (cmpT .Is) (sCall (S "is_whole") ⟨0, ["thing"], [.kw 0], []⟩ (sArgs []) (sArgs [sC (.int 3)])) (sC (.bl true)))])
theorem e__law_looks_right (S : Str → SF) : runF d__law_looks_right.N.length (stms (md.gs S) md.rz (cmp (md.gs S) 30) 30 d__law_looks_right.si d__law_looks_right.body) = t__law_looks_right S := by kernel_rfl
theorem m__law_looks_right (k : Nat) : md.sem (k + 1) "_law_looks_right" = t__law_looks_right (md.sem k) := (sem_succ (M := md) (d := d__law_looks_right) rfl).trans (e__law_looks_right _)
def f_law_3 (S : Str → SF) : SS := xSeqs [xAsg 7 (sCall (S "_law_of_number") ⟨3, [], [.pos 0, .pos 1, .pos 2], []⟩ (sArgs [sVar 5, sVar 3, sVar 6]) (sArgs [])), xIf (bOr (bTru (s2 (cmpT .NotEq) (sCall (S "bytes_of") ⟨2, ["order"], [.pos 0, .pos 1, .kw 0], []⟩ (sArgs [sVar 5, sVar 3]) (sArgs [sVar 6])) (sVar 7))) (bTru (s2 (cmpT .NotEq) (sCall (S "number_in") ⟨1, ["order"], [.pos 0, .kw 0], []⟩ (sArgs [sVar 7]) (sArgs [sVar 6])) (sVar 5)))) (xSeqs [xRet (sC (.bl false))]) (xSeqs []), xIf (bOr (bTru (s2 (cmpT .NotEq) (sCall (S "bytes_of") ⟨0, ["size", "order", "number"], [.kw 2, .kw 0, .kw 1], []⟩ (sArgs []) (sArgs [sVar 3, sVar 6, sVar 5])) (sVar 7))) (bTru (s2 (cmpT .NotEq) (sCall (S "number_in") ⟨0, ["order", "some"], [.kw 1, .kw 0], []⟩ (sArgs []) (sArgs [sVar 6, sVar 7])) (sVar 5)))) (xSeqs [xRet (sC (.bl false))]) (xSeqs [])]
def f_law_2 (S : Str → SF) : SS := xSeqs [xFor (iVal (sLst (sPl [sC (.str "big"), sC (.str "small")]))) (bName 6) (f_law_3 S), xAsg 7 (sCall (S "_law_of_number") ⟨3, [], [.pos 0, .pos 1, .pos 2], []⟩ (sArgs [sVar 5, sVar 3, sC (.str "big")]) (sArgs [])), xIf (bOr (bTru (s2 (cmpT .NotEq) (sCall (S "bytes_of") ⟨2, [], [.pos 0, .pos 1, .df 0], [.str "big"]⟩ (sArgs [sVar 5, sVar 3]) (sArgs [])) (sVar 7))) (bTru (s2 (cmpT .NotEq) (sCall (S "number_in") ⟨1, [], [.pos 0, .df 0], [.str "big"]⟩ (sArgs [sVar 7]) (sArgs [])) (sCall (S "number_in") ⟨1, ["order"], [.pos 0, .kw 0], []⟩ (sArgs [s1 revP (sVar 7)]) (sArgs [sC (.str "small")]))))) (xSeqs [xRet (sC (.bl false))]) (xSeqs [])]
def f_law_5 (S : Str → SF) : SS := xSeqs [xIf (bNot (bTru (sCall (S "_law_refused") ⟨3, [], [.pos 0, .pos 1, .pos 2], []⟩ (sArgs [sVar 8, sVar 3, sVar 6]) (sArgs [])))) (xSeqs [xRet (sC (.bl false))]) (xSeqs [])]
def f_law_4 (S : Str → SF) : SS := xSeqs [xFor (iVal (sLst (sPl [sC (.str "big"), sC (.str "small")]))) (bName 6) (f_law_5 S)]
def f_law_1 (S : Str → SF) : SS := xSeqs [xAsg 2 (sCall (S "_law_left") ⟨1, [], [.pos 0], []⟩ (sArgs [sVar 1]) (sArgs [])), xAsg 3 (s2 (binP .Add) (sC (.int 1)) (sCall (S "_law_digit") ⟨2, [], [.pos 0, .pos 1], []⟩ (sArgs [sVar 2, sC (.int 4)]) (sArgs []))), xAsg 4 (s2 (binP .LShift) (sC (.int 1)) (s2 (binP .Mult) (sC (.int 8)) (sVar 3))), xFor (iVal (sLst (sPl [sC (.int 0), sC (.int 1), sC (.int 255), s2 (binP .Sub) (sVar 4) (sC (.int 1)), s2 (binP .FloorDiv) (sVar 4) (sC (.int 2)), sCall (S "_law_digit") ⟨2, [], [.pos 0, .pos 1], []⟩ (sArgs [sVar 2, sVar 4]) (sArgs []), sCall (S "_law_digit") ⟨2, [], [.pos 0, .pos 1], []⟩ (sArgs [sVar 2, sVar 4]) (sArgs [])]))) (bName 5) (f_law_2 S), xFor (iVal (sLst (sPl [sVar 4, s1 negP (sC (.int 1)), s2 (binP .Add) (sVar 4) (sC (.int 255)), sC .non, sC (.bl true), sC (.str "1"), sTup (sPl [sC (.int 1)]), s2 (binP .Pow) (sC (.int 10)) (sC (.int 40)), sLst (sPl [sC (.int 0)])]))) (bName 8) (f_law_4 S), xIf (bNot (bTru (sCall (S "_law_looks_right") ⟨2, [], [.pos 0, .pos 1], []⟩ (sArgs [sVar 2, sCall (S "bytes_of") ⟨2, [], [.pos 0, .pos 1, .df 0], [.str "big"]⟩ (sArgs [sCall (S "_law_digit") ⟨2, [], [.pos 0, .pos 1], []⟩ (sArgs [sVar 2, sVar 4]) (sArgs []), sVar 3]) (sArgs [])]) (sArgs [])))) (xSeqs [xRet (sC (.bl false))]) (xSeqs [])]
def t_law (S : Str → SF) : SF := runF 9 (xSeqs [
  xFor (iVal (s2 (binP .Add) (sSl (sVar 0) (sC .non) (sPart (sC (.int 20)))) (sLst (sPl [sC (.int 4)])))) (bName 1) (f_law_1 S),
  xRet (sC (.bl true))])
theorem e_law (S : Str → SF) : runF d_law.N.length (stms (md.gs S) md.rz (cmp (md.gs S) 30) 30 d_law.si d_law.body) = t_law S := by kernel_rfl
theorem m_law (k : Nat) : md.sem (k + 1) "law" = t_law (md.sem k) := (sem_succ (M := md) (d := d_law) rfl).trans (e_law _)
end K01

/-! ## text K01b -/
set_option Elab.async false
set_option linter.all false
set_option maxRecDepth 100000
set_option autoImplicit false
namespace K01
open PySem PySem.Spec PyProof.Rows L2 Pv
/-! ### what the defs compute -/
def okT (x : Pd) : Prop := (tyP x).isSome = true
def isW : Pd → Bool
  | .int _ => true
  | _ => false
def isF (lo hi : Int) : Pd → Bool
  | .int i => decide (lo ≤ i) && decide (i ≤ hi)
  | _ => false
theorem q_is_whole {k : Nat} {x : Pd} (hx : okT x) : md.sem (k + 1) "is_whole" [.p x] [] = .ok (.p (.bl (isW x))) [] := by
  rw [m_is_whole]
  cases x <;> first | rfl | cases hx
theorem isi_int {h : Hs} {i : Int} : isiT md.sub ["int"] (.p (.int i)) h = some true := rfl
theorem isi_bool {h : Hs} {i : Int} : isiT md.sub ["bool"] (.p (.int i)) h = some false := rfl
theorem q_law_is_byte {k : Nat} {x : Pd} (hx : okT x) : md.sem (k + 1) "_law_is_byte" [.p x] [] = .ok (.p (.bl (isF 0 255 x))) [] := by
  rw [m__law_is_byte]
  cases x <;> first | cases hx | skip
  case int i =>
    simp [t__law_is_byte, runF_ev, entry, isi_int, isi_bool, cmpP, ordP, isF]
    by_cases h1 : 0 ≤ i
    · simp [h1]
      by_cases h2 : i < 256
      · simp [h2]; omega
      · simp [h2]; omega
    · simp [h1]
  all_goals rfl
theorem q_is_from {k : Nat} {x : Pd} (hx : okT x) {lo hi : Int} : md.sem (k + 2) "is_from" [.p x, .p (.int lo), .p (.int hi)] [] = .ok (.p (.bl (isF lo hi x))) [] := by
  rw [m_is_from]
  have e := q_is_whole (k := k) hx
  cases x <;> first | cases hx | skip
  case int i =>
    simp [t_is_from, runF_ev, entry, cmpP, ordP, isF, e, isW]
    by_cases h1 : lo ≤ i <;> simp [h1]
  all_goals (simp [t_is_from, runF_ev, entry, cmpP, ordP, isF, e, isW])
def isB : Pd → Bool
  | .tup xs => xs.all (isF 0 255)
  | _ => false
theorem all_id {p : Pd → Bool} (xs : List Pd) : (xs.map p).all id = xs.all p := by
  rw [List.all_map]
  rfl
theorem isi_tup {h : Hs} {xs : List Pd} : isiT md.sub ["tuple"] (.p (.tup xs)) h = some true := rfl
/-- items of a tuple that is asked -/
def okX (x : Pd) : Prop := okT x ∧ (∀ xs, x = .tup xs → (∀ y, y ∈ xs → okT y) ∧ xs.length ≤ 1000 ∧ flats 50 xs = true) ∧ ∀ z, x = .str z → z.length ≤ 1000
theorem q_is_bytes {k : Nat} {x : Pd} (hx : okX x) : md.sem (k + 3) "is_bytes" [.p x] [] = .ok (.p (.bl (isB x))) [] := by
  rw [m_is_bytes]
  obtain ⟨hx, ht, hs⟩ := hx
  cases x <;> first | cases hx | skip
  case tup xs =>
    obtain ⟨h1, h2, _⟩ := ht xs rfl
    simp [t_is_bytes, runF_ev, entry, isi_tup]
    rw [compGo_map (fun _ => true) (fun y => .bl (isF 0 255 y)) ?g ?l]
    case g =>
      intro y hy
      refine ⟨_, rfl, rfl, fun _ => ⟨.p (.bl (isF 0 255 y)), ?_, rfl⟩⟩
      have e := q_is_from (k := k) (h1 y hy) (lo := 0) (hi := 255)
      simp [c_is_bytes_1, e]
    case l => simp; omega
    simp [allP, bls_map (p := isF 0 255), all_id, isB]
  all_goals rfl
/-- a width, its top -/
def WT (W T : Int) : Prop := (W = 1 ∧ T = 256) ∨ (W = 2 ∧ T = 65536) ∨ (W = 3 ∧ T = 16777216) ∨ (W = 4 ∧ T = 4294967296)
/-- the bytes, the least first -/
def dgs (W n : Int) : List Int := match W.toNat with
  | 1 => [n % 256]
  | 2 => [n % 256, n / 256 % 256]
  | 3 => [n % 256, n / 256 % 256, n / 65536 % 256]
  | _ => [n % 256, n / 256 % 256, n / 65536 % 256, n / 16777216 % 256]
theorem q_bytes_of {k : Nat} {n W T : Int} {way : Str} (hw : WT W T) (h0 : 0 ≤ n) (h1 : n < T) : md.sem (k + 3) "bytes_of" [.p (.int n), .p (.int W), .p (.str way)] [] = .ok (.p (.tup ((if way = "small" then dgs W n else (dgs W n).reverse).map .int))) [] := by
  rw [m_bytes_of]
  have e := q_is_from (k := k) (x := .int n) rfl (lo := 0) (hi := T - 1)
  have hf : isF 0 (T - 1) (.int n) = true := by
    simp [isF]
    omega
  rw [hf] at e
  have hn := h1
  obtain ⟨rfl, rfl⟩ | ⟨rfl, rfl⟩ | ⟨rfl, rfl⟩ | ⟨rfl, rfl⟩ := hw
  all_goals
    simp at e
    simp [t_bytes_of, c_bytes_of_1, runF_ev, entry, e, show rngP 0 1 = [.int 0] from rfl, show rngP 0 2 = [.int 0, .int 1] from rfl, show rngP 0 3 = [.int 0, .int 1, .int 2] from rfl, show rngP 0 4 = [.int 0, .int 1, .int 2, .int 3] from rfl]
    by_cases hs : way = "small" <;> simp [hs, dgs]
theorem q_bytes_no {k : Nat} {x : Pd} {W T : Int} {way : Str} (hw : WT W T) (hx : okT x) (hf : isF 0 (T - 1) x = false) : md.sem (k + 3) "bytes_of" [.p x, .p (.int W), .p (.str way)] [] = .exc "NoNumber" [] [] := by
  rw [m_bytes_of]
  have e := q_is_from (k := k) hx (lo := 0) (hi := T - 1)
  rw [hf] at e
  obtain ⟨rfl, rfl⟩ | ⟨rfl, rfl⟩ | ⟨rfl, rfl⟩ | ⟨rfl, rfl⟩ := hw
  all_goals
    simp at e
    simp [t_bytes_of, c_bytes_of_1, runF_ev, entry, e]
def numB (ds : List Int) : Int := ds.foldl (fun a d => a * 256 + d) 0
theorem forNum {S : Str → SF} {way : Pd} {x : Pd} {h : Hs} : ∀ (ds : List Int) (a : Int) (z : Option Th), ∃ z', forGo (bName 3) (f_number_in_1 S) (ds.map .int) [some (.p x), some (.p way), some (.p (.int a)), z] h = .nx [some (.p x), some (.p way), some (.p (.int (ds.foldl (fun a d => a * 256 + d) a))), z'] h
  | [], a, z => ⟨z, rfl⟩
  | d :: ds, a, z => by
    obtain ⟨z', e⟩ := forNum (S := S) (way := way) (x := x) (h := h) ds (a * 256 + d) (some (.p (.int d)))
    refine ⟨z', ?_⟩
    simp [f_number_in_1] at e
    simp [f_number_in_1, e]
theorem q_number_in {k : Nat} {ds : List Int} {way : Str} : md.sem (k + 1) "number_in" [.p (.tup (ds.map .int)), .p (.str way)] [] = .ok (.p (.int (numB (if way = "big" then ds else ds.reverse)))) [] := by
  rw [m_number_in]
  by_cases hs : way = "big"
  · obtain ⟨z', e⟩ := forNum (S := md.sem k) (x := .tup (ds.map .int)) (way := .str way) (h := List.replicate 4 .dead) ds 0 none
    simp [hs] at e
    simp [t_number_in, runF_ev, entry, hs, e, numB]
  · obtain ⟨z', e⟩ := forNum (S := md.sem k) (x := .tup (ds.map .int)) (way := .str way) (h := List.replicate 4 .dead) ds.reverse 0 none
    simp at e
    simp [t_number_in, runF_ev, entry, hs, e, numB]
theorem num_big {n W T : Int} (hw : WT W T) (h0 : 0 ≤ n) (h1 : n < T) : numB (dgs W n).reverse = n := by
  obtain ⟨rfl, rfl⟩ | ⟨rfl, rfl⟩ | ⟨rfl, rfl⟩ | ⟨rfl, rfl⟩ := hw
  all_goals
    simp [numB, dgs]
    omega
theorem q_law_of_number {k : Nat} {n W T : Int} {way : Str} (hw : WT W T) : md.sem (k + 1) "_law_of_number" [.p (.int n), .p (.int W), .p (.str way)] [] = .ok (.p (.tup ((if way = "small" then dgs W n else (dgs W n).reverse).map .int))) [] := by
  rw [m__law_of_number]
  obtain ⟨rfl, rfl⟩ | ⟨rfl, rfl⟩ | ⟨rfl, rfl⟩ | ⟨rfl, rfl⟩ := hw
  all_goals
    simp [t__law_of_number, f__law_of_number_1, runF_ev, entry, show rngP 0 1 = [.int 0] from rfl, show rngP 0 2 = [.int 0, .int 1] from rfl, show rngP 0 3 = [.int 0, .int 1, .int 2] from rfl, show rngP 0 4 = [.int 0, .int 1, .int 2, .int 3] from rfl, bitAnd_m8]
    by_cases hs : way = "small" <;> simp [hs, dgs]
theorem q_law_refused {k : Nat} {x : Pd} {W T : Int} {way : Str} (hw : WT W T) (hx : okT x) (hf : isF 0 (T - 1) x = false) : md.sem (k + 4) "_law_refused" [.p x, .p (.int W), .p (.str way)] [] = .ok (.p (.bl true)) [] := by
  rw [m__law_refused]
  have e := q_bytes_no (k := k) (way := way) hw hx hf
  have s1 : md.sub "NoNumber" "NoNumber" = some true := rfl
  have i1 : ∀ h, isiT md.sub ["BenchError"] (.exc "NoNumber" []) h = some true := fun h => rfl
  have i2 : ∀ h, isiT md.sub ["ValueError"] (.exc "NoNumber" []) h = some true := fun h => rfl
  have i3 : ∀ h, isiT md.sub ["NoKind", "NoWorth"] (.exc "NoNumber" []) h = some false := fun h => rfl
  simp [t__law_refused, runF_ev, entry, e, s1, i1, i2, i3]
theorem q_law_digit {k : Nat} {n w : Int} (h0 : 0 < w) (h1 : w.natAbs.log2 < 9000) : md.sem (k + 1) "_law_digit" [.ref 0, .p (.int w)] [.own (.lst [.int n])] = .ok (.p (.int (n % w))) [.own (.lst [.int (n / w)])] := by
  rw [m__law_digit]
  simp [t__law_digit, runF_ev, entry, h0, h1, ixP, atI, ixN]
theorem q_law_left {k : Nat} {c : Int} : ∃ n : Int, md.sem (k + 1) "_law_left" [.p (.int c)] [] = .ok (.tmp (.lst [.int n])) [] := by
  rw [m__law_left]
  by_cases h : (if c < 0 then -c else c) < 1000000000000000000
  · obtain ⟨δ', h', e, n, z2, z3, rfl, rfl⟩ := forGo_goes (b := bName 3) (body := f__law_left_1 (md.sem k))
      (fun δ h => ∃ (n : Int) (z2 : Int) (z3 : Option Th), δ = [some (.p (.int c)), some (.p (.int n)), some (.p (.int z2)), z3] ∧ h = List.replicate 4 .dead) (xs := rngP 0 40) (δ := [some (.p (.int c)), some (.p (.int (if c < 0 then -c else c))), some (.p (.int c)), none]) (h := List.replicate 4 .dead) ⟨_, _, _, rfl, rfl⟩ (fun x δ h hx hI => by
        obtain ⟨n, z2, z3, rfl, rfl⟩ := hI
        obtain ⟨k, hk, rfl⟩ := mem_rng (n := 40) hx
        simp [goes, f__law_left_1])
    refine ⟨n, ?_⟩
    simp at e
    simp [t__law_left, runF_ev, entry, h, e]
  · exact ⟨if c < 0 then -c else c, by simp [t__law_left, runF_ev, entry, h]⟩
/-! ### words -/
abbrev LET : Str := "abcdefghijklmnopqrstuvwxyz"
def inL (c : Nat) : Bool := decide (c ∈ LET.cps.toList)
def isWd (z : Str) : Bool := decide (1 ≤ z.length) && (decide (z.length ≤ 8) && z.cps.toList.all inL)
def isWdP : Pd → Bool
  | .str z => isWd z
  | _ => false
def gW : Pd → Pd
  | .str ⟨⟨[c]⟩⟩ => .bl (inL c)
  | x => x
theorem isi_str {h : Hs} {z : Str} : isiT md.sub ["str"] (.p (.str z)) h = some true := rfl
theorem in_let {c : Nat} : cmpP .In (.str ⟨#[c]⟩) (.str LET) = some (inL c) := rfl
theorem nin_let {c : Nat} : cmpP .NotIn (.str ⟨#[c]⟩) (.str LET) = some (!inL c) := rfl
theorem len_list (z : Str) : z.cps.toList.length = z.length := Array.length_toList
theorem filt_all {α : Type} {p : α → Bool} : ∀ xs : List α, (xs.filter fun c => !p c).isEmpty = xs.all p
  | [] => rfl
  | x :: xs => by
    cases h : p x with
    | true => rw [List.filter_cons_of_neg (by simp [h]), filt_all xs, List.all_cons, h, Bool.true_and]
    | false => rw [List.filter_cons_of_pos (by simp [h]), List.all_cons, h]; rfl
theorem q_is_word {k : Nat} {x : Pd} (hx : okT x) : md.sem (k + 1) "is_word" [.p x] [] = .ok (.p (.bl (isWdP x))) [] := by
  rw [m_is_word]
  cases x <;> first | cases hx | skip
  case str z =>
    by_cases h1 : (1 : Int) ≤ (z.length : Int)
    · by_cases h2 : (z.length : Int) ≤ 8
      · simp [t_is_word, runF_ev, entry, isi_str, isWdP, isWd, h1, h2]
        rw [compGo_map (fun _ => true) gW ?g ?l]
        case g =>
          intro y hy
          obtain ⟨c, _, rfl⟩ := List.mem_map.mp hy
          refine ⟨_, rfl, rfl, fun _ => ⟨.p (.bl (inL c)), ?_, rfl⟩⟩
          simp [c_is_word_1, in_let]
        case l =>
          rw [List.length_map, len_list]
          show 0 + z.length ≤ _
          omega
        have e : ((z.cps.toList.map fun c => Pd.str ⟨#[c]⟩).filter fun _ => true).map gW = z.cps.toList.map fun c => .bl (inL c) := by
          rw [List.filter_eq_self.mpr (fun _ _ => rfl), List.map_map]
          rfl
        rw [e]
        have h3 : 1 ≤ z.length := by omega
        have h4 : z.length ≤ 8 := by omega
        simp [h1, h2, h3, h4, allP, bls_map (p := inL)]
      · have h4 : ¬ z.length ≤ 8 := by omega
        have h3 : 1 ≤ z.length := by omega
        simp [t_is_word, runF_ev, entry, isi_str, isWdP, isWd, h1, h2, h3, h4]
    · have h3 : ¬ 1 ≤ z.length := by omega
      simp [t_is_word, runF_ev, entry, isi_str, isWdP, isWd, h1, h3]
  all_goals rfl
theorem q_law_word_so {k : Nat} {x : Pd} (hx : okT x) : md.sem (k + 1) "_law_word_so" [.p x] [] = .ok (.p (.bl (isWdP x))) [] := by
  rw [m__law_word_so]
  cases x <;> first | cases hx | skip
  case str z =>
    by_cases h1 : (1 : Int) ≤ (z.length : Int)
    · by_cases h2 : (z.length : Int) ≤ 8
      · simp [t__law_word_so, runF_ev, entry, isi_str, isWdP, isWd, h1, h2]
        rw [compGo_map (fun y => match gW y with | .bl b => !b | _ => true) id ?g ?l]
        case g =>
          intro y hy
          obtain ⟨c, _, rfl⟩ := List.mem_map.mp hy
          refine ⟨_, rfl, ?_, fun _ => ⟨.p (.str ⟨#[c]⟩), rfl, rfl⟩⟩
          simp [g__law_word_so_1, nin_let, gW]
        case l =>
          rw [List.length_map, len_list]
          show 0 + z.length ≤ _
          omega
        have h3 : 1 ≤ z.length := by omega
        have h4 : z.length ≤ 8 := by omega
        have e : ((z.cps.toList.map fun c => Pd.str ⟨#[c]⟩).filter fun y => match gW y with | .bl b => !b | _ => true) = (z.cps.toList.filter fun c => !inL c).map fun c => Pd.str ⟨#[c]⟩ := by
          rw [List.filter_map]
          rfl
        have f : flat 60 (.lst ((z.cps.toList.filter fun c => !inL c).map fun c => Pd.str ⟨#[c]⟩)) = true := flat_lst (flats_of fun y hy => by
          obtain ⟨c, _, rfl⟩ := List.mem_map.mp hy
          unfold flat
          rfl)
        rw [e]
        simp [h1, h2, h3, h4]
        rw [eq_xx f (flat_lst (flats_of fun y hy => by cases hy)), eqP_nil]
        simp
        rw [filt_all, Array.all_toList]
      · have h4 : ¬ z.length ≤ 8 := by omega
        have h3 : 1 ≤ z.length := by omega
        simp [t__law_word_so, runF_ev, entry, isi_str, isWdP, isWd, h1, h2, h3, h4]
    · have h3 : ¬ 1 ≤ z.length := by omega
      simp [t__law_word_so, runF_ev, entry, isi_str, isWdP, isWd, h1, h3]
  all_goals rfl
/-! ### the things -/
theorem ok_sub {xs : List Pd} (h : ∀ y, y ∈ xs → okT y ∧ flat 40 y = true) (l : xs.length ≤ 1000) : okX (.tup xs) := ⟨rfl, fun ys e => by
  cases e
  exact ⟨fun y hy => (h y hy).1, l, flats_of fun y hy => flat_up (by omega) y (h y hy).2⟩, fun z e => by cases e⟩
theorem ok_one {x : Pd} (h : okT x) (h1 : ∀ xs, x ≠ .tup xs) (h2 : ∀ z, x ≠ .str z) : okX x := ⟨h, fun xs e => absurd e (h1 xs), fun z e => absurd e (h2 z)⟩
theorem ok_str {z : Str} (h : z.length ≤ 1000) : okX (.str z) := ⟨rfl, fun xs e => (nomatch e), fun y e => by cases e; exact h⟩
theorem q_law_items {k : Nat} {n : Int} {ds : List Int} (hl : ds.length ≤ 4) : ∃ xs n', md.sem (k + 2) "_law_items" [.ref 0, .p (.tup (ds.map .int))] [.own (.lst [.int n])] = .ok (.tmp (.lst xs)) [.own (.lst [.int n'])] ∧ (∀ x, x ∈ xs → okX x) ∧ xs.length ≤ 100 := by
  rw [m__law_items]
  have e := q_law_digit (k := k) (n := n) (w := 300) (by decide) (by decide)
  have h1 : ds.length + 1 ≤ 16777216 := by omega
  have hint : ∀ y, y ∈ ds.map Pd.int → okT y ∧ flat 40 y = true := fun y hy => by
    obtain ⟨i, _, rfl⟩ := List.mem_map.mp hy
    exact ⟨rfl, by unfold flat; rfl⟩
  have happ : ∀ x, okT x → flat 40 x = true → okX (.tup (ds.map .int ++ [x])) := fun x h2 h3 => ok_sub (fun y hy => by
    rcases List.mem_append.mp hy with hy | hy
    · exact hint y hy
    · rw [List.mem_singleton.mp hy]; exact ⟨h2, h3⟩) (by simp; omega)
  refine ⟨[.tup (ds.map .int), .lst (ds.map .int), .tup (ds.map .int ++ [.int 256]), .tup (ds.map .int ++ [.int (-1)]), .tup (ds.map .int ++ [.bl true]), .tup [.non], .non, .int 5, .str "ab", .tup (ds.map .int ++ [.str "1"]), .tup [], .tup [.tup (ds.map .int)], .dct [] [], .tup (cutP (ds.map .int) none (some 1)), .bl true, .int 0, .int (-7), .int 1000000000000000000000000000000, .tup [.int (n % 300)]], n / 300, ?_, ?_, by simp⟩
  · simp [t__law_items, runF_ev, entry, e, h1, slP]
  · intro x hx
    simp only [List.mem_cons, List.not_mem_nil, or_false] at hx
    rcases hx with rfl | rfl | rfl | rfl | rfl | rfl | rfl | rfl | rfl | rfl | rfl | rfl | rfl | rfl | rfl | rfl | rfl | rfl | rfl
    · exact ok_sub hint (by simp; omega)
    · exact ok_one rfl (fun _ e => nomatch e) (fun _ e => nomatch e)
    · exact happ _ rfl (by unfold flat; rfl)
    · exact happ _ rfl (by unfold flat; rfl)
    · exact happ _ rfl (by unfold flat; rfl)
    · exact ok_sub (fun y hy => by rw [List.mem_singleton.mp hy]; exact ⟨rfl, by unfold flat; rfl⟩) (by decide)
    · exact ok_one rfl (fun _ e => nomatch e) (fun _ e => nomatch e)
    · exact ok_one rfl (fun _ e => nomatch e) (fun _ e => nomatch e)
    · exact ok_str (by decide)
    · exact happ _ rfl (by unfold flat; rfl)
    · exact ok_sub (fun y hy => by cases hy) (by decide)
    · exact ok_sub (fun y hy => by rw [List.mem_singleton.mp hy]; exact ⟨rfl, flat_tup (n := 39) (flats_of fun z hz => by
        obtain ⟨i, _, rfl⟩ := List.mem_map.mp hz
        unfold flat
        rfl)⟩) (by simp)
    · exact ok_one rfl (fun _ e => nomatch e) (fun _ e => nomatch e)
    · exact ok_sub (fun y hy => hint y (cut_mem hy)) (Nat.le_trans cut_len (by simp; omega))
    · exact ok_one rfl (fun _ e => nomatch e) (fun _ e => nomatch e)
    · exact ok_one rfl (fun _ e => nomatch e) (fun _ e => nomatch e)
    · exact ok_one rfl (fun _ e => nomatch e) (fun _ e => nomatch e)
    · exact ok_one rfl (fun _ e => nomatch e) (fun _ e => nomatch e)
    · exact ok_sub (fun y hy => by rw [List.mem_singleton.mp hy]; exact ⟨rfl, by unfold flat; rfl⟩) (by simp)
theorem ones_of : ∀ {ys : List Pd}, (∀ y, y ∈ ys → ∃ c, inL c = true ∧ y = .str ⟨#[c]⟩) → ∃ zs : List Str, ys = zs.map .str ∧ ∀ z, z ∈ zs → z.length = 1 ∧ PyData.strOk z = true
  | [], _ => ⟨[], rfl, fun z hz => by cases hz⟩
  | y :: ys, h => by
    obtain ⟨c, hc, rfl⟩ := h y (.head _)
    obtain ⟨zs, rfl, hz⟩ := ones_of fun z hz => h z (.tail _ hz)
    refine ⟨⟨#[c]⟩ :: zs, rfl, fun z hm => ?_⟩
    rcases List.mem_cons.mp hm with e | hm
    · rw [e]
      refine ⟨rfl, ?_⟩
      have k : ∀ c, c ∈ LET.cps.toList → c < 0x110000 := by decide
      have k1 := k c (of_decide_eq_true hc)
      show (#[c]).all (· < 0x110000) = true
      simpa using k1
    · exact hz z hm
theorem q_law_words {k : Nat} {n : Int} : ∃ xs n', md.sem (k + 2) "_law_words" [.ref 0] [.own (.lst [.int n])] = .ok (.tmp (.lst xs)) [.own (.lst [.int n'])] ∧ (∀ x, x ∈ xs → okX x) ∧ xs.length ≤ 100 := by
  rw [m__law_words]
  have e := q_law_digit (k := k) (n := n) (w := 9) (by decide) (by decide)
  have m0 : 0 ≤ n % 9 := Int.emod_nonneg _ (by decide)
  have m1 : n % 9 < 9 := Int.emod_lt_of_pos _ (by decide)
  obtain ⟨ys, h', q1, ⟨n2, q2⟩, q3, q4⟩ := compGo_inv (b := bName 3) (t := bYes) (e := c__law_words_1 (md.sem (k + 1))) (δ := [some (.ref 4), some (.p (.str LET)), none, none]) (fun h => ∃ n2, h = [.dead, .dead, .dead, .dead, .own (.lst [.int n2])]) (fun y => ∃ c, inL c = true ∧ y = .str ⟨#[c]⟩) (xs := rngP 0 (1 + n % 9)) (acc := []) (h := [.dead, .dead, .dead, .dead, .own (.lst [.int (n / 9)])]) ⟨_, rfl⟩ (fun y hy => by cases hy)
    (fun x h hx ⟨n2, hI⟩ => by
      subst hI
      obtain ⟨j, _, rfl⟩ : ∃ j : Nat, j ∈ List.range (1 + n % 9 - 0).toNat ∧ Pd.int (0 + (j : Int)) = x := by
        unfold rngP at hx
        exact List.mem_map.mp hx
      have e2 := q_law_digit (k := k) (n := n2) (w := 26) (by decide) (by decide)
      have l0 : 0 ≤ n2 % 26 := Int.emod_nonneg _ (by decide)
      have l1 : n2 % 26 < 26 := Int.emod_lt_of_pos _ (by decide)
      have hat : ∃ c, atI LET.cps.toList (n2 % 26) = some c ∧ inL c = true := by
        have hj : (n2 % 26).toNat < LET.cps.toList.length := by
          have : LET.cps.toList.length = 26 := by decide
          omega
        have q := atI_nat (xs := LET.cps.toList) (j := (n2 % 26).toNat) (v := LET.cps.toList[(n2 % 26).toNat]) (List.getElem?_eq_getElem hj)
        rw [Int.toNat_of_nonneg l0] at q
        exact ⟨_, q, decide_eq_true (List.getElem_mem hj)⟩
      obtain ⟨c, hc, hin⟩ := hat
      refine ⟨_, .p (.str ⟨#[c]⟩), _, [.dead, .dead, .dead, .dead, .own (.lst [.int (n2 / 26)])], .str ⟨#[c]⟩, [.dead, .dead, .dead, .dead, .own (.lst [.int (n2 / 26)])], rfl, rfl, ?_, rfl, ⟨_, rfl⟩, c, hin, rfl⟩
      simp [c__law_words_1, e2, ixP, hc]) (by
        show 0 + (rngP 0 (1 + n % 9)).length ≤ _
        unfold rngP
        rw [List.length_map, List.length_range]
        omega)
  subst q2
  obtain ⟨zs, rfl, hz⟩ := ones_of q4
  have hlen : zs.length ≤ 9 := by
    have : (zs.map Pd.str).length = 0 + (rngP 0 (1 + n % 9)).length := q3
    unfold rngP at this
    rw [List.length_map, List.length_map, List.length_range] at this
    omega
  have jl : (Txt.join (Str.ofString "") zs).length = zs.length := by
    rw [join_eq, sjoin_len rfl, sum_ones fun z h => (hz z h).1]
  have jo : PyData.strOk (Txt.join (Str.ofString "") zs) = true := by
    rw [join_eq]
    exact sjoin_ok (by decide +kernel) zs fun z h => (hz z h).2
  have hj : joinP (Str.ofString "") (.lst (zs.map .str)) = some (.p (.str (Txt.join (Str.ofString "") zs))) := by
    unfold joinP
    rw [items_lst]
    dsimp only
    rw [Pv.strs_map]
    dsimp only
    refine if_pos ⟨?_, jo, by omega, rfl⟩
    rw [sum_ones fun z h => (hz z h).1]
    have : (Str.ofString "").length = 0 := rfl
    rw [this]
    omega
  generalize Txt.join (Str.ofString "") zs = one at jl jo hj
  have c1 : one.length ≤ 9 := by omega
  have c2 : (cutS one none (some 8)).length ≤ 9 := Nat.le_trans cutS_len c1
  have lA : (Str.ofString "A").length = 1 := rfl
  have lN : (Str.ofString "\n").length = 1 := rfl
  have b1 : one.length + (Str.ofString "A").length ≤ 16777216 := by rw [lA]; omega
  have b2 : one.length + (Str.ofString "\n").length ≤ 16777216 := by rw [lN]; omega
  refine ⟨[.str one, .str (cutS one none (some 8)), .str (one ++ Str.ofString "A"), .str "", .str "a b", .str "a1", .str "\n", .str (one ++ Str.ofString "\n"), .str "abcdefgh", .str "abcdefghi", .str "_", .tup [.str one]], n2, ?_, ?_, by simp⟩
  · have g1 : -4611686018427387904 ≤ 1 + n % 9 := by omega
    have g2 : 1 + n % 9 < 4611686018427387904 := by omega
    simp [t__law_words, runF_ev, entry, e, g1, g2, q1, hj, slP, b1, b2]
  · intro x hx
    simp only [List.mem_cons, List.not_mem_nil, or_false] at hx
    rcases hx with rfl | rfl | rfl | rfl | rfl | rfl | rfl | rfl | rfl | rfl | rfl | rfl
    · exact ok_str (by omega)
    · exact ok_str (by omega)
    · exact ok_str (by rw [app_len, lA]; omega)
    · exact ok_str (by decide)
    · exact ok_str (by decide)
    · exact ok_str (by decide)
    · exact ok_str (by decide)
    · exact ok_str (by rw [app_len, lN]; omega)
    · exact ok_str (by decide)
    · exact ok_str (by decide)
    · exact ok_str (by decide)
    · exact ok_sub (fun y hy => by rw [List.mem_singleton.mp hy]; exact ⟨rfl, by unfold flat; rfl⟩) (by simp)
/-! ### all of them -/
theorem rep5' : ∀ a b c : Bool, (reprP (.lst [.bl a, .bl a, .bl b, .bl c, .bl c])).isSome = true := by decide +kernel
theorem rep5 (a b c : Bool) : ∃ s, reprP (.lst [.bl a, .bl a, .bl b, .bl c, .bl c]) = some (.p (.str s)) := by
  obtain ⟨r, e⟩ := Option.isSome_iff_exists.mp (rep5' a b c)
  rw [e]
  unfold reprP at e
  split at e
  · cases e
    exact ⟨_, rfl⟩
  · cases e
def duE (S : Str → SF) : SE := sAnd (sIsi md.sub ["tuple"] (sVar 2)) (s2 (cmpT .Eq) (sLc (iVal (sVar 2)) [4] (bName 4) (g__law_looks_right_2 S) (c__law_looks_right_2 S)) (sLst (sPl [])))
def whE : SE := sAnd (sIsi md.sub ["int"] (sVar 2)) (sNot (sIsi md.sub ["bool"] (sVar 2)))
theorem f_eq (S : Str → SF) : f__law_looks_right_1 S = xSeqs [xAsg 3 (duE S), xAsg 5 whE, xAsg 6 (sLst (sPl [sCall (S "is_bytes") ⟨1, [], [.pos 0], []⟩ (sArgs [sVar 2]) (sArgs []), sCall (S "is_bytes") ⟨0, ["thing"], [.kw 0], []⟩ (sArgs []) (sArgs [sVar 2]), sCall (S "is_whole") ⟨1, [], [.pos 0], []⟩ (sArgs [sVar 2]) (sArgs []), sCall (S "is_word") ⟨1, [], [.pos 0], []⟩ (sArgs [sVar 2]) (sArgs []), sCall (S "is_word") ⟨0, ["thing"], [.kw 0], []⟩ (sArgs []) (sArgs [sVar 2])])), xIf (bTru (s2 (cmpT .NotEq) (s1 reprP (sVar 6)) (s1 reprP (sLst (sPl [sVar 3, sVar 3, sVar 5, sCall (S "_law_word_so") ⟨1, [], [.pos 0], []⟩ (sArgs [sVar 2]) (sArgs []), sCall (S "_law_word_so") ⟨1, [], [.pos 0], []⟩ (sArgs [sVar 2]) (sArgs [])]))))) (xSeqs [xRet (sC (.bl false))]) (xSeqs [])] := rfl
/-- the law's own look at bytes -/
theorem due_ev {k : Nat} {x : Pd} {δ : En} {h : Hs} (hx : okX x) (hd : δ[2]? = some (some (.p x))) (hl : 4 < δ.length) :
    duE (md.sem (k + 1)) δ h = .ok (.p (.bl (isB x))) h := by
  obtain ⟨hx, ht, hs⟩ := hx
  have ev : ∀ h, sVar 2 δ h = .ok (.p x) h := fun h => sVar_get hd
  cases x <;> first | cases hx | skip
  case tup xs =>
    obtain ⟨h1, h2, h3⟩ := ht xs rfl
    simp [duE, ev, isi_tup]
    rw [compGo_map (fun y => !isF 0 255 y) id ?g ?l]
    case g =>
      intro y hy
      have e := q_law_is_byte (k := k) (h1 y hy)
      have e4 : ∀ h, sVar 4 (δ.set 4 (some (.p y))) h = .ok (.p y) h := fun h => sVar_get (by rw [List.getElem?_set_self hl])
      refine ⟨δ.set 4 (some (.p y)), by simp [hl], ?_, fun _ => ⟨.p y, ?_, rfl⟩⟩
      · simp [g__law_looks_right_2, e4, e]
      · exact e4 h
    case l => simp; omega
    have f : flat 60 (.lst (xs.filter fun y => !isF 0 255 y)) = true := flat_lst (flats_of fun y hy => flat_up (by omega) y (flats_mem h3 ((List.mem_filter.mp hy).1)))
    simp
    rw [eq_xx f (flat_lst (flats_of fun y hy => by cases hy)), eqP_nil]
    simp [isB]
    rw [filt_all]
  all_goals
    simp [duE, ev]
    rfl
theorem q_looks {k : Nat} {n : Int} {ds : List Int} (hl : ds.length ≤ 4) : ∃ n', md.sem (k + 4) "_law_looks_right" [.ref 0, .p (.tup (ds.map .int))] [.own (.lst [.int n])] = .ok (.p (.bl true)) [.own (.lst [.int n'])] := by
  rw [m__law_looks_right]
  obtain ⟨xs, n1, e1, o1, l1⟩ := q_law_items (k := k + 1) (n := n) hl
  obtain ⟨ys, n2, e2, o2, l2⟩ := q_law_words (k := k + 1) (n := n1)
  have l3 : xs.length + ys.length ≤ 16777216 := by omega
  obtain ⟨δ', h', e, z2, z3, z4, z5, z6, o6, rfl, rfl⟩ := forGo_goes (b := bName 2) (body := f__law_looks_right_1 (md.sem (k + 3)))
    (fun δ h => ∃ (z2 z3 z4 z5 z6 : Option Th) (o6 : Ob), δ = [some (.ref 7), some (.p (.tup (ds.map .int))), z2, z3, z4, z5, z6] ∧ h = [.dead, .dead, .dead, .dead, .dead, .dead, o6, .own (.lst [.int n2])])
    (xs := xs ++ ys) (δ := [some (.ref 7), some (.p (.tup (ds.map .int))), none, none, none, none, none]) (h := [.dead, .dead, .dead, .dead, .dead, .dead, .dead, .own (.lst [.int n2])]) ⟨_, _, _, _, _, _, rfl, rfl⟩ (fun x δ h hx hI => by
      obtain ⟨z2, z3, z4, z5, z6, o6, rfl, rfl⟩ := hI
      have ox : okX x := by
        rcases List.mem_append.mp hx with hx | hx
        · exact o1 x hx
        · exact o2 x hx
      have d1 : ∀ h, _ := fun h => due_ev (k := k + 2) (x := x) (δ := [some (.ref 7), some (.p (.tup (ds.map .int))), some (.p x), z3, z4, z5, z6]) (h := h) ox rfl (by simp)
      have q1 := q_is_bytes (k := k) ox
      have q2 := q_is_whole (k := k + 2) ox.1
      have q3 := q_is_word (k := k + 2) ox.1
      have q4 := q_law_word_so (k := k + 2) ox.1
      have w1 : ∀ h, ∃ b, isiT md.sub ["int"] (.p x) h = some b ∧ (b = true → ∃ c, isiT md.sub ["bool"] (.p x) h = some c ∧ isW x = !c) ∧ (b = false → isW x = false) := fun h => by
        have := ox.1
        cases x <;> first | exact ⟨true, rfl, fun _ => ⟨_, rfl, rfl⟩, fun z => nomatch z⟩ | exact ⟨false, rfl, fun z => (nomatch z), fun _ => rfl⟩ | cases this
      have w2 : ∀ δ h, sVar 2 δ h = .ok (.p x) h → whE δ h = .ok (.p (.bl (isW x))) h := fun δ h ev => by
        obtain ⟨b, i1, i2, i3⟩ := w1 h
        cases b with
        | false => simp [whE, ev, i1, i3 rfl]
        | true =>
          obtain ⟨c, i4, i5⟩ := i2 rfl
          simp [whE, ev, i1, i4, i5]
      obtain ⟨s, rs⟩ := rep5 (isB x) (isW x) (isWdP x)
      simp [goes, f_eq, d1, q1, q2, q3, q4, rs, w2])
  have q2 := q_is_whole (k := k + 2) (x := .int 3) rfl
  refine ⟨n2, ?_⟩
  simp [t__law_looks_right, runF_ev, entry, e1, e2, l3, e, q2, isW, cmpP, isP]
end K01

/-! ## text K01c -/
set_option Elab.async false
set_option linter.all false
set_option maxRecDepth 100000
set_option autoImplicit false
namespace K01
open PySem PySem.Spec PyProof.Rows L2 Pv
mutual
theorem eqP_self : ∀ {n : Nat} (x : Pd), flat n x = true → eqP x x = true
  | _, .non, _ => by unfold eqP; rfl
  | _, .bl b, _ => by unfold eqP; simp
  | _, .int i, _ => by unfold eqP; simp
  | _, .str z, _ => by unfold eqP; simp
  | n + 1, .tup xs, h => by unfold eqP; unfold flat at h; exact eqPs_self xs h
  | n + 1, .lst xs, h => by unfold eqP; unfold flat at h; exact eqPs_self xs h
  | 0, .tup xs, h => by unfold flat at h; cases h
  | 0, .lst xs, h => by unfold flat at h; cases h
  | _, .dct _ _, h => by unfold flat at h; cases h
  | _, .ty _, h => by unfold flat at h; cases h
  | _, .cls _, h => by unfold flat at h; cases h
theorem eqPs_self : ∀ {n : Nat} (xs : List Pd), flats n xs = true → eqPs xs xs = true
  | _, [], _ => by unfold eqPs; rfl
  | _, x :: xs, h => by
    unfold flats at h
    rw [Bool.and_eq_true] at h
    unfold eqPs
    rw [eqP_self x h.1, eqPs_self xs h.2]
    rfl
end
theorem ne_self {x : Pd} (h : flat 60 x = true) : cmpP .NotEq x x = some false := by
  rw [ne_xx h h, eqP_self x h]
  rfl
theorem step2 {S : Str → SF} {n W T : Int} {L : List Pd} {s z1 z5 z6 z7 z8 : Option Th} {h : Hs} (f1 : flat 60 (.tup L) = true) (f2 : flat 60 (.tup L.reverse) = true)
    (b1 : S "bytes_of" [.p (.int n), .p (.int W), .p (.str "big")] [] = .ok (.p (.tup L.reverse)) [])
    (b2 : S "bytes_of" [.p (.int n), .p (.int W), .p (.str "small")] [] = .ok (.p (.tup L)) [])
    (o1 : S "_law_of_number" [.p (.int n), .p (.int W), .p (.str "big")] [] = .ok (.p (.tup L.reverse)) [])
    (o2 : S "_law_of_number" [.p (.int n), .p (.int W), .p (.str "small")] [] = .ok (.p (.tup L)) [])
    (n1 : S "number_in" [.p (.tup L.reverse), .p (.str "big")] [] = .ok (.p (.int n)) [])
    (n2 : S "number_in" [.p (.tup L), .p (.str "small")] [] = .ok (.p (.int n)) []) :
    goes (fun δ h' => (∃ z5 z6 z7, δ = [s, z1, some (.ref 2), some (.p (.int W)), some (.p (.int T)), z5, z6, z7, z8]) ∧ h' = h) (bName 5) (f_law_2 S) (.int n) [s, z1, some (.ref 2), some (.p (.int W)), some (.p (.int T)), z5, z6, z7, z8] h := by
  simp [goes, f_law_2, f_law_3, b1, b2, o1, o2, n1, n2, ne_self f1, ne_self f2]
theorem flat_ints {ds : List Int} : flat 60 (.tup (ds.map .int)) = true := flat_tup (n := 59) (flats_of fun y hy => by
  obtain ⟨i, _, rfl⟩ := List.mem_map.mp hy
  unfold flat
  rfl)
theorem step2' {k : Nat} {n W T : Int} {s z1 z5 z6 z7 z8 : Option Th} {h : Hs} (hw : WT W T) (h0 : 0 ≤ n) (h1 : n < T) :
    goes (fun δ h' => (∃ z5 z6 z7, δ = [s, z1, some (.ref 2), some (.p (.int W)), some (.p (.int T)), z5, z6, z7, z8]) ∧ h' = h) (bName 5) (f_law_2 (md.sem (k + 4))) (.int n) [s, z1, some (.ref 2), some (.p (.int W)), some (.p (.int T)), z5, z6, z7, z8] h := by
  have d : (Str.ofString "big" = Str.ofString "small") = False := by decide
  have d' : (Str.ofString "small" = Str.ofString "big") = False := by decide
  have b1 := q_bytes_of (k := k + 1) (way := "big") hw h0 h1
  have b2 := q_bytes_of (k := k + 1) (way := "small") hw h0 h1
  have o1 := q_law_of_number (k := k + 3) (n := n) (way := "big") hw
  have o2 := q_law_of_number (k := k + 3) (n := n) (way := "small") hw
  have n1 := q_number_in (k := k + 3) (ds := (dgs W n).reverse) (way := "big")
  have n2 := q_number_in (k := k + 3) (ds := dgs W n) (way := "small")
  simp only [d, d', if_true, if_false, List.map_reverse] at b1 b2 o1 o2 n1 n2
  rw [num_big hw h0 h1] at n1 n2
  exact step2 (L := (dgs W n).map .int) flat_ints (by rw [← List.map_reverse]; exact flat_ints) b1 b2 o1 o2 n1 n2
theorem step4 {k : Nat} {x : Pd} {W T : Int} {s z1 z4 z5 z6 z7 z8 : Option Th} {h : Hs} (hw : WT W T) (hx : okT x) (hf : isF 0 (T - 1) x = false) :
    goes (fun δ h' => (∃ z6 z8, δ = [s, z1, some (.ref 2), some (.p (.int W)), z4, z5, z6, z7, z8]) ∧ h' = h) (bName 8) (f_law_4 (md.sem (k + 4))) x [s, z1, some (.ref 2), some (.p (.int W)), z4, z5, z6, z7, z8] h := by
  have r1 := q_law_refused (k := k) (way := "big") hw hx hf
  have r2 := q_law_refused (k := k) (way := "small") hw hx hf
  simp [goes, f_law_4, f_law_5, r1, r2]
theorem step1 {k : Nat} {c : Int} {s z1 z2 z3 z4 z5 z6 z7 z8 : Option Th} {o : Ob} :
    goes (fun δ h => (∃ z1 z2 z3 z4 z5 z6 z7 z8, δ = [s, z1, z2, z3, z4, z5, z6, z7, z8]) ∧ ∃ o, h = [.dead, .dead, o, .dead, .dead, .dead, .dead, .dead, .dead]) (bName 1) (f_law_1 (md.sem (k + 4))) (.int c) [s, z1, z2, z3, z4, z5, z6, z7, z8] [.dead, .dead, o, .dead, .dead, .dead, .dead, .dead, .dead] := by
  obtain ⟨n, e1⟩ := q_law_left (k := k + 3) (c := c)
  have e2 := q_law_digit (k := k + 3) (n := n) (w := 4) (by decide) (by decide)
  have m0 : 0 ≤ n % 4 := Int.emod_nonneg _ (by decide)
  have m1 : n % 4 < 4 := Int.emod_lt_of_pos _ (by decide)
  generalize hW : 1 + n % 4 = W
  generalize hn1 : n / 4 = na
  obtain ⟨T, hw⟩ : ∃ T, WT W T := by
    have : W = 1 ∨ W = 2 ∨ W = 3 ∨ W = 4 := by omega
    rcases this with rfl | rfl | rfl | rfl
    · exact ⟨_, .inl ⟨rfl, rfl⟩⟩
    · exact ⟨_, .inr (.inl ⟨rfl, rfl⟩)⟩
    · exact ⟨_, .inr (.inr (.inl ⟨rfl, rfl⟩))⟩
    · exact ⟨_, .inr (.inr (.inr ⟨rfl, rfl⟩))⟩
  have w0 : 0 ≤ W := by omega
  have w0' : 0 ≤ 8 * W := by omega
  have w1 : 8 * W ≤ 1000000 := by omega
  have hT : (2 : Int) ^ (8 * W).toNat = T := by
    obtain ⟨rfl, rfl⟩ | ⟨rfl, rfl⟩ | ⟨rfl, rfl⟩ | ⟨rfl, rfl⟩ := hw <;> rfl
  have t0 : 0 < T := by rcases hw with h | h | h | h <;> omega
  have t1 : 256 ≤ T := by rcases hw with h | h | h | h <;> omega
  have t2 : T.natAbs.log2 < 9000 := by obtain ⟨rfl, rfl⟩ | ⟨rfl, rfl⟩ | ⟨rfl, rfl⟩ | ⟨rfl, rfl⟩ := hw <;> decide
  have t3 : T ≤ 4294967296 := by rcases hw with h | h | h | h <;> omega
  have g1 := q_law_digit (k := k + 3) (n := na) t0 t2
  have a0 : 0 ≤ na % T := Int.emod_nonneg _ (by omega)
  have a1 : na % T < T := Int.emod_lt_of_pos _ t0
  generalize na % T = r1 at g1 a0 a1
  generalize na / T = nb at g1
  have g2 := q_law_digit (k := k + 3) (n := nb) t0 t2
  have a2 : 0 ≤ nb % T := Int.emod_nonneg _ (by omega)
  have a3 : nb % T < T := Int.emod_lt_of_pos _ t0
  generalize nb % T = r2 at g2 a2 a3
  generalize nb / T = nc at g2
  have g3 := q_law_digit (k := k + 3) (n := nc) t0 t2
  have a4 : 0 ≤ nc % T := Int.emod_nonneg _ (by omega)
  have a5 : nc % T < T := Int.emod_lt_of_pos _ t0
  generalize nc % T = r3 at g3 a4 a5
  generalize nc / T = nd at g3
  have bb := q_bytes_of (k := k + 1) (n := r3) (way := "big") hw a4 a5
  have d : (Str.ofString "big" = Str.ofString "small") = False := by decide
  simp only [d, if_false] at bb
  obtain ⟨ne, lk⟩ := q_looks (k := k) (n := nd) (ds := (dgs W r3).reverse) (by
    obtain ⟨rfl, rfl⟩ | ⟨rfl, rfl⟩ | ⟨rfl, rfl⟩ | ⟨rfl, rfl⟩ := hw <;> simp [dgs])
  obtain ⟨δ2, h2, l2, ⟨y5, y6, y7, rfl⟩, rfl⟩ := forGo_goes (b := bName 5) (body := f_law_2 (md.sem (k + 4)))
    (fun δ h' => (∃ z5 z6 z7, δ = [s, some (.p (.int c)), some (.ref 2), some (.p (.int W)), some (.p (.int T)), z5, z6, z7, z8]) ∧ h' = [.dead, .dead, .own (.lst [.int nc]), .dead, .dead, .dead, .dead, .dead, .dead])
    (xs := [.int 0, .int 1, .int 255, .int (T - 1), .int (T / 2), .int r1, .int r2]) (δ := [s, some (.p (.int c)), some (.ref 2), some (.p (.int W)), some (.p (.int T)), z5, z6, z7, z8]) (h := [.dead, .dead, .own (.lst [.int nc]), .dead, .dead, .dead, .dead, .dead, .dead]) ⟨⟨_, _, _, rfl⟩, rfl⟩ (fun x δ h hx hI => by
      obtain ⟨⟨z5, z6, z7, rfl⟩, rfl⟩ := hI
      have : ∃ n, x = .int n ∧ 0 ≤ n ∧ n < T := by
        simp only [List.mem_cons, List.not_mem_nil, or_false] at hx
        rcases hx with rfl | rfl | rfl | rfl | rfl | rfl | rfl <;> exact ⟨_, rfl, by omega, by omega⟩
      obtain ⟨n, rfl, i0, i1⟩ := this
      exact step2' hw i0 i1)
  obtain ⟨δ4, h4, l4, ⟨x6, x8, rfl⟩, rfl⟩ := forGo_goes (b := bName 8) (body := f_law_4 (md.sem (k + 4)))
    (fun δ h' => (∃ z6 z8, δ = [s, some (.p (.int c)), some (.ref 2), some (.p (.int W)), some (.p (.int T)), y5, z6, y7, z8]) ∧ h' = [.dead, .dead, .own (.lst [.int nc]), .dead, .dead, .dead, .dead, .dead, .dead])
    (xs := [.int T, .int (-1), .int (T + 255), .non, .bl true, .str "1", .tup [.int 1], .int 10000000000000000000000000000000000000000, .lst [.int 0]]) (δ := [s, some (.p (.int c)), some (.ref 2), some (.p (.int W)), some (.p (.int T)), y5, y6, y7, z8]) (h := [.dead, .dead, .own (.lst [.int nc]), .dead, .dead, .dead, .dead, .dead, .dead]) ⟨⟨_, _, rfl⟩, rfl⟩ (fun x δ h hx hI => by
      obtain ⟨⟨z6, z8, rfl⟩, rfl⟩ := hI
      have : okT x ∧ isF 0 (T - 1) x = false := by
        simp only [List.mem_cons, List.not_mem_nil, or_false] at hx
        rcases hx with rfl | rfl | rfl | rfl | rfl | rfl | rfl | rfl | rfl <;> refine ⟨rfl, ?_⟩ <;> simp [isF] <;> omega
      exact step4 hw this.1 this.2)
  rw [List.map_reverse] at lk bb
  have lg : Nat.log2 2 < 9000 := by decide
  simp [-forGo_cons, lg, goes, f_law_1, e1, e2, hW, hn1, w0', w1, hT, t0, t2, g1, g2, g3, l2, l4, bb, lk]
theorem q_law (ns : List Int) : md.sem 20 "law" [.p (scriptP ns)] [] = .ok (.p (.bl true)) [] := by
  rw [m_law]
  have it : ∀ x, x ∈ cutP (ns.map Pd.int) none (some 20) ++ [Pd.int 4] → ∃ c, x = .int c := fun x hx => by
    rcases List.mem_append.mp hx with hx | hx
    · obtain ⟨c, _, rfl⟩ := List.mem_map.mp (cut_mem hx)
      exact ⟨c, rfl⟩
    · exact ⟨4, List.mem_singleton.mp hx⟩
  have ln : (cutP (ns.map Pd.int) none (some 20)).length ≤ 20 := by
    unfold cutP
    rw [List.length_take]
    have : HT.sIx (ns.map Pd.int).length (ns.map Pd.int).length (some 20) ≤ 20 := by
      have e : HT.sIx (ns.map Pd.int).length (ns.map Pd.int).length (some ((20 : Nat) : Int)) = min 20 (ns.map Pd.int).length := HT.sIx_nat _ _ _
      have e2 : HT.sIx (ns.map Pd.int).length (ns.map Pd.int).length (some 20) = min 20 (ns.map Pd.int).length := e
      rw [e2]
      exact Nat.min_le_left _ _
    omega
  obtain ⟨δ', h', e, ⟨z1, z2, z3, z4, z5, z6, z7, z8, rfl⟩, o, rfl⟩ := forGo_goes (b := bName 1) (body := f_law_1 (md.sem 19))
    (fun δ h => (∃ z1 z2 z3 z4 z5 z6 z7 z8, δ = [some (.p (scriptP ns)), z1, z2, z3, z4, z5, z6, z7, z8]) ∧ ∃ o, h = [.dead, .dead, o, .dead, .dead, .dead, .dead, .dead, .dead])
    (xs := cutP (ns.map Pd.int) none (some 20) ++ [Pd.int 4]) (δ := [some (.p (scriptP ns)), none, none, none, none, none, none, none, none]) (h := [.dead, .dead, .dead, .dead, .dead, .dead, .dead, .dead, .dead]) ⟨⟨_, _, _, _, _, _, _, _, rfl⟩, _, rfl⟩ (fun x δ h hx hI => by
      obtain ⟨⟨z1, z2, z3, z4, z5, z6, z7, z8, rfl⟩, o, rfl⟩ := hI
      obtain ⟨c, rfl⟩ := it x hx
      exact step1 (k := 15))
  have ln2 : (cutP (ns.map Pd.int) none (some 20)).length + 1 ≤ 16777216 := by omega
  simp [t_law, runF_ev, entry, slP, ln2, e]
end K01

/-! ## text K01z -/
set_option Elab.async false
set_option linter.all false
set_option maxRecDepth 100000
set_option maxHeartbeats 0
/-! ### the row's table, printed by gen.py -/
open PySem PySem.W PySem.Calls PyProof.Rows
theorem PySem.Challenge.cw_catchlanes_k01_numbers_in_bytes_holds : PySem.Challenge.rw_catchlanes_k01_numbers_in_bytes.Holds := by
  w_on; o_law
  refine HandSHeadRun.head_any (r := OpenLaw.row PySem.Challenge.rw_catchlanes_k01_numbers_in_bytes) (q := view (OpenLaw.row PySem.Challenge.rw_catchlanes_k01_numbers_in_bytes).prog [25]) (H := K01.hk) (ob := K01.ob) (M := 20000) (loose := K01.loose) (d := HandSHeadRun.topDef (OpenLaw.row PySem.Challenge.rw_catchlanes_k01_numbers_in_bytes).prog 25) (kwd := []) K01.ob_eq
    (by kernel_rfl) (fun s => by kernel_rfl) K01.run (by kernel_rfl) (by kernel_rfl) (by kernel_rfl) (by rfl) (by first | assumption | decide +kernel) (by decide +kernel) ⟨rfl, rfl, rfl, rfl, rfl, by decide +kernel⟩ ?hw ?hc
  case hw => w_witness2
  case hc =>
    refine Pv.walkV (l := PySem.Challenge.rw_catchlanes_k01_numbers_in_bytes) (n := 63) (k := 20) (x := "script") (run := K01.md.sem 20 "law") rfl (by decide) (by kernel_rfl) ⟨⟨rfl, by decide, by decide⟩, rfl⟩ (fun ns _ => K01.q_law ns) ?F
    intro w mg fa h Y G hmg0
    obtain ⟨K, KX, c⟩ := Y
    have hmg : mg ("law" : PySem.Str) = some (.ref fa) := by
      have e : (HandSHeadRun.topDef (OpenLaw.row PySem.Challenge.rw_catchlanes_k01_numbers_in_bytes).prog 25).name = ("law" : PySem.Str) := by kernel_rfl
      rw [← e]
      exact hmg0
    obtain ⟨fd, hb, hF⟩ := K01.facts (P := (PySem.Challenge.rw_catchlanes_k01_numbers_in_bytes).prog) (w := w) KX G hmg c
    exact ⟨K, fd, KX, hb, hF⟩
