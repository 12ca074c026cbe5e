import PyProof.Rows.All
import Wide.All
import OpenK.AllK
import Wide.FinOn
import PySem.Challenge.RW_nz0476_01
open PySem PySem.W PyProof.Rows PySem.Calls PySem.Spec
set_option Elab.async false
set_option maxRecDepth 100000
set_option maxHeartbeats 8000000
set_option compiler.extract_closed false
set_option linter.unusedSimpArgs false
set_option linter.unusedVariables false
namespace Mine
def dropAt : List Nat → Nat → List Stmt → List Stmt
  | _, _, [] => []
  | ks, i, s :: r => match ks.contains i with
    | true => dropAt ks (i + 1) r
    | false => s :: dropAt ks (i + 1) r
def view : Program := { PySem.Challenge.pw_nz0476_01 with main := { PySem.Challenge.pw_nz0476_01.main with body := dropAt [1, 4, 7, 19, 24] 0 PySem.Challenge.pw_nz0476_01.main.body } }
theorem lawSaid : OpenLaw.wellSaid PySem.Challenge.rw_nz0476_01 = true := (congrFun PySem.W.Fast.te9446332074065402090 PySem.Challenge.rw_nz0476_01).trans (by kernel_rfl)
noncomputable def fencedQ (p : Program) (w : World) (N : Nat) : Option Shared :=
  (PySem.W.Fast.tw10274390034422433532 PySem.W.Fast.tw14364793385576792824 (opening p) w N (PySem.W.Fast.tw1435165496053646825 (opening p)).1 (PySem.W.Fast.tw1435165496053646825 (opening p)).2).bind (PySem.W.Fast.tw14289696077712309145 p)
theorem fencedQ_eq (p : Program) (w : World) (N : Nat) : fencedOpening treeTable p w N = fencedQ p w N := by
  unfold fencedOpening fencedQ
  rw [PySem.W.Fast.te10274390034422433532, PySem.W.Fast.te14364793385576792824, PySem.W.Fast.te1435165496053646825, PySem.W.Fast.te14289696077712309145]
noncomputable def topFromQ (p : Program) (w : World) (N : Nat) (s₀ : Shared) : Option Shared :=
  match s₀.heap.isNs mainGlobals && s₀.gens.size == 0 with
  | true => (PySem.W.Fast.tw14082659384304107361 PySem.W.Fast.tw14364793385576792824 p w s₀.heap.objs.size (s₀.heap.nsMap mainGlobals "__annotations__") N s₀ (topStub p)).bind fun s₁ => match staticsOk (importedModules p.main.body) s₀.heap s₁.heap && namesBound p s₁.heap && gensDone s₁ && laidKept s₀.heap s₁.heap with
      | true => some s₁
      | false => none
  | false => none
theorem topFromQ_eq (p : Program) (w : World) (N : Nat) : topFrom treeTable p w N = topFromQ p w N := by
  funext s
  unfold topFrom topFromQ
  rw [PySem.W.Fast.te14082659384304107361, PySem.W.Fast.te14364793385576792824]
  rfl
theorem ends_eq (p : Program) (w : World) (N : Nat) : openEnds treeTable p w N = (fencedQ p w N).bind (topFromQ p w N) := by
  unfold openEnds
  rw [fencedQ_eq, topFromQ_eq]
set_option hygiene false
local macro_rules
  | `(tactic| o_law) => `(tactic| refine holds_law lawSaid fun said => ?_)
local macro_rules
  | `(tactic| o_head $H) => `(tactic| (refine holds_open (q := view) (loose := []) (Xt := fun s => xlAt view [] s && recOk (RowW.records PySem.Challenge.rw_nz0476_01.row.toRowW) s) (XP := XL view []) (Yf := Hook.obs $H) (Ya := Hook.val $H) (YP := Hook.says $H) (N := 4476) ?hl (Hook.of $H) (Hook.keeps $H) (fun s e => xl_of s (Bool.and_eq_true_iff.mp e).1) XL.keeps (by rfl) (by rfl) (by rfl) (fun s e => recFacts_of (Bool.and_eq_true_iff.mp e).2) (by rfl) (by first | assumption | decide +kernel) (by decide +kernel) ⟨rfl, rfl, rfl, rfl, rfl, by decide +kernel⟩ ?hw ?hc; (case hl => (intro w; rw [ends_eq, PySem.W.Fast.te4187177175401517315]; kernel_rfl))))
set_option hygiene true
open_top hd for PySem.Challenge.rw_nz0476_01
end Mine
namespace Mine

abbrev pg : Program := PySem.Challenge.pw_nz0476_01

/-! ## the abstract values -/
inductive Ix where
  | missing
  | null
  | vec (kind : Str) (items : List PyData)
  | sym (name : Str)

inductive V where
  | un
  | d (x : PyData)
  | scr (ns : List Int)
  | ix (o : Ix)
  | row
  | ol (xs : List PyData)
  | sd (kvs : List (Str × Int))
  | it (ks : List Int)
  | itf (ks : List Int)

structure St where
  mu : List (Str × V)
  row : List Int

inductive Role where
  | fr
  | row
  | cell (x : Str)
  | own (x : Option Str)
  | iter
deriving DecidableEq

def Role.stays : Role → Bool
  | .own _ => false
  | _ => true

abbrev ZM := Addr → Option Obj
abbrev WM := Addr → Option Role

def upd {α : Type} (f : Addr → Option α) (a : Addr) (v : Option α) : Addr → Option α := fun b => if b = a then v else f b
theorem upd_same {α : Type} (f : Addr → Option α) (a : Addr) (v : Option α) : upd f a v a = v := by simp [upd]
theorem upd_ne {α : Type} {f : Addr → Option α} {a b : Addr} {v : Option α} (h : b ≠ a) : upd f a v b = f b := by simp [upd, h]

mutual
inductive FD (Z : ZM) : Value → PyData → Prop
  | none : FD Z .none .none
  | bool (b) : FD Z (.bool b) (.bool b)
  | int (i t) : FD Z (.int i t) (.int i)
  | str (x t) : FD Z (.str x t) (.str x)
  | list {a o vs n ds} : Z a = some o → o.cls = .type "list" → o.dict = none → o.data = .seq vs n → FDs Z vs.toList ds → FD Z (.ref a) (.list ds)
  | tuple {a o vs n ds} : Z a = some o → o.cls = .type "tuple" → o.data = .seq vs n → FDs Z vs.toList ds → FD Z (.ref a) (.tuple ds)
inductive FDs (Z : ZM) : List Value → List PyData → Prop
  | nil : FDs Z [] []
  | cons {v vs d ds} : FD Z v d → FDs Z vs ds → FDs Z (v :: vs) (d :: ds)
end

mutual
theorem FD.mono {Z Z' : ZM} (hz : ∀ a o, Z a = some o → Z' a = some o) : ∀ {v : Value} {d : PyData}, FD Z v d → FD Z' v d
  | _, _, .none => .none
  | _, _, .bool b => .bool b
  | _, _, .int i t => .int i t
  | _, _, .str x t => .str x t
  | _, _, .list h c dn k r => .list (hz _ _ h) c dn k (FDs.mono hz r)
  | _, _, .tuple h c k r => .tuple (hz _ _ h) c k (FDs.mono hz r)
theorem FDs.mono {Z Z' : ZM} (hz : ∀ a o, Z a = some o → Z' a = some o) : ∀ {vs : List Value} {ds : List PyData}, FDs Z vs ds → FDs Z' vs ds
  | _, _, .nil => .nil
  | _, _, .cons h r => .cons (FD.mono hz h) (FDs.mono hz r)
end

mutual
theorem FD.reads {Z : ZM} {h : Heap} (hz : ∀ a o, Z a = some o → h.get? a = some o) : ∀ {v : Value} {d : PyData}, FD Z v d → ∃ as, Reads h v d as
  | _, _, .none => ⟨_, .none⟩
  | _, _, .bool b => ⟨_, .bool b⟩
  | _, _, .int i t => ⟨_, .int i t⟩
  | _, _, .str x t => ⟨_, .str x t⟩
  | _, _, .list z c _ k r => let ⟨_, q⟩ := FDs.reads hz r; ⟨_, .list (hz _ _ z) c k q⟩
  | _, _, .tuple z c k r => let ⟨_, q⟩ := FDs.reads hz r; ⟨_, .tuple (hz _ _ z) c k q⟩
theorem FDs.reads {Z : ZM} {h : Heap} (hz : ∀ a o, Z a = some o → h.get? a = some o) : ∀ {vs : List Value} {ds : List PyData}, FDs Z vs ds → ∃ as, ReadsAll h vs ds as
  | _, _, .nil => ⟨_, .nil⟩
  | _, _, .cons h r => let ⟨_, q⟩ := FD.reads hz h; let ⟨_, q'⟩ := FDs.reads hz r; ⟨_, .cons q q'⟩
end

theorem FDs.length {Z : ZM} : ∀ {vs : List Value} {ds : List PyData}, FDs Z vs ds → vs.length = ds.length
  | _, _, .nil => rfl
  | _, _, .cons _ r => congrArg (· + 1) r.length
theorem FDs.append {Z : ZM} : ∀ {vs us : List Value} {ds es : List PyData}, FDs Z vs ds → FDs Z us es → FDs Z (vs ++ us) (ds ++ es)
  | _, _, _, _, .nil, q => q
  | _, _, _, _, .cons h r, q => .cons h (r.append q)
theorem FDs.get {Z : ZM} : ∀ {vs : List Value} {ds : List PyData}, FDs Z vs ds → ∀ {i : Nat} {d : PyData}, ds[i]? = some d → ∃ v, vs[i]? = some v ∧ FD Z v d
  | _, _, .nil, i, d, h => by simp at h
  | _, _, .cons (v := v) h r, 0, d, e => ⟨v, rfl, by simp at e; exact e ▸ h⟩
  | _, _, .cons h r, i + 1, d, e => r.get (i := i) (by simpa using e)
theorem FDs.get' {Z : ZM} : ∀ {vs : List Value} {ds : List PyData}, FDs Z vs ds → ∀ {i : Nat} {v : Value}, vs[i]? = some v → ∃ d, ds[i]? = some d ∧ FD Z v d
  | _, _, .nil, i, d, h => by simp at h
  | _, _, .cons (d := d) h r, 0, _, e => ⟨d, rfl, by simp at e; exact e ▸ h⟩
  | _, _, .cons h r, i + 1, d, e => r.get' (i := i) (by simpa using e)
theorem FDs.take {Z : ZM} : ∀ {vs : List Value} {ds : List PyData}, FDs Z vs ds → ∀ n, FDs Z (vs.take n) (ds.take n)
  | _, _, .nil, n => by simp; exact .nil
  | _, _, .cons h r, 0 => .nil
  | _, _, .cons h r, n + 1 => .cons h (r.take n)
theorem FDs.reverse {Z : ZM} : ∀ {vs : List Value} {ds : List PyData}, FDs Z vs ds → FDs Z vs.reverse ds.reverse
  | _, _, .nil => .nil
  | _, _, .cons h r => by rw [List.reverse_cons, List.reverse_cons]; exact r.reverse.append (.cons h .nil)
theorem FDs.ofInts {Z : ZM} : ∀ {vs : List Value} {ns : List Int}, IntsAre vs ns → FDs Z vs (ns.map .int)
  | _, _, .nil => .nil
  | _, _, .cons n t r => .cons (.int n t) (FDs.ofInts r)
theorem FDs.toInts {Z : ZM} : ∀ {vs : List Value} {ns : List Int}, FDs Z vs (ns.map .int) → IntsAre vs ns
  | _, [], h => by cases h; exact .nil
  | _, n :: ns, h => by
    cases h with
    | cons h r => cases h; exact .cons _ _ (FDs.toInts r)

/-! ## the world -/
structure Wd (w : World) (h₀ : Heap) (mg mb : Str → Option Value) : Prop where
  X : (hd.heap_1 w.params).In h₀
  g : h₀.Ns mainGlobals mg
  b : h₀.Ns builtinsNs mb
  nolimit : h₀.NoLimit
  bi : ∀ x : Str, x ≠ "__name__" → mb x = bootBuiltins x

/-! ## the state -/
abbrev tabA : Addr := 300
def lamQual : Str := "law.<locals>.<lambda>"
def CodeZ (Z : ZM) (cv : Value) : Prop := ∃ c o vs t, cv = .ref c ∧ Z c = some o ∧ o.data = .fields vs ∧ vs[1]? = some (.str lamQual t)
def TabI (Z : ZM) (h : Heap) : Prop := ∃ ps, h.get? tabA = some (tabObj ps) ∧ TriplesOk ps.toList ∧ ∀ pos cv, codeAmong pos ps.toList = some cv → CodeZ Z cv
theorem TabI.keep {Z Z' : ZM} {h h' : Heap} (x : TabI Z h) (hz : ∀ a o, Z a = some o → Z' a = some o) (hk : ∀ o, h.get? tabA = some o → h'.get? tabA = some o) : TabI Z' h' := by
  obtain ⟨ps, e1, e2, e3⟩ := x
  exact ⟨ps, hk _ e1, e2, fun pos cv e => let ⟨c, o, vs, t, q1, q2, q3⟩ := e3 pos cv e; ⟨c, o, vs, t, q1, hz _ _ q2, q3⟩⟩
structure Core (h₀ hE : Heap) (Z₀ Z : ZM) (W : WM) (r : List Int) (h : Heap) : Prop where
  base : ∀ a o, h₀.get? a = some o → Z₀ a = some o
  zE : ∀ a o, Z₀ a = some o → hE.get? a = some o
  z0 : ∀ a o, Z₀ a = some o → Z a = some o
  zin : ∀ a o, Z a = some o → h.get? a = some o
  zf : ∀ a o, Z a = some o → Z₀ a = some o ∨ hE.get? a = none
  dj : ∀ a ρ, W a = some ρ → Z a = none ∧ ∃ o, h.get? a = some o
  wf : ∀ a ρ, W a = some ρ → ρ ≠ .row → hE.get? a = none
  wfr : ∀ a, W a = some .fr → hE.objs.size ≤ a
  wf0 : ∀ a ρ, W a = some ρ → ρ ≠ .row → h₀.objs.size ≤ a
  h0 : h₀.objs.size ≤ hE.objs.size
  kept : ∀ b o, hE.get? b = some o → W b ≠ some .row → h.get? b = some o
  grow : hE.objs.size ≤ h.objs.size
  row : ∀ a, W a = some .row → a ≠ tabA → ∃ vs n, h.get? a = some (listOf vs.toArray n) ∧ IntsAre vs r
  row1 : ∀ a b, W a = some .row → W b = some .row → a ≠ tabA → b ≠ tabA → a = b
  tab : W tabA = some .row → TabI Z h

theorem Core.zbase {h₀ hE h : Heap} {Z₀ Z : ZM} {W : WM} {r : List Int} (c : Core h₀ hE Z₀ Z W r h) : ∀ a o, h₀.get? a = some o → Z a = some o := fun a o e => c.z0 a o (c.base a o e)
theorem Core.stay {h₀ hE h : Heap} {Z₀ Z : ZM} {W : WM} {r : List Int} (c : Core h₀ hE Z₀ Z W r h) : ∀ a o, h₀.get? a = some o → h.get? a = some o := fun a o e => c.zin a o (c.zbase a o e)

/-- nothing but what is owned (and not the row) may have changed -/
theorem Core.mono {h₀ hE h h' : Heap} {Z₀ Z : ZM} {W : WM} {r : List Int} (c : Core h₀ hE Z₀ Z W r h)
    (hk : ∀ b o, h.get? b = some o → (∀ ρ, W b = some ρ → ρ = .row) → h'.get? b = some o) (hs : hE.objs.size ≤ h'.objs.size) (hl : ∀ a ρ, W a = some ρ → ρ ≠ .row → ∃ o, h'.get? a = some o) : Core h₀ hE Z₀ Z W r h' where
  base := c.base
  zE := c.zE
  z0 := c.z0
  zin := fun a o e => hk a o (c.zin a o e) fun ρ hw => by have := (c.dj a ρ hw).1; rw [e] at this; cases this
  zf := c.zf
  dj := fun a ρ e => ⟨(c.dj a ρ e).1, by
    by_cases hr : ρ = .row
    · subst hr
      obtain ⟨o, g⟩ := (c.dj a _ e).2
      exact ⟨_, hk _ _ g fun σ hσ => by rw [e] at hσ; cases hσ; rfl⟩
    · exact hl a ρ e hr⟩
  wf := c.wf
  wfr := c.wfr
  wf0 := c.wf0
  h0 := c.h0
  kept := fun b o e hw => hk b o (c.kept b o e hw) fun ρ hρ => by
    cases ρ with
    | row => rfl
    | _ => rw [c.wf b _ hρ (by intro q; cases q)] at e; cases e
  grow := hs
  row := fun a e q => let ⟨vs, n, g, i⟩ := c.row a e q; ⟨vs, n, hk _ _ g (fun ρ hρ => by rw [e] at hρ; cases hρ; rfl), i⟩
  row1 := c.row1
  tab := fun e => (c.tab e).keep (fun _ _ z => z) fun o g => hk _ _ g fun ρ hρ => by rw [e] at hρ; cases hρ; rfl

theorem Core.keeps {h₀ hE h h' : Heap} {Z₀ Z : ZM} {W : WM} {r : List Int} (c : Core h₀ hE Z₀ Z W r h) (hk : ∀ b o, h.get? b = some o → h'.get? b = some o) (hs : hE.objs.size ≤ h'.objs.size) : Core h₀ hE Z₀ Z W r h' :=
  c.mono (fun b o e _ => hk b o e) hs fun a ρ e _ => let ⟨o, ho⟩ := (c.dj a ρ e).2; ⟨o, hk _ _ ho⟩

theorem Core.out {h₀ hE h : Heap} {Z₀ Z : ZM} {W : WM} {r : List Int} (c : Core h₀ hE Z₀ Z W r h) {a : Addr} (ha : h.objs.size ≤ a) : hE.get? a = none := by
  cases q : hE.get? a with
  | none => rfl
  | some o => exact absurd (Heap.lt_size q) (Nat.not_lt.mpr (Nat.le_trans c.grow ha))

theorem Core.far {h₀ hE h : Heap} {Z₀ Z : ZM} {W : WM} {r : List Int} (c : Core h₀ hE Z₀ Z W r h) {a : Addr} (ha : h.objs.size ≤ a) : h₀.objs.size ≤ a := Nat.le_trans c.h0 (Nat.le_trans c.grow ha)

theorem push_size (h : Heap) (o : Obj) : (h.push o).objs.size = h.objs.size + 1 := by
  cases h; simp [Heap.push]

theorem Core.push {h₀ hE h : Heap} {Z₀ Z : ZM} {W : WM} {r : List Int} (c : Core h₀ hE Z₀ Z W r h) (o : Obj) : Core h₀ hE Z₀ Z W r (h.push o) :=
  c.keeps (fun _ _ e => Heap.get?_push_of_some _ e) (by have := c.grow; rw [push_size]; omega)

theorem Core.sameBut {h₀ hE h h' : Heap} {Z₀ Z : ZM} {W : WM} {r : List Int} {a : Addr} {ρ : Role} (c : Core h₀ hE Z₀ Z W r h) (hs : Heap.SameBut a h h') (hw : W a = some ρ) (hρ : ρ ≠ .row) (ho : ∃ o, h'.get? a = some o) : Core h₀ hE Z₀ Z W r h' :=
  c.mono (fun b o e q => (hs.2 b (fun hba => hρ (q ρ (hba ▸ hw)))).trans e) (by rw [hs.1]; exact c.grow) fun b σ e _ => by
    by_cases hb : b = a
    · subst hb; exact ho
    · obtain ⟨o, g⟩ := (c.dj b σ e).2; exact ⟨o, (hs.2 b hb).trans g⟩

/-- a role for an address that has none -/
theorem Core.role {h₀ hE h : Heap} {Z₀ Z : ZM} {W : WM} {r : List Int} {a : Addr} {ρ : Role} (c : Core h₀ hE Z₀ Z W r h) (hz : Z a = none) (ha : ∃ o, h.get? a = some o) (hE' : hE.get? a = none) (h0' : h₀.objs.size ≤ a) (hρ : ρ ≠ .row) (hρf : ρ ≠ .fr) (hr : W a ≠ some .row) :
    Core h₀ hE Z₀ Z (upd W a (some ρ)) r h where
  base := c.base
  zE := c.zE
  z0 := c.z0
  zin := c.zin
  zf := c.zf
  dj := fun b σ e => by
    by_cases hb : b = a
    · subst hb; exact ⟨hz, ha⟩
    · rw [upd_ne hb] at e; exact c.dj b σ e
  wf := fun b σ e n => by
    by_cases hb : b = a
    · subst hb; exact hE'
    · rw [upd_ne hb] at e; exact c.wf b σ e n
  wfr := fun b e => by
    by_cases hb : b = a
    · subst hb; rw [upd_same] at e; cases e; exact absurd rfl hρf
    · rw [upd_ne hb] at e; exact c.wfr b e
  wf0 := fun b σ e n => by
    by_cases hb : b = a
    · subst hb; exact h0'
    · rw [upd_ne hb] at e; exact c.wf0 b σ e n
  h0 := c.h0
  kept := fun b o e hw => c.kept b o e fun q => hw (by
    by_cases hb : b = a
    · subst hb; exact absurd q hr
    · rw [upd_ne hb]; exact q)
  grow := c.grow
  row := fun b e hn => by
    by_cases hb : b = a
    · subst hb; rw [upd_same] at e; cases e; exact absurd rfl hρ
    · rw [upd_ne hb] at e; exact c.row b e hn
  row1 := fun b b' e e' hn hn' => by
    by_cases hb : b = a
    · subst hb; rw [upd_same] at e; cases e; exact absurd rfl hρ
    · by_cases hb' : b' = a
      · subst hb'; rw [upd_same] at e'; cases e'; exact absurd rfl hρ
      · rw [upd_ne hb] at e; rw [upd_ne hb'] at e'; exact c.row1 b b' e e' hn hn'
  tab := fun e => by
    by_cases hb : tabA = a
    · rw [← hb, upd_same] at e; cases e; exact absurd rfl hρ
    · rw [upd_ne hb] at e; exact c.tab e

/-- an object of the activation's own is frozen -/
theorem Core.freeze {h₀ hE h : Heap} {Z₀ Z : ZM} {W : WM} {r : List Int} {a : Addr} {o : Obj} (c : Core h₀ hE Z₀ Z W r h) (hz : Z a = none) (ha : h.get? a = some o) (hE' : hE.get? a = none) (hr : W a ≠ some .row) :
    Core h₀ hE Z₀ (upd Z a (some o)) (upd W a none) r h where
  base := c.base
  zE := c.zE
  z0 := fun b o' e => by
    by_cases hb : b = a
    · subst hb; have := c.z0 b o' e; rw [hz] at this; cases this
    · rw [upd_ne hb]; exact c.z0 b o' e
  zin := fun b o' e => by
    by_cases hb : b = a
    · subst hb; rw [upd_same] at e; cases e; exact ha
    · rw [upd_ne hb] at e; exact c.zin b o' e
  zf := fun b o' e => by
    by_cases hb : b = a
    · subst hb; exact .inr hE'
    · rw [upd_ne hb] at e; exact c.zf b o' e
  dj := fun b σ e => by
    by_cases hb : b = a
    · subst hb; rw [upd_same] at e; cases e
    · rw [upd_ne hb] at e; rw [upd_ne hb]; exact c.dj b σ e
  wf := fun b σ e n => by
    by_cases hb : b = a
    · subst hb; exact hE'
    · rw [upd_ne hb] at e; exact c.wf b σ e n
  wfr := fun b e => by
    by_cases hb : b = a
    · subst hb; rw [upd_same] at e; cases e
    · rw [upd_ne hb] at e; exact c.wfr b e
  wf0 := fun b σ e n => by
    by_cases hb : b = a
    · subst hb; rw [upd_same] at e; cases e
    · rw [upd_ne hb] at e; exact c.wf0 b σ e n
  h0 := c.h0
  kept := fun b o e hw => c.kept b o e fun q => hw (by
    by_cases hb : b = a
    · subst hb; exact absurd q hr
    · rw [upd_ne hb]; exact q)
  grow := c.grow
  row := fun b e hn => by
    by_cases hb : b = a
    · subst hb; rw [upd_same] at e; cases e
    · rw [upd_ne hb] at e; exact c.row b e hn
  row1 := fun b b' e e' hn hn' => by
    by_cases hb : b = a
    · subst hb; rw [upd_same] at e; cases e
    · by_cases hb' : b' = a
      · subst hb'; rw [upd_same] at e'; cases e'
      · rw [upd_ne hb] at e; rw [upd_ne hb'] at e'; exact c.row1 b b' e e' hn hn'
  tab := fun e => by
    by_cases hb : tabA = a
    · rw [← hb, upd_same] at e; cases e
    · rw [upd_ne hb] at e
      refine (c.tab e).keep (fun b o' z => ?_) fun _ g => g
      rw [upd_ne (by rintro rfl; rw [hz] at z; cases z)]; exact z

/-- an iterator is done -/
theorem Core.except {h₀ hE h h' : Heap} {Z₀ Z : ZM} {W : WM} {r : List Int} {a : Addr} (c : Core h₀ hE Z₀ Z W r h) (hw : W a = some .iter) (hk : ∀ b o, b ≠ a → h.get? b = some o → h'.get? b = some o) (hs : hE.objs.size ≤ h'.objs.size) :
    Core h₀ hE Z₀ Z (upd W a none) r h' where
  base := c.base
  zE := c.zE
  z0 := c.z0
  zin := fun b o e => hk b o (by rintro rfl; have := (c.dj _ _ hw).1; rw [e] at this; cases this) (c.zin b o e)
  zf := c.zf
  dj := fun b σ e => by
    by_cases hb : b = a
    · subst hb; rw [upd_same] at e; cases e
    · rw [upd_ne hb] at e
      obtain ⟨o, ho⟩ := (c.dj b σ e).2
      exact ⟨(c.dj b σ e).1, o, hk b o hb ho⟩
  wf := fun b σ e n => by
    by_cases hb : b = a
    · subst hb; rw [upd_same] at e; cases e
    · rw [upd_ne hb] at e; exact c.wf b σ e n
  wfr := fun b e => by
    by_cases hb : b = a
    · subst hb; rw [upd_same] at e; cases e
    · rw [upd_ne hb] at e; exact c.wfr b e
  wf0 := fun b σ e n => by
    by_cases hb : b = a
    · subst hb; rw [upd_same] at e; cases e
    · rw [upd_ne hb] at e; exact c.wf0 b σ e n
  h0 := c.h0
  kept := fun b o e n => by
    have hb : b ≠ a := by rintro rfl; rw [c.wf _ _ hw (by nofun)] at e; cases e
    rw [upd_ne hb] at n
    exact hk b o hb (c.kept b o e n)
  grow := hs
  row := fun b e hn => by
    by_cases hb : b = a
    · subst hb; rw [upd_same] at e; cases e
    · rw [upd_ne hb] at e
      obtain ⟨vs, n, g, i⟩ := c.row b e hn
      exact ⟨vs, n, hk b _ hb g, i⟩
  row1 := fun b b' e e' hn hn' => by
    by_cases hb : b = a
    · subst hb; rw [upd_same] at e; cases e
    · by_cases hb' : b' = a
      · subst hb'; rw [upd_same] at e'; cases e'
      · rw [upd_ne hb] at e; rw [upd_ne hb'] at e'; exact c.row1 b b' e e' hn hn'
  tab := fun e => by
    by_cases hb : tabA = a
    · rw [← hb, upd_same] at e; cases e
    · rw [upd_ne hb] at e
      exact (c.tab e).keep (fun _ _ z => z) fun o g => hk _ _ hb g

/-- the row's content changes -/
theorem Core.newRow {h₀ hE h h' : Heap} {Z₀ Z : ZM} {W : WM} {r r' : List Int} {a : Addr} {vs : List Value} {n : Nat} (c : Core h₀ hE Z₀ Z W r h) (hs : Heap.SameBut a h h') (hw : W a = some .row) (hna : a ≠ tabA)
    (hl : h'.get? a = some (listOf vs.toArray n)) (hi : IntsAre vs r') : Core h₀ hE Z₀ Z W r' h' where
  base := c.base
  zE := c.zE
  z0 := c.z0
  zin := fun b o e => by
    have hb : b ≠ a := fun q => by have := (c.dj a _ hw).1; rw [← q, e] at this; cases this
    exact (hs.2 b hb).trans (c.zin b o e)
  zf := c.zf
  dj := fun b σ e => ⟨(c.dj b σ e).1, by
    by_cases hb : b = a
    · subst hb; exact ⟨_, hl⟩
    · obtain ⟨o, g⟩ := (c.dj b σ e).2; exact ⟨o, (hs.2 b hb).trans g⟩⟩
  wf := c.wf
  wfr := c.wfr
  wf0 := c.wf0
  h0 := c.h0
  kept := fun b o e hn => (hs.2 b (fun q => hn (q ▸ hw))).trans (c.kept b o e hn)
  grow := by rw [hs.1]; exact c.grow
  row := fun b e hn => by rw [c.row1 b a e hw hn hna]; exact ⟨vs, n, hl, hi⟩
  row1 := c.row1
  tab := fun e => (c.tab e).keep (fun _ _ z => z) fun o g => (hs.2 _ (Ne.symm hna)).trans g

/-! ## slots -/
section
variable (w : World)
def IntVals : List (Str × Value) → List (Str × Int) → Prop
  | [], [] => True
  | (x, v) :: r, (y, i) :: q => x = y ∧ (∃ t, v = .int i t) ∧ IntVals r q
  | _, _ => False

def ixCls : Ix → Addr
  | .missing => 180
  | .null => 159
  | .vec .. => 209
  | .sym _ => 230

structure IxR (Z : ZM) (v : Value) (o : Ix) : Prop where
  it : ∃ a dx es n, v = .ref a ∧ Z a = some (instObj (ixCls o) dx) ∧ Z dx = some (dictOf es n) ∧ match o with
    | .missing => ∃ t, getL "kind" es = some (some (.str "missing" t))
    | .null => ∃ t, getL "kind" es = some (some (.str "NULL" t))
    | .vec k xs => (∃ t, getL "kind" es = some (some (.str k t))) ∧ ∃ iv, getL "items" es = some (some iv) ∧ FD Z iv (.list xs)
    | .sym x => (∃ t, getL "kind" es = some (some (.str "symbol" t))) ∧ ∃ t, getL "name" es = some (some (.str x t))

def SRel (Z : ZM) (W : WM) (h : Heap) (o : Option Str) (v : Value) : V → Prop
  | .un => True
  | .d x => FD Z v x
  | .scr ns => ∃ a o vs n, v = .ref a ∧ Z a = some o ∧ o.cls = .type "list" ∧ o.data = .seq vs n ∧ IntsAre vs.toList ns
  | .ix i => IxR Z v i
  | .row => ∃ a, v = .ref a ∧ W a = some .row ∧ a ≠ tabA
  | .ol xs => ∃ a vs n, v = .ref a ∧ W a = some (.own o) ∧ h.get? a = some (listOf vs.toArray n) ∧ FDs Z vs xs
  | .sd kvs => ∃ a ws, v = .ref a ∧ W a = some (.own o) ∧ h.DictOf (strKind pg w) a ws ∧ IntVals ws kvs
  | .it ks => ∃ a ws, v = .ref a ∧ W a = some (.own o) ∧ h.DictOf (intKind pg w) a ws ∧ ws.map (·.1) = ks
  | .itf ks => ∃ a ob ws, v = .ref a ∧ Z a = some ob ∧ h.DictOf (intKind pg w) a ws ∧ ws.map (·.1) = ks ∧ (a == sysModules) = false
end

def V.plain : V → Bool
  | .d _ | .scr _ | .ix _ | .row => true
  | _ => false
end Mine
namespace Mine

structure Cx where
  rank : Nat
  locs : List Str
  cells : List Str
  frees : List Str
  globs : List Str

abbrev tabCx (Γ : Cx) : Prop := (Str.ofString "single") ∈ Γ.cells
def topQual : Str := "law.<locals>."
def Cx.names (Γ : Cx) : List Str := Γ.locs ++ Γ.cells ++ Γ.frees

structure EnvOk (Γ : Cx) (env : Env) : Prop where
  kind : env.scope.kind = .function
  glob : env.globals = mainGlobals
  bi : env.builtins = builtinsNs
  locs : ∀ x ∈ Γ.locs, env.kindOf x = some .local
  cells : ∀ x ∈ Γ.cells, env.kindOf x = some .cell
  globs : ∀ x ∈ Γ.globs, env.kindOf x = some .globalImplicit
  debug : ∀ x ∈ Γ.names ++ Γ.globs, (x == ("__debug__" : Str)) = false ∧ (x == ("__classdict__" : Str)) = false
  nodup : Γ.names.Nodup
  top : tabCx Γ → env.code = .ref 302 ∧ env.qual = topQual

structure AOk (n : Nat) (A : Around) : Prop where
  handled : A.handled = none
  depth : A.depth + 4 * n ≤ 700
  units : A.units + 40 * n ≤ 5000
  top : 50 ≤ n → ∃ e, A.frames = some [e]
theorem AOk.mono {n k : Nat} {A : Around} (h : AOk n A) (hk : k ≤ n) : AOk k A := ⟨h.handled, by have := h.depth; omega, by have := h.units; omega, fun q => h.top (Nat.le_trans q hk)⟩
theorem AOk.room {n : Nat} {A : Around} (h : AOk n A) : A.depth < recursionLimit := by have := h.depth; show A.depth < 1000; omega
theorem AOk.u {n : Nat} {A : Around} (h : AOk n A) : A.units + 64 < cLine := by have := h.units; rw [cLine_is]; omega
theorem AOk.u' {n : Nat} {A : Around} (h : AOk n A) : A.units < cLine := by have := h.u; omega

/-- the value under a name -/
def Holds (env : Env) (Z : ZM) (W : WM) (h : Heap) (m : Str → Option Value) (x : Str) (v : Value) : Prop :=
  (env.kindOf x = some .local ∧ m x = some v) ∨
  ((env.kindOf x = some .cell ∨ env.kindOf x = some .free) ∧ ∃ c, env.cells.lookup x = some c ∧ h.IsCell c (some v) ∧ (W c = some (.cell x) ∨ ∃ o, Z c = some o))

def VOk (w : World) (env : Env) (Z : ZM) (W : WM) (h : Heap) (m : Str → Option Value) (x : Str) (U : V) : Prop :=
  U = .un ∨ ∃ v, Holds env Z W h m x v ∧ SRel w Z W h (some x) v U

structure Vars (w : World) (Γ : Cx) (env : Env) (Z : ZM) (W : WM) (h : Heap) (mu : List (Str × V)) : Prop where
  names : mu.map (·.1) = Γ.names
  fr : W env.locals = some .fr
  ns : ∃ m, h.Ns env.locals m ∧ ∀ p ∈ mu, VOk w env Z W h m p.1 p.2
  cel : ∀ x ∈ Γ.cells, ∃ c, env.cells.lookup x = some c ∧ W c = some (.cell x) ∧ ∃ v, h.IsCell c v

/-- the frames under way: the activation's own, or older ones -/
def FrSt (l : List Env) (hE : Heap) (W : WM) (L : Addr) : Prop :=
  ∀ fe ∈ l, fe.scope.kind ≠ .module ∧ ∃ b, fe.frame = some b ∧ (b = L ∨ ∃ o, hE.get? b = some o ∧ (∀ vs, o.data ≠ .fields vs) ∧ W b ≠ some .row ∧ W tabA ≠ some .row)

structure Rel (w : World) (h₀ : Heap) (Γ : Cx) (env : Env) (l : List Env) (hE : Heap) (Z₀ Z : ZM) (W : WM) (st : St) (h : Heap) : Prop where
  core : Core h₀ hE Z₀ Z W st.row h
  vars : Vars w Γ env Z W h st.mu
  frs : FrSt l hE W env.locals ∧ (tabCx Γ → W tabA = some .row)

structure Le (Z : ZM) (W : WM) (h : Heap) (Z' : ZM) (W' : WM) (h' : Heap) : Prop where
  z : ∀ a o, Z a = some o → Z' a = some o
  wk : ∀ a ρ, W a = some ρ → ρ.stays = true → W' a = some ρ
  it : ∀ a, W a = some .iter → h'.get? a = h.get? a
  rb : ∀ a, W' a = some .row → W a = some .row

theorem Le.refl (Z : ZM) (W : WM) (h : Heap) : Le Z W h Z W h := ⟨fun _ _ e => e, fun _ _ e _ => e, fun _ _ => rfl, fun _ e => e⟩
theorem Le.trans {Z Z' Z'' : ZM} {W W' W'' : WM} {h h' h'' : Heap} (x : Le Z W h Z' W' h') (y : Le Z' W' h' Z'' W'' h'') : Le Z W h Z'' W'' h'' :=
  ⟨fun a o e => y.z a o (x.z a o e), fun a ρ e s => y.wk a ρ (x.wk a ρ e s) s, fun a e => (y.it a (x.wk a _ e rfl)).trans (x.it a e), fun a e => x.rb a (y.rb a e)⟩

/-- what an expression does: nothing that the activation owns is touched -/
structure LeE (Z : ZM) (W : WM) (h : Heap) (Z' : ZM) (W' : WM) (h' : Heap) : Prop where
  z : ∀ a o, Z a = some o → Z' a = some o
  w : ∀ a ρ, W a = some ρ → W' a = some ρ
  same : ∀ a ρ, W a = some ρ → ρ ≠ .row → h'.get? a = h.get? a
  rb : ∀ a, W' a = some .row → W a = some .row
theorem LeE.refl (Z : ZM) (W : WM) (h : Heap) : LeE Z W h Z W h := ⟨fun _ _ e => e, fun _ _ e => e, fun _ _ _ _ => rfl, fun _ e => e⟩
theorem LeE.trans {Z Z' Z'' : ZM} {W W' W'' : WM} {h h' h'' : Heap} (x : LeE Z W h Z' W' h') (y : LeE Z' W' h' Z'' W'' h'') : LeE Z W h Z'' W'' h'' :=
  ⟨fun a o e => y.z a o (x.z a o e), fun a ρ e => y.w a ρ (x.w a ρ e), fun a ρ e n => (y.same a ρ (x.w a ρ e) n).trans (x.same a ρ e n), fun a e => x.rb a (y.rb a e)⟩
theorem LeE.le {Z Z' : ZM} {W W' : WM} {h h' : Heap} (x : LeE Z W h Z' W' h') : Le Z W h Z' W' h' := ⟨x.z, fun a ρ e _ => x.w a ρ e, fun a e => x.same a _ e (by nofun), x.rb⟩

def frsOf (l : List Env) : List Addr := l.filterMap (·.frame)

/-- an exception on its way -/
structure ExcObj (l : List Env) (hE : Heap) (msg : Str) (e : Addr) (h : Heap) : Prop where
  new : hE.get? e = none
  obj : ∃ dx vs sl es n t, h.get? e = some { cls := .ref 51, dict := some dx, data := .fields vs, slots := sl } ∧ 1 < vs.size ∧ dx ∉ frsOf l ∧ h.get? dx = some (dictOf es n) ∧ getL "message" es = some (some (.str msg t)) ∧
    (vs[1]? = some .none ∨ ∃ T oT ts, vs[1]? = some (.ref T) ∧ hE.get? T = none ∧ T ≠ e ∧ T ≠ dx ∧ h.get? T = some oT ∧ oT.data = .fields ts ∧ ts[3]? = some .none)

structure Exc (l : List Env) (hE : Heap) (W : WM) (L : Addr) (msg : Str) (r : List Int) (e : Value) (h : Heap) : Prop where
  obj : ∃ a, e = .ref a ∧ ExcObj l hE msg a h ∧ a ∉ frsOf l
  kept : ∀ b o, hE.get? b = some o → W b ≠ some .row → b ∉ frsOf l → h.get? b = some o
  slots : ∀ b o, hE.get? b = some o → W b ≠ some .row → b ∈ frsOf l → ∃ sl, h.get? b = some { o with slots := sl }
  own : ∃ o, h.get? L = some o ∧ ∀ vs, o.data ≠ .fields vs
  grow : hE.objs.size ≤ h.objs.size
  row : ∀ a, W a = some .row → a ≠ tabA → ∃ vs n, h.get? a = some (listOf vs.toArray n) ∧ IntsAre vs r

section
variable (w : World) (h₀ : Heap)

/-- expressions -/
def WE (Γ : Cx) (st : St) (e : Expr) (Φ : V → St → Prop) (Ψ : Str → List Int → Prop) : Prop :=
  ∀ (A : Around) (env : Env) (l : List Env) (hE : Heap) (Z₀ Z : ZM) (W : WM) (s : Shared) (Q : Value → Shared → Prop) (E : Value → Shared → Prop),
    AOk Γ.rank A → A.frames = some l → EnvOk Γ env → Rel w h₀ Γ env l hE Z₀ Z W st s.heap →
    (∀ v U st' Z' W' h' tk, Φ U st' → Rel w h₀ Γ env l hE Z₀ Z' W' st' h' → LeE Z W s.heap Z' W' h' → SRel w Z' W' h' none v U → Q v { s with heap := h', toks := tk }) →
    (∀ e' msg r h' tk, Ψ msg r → Exc l hE W env.locals msg r e' h' → E e' { s with heap := h', toks := tk }) →
    wpAny (model pg w) A (eval e env) Q E s

/-- tests -/
def WT (Γ : Cx) (st : St) (e : Expr) (Φ : Bool → St → Prop) (Ψ : Str → List Int → Prop) : Prop :=
  ∀ (A : Around) (env : Env) (l : List Env) (hE : Heap) (Z₀ Z : ZM) (W : WM) (s : Shared) (Q : Bool → Shared → Prop) (E : Value → Shared → Prop),
    AOk Γ.rank A → A.frames = some l → EnvOk Γ env → Rel w h₀ Γ env l hE Z₀ Z W st s.heap →
    (∀ b st' Z' W' h' tk, Φ b st' → Rel w h₀ Γ env l hE Z₀ Z' W' st' h' → LeE Z W s.heap Z' W' h' → Q b { s with heap := h', toks := tk }) →
    (∀ e' msg r h' tk, Ψ msg r → Exc l hE W env.locals msg r e' h' → E e' { s with heap := h', toks := tk }) →
    wpAny (model pg w) A (isTrue e env (eval e env)) Q E s

inductive Vals (Z : ZM) (W : WM) (h : Heap) : List Value → List V → Prop
  | nil : Vals Z W h [] []
  | cons {v U vs Us} : SRel w Z W h none v U → U.plain = true → Vals Z W h vs Us → Vals Z W h (v :: vs) (U :: Us)

/-- lists of expressions -/
def WA (Γ : Cx) (st : St) (pos : Pos) (es : List Expr) (Φ : List V → St → Prop) (Ψ : Str → List Int → Prop) : Prop :=
  ∀ (A : Around) (env : Env) (l : List Env) (hE : Heap) (Z₀ Z : ZM) (W : WM) (s : Shared) (Q : List Value → Shared → Prop) (E : Value → Shared → Prop),
    AOk Γ.rank A → A.frames = some l → EnvOk Γ env → Rel w h₀ Γ env l hE Z₀ Z W st s.heap →
    (∀ vs Us st' Z' W' h' tk, Φ Us st' → Rel w h₀ Γ env l hE Z₀ Z' W' st' h' → LeE Z W s.heap Z' W' h' → Vals w Z' W' h' vs Us → Q vs { s with heap := h', toks := tk }) →
    (∀ e' msg r h' tk, Ψ msg r → Exc l hE W env.locals msg r e' h' → E e' { s with heap := h', toks := tk }) →
    wpAny (model pg w) A (spliced (backTo pos (starEach es env))) Q E s

inductive Fl where
  | next | cont
  | ret (U : V)

def FlRel (Z : ZM) (W : WM) (h : Heap) : Flow → Fl → Prop
  | .next, .next => True
  | .cont, .cont => True
  | .ret v, .ret U => SRel w Z W h none v U
  | _, _ => False

/-- statements -/
def WX (Γ : Cx) (st : St) (t : Stmt) (Φ : Fl → St → Prop) (Ψ : Str → List Int → Prop) : Prop :=
  ∀ (A : Around) (env : Env) (l : List Env) (hE : Heap) (Z₀ Z : ZM) (W : WM) (s : Shared) (Q : Flow → Shared → Prop) (E : Value → Shared → Prop),
    AOk Γ.rank A → A.frames = some l → EnvOk Γ env → Rel w h₀ Γ env l hE Z₀ Z W st s.heap →
    (∀ f F st' Z' W' h' tk, Φ F st' → Rel w h₀ Γ env l hE Z₀ Z' W' st' h' → Le Z W s.heap Z' W' h' → FlRel w Z' W' h' f F → Q f { s with heap := h', toks := tk }) →
    (∀ e' msg r h' tk, Ψ msg r → Exc l hE W env.locals msg r e' h' → E e' { s with heap := h', toks := tk }) →
    wpAny (model pg w) A (exec t env) Q E s
def WS (Γ : Cx) (st : St) (ts : List Stmt) (Φ : Fl → St → Prop) (Ψ : Str → List Int → Prop) : Prop :=
  ∀ (A : Around) (env : Env) (l : List Env) (hE : Heap) (Z₀ Z : ZM) (W : WM) (s : Shared) (Q : Flow → Shared → Prop) (E : Value → Shared → Prop),
    AOk Γ.rank A → A.frames = some l → EnvOk Γ env → Rel w h₀ Γ env l hE Z₀ Z W st s.heap →
    (∀ f F st' Z' W' h' tk, Φ F st' → Rel w h₀ Γ env l hE Z₀ Z' W' st' h' → Le Z W s.heap Z' W' h' → FlRel w Z' W' h' f F → Q f { s with heap := h', toks := tk }) →
    (∀ e' msg r h' tk, Ψ msg r → Exc l hE W env.locals msg r e' h' → E e' { s with heap := h', toks := tk }) →
    wpAny (model pg w) A (execs ts env) Q E s
end

section
variable {w : World} {h₀ : Heap}

theorem SRel.plainMono {Z Z' : ZM} {W W' : WM} {h h' : Heap} {o o' : Option Str} {v : Value} {U : V} (x : SRel w Z W h o v U) (hp : U.plain = true) (hz : ∀ a ob, Z a = some ob → Z' a = some ob)
    (hw : ∀ a, W a = some .row → a ≠ tabA → W' a = some .row) : SRel w Z' W' h' o' v U := by
  cases U with
  | d y => exact FD.mono hz x
  | scr ns => obtain ⟨a, o, vs, n, e1, e2, r⟩ := x; exact ⟨a, o, vs, n, e1, hz _ _ e2, r⟩
  | ix i =>
    obtain ⟨a, dx, es, n, e1, e2, e3, e4⟩ := x.it
    refine ⟨a, dx, es, n, e1, hz _ _ e2, hz _ _ e3, ?_⟩
    cases i with
    | missing => exact e4
    | null => exact e4
    | vec k xs => exact ⟨e4.1, e4.2.choose, e4.2.choose_spec.1, FD.mono hz e4.2.choose_spec.2⟩
    | sym y => exact e4
  | row => obtain ⟨a, e1, e2, e3⟩ := x; exact ⟨a, e1, hw a e2 e3, e3⟩
  | _ => cases hp
theorem SRel.leE {Z Z' : ZM} {W W' : WM} {h h' : Heap} {o o' : Option Str} {v : Value} {U : V} (x : SRel w Z W h o v U) (hp : U.plain = true) (hl : LeE Z W h Z' W' h') : SRel w Z' W' h' o' v U :=
  x.plainMono hp hl.z fun a e _ => hl.w a _ e
theorem SRel.le {Z Z' : ZM} {W W' : WM} {h h' : Heap} {o o' : Option Str} {v : Value} {U : V} (x : SRel w Z W h o v U) (hp : U.plain = true) (hl : Le Z W h Z' W' h') : SRel w Z' W' h' o' v U :=
  x.plainMono hp hl.z fun a e _ => hl.wk a _ e rfl
theorem Vals.le {Z Z' : ZM} {W W' : WM} {h h' : Heap} : ∀ {vs : List Value} {Us : List V}, Vals w Z W h vs Us → Le Z W h Z' W' h' → Vals w Z' W' h' vs Us
  | _, _, .nil, _ => .nil
  | _, _, .cons x hp r, hl => .cons (x.le hp hl) hp (r.le hl)

theorem Vals.leE {Z Z' : ZM} {W W' : WM} {h h' : Heap} {vs : List Value} {Us : List V} (x : Vals w Z W h vs Us) (hl : LeE Z W h Z' W' h') : Vals w Z' W' h' vs Us := x.le hl.le
theorem Exc.le {l : List Env} {hE : Heap} {Z Z' : ZM} {W W' : WM} {h h' h'' : Heap} {L : Addr} {msg : Str} {r : List Int} {e : Value} (x : Exc l hE W' L msg r e h'') (hl : Le Z W h Z' W' h') : Exc l hE W L msg r e h'' where
  obj := x.obj
  kept := fun b o e n => x.kept b o e fun q => n (hl.rb b q)
  slots := fun b o e n => x.slots b o e fun q => n (hl.rb b q)
  own := x.own
  grow := x.grow
  row := fun a e n => x.row a (hl.wk a _ e rfl) n

theorem Exc.leE {l : List Env} {hE : Heap} {Z Z' : ZM} {W W' : WM} {h h' h'' : Heap} {L : Addr} {msg : Str} {r : List Int} {e : Value} (x : Exc l hE W' L msg r e h'') (hl : LeE Z W h Z' W' h') : Exc l hE W L msg r e h'' := x.le hl.le

/-- what holds when the heap alone has grown or changed at owned places that no variable knows -/
theorem Vars.mono {Γ : Cx} {env : Env} {Z : ZM} {W : WM} {h h' : Heap} {mu : List (Str × V)} (x : Vars w Γ env Z W h mu) (hk : ∀ b o, h.get? b = some o → W b ≠ some .iter → W b ≠ some .row → h'.get? b = some o)
    (hz : ∀ a o, Z a = some o → W a = none) : Vars w Γ env Z W h' mu := by
  obtain ⟨hn, hf, ⟨m, hm, hv⟩, hc⟩ := x
  have ki : ∀ {c v}, h.IsCell c v → W c ≠ some .iter → W c ≠ some .row → h'.IsCell c v := fun {c v} ⟨o, a, b⟩ n1 n2 => ⟨o, hk _ _ a n1 n2, b⟩
  refine ⟨hn, hf, ⟨m, ?_, fun p hp => ?_⟩, fun y hy => ?_⟩
  · obtain ⟨o, es, ep, ho, r⟩ := hm
    exact ⟨o, es, ep, hk _ _ ho (by rw [hf]; nofun) (by rw [hf]; nofun), r⟩
  · rcases hv p hp with e | ⟨v, hh, hs⟩
    · exact .inl e
    · refine .inr ⟨v, ?_, ?_⟩
      · rcases hh with a | ⟨a, c, b, d, e⟩
        · exact .inl a
        · have hne : W c ≠ some .iter ∧ W c ≠ some .row := by
            rcases e with e | ⟨o, e⟩
            · rw [e]; exact ⟨nofun, nofun⟩
            · rw [hz _ _ e]; exact ⟨nofun, nofun⟩
          exact .inr ⟨a, c, b, ki d hne.1 hne.2, e⟩
      · generalize p.2 = U at hs ⊢
        cases U with
        | ol xs => obtain ⟨a, vs, n, e1, e2, e3, e4⟩ := hs; exact ⟨a, vs, n, e1, e2, hk _ _ e3 (by rw [e2]; nofun) (by rw [e2]; nofun), e4⟩
        | sd kvs =>
          obtain ⟨a, ws, e1, e2, ⟨ob, es, ep, g, r⟩, e4⟩ := hs
          exact ⟨a, ws, e1, e2, ⟨ob, es, ep, hk _ _ g (by rw [e2]; nofun) (by rw [e2]; nofun), r⟩, e4⟩
        | it ks =>
          obtain ⟨a, ws, e1, e2, ⟨ob, es, ep, g, r⟩, e4⟩ := hs
          exact ⟨a, ws, e1, e2, ⟨ob, es, ep, hk _ _ g (by rw [e2]; nofun) (by rw [e2]; nofun), r⟩, e4⟩
        | itf ks =>
          obtain ⟨a, oz, ws, e1, e2, ⟨ob, es, ep, g, r⟩, e4⟩ := hs
          exact ⟨a, oz, ws, e1, e2, ⟨ob, es, ep, hk _ _ g (by rw [hz _ _ e2]; nofun) (by rw [hz _ _ e2]; nofun), r⟩, e4⟩
        | _ => exact hs
  · obtain ⟨c, e1, e2, v, e3⟩ := hc y hy
    exact ⟨c, e1, e2, v, ki e3 (by rw [e2]; nofun) (by rw [e2]; nofun)⟩

theorem Core.zw {hE h : Heap} {Z₀ Z : ZM} {W : WM} {r : List Int} (c : Core h₀ hE Z₀ Z W r h) : ∀ a o, Z a = some o → W a = none := fun a o e => by
  cases hw : W a with
  | none => rfl
  | some ρ => have := (c.dj a ρ hw).1; rw [e] at this; cases this

theorem Vars.grow {Γ : Cx} {env : Env} {Z : ZM} {W : WM} {h : Heap} {mu : List (Str × V)} (x : Vars w Γ env Z W h mu) {n : Nat} (hn : n ≤ env.locals) : n ≤ h.objs.size := by
  obtain ⟨m, hm, _⟩ := x.ns
  exact Nat.le_of_lt (Nat.lt_of_le_of_lt hn hm.lt)
/-- the heap has grown -/
theorem Rel.keeps {Γ : Cx} {env : Env} {l : List Env} {hE h h' : Heap} {Z₀ Z : ZM} {W : WM} {st : St} (x : Rel w h₀ Γ env l hE Z₀ Z W st h) (hk : ∀ b o, h.get? b = some o → h'.get? b = some o) :
    Rel w h₀ Γ env l hE Z₀ Z W st h' :=
  have hv := x.vars.mono (fun b o e _ _ => hk b o e) x.core.zw
  ⟨x.core.keeps hk (hv.grow (x.core.wfr _ hv.fr)), hv, x.frs⟩
theorem Rel.push {Γ : Cx} {env : Env} {l : List Env} {hE h : Heap} {Z₀ Z : ZM} {W : WM} {st : St} (x : Rel w h₀ Γ env l hE Z₀ Z W st h) (o : Obj) : Rel w h₀ Γ env l hE Z₀ Z W st (h.push o) :=
  x.keeps (fun _ _ e => Heap.get?_push_of_some _ e)
theorem LeE.keeps {Z : ZM} {W : WM} {h h' : Heap} {r : List Int} {hE : Heap} {Z₀ : ZM} (c : Core h₀ hE Z₀ Z W r h) (hk : ∀ b o, h.get? b = some o → h'.get? b = some o) : LeE Z W h Z W h' :=
  ⟨fun _ _ e => e, fun _ _ e => e, fun a _ e _ => by obtain ⟨o, ho⟩ := (c.dj a _ e).2; rw [ho, hk _ _ ho], fun _ e => e⟩
end
end Mine
namespace Mine

inductive At : List (Str × V) → Str → V → Prop
  | here {x U r} : At ((x, U) :: r) x U
  | there {p r x U} : At r x U → At (p :: r) x U
theorem At.mem {mu : List (Str × V)} {x : Str} {U : V} (h : At mu x U) : (x, U) ∈ mu := by
  induction h with
  | here => exact .head _
  | there _ ih => exact .tail _ ih

section
variable {w : World} {h₀ : Heap} {Γ : Cx} {st : St} {Φ : V → St → Prop} {Ψ : Str → List Int → Prop}

theorem Rel.ends {env : Env} {l : List Env} {hE : Heap} {Z₀ Z : ZM} {W : WM} {s : Shared} {v : Value} {U : V} {Q : Value → Shared → Prop} (hR : Rel w h₀ Γ env l hE Z₀ Z W st s.heap)
    (hQ : ∀ v U st' Z' W' h' tk, Φ U st' → Rel w h₀ Γ env l hE Z₀ Z' W' st' h' → LeE Z W s.heap Z' W' h' → SRel w Z' W' h' none v U → Q v { s with heap := h', toks := tk })
    (h : Φ U st) (hv : SRel w Z W s.heap none v U) (tk : Nat) : Q v { s with toks := tk } :=
  hQ v U st Z W s.heap tk h hR (LeE.refl _ _ _) hv

theorem WE.mono {Φ' : V → St → Prop} {Ψ' : Str → List Int → Prop} {e : Expr} (h : WE w h₀ Γ st e Φ Ψ) (hΦ : ∀ U st', Φ U st' → Φ' U st') (hΨ : ∀ m r, Ψ m r → Ψ' m r) : WE w h₀ Γ st e Φ' Ψ' := by
  intro A env l hE Z₀ Z W s Q E hA hl hO hR hQ hX
  exact h A env l hE Z₀ Z W s Q E hA hl hO hR (fun v U st' Z' W' h' tk p => hQ v U st' Z' W' h' tk (hΦ _ _ p)) (fun e' msg r h' tk p => hX e' msg r h' tk (hΨ _ _ p))

theorem WE.cint {i : Int} {k : Nat} {pos : Pos} (h : Φ (.d (.int i)) st) : WE w h₀ Γ st (.Constant (.int i) k pos) Φ Ψ := by
  intro A env l hE Z₀ Z W s Q E hA hl hO hR hQ hX
  exact wpAny_Constant_int (hR.ends hQ h (.int _ _) _)
theorem WE.cnone {k : Nat} {pos : Pos} (h : Φ (.d .none) st) : WE w h₀ Γ st (.Constant .none k pos) Φ Ψ := by
  intro A env l hE Z₀ Z W s Q E hA hl hO hR hQ hX
  exact wpAny_Constant_none (hR.ends hQ h .none _)
theorem WE.cbool {b : Bool} {k : Nat} {pos : Pos} (h : Φ (.d (.bool b)) st) : WE w h₀ Γ st (.Constant (.bool b) k pos) Φ Ψ := by
  intro A env l hE Z₀ Z W s Q E hA hl hO hR hQ hX
  exact wpAny_Constant_bool (hR.ends hQ h (.bool _) _)
theorem WE.cstr {x : Str} {k : Nat} {pos : Pos} (h : Φ (.d (.str x)) st) : WE w h₀ Γ st (.Constant (.str x) k pos) Φ Ψ := by
  intro A env l hE Z₀ Z W s Q E hA hl hO hR hQ hX
  exact wpAny_Constant_str (hR.ends hQ h (.str _ _) _)

theorem Vars.in {env : Env} {Z : ZM} {W : WM} {h : Heap} {mu : List (Str × V)} (x : Vars w Γ env Z W h mu) {y : Str} {U : V} (hm : (y, U) ∈ mu) : y ∈ Γ.names := by
  rw [← x.names]; exact List.mem_map_of_mem (f := (·.1)) hm
theorem EnvOk.dbg {env : Env} (hO : EnvOk Γ env) {y : Str} (hm : y ∈ Γ.names) : (y == ("__debug__" : Str)) = false := (hO.debug y (List.mem_append_left _ hm)).1

/-- a name of the frame, read -/
theorem load_name {A : Around} {env : Env} {l : List Env} {hE : Heap} {Z₀ Z : ZM} {W : WM} {s : Shared} {E : Value → Shared → Prop} {Q : Value → Shared → Prop} (hO : EnvOk Γ env) (hR : Rel w h₀ Γ env l hE Z₀ Z W st s.heap)
    {x : Str} {U : V} {pos : Pos} (hm : At st.mu x U) (hu : U ≠ .un) (h : ∀ v, SRel w Z W s.heap (some x) v U → Q v s) : wpAny (model pg w) A (eval (.Name x pos) env) Q E s := by
  have hn := hR.vars.in hm.mem
  obtain ⟨m, hm1, hm2⟩ := hR.vars.ns
  rcases hm2 _ hm.mem with e | ⟨v, hh, hs⟩
  · exact absurd e hu
  · refine wpAny_Name ?_ (hO.dbg hn)
    rcases hh with ⟨k, e⟩ | ⟨k, c, e1, e2, _⟩
    · exact wpAny_loadName_local hO.kind k hm1 e (h v hs)
    · rcases k with k | k
      · exact wpAny_loadName_cell hO.kind k e1 e2 (h v hs)
      · exact wpAny_loadName_free hO.kind k e1 e2 (h v hs) (hO.debug x (List.mem_append_left _ hn)).2

theorem WE.name {x : Str} {pos : Pos} {U : V} (hm : At st.mu x U) (hp : U.plain = true) (h : Φ U st) : WE w h₀ Γ st (.Name x pos) Φ Ψ := by
  intro A env l hE Z₀ Z W s Q E hA hl hO hR hQ hX
  refine load_name hO hR hm (by rintro rfl; cases hp) fun v hs => ?_
  exact hR.ends hQ h (hs.plainMono hp (fun _ _ e => e) fun _ e _ => e) s.toks

/-! ## int arithmetic, texts glued -/
inductive BinR : Operator → PyData → PyData → PyData → Prop
  | add (a b : Int) : BinR .Add (.int a) (.int b) (.int (a + b))
  | sub (a b : Int) : BinR .Sub (.int a) (.int b) (.int (a - b))
  | mod (a b : Int) : b ≠ 0 → BinR .Mod (.int a) (.int b) (.int (a.fmod b))
  | fdiv (a b : Int) : b ≠ 0 → Builtin.divisionGoesByPylong a b = false → BinR .FloorDiv (.int a) (.int b) (.int (a.fdiv b))
  | cat (x y : Str) : (x ++ y).length ≤ sizeLine → BinR .Add (.str x) (.str y) (.str (x ++ y))

theorem BinR.run {op : Operator} {a b c : PyData} (h : BinR op a b c) {Z : ZM} {u v : Value} (hu : FD Z u a) (hv : FD Z v b) {A : Around} {E : Value → Shared → Prop} {s : Shared} {Q : Value → Shared → Prop}
    (hQ : ∀ r tk, FD Z r c → Q r { s with toks := tk }) : wpAny (model pg w) A (binaryOp op u v) Q E s := by
  cases h with
  | add a b => cases hu; cases hv; exact P.add_int (hQ _ _ (.int _ _))
  | sub a b => cases hu; cases hv; exact P.sub_int (hQ _ _ (.int _ _))
  | mod a b hb => cases hu; cases hv; exact mod_int' hb (hQ _ _ (.int _ _))
  | fdiv a b hb hp => cases hu; cases hv; exact floordiv_int hb (hQ _ _ (.int _ _)) (.inl hp)
  | cat x y hl =>
    cases hu; cases hv
    refine P.add_str ?_
    split
    · rename_i h0
      have : x ++ y = y := by
        have hx : x = ⟨#[]⟩ := by
          obtain ⟨c⟩ := x
          have : c.size = 0 := by simpa [Str.length] using h0
          rw [Array.eq_empty_of_size_eq_zero this]
        rw [hx]; exact Str.empty_append y
      rw [this] at hQ
      exact hQ _ _ (.str _ _)
    · split
      · rename_i h0
        have : x ++ y = x := by
          have hy : y = ⟨#[]⟩ := by
            obtain ⟨c⟩ := y
            have : c.size = 0 := by simpa [Str.length] using h0
            rw [Array.eq_empty_of_size_eq_zero this]
          rw [hy]; exact Str.append_empty x
        rw [this] at hQ
        exact hQ _ _ (.str _ _)
      · exact ⟨hl, hQ _ _ (.str _ _)⟩

theorem WE.bin {op : Operator} {a b : Expr} {pos : Pos} (h : WE w h₀ Γ st a (fun U st₁ => ∃ x, U = .d x ∧ WE w h₀ Γ st₁ b (fun U' st₂ => ∃ y z, U' = .d y ∧ BinR op x y z ∧ Φ (.d z) st₂) Ψ) Ψ) :
    WE w h₀ Γ st (.BinOp a op b pos) Φ Ψ := by
  intro A env l hE Z₀ Z W s Q E hA hl hO hR hQ hX
  refine wpAny_BinOp (h A env l hE Z₀ Z W s _ E hA hl hO hR ?_ hX)
  rintro v U st₁ Z₁ W₁ h₁ tk₁ ⟨x, rfl, h2⟩ hR₁ hL₁ hv
  refine h2 A env l hE Z₀ Z₁ W₁ _ _ E hA hl hO hR₁ ?_ (fun e' msg r h' tk p q => hX e' msg r h' tk p (q.leE hL₁))
  rintro v' U' st₂ Z₂ W₂ h₂ tk₂ ⟨y, z, rfl, hb, hΦ⟩ hR₂ hL₂ hv'
  exact hb.run (FD.mono hL₂.z hv) hv' fun r tk hr => hQ r _ st₂ Z₂ W₂ h₂ tk hΦ hR₂ (hL₁.trans hL₂) hr

theorem WE.neg {a : Expr} {pos : Pos} (h : WE w h₀ Γ st a (fun U st₁ => ∃ i, U = .d (.int i) ∧ Φ (.d (.int (-i))) st₁) Ψ) : WE w h₀ Γ st (.UnaryOp .USub a pos) Φ Ψ := by
  intro A env l hE Z₀ Z W s Q E hA hl hO hR hQ hX
  refine wpAny_UnaryOp (h A env l hE Z₀ Z W s _ E hA hl hO hR ?_ hX)
  rintro v U st₁ Z₁ W₁ h₁ tk₁ ⟨i, rfl, h2⟩ hR₁ hL₁ hv
  cases hv
  exact P.neg_int (hQ _ _ st₁ Z₁ W₁ h₁ _ h2 hR₁ hL₁ (.int _ _))

/-! ## comparisons -/
def isNoneD : PyData → Bool
  | .none => true
  | _ => false
inductive CmpR : CmpOp → PyData → PyData → Bool → Prop
  | lt (a b : Int) : CmpR .Lt (.int a) (.int b) (decide (a < b))
  | le (a b : Int) : CmpR .LtE (.int a) (.int b) (decide (a ≤ b))
  | gt (a b : Int) : CmpR .Gt (.int a) (.int b) (decide (a > b))
  | ge (a b : Int) : CmpR .GtE (.int a) (.int b) (decide (a ≥ b))
  | isN (d : PyData) : CmpR .Is d .none (isNoneD d)
  | isNotN (d : PyData) : CmpR .IsNot d .none (!isNoneD d)
  | eq (d e : PyData) : SeqAt.shaped d = true → SeqAt.shaped e = true → CmpR .Eq d e (PyData.eqv d e)
  | ne (d e : PyData) : SeqAt.shaped d = true → SeqAt.shaped e = true → CmpR .NotEq d e (!PyData.eqv d e)
  | inL (d : PyData) (xs : List PyData) : PyData.canLayAll0 xs = true → SeqAt.shaped d = true → CmpR .In d (.list xs) (xs.any fun y => PyData.eqv y d)
  | notInL (d : PyData) (xs : List PyData) : PyData.canLayAll0 xs = true → SeqAt.shaped d = true → CmpR .NotIn d (.list xs) (!xs.any fun y => PyData.eqv y d)
  | inT (d : PyData) (xs : List PyData) : PyData.canLayAll0 xs = true → SeqAt.shaped d = true → CmpR .In d (.tuple xs) (xs.any fun y => PyData.eqv y d)
  | notInT (d : PyData) (xs : List PyData) : PyData.canLayAll0 xs = true → SeqAt.shaped d = true → CmpR .NotIn d (.tuple xs) (!xs.any fun y => PyData.eqv y d)

theorem FD.none_beq {Z : ZM} {v : Value} {d : PyData} (h : FD Z v d) : (v == Value.none) = isNoneD d := by
  cases h <;> first | rfl | (simp [isNoneD])

theorem CmpR.run {op : CmpOp} {d e : PyData} {b : Bool} (h : CmpR op d e b) {n : Nat} {Z : ZM} {u v : Value} (hu : FD Z u d) (hv : FD Z v e) {A : Around} (hA : AOk n A) {E : Value → Shared → Prop} {s : Shared} {Q : Value → Shared → Prop}
    (hz : ∀ a o, Z a = some o → s.heap.get? a = some o) (hQ : Q (.bool b) s) : wpAny (model pg w) A (compareOp op u v) Q E s := by
  have room : ∀ {xs : List PyData} {d : PyData}, SeqAt.shaped d = true → A.units + 1 + min (PyData.depthAll xs) d.depth < cLine := fun {xs d} hd => by
    have h1 := hA.units; have h5 := cLine_is
    have h2 := Nat.min_le_right (PyData.depthAll xs) d.depth
    have h3 := (Bool.and_eq_true_iff.mp hd).2
    have h4 := of_decide_eq_true h3
    omega
  have lay : ∀ {d : PyData}, SeqAt.shaped d = true → d.canLay0 = true := fun {d} hd => (Bool.and_eq_true_iff.mp hd).1
  cases h with
  | lt a b => cases hu; cases hv; exact P.lt_int hQ
  | le a b => cases hu; cases hv; exact P.le_int hQ
  | gt a b => cases hu; cases hv; exact P.gt_int hQ
  | ge a b => cases hu; cases hv; exact P.ge_int hQ
  | isN d => cases hv; exact is_none (by rw [hu.none_beq]; exact hQ)
  | isNotN d => cases hv; exact isNot_none (by rw [hu.none_beq]; exact hQ)
  | eq d e h1 h2 =>
    obtain ⟨_, r1⟩ := hu.reads hz
    obtain ⟨_, r2⟩ := hv.reads hz
    exact eq_dataH r1 r2 h1 h2 hA.u hQ
  | ne d e h1 h2 =>
    obtain ⟨_, r1⟩ := hu.reads hz
    obtain ⟨_, r2⟩ := hv.reads hz
    exact ne_dataH r1 r2 h1 h2 hA.u hQ
  | inL d xs h1 h2 =>
    obtain ⟨_, r1⟩ := hu.reads hz
    obtain ⟨_, r2⟩ := hv.reads hz
    exact SeqAt.in_list_reads r2 r1 h1 (lay h2) (room h2) hQ
  | notInL d xs h1 h2 =>
    obtain ⟨_, r1⟩ := hu.reads hz
    obtain ⟨_, r2⟩ := hv.reads hz
    exact SeqAt.notIn_list_reads r2 r1 h1 (lay h2) (room h2) hQ
  | inT d xs h1 h2 =>
    obtain ⟨_, r1⟩ := hu.reads hz
    obtain ⟨_, r2⟩ := hv.reads hz
    exact SeqAt.in_tuple_reads r2 r1 h1 (lay h2) (room h2) hQ
  | notInT d xs h1 h2 =>
    obtain ⟨_, r1⟩ := hu.reads hz
    obtain ⟨_, r2⟩ := hv.reads hz
    exact SeqAt.notIn_tuple_reads r2 r1 h1 (lay h2) (room h2) hQ

theorem WE.cmp {op : CmpOp} {a b : Expr} {pos : Pos} (h : WE w h₀ Γ st a (fun U st₁ => ∃ x, U = .d x ∧ WE w h₀ Γ st₁ b (fun U' st₂ => ∃ y c, U' = .d y ∧ CmpR op x y c ∧ Φ (.d (.bool c)) st₂) Ψ) Ψ)
    (hm : behindInMarks op b = false := by with_unfolding_all rfl) : WE w h₀ Γ st (.Compare a [op] [b] pos) Φ Ψ := by
  intro A env l hE Z₀ Z W s Q E hA hl hO hR hQ hX
  refine wpAny_Compare1 (h A env l hE Z₀ Z W s _ E hA hl hO hR ?_ hX) hm
  rintro v U st₁ Z₁ W₁ h₁ tk₁ ⟨x, rfl, h2⟩ hR₁ hL₁ hv
  refine h2 A env l hE Z₀ Z₁ W₁ _ _ E hA hl hO hR₁ ?_ (fun e' msg r h' tk p q => hX e' msg r h' tk p (q.leE hL₁))
  rintro v' U' st₂ Z₂ W₂ h₂ tk₂ ⟨y, z, rfl, hb, hΦ⟩ hR₂ hL₂ hv'
  exact hb.run (FD.mono hL₂.z hv) hv' hA hR₂.core.zin (hQ _ _ st₂ Z₂ W₂ h₂ tk₂ hΦ hR₂ (hL₁.trans hL₂) (.bool _))

theorem WT.cmp {op : CmpOp} {a b : Expr} {pos : Pos} {Φ : Bool → St → Prop} (h : WE w h₀ Γ st a (fun U st₁ => ∃ x, U = .d x ∧ WE w h₀ Γ st₁ b (fun U' st₂ => ∃ y c, U' = .d y ∧ CmpR op x y c ∧ Φ c st₂) Ψ) Ψ)
    (hm : behindInMarks op b = false := by with_unfolding_all rfl) : WT w h₀ Γ st (.Compare a [op] [b] pos) Φ Ψ := by
  intro A env l hE Z₀ Z W s Q E hA hl hO hR hQ hX
  refine wpAny_isTrue_Compare1 (h A env l hE Z₀ Z W s _ E hA hl hO hR ?_ hX) hm
  rintro v U st₁ Z₁ W₁ h₁ tk₁ ⟨x, rfl, h2⟩ hR₁ hL₁ hv
  refine h2 A env l hE Z₀ Z₁ W₁ _ _ E hA hl hO hR₁ ?_ (fun e' msg r h' tk p q => hX e' msg r h' tk p (q.leE hL₁))
  rintro v' U' st₂ Z₂ W₂ h₂ tk₂ ⟨y, z, rfl, hb, hΦ⟩ hR₂ hL₂ hv'
  exact hb.run (FD.mono hL₂.z hv) hv' hA hR₂.core.zin (wpAny_truthy_bool (hQ _ st₂ Z₂ W₂ h₂ tk₂ hΦ hR₂ (hL₁.trans hL₂)))

/-- a test that is a value -/
theorem WT.val {e : Expr} {Φ : Bool → St → Prop} (h : WE w h₀ Γ st e (fun U st₁ => ∃ b, U = .d (.bool b) ∧ Φ b st₁) Ψ) (he : ∀ env whole, isTrue e env whole = (do let v ← whole; standAt e.pos; holding [v] (truthy v)) := by intro _ _; rfl) :
    WT w h₀ Γ st e Φ Ψ := by
  intro A env l hE Z₀ Z W s Q E hA hl hO hR hQ hX
  refine wpAny_isTrue_value (h A env l hE Z₀ Z W s _ E hA hl hO hR ?_ hX) (he _ _)
  rintro v U st₁ Z₁ W₁ h₁ tk₁ ⟨b, rfl, h2⟩ hR₁ hL₁ hv
  cases hv
  exact wpAny_truthy_bool (hQ _ st₁ Z₁ W₁ h₁ tk₁ h2 hR₁ hL₁)
theorem WT.not {e : Expr} {pos : Pos} {Φ : Bool → St → Prop} (h : WT w h₀ Γ st e (fun b st₁ => Φ (!b) st₁) Ψ) : WT w h₀ Γ st (.UnaryOp .Not e pos) Φ Ψ := by
  intro A env l hE Z₀ Z W s Q E hA hl hO hR hQ hX
  exact wpAny_isTrue_Not (h A env l hE Z₀ Z W s _ E hA hl hO hR (fun b st₁ Z₁ W₁ h₁ tk₁ p r le => hQ _ st₁ Z₁ W₁ h₁ tk₁ p r le) hX)

def WAll (w : World) (h₀ : Heap) (op : BoolOp) (Γ : Cx) (st : St) (es : List Expr) (Φ : Bool → St → Prop) (Ψ : Str → List Int → Prop) : Prop :=
  ∀ (A : Around) (env : Env) (l : List Env) (hE : Heap) (Z₀ Z : ZM) (W : WM) (s : Shared) (Q : Bool → Shared → Prop) (E : Value → Shared → Prop),
    AOk Γ.rank A → A.frames = some l → EnvOk Γ env → Rel w h₀ Γ env l hE Z₀ Z W st s.heap →
    (∀ b st' Z' W' h' tk, Φ b st' → Rel w h₀ Γ env l hE Z₀ Z' W' st' h' → LeE Z W s.heap Z' W' h' → Q b { s with heap := h', toks := tk }) →
    (∀ e' msg r h' tk, Ψ msg r → Exc l hE W env.locals msg r e' h' → E e' { s with heap := h', toks := tk }) →
    wpAny (model pg w) A (allTrue op es env) Q E s
theorem WAll.andNil {Φ : Bool → St → Prop} (h : Φ true st) : WAll w h₀ .And Γ st [] Φ Ψ := by
  intro A env l hE Z₀ Z W s Q E hA hl hO hR hQ hX
  exact wpAny_allTrue_And_nil (hQ _ st Z W s.heap s.toks h hR (LeE.refl _ _ _))
theorem WAll.orNil {Φ : Bool → St → Prop} (h : Φ false st) : WAll w h₀ .Or Γ st [] Φ Ψ := by
  intro A env l hE Z₀ Z W s Q E hA hl hO hR hQ hX
  exact wpAny_allTrue_Or_nil (hQ _ st Z W s.heap s.toks h hR (LeE.refl _ _ _))
theorem WAll.andCons {e : Expr} {es : List Expr} {Φ : Bool → St → Prop} (h : WT w h₀ Γ st e (fun b st₁ => if b then WAll w h₀ .And Γ st₁ es Φ Ψ else Φ false st₁) Ψ) : WAll w h₀ .And Γ st (e :: es) Φ Ψ := by
  intro A env l hE Z₀ Z W s Q E hA hl hO hR hQ hX
  refine wpAny_allTrue_And_cons (h A env l hE Z₀ Z W s _ E hA hl hO hR ?_ hX)
  intro b st₁ Z₁ W₁ h₁ tk₁ h2 hR₁ hL₁
  cases b with
  | true => exact h2 A env l hE Z₀ Z₁ W₁ _ _ E hA hl hO hR₁ (fun b st₂ Z₂ W₂ h₂ tk₂ p r le => hQ b st₂ Z₂ W₂ h₂ tk₂ p r (hL₁.trans le)) (fun e' msg r h' tk p q => hX e' msg r h' tk p (q.leE hL₁))
  | false => exact hQ _ st₁ Z₁ W₁ h₁ tk₁ h2 hR₁ hL₁
theorem WAll.orCons {e : Expr} {es : List Expr} {Φ : Bool → St → Prop} (h : WT w h₀ Γ st e (fun b st₁ => if b then Φ true st₁ else WAll w h₀ .Or Γ st₁ es Φ Ψ) Ψ) : WAll w h₀ .Or Γ st (e :: es) Φ Ψ := by
  intro A env l hE Z₀ Z W s Q E hA hl hO hR hQ hX
  refine wpAny_allTrue_Or_cons (h A env l hE Z₀ Z W s _ E hA hl hO hR ?_ hX)
  intro b st₁ Z₁ W₁ h₁ tk₁ h2 hR₁ hL₁
  cases b with
  | false => exact h2 A env l hE Z₀ Z₁ W₁ _ _ E hA hl hO hR₁ (fun b st₂ Z₂ W₂ h₂ tk₂ p r le => hQ b st₂ Z₂ W₂ h₂ tk₂ p r (hL₁.trans le)) (fun e' msg r h' tk p q => hX e' msg r h' tk p (q.leE hL₁))
  | true => exact hQ _ st₁ Z₁ W₁ h₁ tk₁ h2 hR₁ hL₁
theorem WT.bool {op : BoolOp} {es : List Expr} {pos : Pos} {Φ : Bool → St → Prop} (h : WAll w h₀ op Γ st es Φ Ψ) : WT w h₀ Γ st (.BoolOp op es pos) Φ Ψ := by
  intro A env l hE Z₀ Z W s Q E hA hl hO hR hQ hX
  exact wpAny_isTrue_BoolOp (h A env l hE Z₀ Z W s _ E hA hl hO hR hQ hX)

theorem WE.and2 {a b : Expr} {pos : Pos} (h : WE w h₀ Γ st a (fun U st₁ => ∃ c, U = .d (.bool c) ∧ if c then WE w h₀ Γ st₁ b Φ Ψ else Φ (.d (.bool c)) st₁) Ψ) : WE w h₀ Γ st (.BoolOp .And [a, b] pos) Φ Ψ := by
  intro A env l hE Z₀ Z W s Q E hA hl hO hR hQ hX
  refine wpAny_And2 (h A env l hE Z₀ Z W s _ E hA hl hO hR ?_ hX)
  rintro v U st₁ Z₁ W₁ h₁ tk₁ ⟨c, rfl, h2⟩ hR₁ hL₁ hv
  cases hv
  refine wpAny_truthy_bool ?_
  cases c with
  | true => exact h2 A env l hE Z₀ Z₁ W₁ _ _ E hA hl hO hR₁ (fun v U st₂ Z₂ W₂ h₂ tk₂ p r le sr => hQ v U st₂ Z₂ W₂ h₂ tk₂ p r (hL₁.trans le) sr) (fun e' msg r h' tk p q => hX e' msg r h' tk p (q.leE hL₁))
  | false => exact hQ _ _ st₁ Z₁ W₁ h₁ tk₁ h2 hR₁ hL₁ (.bool _)

theorem WE.ite {t a b : Expr} {pos : Pos} (h : WT w h₀ Γ st t (fun c st₁ => if c then WE w h₀ Γ st₁ a Φ Ψ else WE w h₀ Γ st₁ b Φ Ψ) Ψ) : WE w h₀ Γ st (.IfExp t a b pos) Φ Ψ := by
  intro A env l hE Z₀ Z W s Q E hA hl hO hR hQ hX
  refine wpAny_IfExp (h A env l hE Z₀ Z W s _ E hA hl hO hR ?_ hX)
  intro c st₁ Z₁ W₁ h₁ tk₁ h2 hR₁ hL₁
  cases c with
  | true => exact h2 A env l hE Z₀ Z₁ W₁ _ _ E hA hl hO hR₁ (fun v U st₂ Z₂ W₂ h₂ tk₂ p r le sr => hQ v U st₂ Z₂ W₂ h₂ tk₂ p r (hL₁.trans le) sr) (fun e' msg r h' tk p q => hX e' msg r h' tk p (q.leE hL₁))
  | false => exact h2 A env l hE Z₀ Z₁ W₁ _ _ E hA hl hO hR₁ (fun v U st₂ Z₂ W₂ h₂ tk₂ p r le sr => hQ v U st₂ Z₂ W₂ h₂ tk₂ p r (hL₁.trans le) sr) (fun e' msg r h' tk p q => hX e' msg r h' tk p (q.leE hL₁))

/-! ## items -/
inductive ItemR : PyData → Int → PyData → Prop
  | list {xs : List PyData} {k : Int} {d : PyData} : 0 ≤ k → k < 2 ^ 63 → xs[k.toNat]? = some d → ItemR (.list xs) k d
  | tuple {xs : List PyData} {k : Int} {d : PyData} : 0 ≤ k → k < 2 ^ 63 → xs[k.toNat]? = some d → ItemR (.tuple xs) k d

theorem ItemR.run {x d : PyData} {k : Int} (h : ItemR x k d) {Z : ZM} {u : Value} {t : Tok} (hu : FD Z u x) {A : Around} {E : Value → Shared → Prop} {s : Shared} {Q : Value → Shared → Prop} {value slice : Expr}
    (hz : ∀ a o, Z a = some o → s.heap.get? a = some o) (hs : ∀ o i, subscripted slice false o i = operate [o, i] (getItem o i)) (hQ : ∀ v, FD Z v d → Q v s) : wpAny (model pg w) A (subscriptTail value slice u (.int k t)) Q E s := by
  cases h with
  | list h0 h1 hx =>
    cases hu with
    | list z c _ dt r =>
      obtain ⟨v, hv, hd⟩ := r.get hx
      refine tail_any (ops := [_, _]) (T := "list") ⟨_, hz _ _ z, c⟩ slot_list_getitem.lookup (wpAny_getItem_list ⟨_, hz _ _ z, c, _, dt⟩ h0 h1 (by simpa using hv) (hQ v hd)) (hs _ _)
  | tuple h0 h1 hx =>
    cases hu with
    | tuple z c dt r =>
      obtain ⟨v, hv, hd⟩ := r.get hx
      have hj : k.toNat < _ := (List.getElem?_eq_some_iff.mp hv).1
      refine tail_any (ops := [_, _]) (T := "tuple") ⟨_, hz _ _ z, c⟩ slot_tuple_getitem.lookup (getItem_tuple (j := k.toNat) (x := v) ⟨_, hz _ _ z, c, _, dt⟩ (by omega) h1 ?_ (by simpa using hv) (hQ v hd)) (hs _ _)
      exact seqIndex_of h0 (by simp at hj; omega)

theorem WE.item {a i : Expr} {pos : Pos} (h : WE w h₀ Γ st a (fun U st₁ => ∃ x, U = .d x ∧ WE w h₀ Γ st₁ i (fun U' st₂ => ∃ k d, U' = .d (.int k) ∧ ItemR x k d ∧ Φ (.d d) st₂) Ψ) Ψ)
    (hs : ∀ o j, subscripted i false o j = operate [o, j] (getItem o j) := by intro _ _; with_unfolding_all rfl) : WE w h₀ Γ st (.Subscript a i pos) Φ Ψ := by
  intro A env l hE Z₀ Z W s Q E hA hl hO hR hQ hX
  refine Subscript_ (h A env l hE Z₀ Z W s _ E hA hl hO hR ?_ hX)
  rintro v U st₁ Z₁ W₁ h₁ tk₁ ⟨x, rfl, h2⟩ hR₁ hL₁ hv
  refine h2 A env l hE Z₀ Z₁ W₁ _ _ E hA hl hO hR₁ ?_ (fun e' msg r h' tk p q => hX e' msg r h' tk p (q.leE hL₁))
  rintro v' U' st₂ Z₂ W₂ h₂ tk₂ ⟨k, d, rfl, hb, hΦ⟩ hR₂ hL₂ hv'
  cases hv'
  exact hb.run (FD.mono hL₂.z hv) hR₂.core.zin hs fun v hd => hQ v _ st₂ Z₂ W₂ h₂ tk₂ hΦ hR₂ (hL₁.trans hL₂) hd

/-! ## lists of expressions, displays -/
theorem WA.nil {pos : Pos} {Φ : List V → St → Prop} (h : Φ [] st) : WA w h₀ Γ st pos [] Φ Ψ := by
  intro A env l hE Z₀ Z W s Q E hA hl hO hR hQ hX
  exact wpAny_items_nil (hQ _ _ st Z W s.heap s.toks h hR (LeE.refl _ _ _) .nil)
theorem WA.cons {pos : Pos} {e : Expr} {es : List Expr} {Φ : List V → St → Prop} (h : WE w h₀ Γ st e (fun U st₁ => U.plain = true ∧ WA w h₀ Γ st₁ pos es (fun Us st₂ => Φ (U :: Us) st₂) Ψ) Ψ)
    (he : ∀ env, starEach (e :: es) env = (false, eval e env) :: starEach es env := by intro _; rfl) : WA w h₀ Γ st pos (e :: es) Φ Ψ := by
  intro A env l hE Z₀ Z W s Q E hA hl hO hR hQ hX
  refine wpAny_items_cons (h A env l hE Z₀ Z W s _ E hA hl hO hR ?_ hX) (he _)
  rintro v U st₁ Z₁ W₁ h₁ tk₁ ⟨hp, h2⟩ hR₁ hL₁ hv
  refine h2 A env l hE Z₀ Z₁ W₁ _ _ E hA hl hO hR₁ ?_ (fun e' msg r h' tk p q => hX e' msg r h' tk p (q.leE hL₁))
  intro vs Us st₂ Z₂ W₂ h₂ tk₂ h3 hR₂ hL₂ hv'
  exact hQ _ _ st₂ Z₂ W₂ h₂ tk₂ h3 hR₂ (hL₁.trans hL₂) (.cons (hv.leE hp hL₂) hp hv')

def VsD : List V → List PyData → Prop
  | [], [] => True
  | U :: Us, d :: ds => U = .d d ∧ VsD Us ds
  | _, _ => False
theorem Vals.data {Z : ZM} {W : WM} {h : Heap} : ∀ {vs : List Value} {Us : List V} {ds : List PyData}, Vals w Z W h vs Us → VsD Us ds → FDs Z vs ds
  | _, _, [], .nil, _ => .nil
  | _, _, _ :: _, .nil, q => q.elim
  | _, _, [], .cons .., q => q.elim
  | _, _, _ :: _, .cons x _ r, ⟨e, q⟩ => .cons (by subst e; exact x) (r.data q)

theorem Rel.dom {env : Env} {l : List Env} {hE h : Heap} {Z₀ Z : ZM} {W : WM} (hR : Rel w h₀ Γ env l hE Z₀ Z W st h) {a : Addr} (ha : h.objs.size ≤ a) : Z a = none ∧ W a = none := by
  constructor
  · cases hz : Z a with
    | none => rfl
    | some o => exact absurd (Heap.lt_size (hR.core.zin _ _ hz)) (Nat.not_lt.mpr ha)
  · cases hz : W a with
    | none => rfl
    | some o => obtain ⟨o, ho⟩ := (hR.core.dj _ _ hz).2; exact absurd (Heap.lt_size ho) (Nat.not_lt.mpr ha)

theorem upd_none {α : Type} {f : Addr → Option α} {a : Addr} (h : f a = none) : upd f a none = f := by
  funext b; by_cases hb : b = a
  · subst hb; rw [upd_same, h]
  · exact upd_ne hb

/-- a new object, frozen at once -/
theorem Rel.alloc {env : Env} {l : List Env} {hE h : Heap} {Z₀ Z : ZM} {W : WM} (hR : Rel w h₀ Γ env l hE Z₀ Z W st h) (o : Obj) (hf : o.isFreed = false) :
    Rel w h₀ Γ env l hE Z₀ (upd Z h.objs.size (some o)) W st (h.push o) ∧ LeE Z W h (upd Z h.objs.size (some o)) W (h.push o) := by
  obtain ⟨hz, hw⟩ := hR.dom (Nat.le_refl _)
  have hP := hR.push o
  have c := hP.core.freeze hz (Heap.get?_push_size _ hf) (hR.core.out (Nat.le_refl _)) (by rw [hw]; nofun)
  rw [upd_none hw] at c
  have zm : ∀ a ob, Z a = some ob → upd Z h.objs.size (some o) a = some ob := fun a ob e => by rw [upd_ne (by rintro rfl; rw [hz] at e; cases e)]; exact e
  refine ⟨⟨c, ?_, hP.frs⟩, ?_⟩
  · obtain ⟨hn, hfr, ⟨m, hm, hv⟩, hc⟩ := hP.vars
    refine ⟨hn, hfr, ⟨m, hm, fun p hp => ?_⟩, hc⟩
    rcases hv p hp with e | ⟨v, hh, hs⟩
    · exact .inl e
    · refine .inr ⟨v, ?_, ?_⟩
      · rcases hh with q | ⟨q1, c, q2, q3, q4⟩
        · exact .inl q
        · exact .inr ⟨q1, c, q2, q3, q4.imp id fun ⟨o, q⟩ => ⟨o, zm _ _ q⟩⟩
      · generalize p.2 = U at hs ⊢
        cases U with
        | un => trivial
        | d y => exact FD.mono zm hs
        | scr ns => obtain ⟨a, oz, vs, n, e1, e2, r⟩ := hs; exact ⟨a, oz, vs, n, e1, zm _ _ e2, r⟩
        | ix i => exact SRel.plainMono (w := w) (U := .ix i) (W := W) (W' := W) (h := h) (h' := h) (o := none) (o' := none) hs rfl zm fun _ e _ => e
        | row => exact hs
        | ol xs => obtain ⟨a, vs, n, e1, e2, e3, e4⟩ := hs; exact ⟨a, vs, n, e1, e2, e3, FDs.mono zm e4⟩
        | sd kvs => exact hs
        | it ks => exact hs
        | itf ks => obtain ⟨a, oz, ws, e1, e2, r⟩ := hs; exact ⟨a, oz, ws, e1, zm _ _ e2, r⟩
  · exact ⟨zm, fun _ _ e => e, fun a _ e _ => by
      obtain ⟨ob, ho⟩ := (hR.core.dj a _ e).2
      rw [ho, Heap.get?_push_of_some _ ho], fun _ e => e⟩

theorem WE.list {es : List Expr} {pos : Pos} (h : WA w h₀ Γ st pos es (fun Us st₁ => ∃ ds, VsD Us ds ∧ ds.length ≤ sizeLine ∧ Φ (.d (.list ds)) st₁) Ψ) : WE w h₀ Γ st (.List es pos) Φ Ψ := by
  intro A env l hE Z₀ Z W s Q E hA hl hO hR hQ hX
  refine wpAny_List (h A env l hE Z₀ Z W s _ E hA hl hO hR ?_ hX)
  rintro vs Us st₁ Z₁ W₁ h₁ tk₁ ⟨ds, h2, h3, h4⟩ hR₁ hL₁ hv
  have hd := hv.data h2
  refine ⟨by rw [hd.length]; exact h3, ?_⟩
  obtain ⟨hR₂, hL₂⟩ := hR₁.alloc { cls := .type "list", data := .seq vs.toArray } rfl
  exact hQ _ _ st₁ _ W₁ _ tk₁ h4 hR₂ (hL₁.trans hL₂) (.list (upd_same _ _ _) rfl rfl rfl (FDs.mono hL₂.z (by simpa using hd)))
theorem WE.tuple {es : List Expr} {k : Nat} {pos : Pos} (h : WA w h₀ Γ st pos es (fun Us st₁ => ∃ ds, VsD Us ds ∧ ds.length ≤ sizeLine ∧ Φ (.d (.tuple ds)) st₁) Ψ) : WE w h₀ Γ st (.Tuple es k pos) Φ Ψ := by
  intro A env l hE Z₀ Z W s Q E hA hl hO hR hQ hX
  refine wpAny_Tuple (h A env l hE Z₀ Z W s _ E hA hl hO hR ?_ hX)
  rintro vs Us st₁ Z₁ W₁ h₁ tk₁ ⟨ds, h2, h3, h4⟩ hR₁ hL₁ hv
  have hd := hv.data h2
  refine ⟨by rw [hd.length]; exact h3, ?_⟩
  obtain ⟨hR₂, hL₂⟩ := hR₁.alloc { cls := .type "tuple", data := .seq vs.toArray } rfl
  exact hQ _ _ st₁ _ W₁ _ tk₁ h4 hR₂ (hL₁.trans hL₂) (.tuple (upd_same _ _ _) rfl rfl (FDs.mono hL₂.z (by simpa using hd)))
end
end Mine
namespace Mine

inductive SetV : List (Str × V) → Str → V → List (Str × V) → Prop
  | here {x U U' r} : SetV ((x, U') :: r) x U ((x, U) :: r)
  | there {p r x U r'} : SetV r x U r' → SetV (p :: r) x U (p :: r')
theorem SetV.names {mu mu' : List (Str × V)} {x : Str} {U : V} (h : SetV mu x U mu') : mu'.map (·.1) = mu.map (·.1) := by
  induction h with
  | here => rfl
  | there _ ih => rw [List.map_cons, List.map_cons, ih]
theorem SetV.in {mu mu' : List (Str × V)} {x : Str} {U : V} (h : SetV mu x U mu') : x ∈ mu.map (·.1) := by
  induction h with
  | here => exact .head _
  | there _ ih => exact .tail _ ih
theorem SetV.cases {mu mu' : List (Str × V)} {x : Str} {U : V} (h : SetV mu x U mu') : (mu.map (·.1)).Nodup → ∀ p ∈ mu', p = (x, U) ∨ (p.1 ≠ x ∧ p ∈ mu) := by
  induction h with
  | @here x U U' r =>
    intro hn p hp
    rcases List.mem_cons.mp hp with e | hp
    · exact .inl e
    · refine .inr ⟨fun e => ?_, .tail _ hp⟩
      have := (List.nodup_cons.mp hn).1
      exact this (by rw [← e]; exact List.mem_map_of_mem (f := (·.1)) hp)
  | @there q r x U r' hs ih =>
    intro hn p hp
    have hn' := List.nodup_cons.mp hn
    rcases List.mem_cons.mp hp with e | hp
    · refine .inr ⟨fun e' => ?_, e ▸ .head _⟩
      have : q.1 = x := by rw [← e]; exact e'
      exact hn'.1 (by show q.1 ∈ _; rw [this]; exact hs.in)
    · rcases ih hn'.2 p hp with e | ⟨e, m⟩
      · exact .inl e
      · exact .inr ⟨e, .tail _ m⟩

def relabel (x : Str) (W : WM) : WM := fun a => match W a with
  | some (.own none) => some (.own (some x))
  | r => r
theorem relabel_of {x : Str} {W : WM} {a : Addr} {ρ : Role} (h : W a = some ρ) (hn : ρ ≠ .own none) : relabel x W a = some ρ := by
  unfold relabel; rw [h]
  cases ρ with
  | own o => cases o with
    | none => exact absurd rfl hn
    | some y => rfl
  | _ => rfl
theorem relabel_tmp {x : Str} {W : WM} {a : Addr} (h : W a = some (.own none)) : relabel x W a = some (.own (some x)) := by unfold relabel; rw [h]
theorem of_relabel {x : Str} {W : WM} {a : Addr} {ρ : Role} (h : relabel x W a = some ρ) : W a = some ρ ∨ (W a = some (.own none) ∧ ρ = .own (some x)) := by
  unfold relabel at h
  cases hw : W a with
  | none => rw [hw] at h; cases h
  | some σ =>
    rw [hw] at h
    cases σ with
    | own o => cases o with
      | none => cases h; exact .inr ⟨rfl, rfl⟩
      | some y => exact .inl h
    | _ => exact .inl h
theorem relabel_row {x : Str} {W : WM} {a : Addr} : relabel x W a = some .row ↔ W a = some .row := by
  constructor
  · intro h; rcases of_relabel h with e | ⟨_, e⟩
    · exact e
    · cases e
  · intro h; exact relabel_of h (by nofun)

section
variable {w : World} {h₀ : Heap} {Γ : Cx} {st : St} {Ψ : Str → List Int → Prop}

theorem Core.relabel {hE h : Heap} {Z₀ Z : ZM} {W : WM} {r : List Int} (c : Core h₀ hE Z₀ Z W r h) (x : Str) : Core h₀ hE Z₀ Z (relabel x W) r h where
  base := c.base
  zE := c.zE
  z0 := c.z0
  zin := c.zin
  zf := c.zf
  dj := fun a ρ e => by
    rcases of_relabel e with e | ⟨e, _⟩
    · exact c.dj a _ e
    · exact c.dj a _ e
  wf := fun a ρ e n => by
    rcases of_relabel e with e | ⟨e, _⟩
    · exact c.wf a _ e n
    · exact c.wf a _ e (by nofun)
  wfr := fun a e => by
    rcases of_relabel e with e | ⟨_, e⟩
    · exact c.wfr a e
    · cases e
  wf0 := fun a ρ e n => by
    rcases of_relabel e with e | ⟨e, _⟩
    · exact c.wf0 a _ e n
    · exact c.wf0 a _ e (by nofun)
  h0 := c.h0
  kept := fun b o e n => c.kept b o e fun q => n (relabel_row.mpr q)
  grow := c.grow
  row := fun a e n => c.row a (relabel_row.mp e) n
  row1 := fun a b e e' n n' => c.row1 a b (relabel_row.mp e) (relabel_row.mp e') n n'
  tab := fun e => c.tab (relabel_row.mp e)

/-- SRel of a named slot through a change of the heap at one owned place that is not the slot's, and a relabelling -/
theorem SRel.named {Z : ZM} {W : WM} {h h' : Heap} {x y : Str} {v : Value} {U : V} (hs : SRel w Z W h (some y) v U) (hk : ∀ b o, h.get? b = some o → W b = some (.own (some y)) ∨ (∃ ob, Z b = some ob) → h'.get? b = some o) :
    SRel w Z (relabel x W) h' (some y) v U := by
  have lab : ∀ {a}, W a = some (.own (some y)) → relabel x W a = some (.own (some y)) := fun {a} e => relabel_of e (by nofun)
  cases U with
  | un => trivial
  | d z => exact hs
  | scr ns => exact hs
  | ix i => exact hs
  | row => obtain ⟨a, e1, e2, e3⟩ := hs; exact ⟨a, e1, relabel_row.mpr e2, e3⟩
  | ol xs => obtain ⟨a, vs, n, e1, e2, e3, e4⟩ := hs; exact ⟨a, vs, n, e1, lab e2, hk _ _ e3 (.inl e2), e4⟩
  | sd kvs => obtain ⟨a, ws, e1, e2, ⟨ob, es, ep, g, r⟩, e4⟩ := hs; exact ⟨a, ws, e1, lab e2, ⟨ob, es, ep, hk _ _ g (.inl e2), r⟩, e4⟩
  | it ks => obtain ⟨a, ws, e1, e2, ⟨ob, es, ep, g, r⟩, e4⟩ := hs; exact ⟨a, ws, e1, lab e2, ⟨ob, es, ep, hk _ _ g (.inl e2), r⟩, e4⟩
  | itf ks => obtain ⟨a, oz, ws, e1, e2, ⟨ob, es, ep, g, r⟩, e4⟩ := hs; exact ⟨a, oz, ws, e1, e2, ⟨ob, es, ep, hk _ _ g (.inr ⟨_, e2⟩), r⟩, e4⟩

/-- the value that is stored takes the name's label -/
theorem SRel.take {Z : ZM} {W : WM} {h h' : Heap} {x : Str} {v : Value} {U : V} (hs : SRel w Z W h none v U) (hk : ∀ b o, h.get? b = some o → W b = some (.own none) ∨ (∃ ob, Z b = some ob) → h'.get? b = some o) :
    SRel w Z (relabel x W) h' (some x) v U := by
  cases U with
  | un => trivial
  | d z => exact hs
  | scr ns => exact hs
  | ix i => exact hs
  | row => obtain ⟨a, e1, e2, e3⟩ := hs; exact ⟨a, e1, relabel_row.mpr e2, e3⟩
  | ol xs => obtain ⟨a, vs, n, e1, e2, e3, e4⟩ := hs; exact ⟨a, vs, n, e1, relabel_tmp e2, hk _ _ e3 (.inl e2), e4⟩
  | sd kvs => obtain ⟨a, ws, e1, e2, ⟨ob, es, ep, g, r⟩, e4⟩ := hs; exact ⟨a, ws, e1, relabel_tmp e2, ⟨ob, es, ep, hk _ _ g (.inl e2), r⟩, e4⟩
  | it ks => obtain ⟨a, ws, e1, e2, ⟨ob, es, ep, g, r⟩, e4⟩ := hs; exact ⟨a, ws, e1, relabel_tmp e2, ⟨ob, es, ep, hk _ _ g (.inl e2), r⟩, e4⟩
  | itf ks => obtain ⟨a, oz, ws, e1, e2, ⟨ob, es, ep, g, r⟩, e4⟩ := hs; exact ⟨a, oz, ws, e1, e2, ⟨ob, es, ep, hk _ _ g (.inr ⟨_, e2⟩), r⟩, e4⟩

theorem store_name {A : Around} {env : Env} {l : List Env} {hE : Heap} {Z₀ Z : ZM} {W : WM} {s : Shared} {E : Value → Shared → Prop} {Q : Unit → Shared → Prop} (hO : EnvOk Γ env) (hR : Rel w h₀ Γ env l hE Z₀ Z W st s.heap)
    {x : Str} {U : V} {mu' : List (Str × V)} {v : Value} (hS : SetV st.mu x U mu') (hx : x ∈ Γ.locs ∨ x ∈ Γ.cells) (hv : SRel w Z W s.heap none v U)
    (h : ∀ h' tk, Rel w h₀ Γ env l hE Z₀ Z (relabel x W) ⟨mu', st.row⟩ h' → Le Z W s.heap Z (relabel x W) h' → Q () { s with heap := h', toks := tk }) : wpAny (model pg w) A (storeName env x v) Q E s := by
  obtain ⟨c, ⟨hn, hf, ⟨m, hm, hvs⟩, hc⟩, hfr⟩ := hR
  have nd : (st.mu.map (·.1)).Nodup := by rw [hn]; exact hO.nodup
  have wz : ∀ a o, Z a = some o → W a = none := c.zw
  -- the change of the heap
  have fin : ∀ (h' : Heap) (tk : Nat) (a : Addr) (ρ : Role), W a = some ρ → (ρ = .fr ∨ ρ = .cell x) → Heap.SameBut a s.heap h' → (∃ o, h'.get? a = some o) →
      (∃ m', h'.Ns env.locals m' ∧ (∀ y, y ≠ x → env.kindOf y = some .local → m' y = m y) ∧ Holds env Z (Mine.relabel x W) h' m' x v) →
      (∀ y ∈ Γ.cells, ∃ c, env.cells.lookup y = some c ∧ W c = some (.cell y) ∧ ∃ v, h'.IsCell c v) →
      (∀ y, y ≠ x → ∀ c u, env.cells.lookup y = some c → s.heap.IsCell c u → (W c = some (.cell y) ∨ ∃ o, Z c = some o) → h'.IsCell c u) → Q () { s with heap := h', toks := tk } := by
    intro h' tk a ρ ha hρ hs ho ⟨m', hm', hmm, hh⟩ hcs hcells
    have nr : ρ ≠ .row := by rcases hρ with e | e <;> rw [e] <;> nofun
    have keepOwn : ∀ {y : Option Str} b o, s.heap.get? b = some o → W b = some (.own y) ∨ (∃ ob, Z b = some ob) → h'.get? b = some o := by
      intro y b o g q
      refine (hs.2 b ?_).trans g
      rintro rfl
      rcases q with q | ⟨ob, q⟩
      · rw [ha] at q; cases q; rcases hρ with e | e <;> cases e
      · rw [wz _ _ q] at ha; cases ha
    refine h h' tk ⟨(c.sameBut hs ha nr ho).relabel x, ⟨hS.names.trans hn, relabel_of hf (by nofun), ⟨m', hm', fun p hp => ?_⟩, fun y hy => ?_⟩, ?_⟩ ⟨fun _ _ e => e, fun b σ e hst => ?_, fun b e => ?_, fun b e => relabel_row.mp e⟩
    · rcases hS.cases nd p hp with rfl | ⟨hne, hp'⟩
      · exact .inr ⟨v, hh, hv.take keepOwn⟩
      · rcases hvs p hp' with e | ⟨u, hu, hsr⟩
        · exact .inl e
        · refine .inr ⟨u, ?_, hsr.named keepOwn⟩
          rcases hu with ⟨k, e⟩ | ⟨k, c', e1, e2, e3⟩
          · exact .inl ⟨k, (hmm _ hne k).trans e⟩
          · exact .inr ⟨k, c', e1, hcells _ hne _ _ e1 e2 e3, e3.imp (fun q => relabel_of q (by nofun)) id⟩
    · obtain ⟨c', e1, e2, e3⟩ := hcs y hy
      exact ⟨c', e1, relabel_of e2 (by nofun), e3⟩
    · refine ⟨fun fe hfe => ?_, fun t => relabel_row.mpr (hfr.2 t)⟩
      obtain ⟨k, b, e, q⟩ := hfr.1 fe hfe
      exact ⟨k, b, e, q.imp id fun ⟨o, q1, q2, q3, q4⟩ => ⟨o, q1, q2, fun z => q3 (relabel_row.mp z), fun z => q4 (relabel_row.mp z)⟩⟩
    · exact relabel_of e (by rintro rfl; cases hst)
    · have hba : b ≠ a := by
        rintro rfl
        rw [ha] at e; cases e; rcases hρ with e | e <;> cases e
      exact hs.2 b hba
  rcases hx with hx | hx
  · have k := hO.locs x hx
    refine wpAny_storeName_local k hm (fun h' hn' hs => ?_) (by rw [hO.kind]; rfl)
    obtain ⟨ob, _, _, hob, _⟩ := id hn'
    refine fin h' _ env.locals .fr hf (.inl rfl) hs ⟨_, hob⟩ ⟨_, hn', fun y hy _ => by simp [hy], .inl ⟨k, by simp⟩⟩ (fun y hy => ?_) fun y hy c' u e1 e2 e3 => ?_
    · obtain ⟨c', e1, e2, u, e3⟩ := hc y hy
      exact ⟨c', e1, e2, u, e3.sameBut hs (by rintro rfl; rw [hf] at e2; cases e2)⟩
    · refine e2.sameBut hs ?_
      rintro rfl
      rcases e3 with e3 | ⟨o, e3⟩
      · rw [hf] at e3; cases e3
      · rw [wz _ _ e3] at hf; cases hf
  · have k := hO.cells x hx
    obtain ⟨cx, e1, e2, u, e3⟩ := hc x hx
    refine wpAny_storeName_cell hO.kind k e1 e3 fun h' hic hs => ?_
    have hcl : cx ≠ env.locals := by rintro rfl; rw [hf] at e2; cases e2
    obtain ⟨ob, hob, _⟩ := id hic
    refine fin h' s.toks cx (.cell x) e2 (.inr rfl) hs ⟨_, hob⟩ ⟨m, hm.sameBut hs (Ne.symm hcl), fun y _ _ => rfl, .inr ⟨.inl k, cx, e1, hic, .inl (relabel_of e2 (by nofun))⟩⟩ (fun y hy => ?_) fun y hy c' u e1' e2' e3' => ?_
    · by_cases hyx : y = x
      · subst hyx; exact ⟨cx, e1, e2, _, hic⟩
      · obtain ⟨c', f1, f2, u', f3⟩ := hc y hy
        exact ⟨c', f1, f2, u', f3.sameBut hs (by rintro rfl; rw [e2] at f2; cases f2; exact hyx rfl)⟩
    · refine e2'.sameBut hs ?_
      rintro rfl
      rcases e3' with e3' | ⟨o, e3'⟩
      · rw [e2] at e3'; cases e3'; exact hy rfl
      · rw [wz _ _ e3'] at e2; cases e2

theorem WX.assign {x : Str} {e : Expr} {p pos : Pos} {Φ : Fl → St → Prop} (h : WE w h₀ Γ st e (fun U st₁ => ∃ mu', SetV st₁.mu x U mu' ∧ Φ .next ⟨mu', st₁.row⟩) Ψ) (hx : x ∈ Γ.locs ∨ x ∈ Γ.cells)
    (hs : ∀ env, swapsWith e (some (.Name x p)) pos.line env = pure false := by intro _; rfl) : WX w h₀ Γ st (.Assign [.Name x p] e pos) Φ Ψ := by
  intro A env l hE Z₀ Z W s Q E hA hl hO hR hQ hX
  refine wpAny_Assign_Name (h A env l hE Z₀ Z W s _ E hA hl hO hR ?_ hX) (hs env)
  rintro v U st₁ Z₁ W₁ h₁ tk₁ ⟨mu', hS, hΦ⟩ hR₁ hL₁ hv
  exact store_name hO hR₁ hS hx hv fun h' tk hR' hL' => hQ .next .next _ _ _ _ _ hΦ hR' (hL₁.le.trans hL') trivial

theorem WX.ret {e : Expr} {pos : Pos} {Φ : Fl → St → Prop} (h : WE w h₀ Γ st e (fun U st₁ => Φ (.ret U) st₁) Ψ) : WX w h₀ Γ st (.Return (some e) pos) Φ Ψ := by
  intro A env l hE Z₀ Z W s Q E hA hl hO hR hQ hX
  refine wpAny_Return_some (h A env l hE Z₀ Z W s _ E hA hl hO hR ?_ hX)
  intro v U st₁ Z₁ W₁ h₁ tk₁ hΦ hR₁ hL₁ hv
  exact hQ (.ret v) (.ret U) _ _ _ _ _ hΦ hR₁ hL₁.le hv

theorem WX.cont {pos : Pos} {Φ : Fl → St → Prop} (h : Φ .cont st) : WX w h₀ Γ st (.Continue pos) Φ Ψ := by
  intro A env l hE Z₀ Z W s Q E hA hl hO hR hQ hX
  exact wpAny_Continue (hQ .cont .cont st Z W s.heap s.toks h hR (Le.refl _ _ _) trivial)

theorem WS.nil {Φ : Fl → St → Prop} (h : Φ .next st) : WS w h₀ Γ st [] Φ Ψ := by
  intro A env l hE Z₀ Z W s Q E hA hl hO hR hQ hX
  exact wpAny_execs_nil (hQ .next .next st Z W s.heap s.toks h hR (Le.refl _ _ _) trivial)

def afterX (w : World) (h₀ : Heap) (Γ : Cx) (ts : List Stmt) (Φ : Fl → St → Prop) (Ψ : Str → List Int → Prop) : Fl → St → Prop
  | .next, st => WS w h₀ Γ st ts Φ Ψ
  | f, st => Φ f st

theorem WS.cons {t : Stmt} {ts : List Stmt} {Φ : Fl → St → Prop} (h : WX w h₀ Γ st t (afterX w h₀ Γ ts Φ Ψ) Ψ) : WS w h₀ Γ st (t :: ts) Φ Ψ := by
  intro A env l hE Z₀ Z W s Q E hA hl hO hR hQ hX
  refine wpAny_execs_cons (h A env l hE Z₀ Z W s _ E hA hl hO hR ?_ hX)
  intro f F st₁ Z₁ W₁ h₁ tk₁ hΦ hR₁ hL₁ hf
  cases F with
  | next =>
    cases f with
    | next => exact hΦ A env l hE Z₀ Z₁ W₁ _ _ E hA hl hO hR₁ (fun f F st₂ Z₂ W₂ h₂ tk₂ p r le fr => hQ f F st₂ Z₂ W₂ h₂ tk₂ p r (hL₁.trans le) fr) (fun e' msg r h' tk p q => hX e' msg r h' tk p (q.le hL₁))
    | _ => exact hf.elim
  | cont =>
    cases f with
    | cont => exact hQ _ _ _ _ _ _ tk₁ hΦ hR₁ hL₁ hf
    | _ => exact hf.elim
  | ret U =>
    cases f with
    | ret v => exact hQ _ _ _ _ _ _ tk₁ hΦ hR₁ hL₁ hf
    | _ => exact hf.elim

theorem WX.ite {t : Expr} {a b : List Stmt} {pos : Pos} {Φ : Fl → St → Prop} (h : WT w h₀ Γ st t (fun c st₁ => if c then WS w h₀ Γ st₁ a Φ Ψ else WS w h₀ Γ st₁ b Φ Ψ) Ψ) : WX w h₀ Γ st (.If t a b pos) Φ Ψ := by
  intro A env l hE Z₀ Z W s Q E hA hl hO hR hQ hX
  refine wpAny_If (h A env l hE Z₀ Z W s _ E hA hl hO hR ?_ hX)
  intro c st₁ Z₁ W₁ h₁ tk₁ h2 hR₁ hL₁
  cases c with
  | true => exact h2 A env l hE Z₀ Z₁ W₁ _ _ E hA hl hO hR₁ (fun f F st₂ Z₂ W₂ h₂ tk₂ p r le fr => hQ f F st₂ Z₂ W₂ h₂ tk₂ p r (hL₁.le.trans le) fr) (fun e' msg r h' tk p q => hX e' msg r h' tk p (q.leE hL₁))
  | false => exact h2 A env l hE Z₀ Z₁ W₁ _ _ E hA hl hO hR₁ (fun f F st₂ Z₂ W₂ h₂ tk₂ p r le fr => hQ f F st₂ Z₂ W₂ h₂ tk₂ p r (hL₁.le.trans le) fr) (fun e' msg r h' tk p q => hX e' msg r h' tk p (q.leE hL₁))

theorem WS.mono {Φ Φ' : Fl → St → Prop} {Ψ' : Str → List Int → Prop} {ts : List Stmt} (h : WS w h₀ Γ st ts Φ Ψ) (hΦ : ∀ U st', Φ U st' → Φ' U st') (hΨ : ∀ m r, Ψ m r → Ψ' m r) : WS w h₀ Γ st ts Φ' Ψ' := by
  intro A env l hE Z₀ Z W s Q E hA hl hO hR hQ hX
  exact h A env l hE Z₀ Z W s Q E hA hl hO hR (fun v U st' Z' W' h' tk p => hQ v U st' Z' W' h' tk (hΦ _ _ p)) (fun e' msg r h' tk p => hX e' msg r h' tk (hΨ _ _ p))
theorem WX.mono {Φ Φ' : Fl → St → Prop} {Ψ' : Str → List Int → Prop} {t : Stmt} (h : WX w h₀ Γ st t Φ Ψ) (hΦ : ∀ U st', Φ U st' → Φ' U st') (hΨ : ∀ m r, Ψ m r → Ψ' m r) : WX w h₀ Γ st t Φ' Ψ' := by
  intro A env l hE Z₀ Z W s Q E hA hl hO hR hQ hX
  exact h A env l hE Z₀ Z W s Q E hA hl hO hR (fun v U st' Z' W' h' tk p => hQ v U st' Z' W' h' tk (hΦ _ _ p)) (fun e' msg r h' tk p => hX e' msg r h' tk (hΨ _ _ p))
theorem WT.mono {Φ Φ' : Bool → St → Prop} {Ψ' : Str → List Int → Prop} {e : Expr} (h : WT w h₀ Γ st e Φ Ψ) (hΦ : ∀ U st', Φ U st' → Φ' U st') (hΨ : ∀ m r, Ψ m r → Ψ' m r) : WT w h₀ Γ st e Φ' Ψ' := by
  intro A env l hE Z₀ Z W s Q E hA hl hO hR hQ hX
  exact h A env l hE Z₀ Z W s Q E hA hl hO hR (fun b st' Z' W' h' tk p => hQ b st' Z' W' h' tk (hΦ _ _ p)) (fun e' msg r h' tk p => hX e' msg r h' tk (hΨ _ _ p))
end
end Mine
namespace Mine
section
variable {w : World} {h₀ : Heap} {mg mb : Str → Option Value} {Γ : Cx} {st : St} {Ψ : Str → List Int → Prop}

theorem Vars.wk {env : Env} {Z : ZM} {W W' : WM} {h : Heap} {mu : List (Str × V)} (x : Vars w Γ env Z W h mu) (hw : ∀ b ρ, W b = some ρ → ρ ≠ .iter → W' b = some ρ) : Vars w Γ env Z W' h mu := by
  obtain ⟨hn, hf, ⟨m, hm, hv⟩, hc⟩ := x
  refine ⟨hn, hw _ _ hf (by nofun), ⟨m, hm, fun p hp => ?_⟩, fun y hy => ?_⟩
  · rcases hv p hp with e | ⟨v, hh, hs⟩
    · exact .inl e
    · refine .inr ⟨v, ?_, ?_⟩
      · rcases hh with a | ⟨a, c, b, d, e⟩
        · exact .inl a
        · exact .inr ⟨a, c, b, d, e.imp (fun q => hw _ _ q (by nofun)) id⟩
      · generalize p.2 = U at hs ⊢
        cases U with
        | row => obtain ⟨a, e1, e2, e3⟩ := hs; exact ⟨a, e1, hw _ _ e2 (by nofun), e3⟩
        | ol xs => obtain ⟨a, vs, n, e1, e2, r⟩ := hs; exact ⟨a, vs, n, e1, hw _ _ e2 (by nofun), r⟩
        | sd kvs => obtain ⟨a, ws, e1, e2, r⟩ := hs; exact ⟨a, ws, e1, hw _ _ e2 (by nofun), r⟩
        | it ks => obtain ⟨a, ws, e1, e2, r⟩ := hs; exact ⟨a, ws, e1, hw _ _ e2 (by nofun), r⟩
        | _ => exact hs
  · obtain ⟨c, e1, e2, r⟩ := hc y hy
    exact ⟨c, e1, hw _ _ e2 (by nofun), r⟩

/-- a new object, owned -/
theorem Rel.allocW {env : Env} {l : List Env} {hE h : Heap} {Z₀ Z : ZM} {W : WM} (hR : Rel w h₀ Γ env l hE Z₀ Z W st h) (o : Obj) (hf : o.isFreed = false) {ρ : Role} (hρ : ρ = .own none ∨ ρ = .iter) :
    Rel w h₀ Γ env l hE Z₀ Z (upd W h.objs.size (some ρ)) st (h.push o) ∧ LeE Z W h Z (upd W h.objs.size (some ρ)) (h.push o) := by
  obtain ⟨hz, hw⟩ := hR.dom (Nat.le_refl _)
  have hP := hR.push o
  have nr : ρ ≠ .row := by rcases hρ with e | e <;> rw [e] <;> nofun
  have hup : ∀ b σ, W b = some σ → upd W h.objs.size (some ρ) b = some σ := fun b σ e => by rw [upd_ne (by rintro rfl; rw [hw] at e; cases e)]; exact e
  have rb : ∀ b, upd W h.objs.size (some ρ) b = some .row → W b = some .row := fun b e => by
    by_cases hb : b = h.objs.size
    · subst hb; rw [upd_same] at e; cases e; exact absurd rfl nr
    · rw [upd_ne hb] at e; exact e
  refine ⟨⟨hP.core.role hz ⟨_, Heap.get?_push_size _ hf⟩ (hR.core.out (Nat.le_refl _)) (hR.core.far (Nat.le_refl _)) nr (by rcases hρ with e | e <;> rw [e] <;> nofun) (by rw [hw]; nofun), hP.vars.wk fun b σ e _ => hup b σ e, ⟨fun fe hfe => ?_, fun t => hup _ _ (hP.frs.2 t)⟩⟩, ⟨fun _ _ e => e, hup, fun a σ e _ => ?_, rb⟩⟩
  · obtain ⟨k, b, e, q⟩ := hP.frs.1 fe hfe
    exact ⟨k, b, e, q.imp id fun ⟨o, q1, q2, q3, q4⟩ => ⟨o, q1, q2, fun z => q3 (rb _ z), fun z => q4 (rb _ z)⟩⟩
  · obtain ⟨ob, ho⟩ := (hR.core.dj a _ e).2
    rw [ho, Heap.get?_push_of_some _ ho]

theorem WE.newlist {pos : Pos} {Φ : V → St → Prop} (h : Φ (.ol []) st) : WE w h₀ Γ st (.List [] pos) Φ Ψ := by
  intro A env l hE Z₀ Z W s Q E hA hl hO hR hQ hX
  refine wpAny_List (wpAny_items_nil ⟨Nat.zero_le _, ?_⟩)
  obtain ⟨hR₂, hL₂⟩ := hR.allocW { cls := .type "list", data := .seq ([] : List Value).toArray } rfl (.inl rfl)
  exact hQ _ _ st _ _ _ s.toks h hR₂ hL₂ ⟨_, [], 0, rfl, upd_same _ _ _, Heap.get?_push_size _ rfl, .nil⟩
theorem WE.newdictS {pos : Pos} {Φ : V → St → Prop} (h : Φ (.sd []) st) : WE w h₀ Γ st (.Dict [] [] pos) Φ Ψ := by
  intro A env l hE Z₀ Z W s Q E hA hl hO hR hQ hX
  refine wpAny_Dict_empty ?_
  obtain ⟨hR₂, hL₂⟩ := hR.allocW { cls := .type "dict", data := .dict #[] } rfl (.inl rfl)
  exact hQ _ _ st _ _ _ s.toks h hR₂ hL₂ ⟨_, [], rfl, upd_same _ _ _, Heap.DictOf.new _, trivial⟩
theorem WE.newdictI {pos : Pos} {Φ : V → St → Prop} (h : Φ (.it []) st) : WE w h₀ Γ st (.Dict [] [] pos) Φ Ψ := by
  intro A env l hE Z₀ Z W s Q E hA hl hO hR hQ hX
  refine wpAny_Dict_empty ?_
  obtain ⟨hR₂, hL₂⟩ := hR.allocW { cls := .type "dict", data := .dict #[] } rfl (.inl rfl)
  exact hQ _ _ st _ _ _ s.toks h hR₂ hL₂ ⟨_, [], rfl, upd_same _ _ _, Heap.DictOf.new _, rfl⟩

/-- the place of what a name owns does not move while an expression is evaluated -/
theorem Vars.hold {env : Env} {Z : ZM} {W : WM} {h : Heap} {mu : List (Str × V)} (x : Vars w Γ env Z W h mu) {y : Str} {U : V} (hm : At mu y U) (hu : U ≠ .un) : ∃ m v, h.Ns env.locals m ∧ Holds env Z W h m y v ∧ SRel w Z W h (some y) v U := by
  obtain ⟨m, h1, h2⟩ := x.ns
  rcases h2 _ hm.mem with e | ⟨v, a, b⟩
  · exact absurd e hu
  · exact ⟨m, v, h1, a, b⟩
theorem ns_unique {h : Heap} {a : Addr} {m m' : Str → Option Value} (x : h.Ns a m) (y : h.Ns a m') : m = m' := by
  obtain ⟨o, es, ep, e1, e2, _, e3⟩ := x
  obtain ⟨o', es', ep', f1, f2, _, f3⟩ := y
  rw [e1] at f1; cases f1
  rw [e2] at f2; cases f2
  funext n; rw [← e3, ← f3]
theorem holds_same {env : Env} {Z Z' : ZM} {W W' : WM} {h h' : Heap} {m m' : Str → Option Value} {y : Str} {v v' : Value} (x : Holds env Z W h m y v) (x' : Holds env Z' W' h' m' y v')
    (hm : h.Ns env.locals m) (hm' : h'.Ns env.locals m') (hf : W env.locals = some .fr) (hl : LeE Z W h Z' W' h') (hz : ∀ a o, Z a = some o → h.get? a = some o) (hz' : ∀ a o, Z' a = some o → h'.get? a = some o) : v = v' := by
  have em : m = m' := by
    have e := hl.same _ _ hf (by nofun)
    obtain ⟨o, es, ep, e1, r⟩ := hm
    exact ns_unique (h := h') ⟨o, es, ep, e.trans e1, r⟩ hm'
  subst em
  rcases x with ⟨k, e⟩ | ⟨k, c, e1, e2, e3⟩
  · rcases x' with ⟨_, e'⟩ | ⟨k', _⟩
    · rw [e] at e'; cases e'; rfl
    · rw [k] at k'; rcases k' with q | q <;> cases q
  · rcases x' with ⟨k', _⟩ | ⟨_, c', f1, f2, f3⟩
    · rw [k'] at k; rcases k with q | q <;> cases q
    · rw [e1] at f1; cases f1
      obtain ⟨o, g1, g2⟩ := e2
      obtain ⟨o', g1', g2'⟩ := f2
      have : h'.get? c = some o := by
        rcases e3 with e3 | ⟨oz, e3⟩
        · exact (hl.same _ _ e3 (by nofun)).trans g1
        · rw [hz _ _ e3] at g1; cases g1; exact hz' _ _ (hl.z _ _ e3)
      rw [this] at g1'; cases g1'
      rw [g2] at g2'; cases g2'; rfl

theorem Wd.notSys (hw : Wd w h₀ mg mb) {hE h : Heap} {Z₀ Z : ZM} {W : WM} {r : List Int} (c : Core h₀ hE Z₀ Z W r h) {d : Addr} {ρ : Role} (hd : W d = some ρ) (hρ : ρ ≠ .row) : (d == sysModules) = false := by
  have h1 : 3 < h₀.objs.size := by
    obtain ⟨o, _, _, ho, _⟩ := hw.g
    exact Heap.lt_size ho
  have h2 := c.wf0 d ρ hd hρ
  refine beq_eq_false_iff_ne.mpr fun e => ?_
  have h3 : d = 1 := e
  rw [h3] at h2
  exact absurd (Nat.lt_of_lt_of_le h1 h2) (by decide)

/-- what one name owns changes in place -/
theorem Rel.changeOwn {env : Env} {l : List Env} {hE h h' : Heap} {Z₀ Z : ZM} {W : WM} (hO : EnvOk Γ env) (hR : Rel w h₀ Γ env l hE Z₀ Z W st h) {x : Str} {U U' : V} {mu' : List (Str × V)} {a : Addr}
    (hm : At st.mu x U) (hu : U ≠ .un) (ha : W a = some (.own (some x))) (hs : Heap.SameBut a h h') (ho : ∃ o, h'.get? a = some o) (hS : SetV st.mu x U' mu') {mx : Str → Option Value} {vx : Value} (hmx : h.Ns env.locals mx) (hhx : Holds env Z W h mx x vx) (hv : SRel w Z W h' (some x) vx U') :
    Rel w h₀ Γ env l hE Z₀ Z W ⟨mu', st.row⟩ h' ∧ Le Z W h Z W h' := by
  obtain ⟨c, ⟨hn, hf, ⟨m, hmm, hvs⟩, hc⟩, hfr⟩ := hR
  have nd : (st.mu.map (·.1)).Nodup := by rw [hn]; exact hO.nodup
  have wz := c.zw
  have keep : ∀ b o, h.get? b = some o → b ≠ a → h'.get? b = some o := fun b o g hb => (hs.2 b hb).trans g
  have hla : env.locals ≠ a := by rintro e; rw [e] at hf; rw [hf] at ha; cases ha
  have hns : h'.Ns env.locals m := hmm.sameBut hs hla
  have hic : ∀ {y c v}, h.IsCell c v → (W c = some (.cell y) ∨ ∃ o, Z c = some o) → h'.IsCell c v := fun {y c v} q r => q.sameBut hs (by
    rintro rfl
    rcases r with r | ⟨o, r⟩
    · rw [r] at ha; cases ha
    · rw [wz _ _ r] at ha; cases ha)
  have hh : ∀ {y v}, Holds env Z W h m y v → Holds env Z W h' m y v := fun {y v} q => by
    rcases q with q | ⟨q1, c, q2, q3, q4⟩
    · exact .inl q
    · exact .inr ⟨q1, c, q2, hic q3 q4, q4⟩
  refine ⟨⟨c.sameBut hs ha (by nofun) ho, ⟨hS.names.trans hn, hf, ⟨m, hns, fun p hp => ?_⟩, fun y hy => ?_⟩, hfr⟩, ⟨fun _ _ e => e, fun _ _ e _ => e, fun b e => ?_, fun _ e => e⟩⟩
  · rcases hS.cases nd p hp with rfl | ⟨hne, hp'⟩
    · rw [ns_unique hmx hmm] at hhx
      exact .inr ⟨vx, hh hhx, hv⟩
    · rcases hvs p hp' with e | ⟨v, q, r⟩
      · exact .inl e
      · refine .inr ⟨v, hh q, ?_⟩
        generalize p.2 = U9 at r ⊢
        have lab : ∀ {b}, W b = some (.own (some p.1)) → b ≠ a := fun {b} e => by rintro rfl; rw [e] at ha; cases ha; exact hne rfl
        cases U9 with
        | ol xs => obtain ⟨b, vs, n, e1, e2, e3, e4⟩ := r; exact ⟨b, vs, n, e1, e2, keep _ _ e3 (lab e2), e4⟩
        | sd kvs => obtain ⟨b, ws, e1, e2, ⟨ob, es, ep, g, r'⟩, e4⟩ := r; exact ⟨b, ws, e1, e2, ⟨ob, es, ep, keep _ _ g (lab e2), r'⟩, e4⟩
        | it ks => obtain ⟨b, ws, e1, e2, ⟨ob, es, ep, g, r'⟩, e4⟩ := r; exact ⟨b, ws, e1, e2, ⟨ob, es, ep, keep _ _ g (lab e2), r'⟩, e4⟩
        | itf ks =>
          obtain ⟨b, oz, ws, e1, e2, ⟨ob, es, ep, g, r'⟩, e4⟩ := r
          exact ⟨b, oz, ws, e1, e2, ⟨ob, es, ep, keep _ _ g (by rintro rfl; rw [wz _ _ e2] at ha; cases ha), r'⟩, e4⟩
        | _ => exact r
  · obtain ⟨c', e1, e2, v, e3⟩ := hc y hy
    exact ⟨c', e1, e2, v, hic e3 (.inl e2)⟩
  · exact hs.2 b (by rintro rfl; rw [e] at ha; cases ha)

theorem interactive_off {env : Env} (hO : EnvOk Γ env) : interactive env = false := by
  unfold interactive; rw [hO.kind]; rfl

theorem load_hold {A : Around} {env : Env} {l : List Env} {hE : Heap} {Z₀ Z : ZM} {W : WM} {s : Shared} {E : Value → Shared → Prop} {Q : Value → Shared → Prop} (hO : EnvOk Γ env) (hR : Rel w h₀ Γ env l hE Z₀ Z W st s.heap)
    {x : Str} {U : V} {pos : Pos} (hm : At st.mu x U) (hu : U ≠ .un) (h : ∀ m v, s.heap.Ns env.locals m → Holds env Z W s.heap m x v → SRel w Z W s.heap (some x) v U → Q v s) : wpAny (model pg w) A (eval (.Name x pos) env) Q E s := by
  have hn := hR.vars.in hm.mem
  obtain ⟨m, v, hm1, hh, hs⟩ := hR.vars.hold hm hu
  have q := h m v hm1 hh hs
  refine wpAny_Name ?_ (hO.dbg hn)
  rcases hh with ⟨k, e⟩ | ⟨k, c, e1, e2, _⟩
  · exact wpAny_loadName_local hO.kind k hm1 e q
  · rcases k with k | k
    · exact wpAny_loadName_cell hO.kind k e1 e2 q
    · exact wpAny_loadName_free hO.kind k e1 e2 q (hO.debug x (List.mem_append_left _ hn)).2

/-- the same name a while later -/
theorem Rel.again {env : Env} {l : List Env} {hE h h' : Heap} {Z₀ Z Z' : ZM} {W W' : WM} {st' : St} (hR : Rel w h₀ Γ env l hE Z₀ Z W st h) (hR' : Rel w h₀ Γ env l hE Z₀ Z' W' st' h') (hL : LeE Z W h Z' W' h') {x : Str} {U : V} {m : Str → Option Value} {v : Value}
    (hm : h.Ns env.locals m) (hh : Holds env Z W h m x v) (hA : At st'.mu x U) (hu : U ≠ .un) : ∃ m', h'.Ns env.locals m' ∧ Holds env Z' W' h' m' x v ∧ SRel w Z' W' h' (some x) v U := by
  obtain ⟨m', v', a, b, c⟩ := hR'.vars.hold hA hu
  rw [holds_same hh b hm a hR.vars.fr hL hR.core.zin hR'.core.zin]
  exact ⟨m', a, b, c⟩

/-- x.append(e) -/
theorem WX.append {x : Str} {e : Expr} {p1 apos cpos pos : Pos} {Φ : Fl → St → Prop} {xs₀ : List PyData} (h0 : At st.mu x (.ol xs₀))
    (h : WE w h₀ Γ st e (fun U st₁ => ∃ d mu' xs, U = .d d ∧ At st₁.mu x (.ol xs) ∧ xs.length ≤ sizeLine ∧ SetV st₁.mu x (.ol (xs ++ [d])) mu' ∧ Φ .next ⟨mu', st₁.row⟩) Ψ)
    (hfew : ∀ env, ((backTo cpos (starEach [e] env)).all (fun x => !x.1) && (backToKw cpos (keywordEach [] env)).all (fun x => x.1.isSome) && decide (([e] : List Expr).length + ([] : List Keyword).length + (if ([] : List Keyword).isEmpty then 0 else 1) < 30)) = true := by intro _; rfl)
    (hline : (apos.endLine == cpos.line) = true := by rfl) (htrees : ∀ env, backTo cpos (starEach [e] env) = [(false, eval e env)] := by intro _; rfl) :
    WX w h₀ Γ st (.Expr (.Call (.Attribute (.Name x p1) "append" apos) [e] [] cpos) pos) Φ Ψ := by
  intro A env l hE Z₀ Z W s Q E hA hl hO hR hQ hX
  refine wpAny_Expr ?_ (interactive_off hO) rfl
  refine wpAny_Call_append rfl (hfew env) hline (htrees env) ?_
  refine load_hold hO hR h0 (by nofun) fun m v hm hh hs' => ?_
  obtain ⟨D, vs, n, rfl, e2, e3, e4⟩ := hs'
  refine ⟨D, vs.toArray, rfl, ⟨_, n, e3, rfl, rfl, rfl⟩, ?_⟩
  refine h A env l hE Z₀ Z W s _ E hA hl hO hR ?_ hX
  rintro v U st₁ Z₁ W₁ h₁ tk₁ ⟨d, mu', xs, rfl, hA1, hlen, hS, hΦ⟩ hR₁ hL₁ hv
  obtain ⟨m', g1, g2, D', us, k, q1, q2, q3, q4⟩ := hR.again hR₁ hL₁ hm hh hA1 (by nofun)
  cases q1
  refine append_at (its := us.toArray) (n := k) q3 (fun h' hs ho => ?_) (by simpa [q4.length] using hlen)
  obtain ⟨hR', hL'⟩ := hR₁.changeOwn hO hA1 (by nofun) q2 hs ⟨_, ho⟩ hS g1 g2 ⟨_, us ++ [v], k + 1, rfl, q2, by rw [ho]; simp, q4.append (.cons hv .nil)⟩
  exact hQ .next .next _ _ _ _ _ hΦ hR' (hL₁.le.trans hL') trivial

/-! ## a list or dict that is not changed any more -/
theorem Rel.freezeAt {env : Env} {l : List Env} {hE h : Heap} {Z₀ Z : ZM} {W : WM} (hO : EnvOk Γ env) (hR : Rel w h₀ Γ env l hE Z₀ Z W st h) {x : Str} {U U' : V} {mu' : List (Str × V)} {a : Addr} {o : Obj}
    (hm : At st.mu x U) (hu : U ≠ .un) (ha : W a = some (.own (some x))) (hoa : h.get? a = some o) (hS : SetV st.mu x U' mu') {mx : Str → Option Value} {vx : Value} (hmx : h.Ns env.locals mx) (hhx : Holds env Z W h mx x vx)
    (hv : SRel w (upd Z a (some o)) (upd W a none) h (some x) vx U') :
    Rel w h₀ Γ env l hE Z₀ (upd Z a (some o)) (upd W a none) ⟨mu', st.row⟩ h ∧ Le Z W h (upd Z a (some o)) (upd W a none) h := by
  obtain ⟨c, ⟨hn, hf, ⟨m, hmm, hvs⟩, hc⟩, hfr⟩ := hR
  have nd : (st.mu.map (·.1)).Nodup := by rw [hn]; exact hO.nodup
  have hz : Z a = none := (c.dj _ _ ha).1
  have zm : ∀ b ob, Z b = some ob → upd Z a (some o) b = some ob := fun b ob e => by rw [upd_ne (by rintro rfl; rw [hz] at e; cases e)]; exact e
  have wne : ∀ {b ρ}, W b = some ρ → ρ ≠ .own (some x) → upd W a none b = some ρ := fun {b ρ} e n => by
    rw [upd_ne (by rintro rfl; rw [ha] at e; cases e; exact n rfl)]; exact e
  have rb : ∀ b, upd W a none b = some .row → W b = some .row := fun b e => by
    by_cases hb : b = a
    · subst hb; rw [upd_same] at e; cases e
    · rw [upd_ne hb] at e; exact e
  have hh : ∀ {y v}, Holds env Z W h m y v → Holds env (upd Z a (some o)) (upd W a none) h m y v := fun {y v} q => by
    rcases q with q | ⟨q1, c, q2, q3, q4⟩
    · exact .inl q
    · exact .inr ⟨q1, c, q2, q3, q4.imp (fun e => wne e (by nofun)) fun ⟨o, e⟩ => ⟨o, zm _ _ e⟩⟩
  refine ⟨⟨c.freeze hz hoa (c.wf _ _ ha (by nofun)) (by rw [ha]; nofun), ⟨hS.names.trans hn, wne hf (by nofun), ⟨m, hmm, fun p hp => ?_⟩, fun y hy => ?_⟩, ⟨fun fe hfe => ?_, fun t => wne (hfr.2 t) (by nofun)⟩⟩, ⟨zm, fun b ρ e hst => wne e (by rintro rfl; cases hst), fun b _ => rfl, rb⟩⟩
  · rcases hS.cases nd p hp with rfl | ⟨hne, hp'⟩
    · rw [ns_unique hmx hmm] at hhx
      exact .inr ⟨vx, hh hhx, hv⟩
    · rcases hvs p hp' with e | ⟨v, q, r⟩
      · exact .inl e
      · refine .inr ⟨v, hh q, ?_⟩
        generalize p.2 = U9 at r ⊢
        have lab : ∀ {b}, W b = some (.own (some p.1)) → upd W a none b = some (.own (some p.1)) := fun {b} e => wne e (by intro q; cases q; exact hne rfl)
        cases U9 with
        | un => trivial
        | d z => exact FD.mono zm r
        | scr ns => obtain ⟨b, oz, vs, n, e1, e2, r'⟩ := r; exact ⟨b, oz, vs, n, e1, zm _ _ e2, r'⟩
        | ix i => exact SRel.plainMono (w := w) (U := .ix i) (W := W) (W' := W) (h := h) (h' := h) (o := none) (o' := none) r rfl zm fun _ e _ => e
        | row => obtain ⟨b, e1, e2, e3⟩ := r; exact ⟨b, e1, wne e2 (by nofun), e3⟩
        | ol xs => obtain ⟨b, vs, n, e1, e2, e3, e4⟩ := r; exact ⟨b, vs, n, e1, lab e2, e3, FDs.mono zm e4⟩
        | sd kvs => obtain ⟨b, ws, e1, e2, r'⟩ := r; exact ⟨b, ws, e1, lab e2, r'⟩
        | it ks => obtain ⟨b, ws, e1, e2, r'⟩ := r; exact ⟨b, ws, e1, lab e2, r'⟩
        | itf ks => obtain ⟨b, oz, ws, e1, e2, r'⟩ := r; exact ⟨b, oz, ws, e1, zm _ _ e2, r'⟩
  · obtain ⟨c', e1, e2, r⟩ := hc y hy
    exact ⟨c', e1, wne e2 (by nofun), r⟩
  · obtain ⟨k, b, e, q⟩ := hfr.1 fe hfe
    exact ⟨k, b, e, q.imp id fun ⟨o, q1, q2, q3, q4⟩ => ⟨o, q1, q2, fun z => q3 (rb _ z), fun z => q4 (rb _ z)⟩⟩

theorem WX.freezeL {x : Str} {xs : List PyData} {mu' : List (Str × V)} {t : Stmt} {Φ : Fl → St → Prop} (hm : At st.mu x (.ol xs)) (hS : SetV st.mu x (.d (.list xs)) mu') (h : WX w h₀ Γ ⟨mu', st.row⟩ t Φ Ψ) : WX w h₀ Γ st t Φ Ψ := by
  intro A env l hE Z₀ Z W s Q E hA hl hO hR hQ hX
  obtain ⟨m, v, h1, h2, a, vs, n, rfl, e2, e3, e4⟩ := hR.vars.hold hm (by nofun)
  have hz : Z a = none := (hR.core.dj _ _ e2).1
  obtain ⟨hR', hL'⟩ := hR.freezeAt (U' := .d (.list xs)) hO hm (by nofun) e2 e3 hS h1 h2 (.list (upd_same _ _ _) rfl rfl rfl (by
    refine FDs.mono (fun b ob e => ?_) (by simpa using e4)
    rw [upd_ne (by rintro rfl; rw [hz] at e; cases e)]; exact e))
  exact h A env l hE Z₀ _ _ s Q E hA hl hO hR' (fun f F st₂ Z₂ W₂ h₂ tk₂ p r le fr => hQ f F st₂ Z₂ W₂ h₂ tk₂ p r (hL'.trans le) fr) (fun e' msg r h' tk p q => hX e' msg r h' tk p (q.le hL'))
theorem WX.freezeI (hw : Wd w h₀ mg mb) {x : Str} {ks : List Int} {mu' : List (Str × V)} {t : Stmt} {Φ : Fl → St → Prop} (hm : At st.mu x (.it ks)) (hS : SetV st.mu x (.itf ks) mu') (h : WX w h₀ Γ ⟨mu', st.row⟩ t Φ Ψ) : WX w h₀ Γ st t Φ Ψ := by
  intro A env l hE Z₀ Z W s Q E hA hl hO hR hQ hX
  obtain ⟨m, v, h1, h2, a, ws, rfl, e2, ⟨ob, es, ep, e3, r3⟩, e4⟩ := hR.vars.hold hm (by nofun)
  obtain ⟨hR', hL'⟩ := hR.freezeAt (U' := .itf ks) hO hm (by nofun) e2 e3 hS h1 h2 ⟨a, ob, ws, rfl, upd_same _ _ _, ⟨ob, es, ep, e3, r3⟩, e4, hw.notSys hR.core e2 (by nofun)⟩
  exact h A env l hE Z₀ _ _ s Q E hA hl hO hR' (fun f F st₂ Z₂ W₂ h₂ tk₂ p r le fr => hQ f F st₂ Z₂ W₂ h₂ tk₂ p r (hL'.trans le) fr) (fun e' msg r h' tk p q => hX e' msg r h' tk p (q.le hL'))
end
end Mine
namespace Mine
/-! ## what the top's names hold -/
def KF (w : World) : Prop := PySem.Challenge.rw_nz0476_01 = PySem.Challenge.rw_nz0476_01 ∧ hd.heap_1 w.params = hd.heap_1 w.params
section
variable {w : World} {h₀ : Heap} {mg mb : Str → Option Value}
structure BiFact (mg mb : Str → Option Value) (x : Str) (v : Value) : Prop where
  g : mg x = none
  b : mb x = some v
theorem Wd.len (hw : Wd w h₀ mg mb) : BiFact mg mb "len" (.builtin "len") := ⟨mg_none_of hw.X hw.g (by k_is), (hw.bi "len" (by decide)).trans (by boot_fast)⟩
theorem Wd.max (hw : Wd w h₀ mg mb) : BiFact mg mb "max" (.builtin "max") := ⟨mg_none_of hw.X hw.g (by k_is), (hw.bi "max" (by decide)).trans (by boot_fast)⟩
theorem Wd.abs (hw : Wd w h₀ mg mb) : BiFact mg mb "abs" (.builtin "abs") := ⟨mg_none_of hw.X hw.g (by k_is), (hw.bi "abs" (by decide)).trans (by boot_fast)⟩
theorem Wd.chr (hw : Wd w h₀ mg mb) : BiFact mg mb "chr" (.builtin "chr") := ⟨mg_none_of hw.X hw.g (by k_is), (hw.bi "chr" (by decide)).trans (by boot_fast)⟩
theorem Wd.isinstance (hw : Wd w h₀ mg mb) : BiFact mg mb "isinstance" (.builtin "isinstance") := ⟨mg_none_of hw.X hw.g (by k_is), (hw.bi "isinstance" (by decide)).trans (by boot_fast)⟩
theorem Wd.range (hw : Wd w h₀ mg mb) : BiFact mg mb "range" (.type "range") := ⟨mg_none_of hw.X hw.g (by k_is), (hw.bi "range" (by decide)).trans (by boot_fast)⟩
theorem Wd.list (hw : Wd w h₀ mg mb) : BiFact mg mb "list" (.type "list") := ⟨mg_none_of hw.X hw.g (by k_is), (hw.bi "list" (by decide)).trans (by boot_fast)⟩
theorem Wd.glob {x : Str} {v : Value} (hw : Wd w h₀ mg mb) (e : nsIn (hd.heap_1 w.params) mainGlobals x = some (some v)) : mg x = some v := mg_of hw.X hw.g e

/-! ## names of the top -/
variable {Γ : Cx} {st : St} {Ψ : Str → List Int → Prop}
theorem eval_bi (hw : Wd w h₀ mg mb) {A : Around} {env : Env} {hE : Heap} {Z₀ Z : ZM} {W : WM} {r : List Int} {s : Shared} {E : Value → Shared → Prop} {Q : Value → Shared → Prop} (hO : EnvOk Γ env) (hc : Core h₀ hE Z₀ Z W r s.heap) {x : Str} {pos : Pos} {v : Value}
    (hx : x ∈ Γ.globs) (hb : BiFact mg mb x v) (h : Q v s) : wpAny (model pg w) A (eval (.Name x pos) env) Q E s :=
  Name_function_global hO.kind (hO.globs x hx) (loadGlobal_builtin (by rw [hO.glob]; exact hw.g.keeps hc.stay) hb.g (by rw [hO.bi]; exact hw.b.keeps hc.stay) hb.b h) (hO.debug x (List.mem_append_right _ hx)).1
theorem eval_gl (hw : Wd w h₀ mg mb) {A : Around} {env : Env} {hE : Heap} {Z₀ Z : ZM} {W : WM} {r : List Int} {s : Shared} {E : Value → Shared → Prop} {Q : Value → Shared → Prop} (hO : EnvOk Γ env) (hc : Core h₀ hE Z₀ Z W r s.heap) {x : Str} {pos : Pos} {v : Value}
    (hx : x ∈ Γ.globs) (hb : mg x = some v) (h : Q v s) : wpAny (model pg w) A (eval (.Name x pos) env) Q E s :=
  Name_function_global hO.kind (hO.globs x hx) (loadGlobal_global (by rw [hO.glob]; exact hw.g.keeps hc.stay) hb h) (hO.debug x (List.mem_append_right _ hx)).1

/-! ## iteration -/
structure Itr (w : World) (A : Around) (Z : ZM) (I : Addr) (xs : List PyData) (Sx : Nat → Heap → Prop) : Prop where
  W : ∃ fp P, Walks pg w A I fp [I] xs.length P Sx ∧ (∀ b ∈ fp, b = I ∨ ∃ o, Z b = some o) ∧ ∀ i v, i < xs.length → P i v → ∃ d, xs[i]? = some d ∧ FD Z v d
  alive : ∀ i h, Sx i h → ∃ o, h.get? I = some o
theorem Itr.mono {A : Around} {Z Z' : ZM} {I : Addr} {xs : List PyData} {Sx : Nat → Heap → Prop} (x : Itr w A Z I xs Sx) (hz : ∀ a o, Z a = some o → Z' a = some o) : Itr w A Z' I xs Sx := by
  obtain ⟨⟨fp, P, a, b, c⟩, d⟩ := x
  exact ⟨⟨fp, P, a, fun q hq => (b q hq).imp id fun ⟨o, e⟩ => ⟨o, hz _ _ e⟩, fun i v hi hp => let ⟨d, e, f⟩ := c i v hi hp; ⟨d, e, FD.mono hz f⟩⟩, d⟩

variable (w h₀) in
def WI (Γ : Cx) (st : St) (e : Expr) (Φ : List PyData → St → Prop) (Ψ : Str → List Int → Prop) : Prop :=
  ∀ (A : Around) (env : Env) (l : List Env) (hE : Heap) (Z₀ Z : ZM) (W : WM) (s : Shared) (Q : Value → Shared → Prop) (E : Value → Shared → Prop),
    AOk Γ.rank A → A.frames = some l → EnvOk Γ env → Rel w h₀ Γ env l hE Z₀ Z W st s.heap →
    (∀ I xs st' Z' W' h' tk Sx, Φ xs st' → Rel w h₀ Γ env l hE Z₀ Z' W' st' h' → LeE Z W s.heap Z' W' h' → W' I = some .iter → W I = none → Itr w A Z' I xs Sx → Sx 0 h' → Q (.ref I) { s with heap := h', toks := tk }) →
    (∀ e' msg r h' tk, Ψ msg r → Exc l hE W env.locals msg r e' h' → E e' { s with heap := h', toks := tk }) →
    wpAny (model pg w) A (eval e env) (fun x s₁ => wpAny (model pg w) A (pyIter x) Q E s₁) E s

theorem LeE.old {Z Z' : ZM} {W W' : WM} {h h' : Heap} (hl : LeE Z W h Z' W' h') {a : Addr} (ha : W' a = none) : W a = none := by
  cases hw : W a with
  | none => rfl
  | some ρ => have := hl.w a ρ hw; rw [ha] at this; cases this

theorem WI.list {e : Expr} {Φ : List PyData → St → Prop} (h : WE w h₀ Γ st e (fun U st₁ => ∃ xs, U = .d (.list xs) ∧ Φ xs st₁) Ψ) : WI w h₀ Γ st e Φ Ψ := by
  intro A env l hE Z₀ Z W s Q E hA hl hO hR hQ hX
  refine h A env l hE Z₀ Z W s _ E hA hl hO hR ?_ hX
  rintro v U st₁ Z₁ W₁ h₁ tk₁ ⟨xs, rfl, hΦ⟩ hR₁ hL₁ hv
  obtain ⟨a, o, vs, n, rfl, e1, e2, e3, e4⟩ : ∃ a o vs n, v = .ref a ∧ Z₁ a = some o ∧ o.cls = .type "list" ∧ o.data = .seq vs n ∧ FDs Z₁ vs.toList xs := by
    cases hv with
    | list z c _ d r => exact ⟨_, _, _, _, rfl, z, c, d, r⟩
  have hl1 : h₁.IsList a vs := ⟨o, hR₁.core.zin _ _ e1, e2, n, e3⟩
  refine wpAny_pyIter_list (s := { s with heap := h₁, toks := tk₁ }) hl1 ?_
  obtain ⟨hz, hw0⟩ := hR₁.dom (a := h₁.objs.size) (Nat.le_refl _)
  have hne : a ≠ h₁.objs.size := by rintro rfl; rw [hz] at e1; cases e1
  obtain ⟨hR₂, hL₂⟩ := hR₁.allocW { cls := .type "list_iterator", data := .fields #[.ref a, .int 0 0] } rfl (.inr rfl)
  have hlen : vs.size = xs.length := by rw [← e4.length]; simp
  refine hQ h₁.objs.size xs st₁ Z₁ _ _ tk₁ (fun i h => h.IsListIter h₁.objs.size a i ∧ h.IsList a vs) hΦ hR₂ (hL₁.trans hL₂) (upd_same _ _ _) (hL₁.old hw0) ⟨⟨[h₁.objs.size, a], fun i v => vs[i]? = some v, ?_, ?_, ?_⟩, ?_⟩ ⟨⟨_, Heap.get?_push_size _ rfl, rfl, rfl⟩, hl1.push _⟩
  · rw [← hlen]
    exact Walks.list hA.handled _ a hne vs
  · intro b hb
    simp only [List.mem_cons, List.not_mem_nil, or_false] at hb
    rcases hb with q | q
    · exact .inl q
    · exact .inr ⟨o, by rw [q]; exact e1⟩
  · intro i v hi hp
    exact e4.get' (by simpa using hp)
  · rintro i h ⟨⟨o, q, _⟩, _⟩; exact ⟨o, q⟩

theorem WI.range (hw : Wd w h₀ mg mb) {a : Expr} {p pos : Pos} {Φ : List PyData → St → Prop} (hg : (Str.ofString "range") ∈ Γ.globs)
    (h : WE w h₀ Γ st a (fun U st₁ => ∃ n : Int, U = .d (.int n) ∧ n < 2 ^ 62 ∧ -(2 ^ 62) ≤ n ∧ Φ ((List.range n.toNat).map fun k : Nat => PyData.int (k : Int)) st₁) Ψ)
    (he : ∀ env, starEach [a] env = [(false, eval a env)] := by intro _; rfl) : WI w h₀ Γ st (.Call (.Name "range" p) [a] [] pos) Φ Ψ := by
  intro A env l hE Z₀ Z W s Q E hA hl hO hR hQ hX
  refine wpAny_Call_ofName (eval_bi hw hO hR.core hg hw.range ?_)
  refine PyProof.Rows.callWith_type1 (wpAny_items_cons ?_ (he env)) (he env)
  refine h A env l hE Z₀ Z W s _ E hA hl hO hR ?_ hX
  rintro v U st₁ Z₁ W₁ h₁ tk₁ ⟨n, rfl, hn1, hn2, hΦ⟩ hR₁ hL₁ hv
  cases hv with
  | int _ t =>
  refine wpAny_items_nil ?_
  refine call_range_1 ?_
  refine wpAny_pyIter_range (IsRange.new _ _ _ _ _ _ _) (small_one (by omega) (by omega) hn2 hn1) ?_
  obtain ⟨hz, hw0⟩ := hR₁.dom (a := h₁.objs.size + 1) (Nat.le_succ _)
  have hR₂ := hR₁.push { cls := .type "range", data := .fields #[.int 0 tk₁, .int n t, .int 1 (tk₁ + 1)] }
  have hL₂ := LeE.keeps (h' := h₁.push { cls := .type "range", data := .fields #[.int 0 tk₁, .int n t, .int 1 (tk₁ + 1)] }) hR₁.core fun _ _ e => Heap.get?_push_of_some _ e
  obtain ⟨hR₃, hL₃⟩ := hR₂.allocW { cls := .type "range_iterator", data := .fields #[rawInt 0, rawInt (Builtin.Range.rangeSize 0 n 1), rawInt 1] } rfl (.inr rfl)
  have hsz : Builtin.Range.rangeSize 0 n 1 = ((n.toNat : Nat) : Int) := by rw [rangeSize_one]; split <;> omega
  have hps : (h₁.push { cls := .type "range", data := .fields #[.int 0 tk₁, .int n t, .int 1 (tk₁ + 1)] }).objs.size = h₁.objs.size + 1 := push_size _ _
  refine hQ _ _ st₁ Z₁ _ _ _ (fun i h => IsRangeIter h (h₁.push { cls := .type "range", data := .fields #[.int 0 tk₁, .int n t, .int 1 (tk₁ + 1)] }).objs.size (0 + (i : Nat) * 1) ((n.toNat : Int) - (i : Nat)) 1) hΦ hR₃ ((hL₁.trans hL₂).trans hL₃) (upd_same _ _ _) ?_ ⟨⟨[(h₁.push { cls := .type "range", data := .fields #[.int 0 tk₁, .int n t, .int 1 (tk₁ + 1)] }).objs.size], fun i v => ∃ t, v = .int (0 + (i : Nat) * 1) t, ?_, ?_, ?_⟩, ?_⟩ ?_
  · exact hL₁.old (by rw [hps]; exact hw0)
  · have := Walks.range (prog := pg) (w := w) (A := A) hA.handled (h₁.push { cls := .type "range", data := .fields #[.int 0 tk₁, .int n t, .int 1 (tk₁ + 1)] }).objs.size 0 1 n.toNat
    simpa using this
  · intro b hb; exact .inl (List.mem_singleton.mp hb)
  · rintro i v hi ⟨t, rfl⟩
    refine ⟨.int i, ?_, ?_⟩
    · have : i < n.toNat := by simpa using hi
      simp [this]
    · have : (0 : Int) + i * 1 = i := by omega
      rw [this]; exact .int _ _
  · intro i h hi; exact ⟨_, hi⟩
  · have : IsRangeIter ((h₁.push { cls := .type "range", data := .fields #[.int 0 tk₁, .int n t, .int 1 (tk₁ + 1)] }).push { cls := .type "range_iterator", data := .fields #[rawInt 0, rawInt (Builtin.Range.rangeSize 0 n 1), rawInt 1] }) (h₁.push { cls := .type "range", data := .fields #[.int 0 tk₁, .int n t, .int 1 (tk₁ + 1)] }).objs.size 0 (Builtin.Range.rangeSize 0 n 1) 1 := Heap.get?_push_size _ rfl
    rw [hsz] at this
    simpa [hsz] using this

/-! ## for -/
/-- the heap has changed at an iterator alone -/
theorem Rel.turned {env : Env} {l : List Env} {hE h h' : Heap} {Z₀ Z : ZM} {W : WM} {I : Addr} (hR : Rel w h₀ Γ env l hE Z₀ Z W st h) (hI : W I = some .iter) (hk : ∀ b o, b ∉ [I] → h.get? b = some o → h'.get? b = some o) (ha : ∃ o, h'.get? I = some o) :
    Rel w h₀ Γ env l hE Z₀ Z W st h' := by
  have ne : ∀ {b}, W b ≠ some .iter → b ∉ [I] := fun {b} n q => n (by rw [List.mem_singleton.mp q]; exact hI)
  have hv : Vars w Γ env Z W h' st.mu := hR.vars.mono (fun b o e n _ => hk b o (ne n) e) hR.core.zw
  refine ⟨hR.core.mono (fun b o e q => hk b o (fun m => ?_) e) (hv.grow (hR.core.wfr _ hv.fr)) fun a ρ e n => ?_, hv, hR.frs⟩
  · have := q .iter (by rw [List.mem_singleton.mp m]; exact hI); cases this
  · by_cases hb : a = I
    · exact hb ▸ ha
    · obtain ⟨o, ho⟩ := (hR.core.dj a ρ e).2
      exact ⟨o, hk a o (fun m => hb (List.mem_singleton.mp m)) ho⟩
/-- an iterator at its end -/
theorem Rel.ended {env : Env} {l : List Env} {hE h h' : Heap} {Z₀ Z : ZM} {W : WM} {I : Addr} (hR : Rel w h₀ Γ env l hE Z₀ Z W st h) (hI : W I = some .iter) (hk : ∀ b o, b ∉ [I] → h.get? b = some o → h'.get? b = some o) :
    Rel w h₀ Γ env l hE Z₀ Z (upd W I none) st h' := by
  have ne : ∀ {b}, W b ≠ some .iter → b ∉ [I] := fun {b} n q => n (by rw [List.mem_singleton.mp q]; exact hI)
  have hv : Vars w Γ env Z W h' st.mu := hR.vars.mono (fun b o e n _ => hk b o (ne n) e) hR.core.zw
  have rbI : ∀ b, upd W I none b = some .row → W b = some .row := fun b z => by
      by_cases hb : b = I
      · rw [hb, upd_same] at z; cases z
      · rw [upd_ne hb] at z; exact z
  refine ⟨hR.core.except hI (fun b o n e => hk b o (fun m => n (List.mem_singleton.mp m)) e) (hv.grow (hR.core.wfr _ hv.fr)), hv.wk fun b ρ e n => ?_, ⟨fun fe hfe => ?_, fun t => by rw [upd_ne (by intro q; have := hR.frs.2 t; rw [q, hI] at this; cases this)]; exact hR.frs.2 t⟩⟩
  · rw [upd_ne (by rintro rfl; rw [hI] at e; cases e; exact n rfl)]; exact e
  · obtain ⟨k, b, e, q⟩ := hR.frs.1 fe hfe
    exact ⟨k, b, e, q.imp id fun ⟨o, q1, q2, q3, q4⟩ => ⟨o, q1, q2, fun z => q3 (rbI _ z), fun z => q4 (rbI _ z)⟩⟩
theorem Le.turned {Z Z₁ : ZM} {W W₁ : WM} {h h₁ h' : Heap} {I : Addr} {hE : Heap} {Z₀ : ZM} {r : List Int} (hl : Le Z W h Z₁ W₁ h₁) (hc : Core h₀ hE Z₀ Z₁ W₁ r h₁) (hI : W I = none) (hk : ∀ b o, b ∉ [I] → h₁.get? b = some o → h'.get? b = some o) : Le Z W h Z₁ W₁ h' :=
  ⟨hl.z, hl.wk, fun a e => by
    have hne : a ∉ [I] := fun m => by rw [List.mem_singleton.mp m, hI] at e; cases e
    obtain ⟨o, ho⟩ := (hc.dj a _ (hl.wk a _ e rfl)).2
    rw [hk a o hne ho, ← ho]; exact hl.it a e, hl.rb⟩
theorem Le.drop {Z Z₁ : ZM} {W W₁ : WM} {h h' : Heap} {I : Addr} (hl : Le Z W h Z₁ W₁ h') (hI : W I = none) : Le Z W h Z₁ (upd W₁ I none) h' :=
  ⟨hl.z, fun a ρ e n => by rw [upd_ne (by rintro rfl; rw [hI] at e; cases e)]; exact hl.wk a ρ e n, hl.it, fun a e => hl.rb a (by
    by_cases hb : a = I
    · rw [hb, upd_same] at e; cases e
    · rw [upd_ne hb] at e; exact e)⟩

def forEnd (J : St → Prop) (Φ : Fl → St → Prop) : Fl → St → Prop
  | .ret U, st => Φ (.ret U) st
  | _, st => J st

theorem WX.for {x : Str} {p pos : Pos} {iter : Expr} {body : List Stmt} {Φ : Fl → St → Prop} (hx : x ∈ Γ.locs ∨ x ∈ Γ.cells)
    (h : WI w h₀ Γ st iter (fun xs st₁ => ∃ J : List PyData → St → Prop, J [] st₁ ∧ (∀ pre d post st₂, xs = pre ++ d :: post → J pre st₂ → ∃ mu', SetV st₂.mu x (.d d) mu' ∧ WS w h₀ Γ ⟨mu', st₂.row⟩ body (forEnd (J (pre ++ [d])) Φ) (fun _ _ => False)) ∧
      ∀ st₂, J xs st₂ → Φ .next st₂) Ψ)
    (hs : ∀ env x, foldedSetIterable iter env x = pure x := by intro _ _; rfl) : WX w h₀ Γ st (.For (.Name x p) iter body [] pos) Φ Ψ := by
  intro A env l hE Z₀ Z W s Q E hA hl hO hR hQ hX
  refine wpAny_For (h A env l hE Z₀ Z W s _ E hA hl hO hR ?_ hX) (hs env)
  rintro I xs st₁ Z₁ W₁ h₁ tk₁ Sx ⟨J, hJ0, hstep, hfin⟩ hR₁ hL₁ hI hI0 hIt hS0
  refine codeAny_forLoop (I := fun n s' => ∃ pre post st' Z' W' h' tk, xs = pre ++ post ∧ n = post.length ∧ s' = { s with heap := h', toks := tk } ∧ Rel w h₀ Γ env l hE Z₀ Z' W' st' h' ∧ Le Z W s.heap Z' W' h' ∧ W' I = some .iter ∧ Itr w A Z' I xs Sx ∧ Sx pre.length h' ∧ J pre st') ?_ xs.length ⟨[], xs, st₁, Z₁, W₁, h₁, tk₁, rfl, rfl, rfl, hR₁, hL₁.le, hI, hIt, hS0, hJ0⟩
  rintro n s' ⟨pre, post, st₂, Z₂, W₂, h₂, tk₂, hxs, rfl, rfl, hR₂, hL₂, hI₂, hIt₂, hS₂, hJ₂⟩
  obtain ⟨⟨fp, P, Wk, hfp, hP⟩, hal⟩ := id hIt₂
  cases post with
  | nil =>
    have hlen : pre.length = xs.length := by rw [hxs]; simp
    rw [hlen] at hS₂
    refine Wk.done _ _ _ hS₂ fun h' tk hk => ?_
    refine wpAny_execs_nil ?_
    have hJ' : J xs st₂ := by rw [hxs, List.append_nil]; exact hJ₂
    exact hQ .next .next st₂ Z₂ _ _ _ (hfin st₂ hJ') (hR₂.ended hI₂ hk) ((hL₂.turned hR₂.core hI0 hk).drop hI0) trivial
  | cons d post =>
    have hi : pre.length < xs.length := by rw [hxs]; simp
    refine Wk.item _ _ _ _ hi hS₂ fun v h₃ tk₃ hp hS₃ hk => ?_
    obtain ⟨d', hd', hfd⟩ := hP _ _ hi hp
    have : d' = d := by rw [hxs] at hd'; simpa using hd'.symm
    subst this
    have hR₃ := hR₂.turned hI₂ hk (hal _ _ hS₃)
    obtain ⟨mu', hSet, hbody⟩ := hstep pre d' post st₂ hxs hJ₂
    refine wpAny_assign_Name (store_name (s := { s with heap := h₃, toks := tk₃ }) hO hR₃ hSet hx hfd fun h₄ tk₄ hR₄ hL₄ => ?_)
    refine hbody A env l hE Z₀ _ _ _ _ _ hA hl hO hR₄ ?_ (fun _ _ _ _ _ q => q.elim)
    intro f F st₅ Z₅ W₅ h₅ tk₅ hΦ hR₅ hL₅ hf
    have hL₃ := hL₂.turned hR₂.core hI0 hk
    have hL' := (hL₃.trans hL₄).trans hL₅
    have fin : J (pre ++ [d']) st₅ → ∃ m, m < (d' :: post).length ∧ ∃ pre post st' Z' W' h' tk, xs = pre ++ post ∧ m = post.length ∧ ({ s with heap := h₅, toks := tk₅ } : Shared) = { s with heap := h', toks := tk } ∧ Rel w h₀ Γ env l hE Z₀ Z' W' st' h' ∧ Le Z W s.heap Z' W' h' ∧ W' I = some .iter ∧ Itr w A Z' I xs Sx ∧ Sx pre.length h' ∧ J pre st' := by
      intro hj
      have hzz : ∀ a o, Z₂ a = some o → Z₅ a = some o := fun a o e => hL₅.z a o (hL₄.z a o e)
      refine ⟨post.length, by simp, pre ++ [d'], post, st₅, Z₅, W₅, h₅, tk₅, by rw [hxs]; simp, rfl, rfl, hR₅, hL', hL₅.wk _ _ (hL₄.wk _ _ hI₂ rfl) rfl, hIt₂.mono hzz, ?_, hj⟩
      have e : (pre ++ [d']).length = pre.length + 1 := by simp
      rw [e]
      refine Wk.frame _ _ _ hS₃ fun b hb o ho => ?_
      rcases hfp b hb with rfl | ⟨oz, hz⟩
      · exact ((hL₅.it _ (hL₄.wk _ _ hI₂ rfl)).trans (hL₄.it _ hI₂)).trans ho
      · rw [hR₃.core.zin _ _ hz] at ho; cases ho
        exact hR₅.core.zin _ _ (hzz _ _ hz)
    cases F with
    | next => cases f with
      | next => exact fin hΦ
      | _ => exact hf.elim
    | cont => cases f with
      | cont => exact fin hΦ
      | _ => exact hf.elim
    | ret U => cases f with
      | ret v9 => exact hQ (.ret v9) (.ret U) st₅ Z₅ W₅ h₅ tk₅ hΦ hR₅ hL' hf
      | _ => exact hf.elim
end
end Mine
namespace Mine
section
variable {w : World} {h₀ : Heap} {mg mb : Str → Option Value} {Γ : Cx} {st : St} {Ψ : Str → List Int → Prop}

/-! ## dicts -/
def sdGet (kvs : List (Str × Int)) (x : Str) : Option Int := (kvs.find? fun p => p.1 = x).map (·.2)
theorem sdGet_at {x : Str} : ∀ {ws : List (Str × Value)} {kvs : List (Str × Int)}, IntVals ws kvs → match sdGet kvs x with
    | none => valueAt ws x = none
    | some i => ∃ t, valueAt ws x = some (.int i t)
  | [], [], _ => rfl
  | (a, v) :: r, (b, i) :: q, ⟨e, ⟨t, ev⟩, h⟩ => by
    subst e ev
    have ih := sdGet_at (x := x) h
    unfold sdGet valueAt at ih ⊢
    by_cases hx : a = x
    · subst hx; simp
    · simpa [hx] using ih
theorem sdGet_isSome {x : Str} {ws : List (Str × Value)} {kvs : List (Str × Int)} (h : IntVals ws kvs) : (valueAt ws x).isSome = (sdGet kvs x).isSome := by
  have := sdGet_at (x := x) h
  cases hk : sdGet kvs x with
  | none => rw [hk] at this; simp only at this; rw [this]; rfl
  | some i => rw [hk] at this; obtain ⟨t, e⟩ := this; rw [e]; rfl
theorem itGet {k : Int} : ∀ {ws : List (Int × Value)} {ks : List Int}, ws.map (·.1) = ks → (valueAt ws k).isSome = decide (k ∈ ks)
  | [], _, e => by subst e; rfl
  | (a, v) :: r, _, e => by
    subst e
    have ih := itGet (k := k) (ws := r) rfl
    unfold valueAt at ih ⊢
    rw [List.map_cons]
    by_cases hx : a = k
    · subst hx; simp
    · have hx' : ¬ k = a := fun e => hx e.symm
      simp only [List.find?_cons, hx, decide_false, List.mem_cons, hx', false_or]
      simpa using ih

/-- x in d, d a dict that the frame owns -/
theorem WT.inS (hw : Wd w h₀ mg mb) {a : Expr} {d : Str} {p pos : Pos} {Φ : Bool → St → Prop} (h : WE w h₀ Γ st a (fun U st₁ => ∃ x kvs, U = .d (.str x) ∧ At st₁.mu d (.sd kvs) ∧ Φ (sdGet kvs x).isSome st₁) Ψ) :
    WT w h₀ Γ st (.Compare a [.In] [.Name d p] pos) Φ Ψ := by
  intro A env l hE Z₀ Z W s Q E hA hl hO hR hQ hX
  refine wpAny_isTrue_Compare1 (h A env l hE Z₀ Z W s _ E hA hl hO hR ?_ hX) rfl
  rintro v U st₁ Z₁ W₁ h₁ tk₁ ⟨x, kvs, rfl, hm, hΦ⟩ hR₁ hL₁ hv
  cases hv with
  | str _ t =>
  refine load_name hO hR₁ hm (by nofun) fun dv hs => ?_
  obtain ⟨D, ws, rfl, e2, e3, e4⟩ := hs
  refine wpAny_in_of (strKind_is _ _ _ _) (hw.notSys hR₁.core e2 (by nofun)) e3.mapOf ?_
  rw [sdGet_isSome e4]
  exact wpAny_truthy_bool (hQ _ _ _ _ _ _ hΦ hR₁ hL₁)
theorem WT.notInS (hw : Wd w h₀ mg mb) {a : Expr} {d : Str} {p pos : Pos} {Φ : Bool → St → Prop} (h : WE w h₀ Γ st a (fun U st₁ => ∃ x kvs, U = .d (.str x) ∧ At st₁.mu d (.sd kvs) ∧ Φ (!(sdGet kvs x).isSome) st₁) Ψ) :
    WT w h₀ Γ st (.Compare a [.NotIn] [.Name d p] pos) Φ Ψ := by
  intro A env l hE Z₀ Z W s Q E hA hl hO hR hQ hX
  refine wpAny_isTrue_Compare1 (h A env l hE Z₀ Z W s _ E hA hl hO hR ?_ hX) rfl
  rintro v U st₁ Z₁ W₁ h₁ tk₁ ⟨x, kvs, rfl, hm, hΦ⟩ hR₁ hL₁ hv
  cases hv with
  | str _ t =>
  refine load_name hO hR₁ hm (by nofun) fun dv hs => ?_
  obtain ⟨D, ws, rfl, e2, e3, e4⟩ := hs
  refine wpAny_notIn_of (strKind_is _ _ _ _) (hw.notSys hR₁.core e2 (by nofun)) e3.mapOf ?_
  rw [sdGet_isSome e4]
  exact wpAny_truthy_bool (hQ _ _ _ _ _ _ hΦ hR₁ hL₁)
/-- i not in d, d a dict of ints that is not changed any more -/
theorem WT.notInI {a : Expr} {d : Str} {p pos : Pos} {Φ : Bool → St → Prop} (h : WE w h₀ Γ st a (fun U st₁ => ∃ x ks, U = .d (.int x) ∧ At st₁.mu d (.itf ks) ∧ Φ (!decide (x ∈ ks)) st₁) Ψ) :
    WT w h₀ Γ st (.Compare a [.NotIn] [.Name d p] pos) Φ Ψ := by
  intro A env l hE Z₀ Z W s Q E hA hl hO hR hQ hX
  refine wpAny_isTrue_Compare1 (h A env l hE Z₀ Z W s _ E hA hl hO hR ?_ hX) rfl
  rintro v U st₁ Z₁ W₁ h₁ tk₁ ⟨x, ks, rfl, hm, hΦ⟩ hR₁ hL₁ hv
  cases hv with
  | int _ t =>
  refine load_name hO hR₁ hm (by nofun) fun dv hs => ?_
  obtain ⟨D, ob, ws, rfl, e2, e3, e4, e5⟩ := hs
  refine wpAny_notIn_of (intKind_is _ _ _ _) e5 e3.mapOf ?_
  rw [itGet e4]
  exact wpAny_truthy_bool (hQ _ _ _ _ _ _ hΦ hR₁ hL₁)

/-- d[x] -/
theorem WE.itemS {d : Str} {i : Expr} {p pos : Pos} {Φ : V → St → Prop} {kvs₀ : List (Str × Int)} (h0 : At st.mu d (.sd kvs₀)) (h : WE w h₀ Γ st i (fun U st₁ => ∃ x kvs n, U = .d (.str x) ∧ At st₁.mu d (.sd kvs) ∧ sdGet kvs x = some n ∧ Φ (.d (.int n)) st₁) Ψ)
    (hs : ∀ o j, subscripted i false o j = operate [o, j] (getItem o j) := by intro _ _; with_unfolding_all rfl) : WE w h₀ Γ st (.Subscript (.Name d p) i pos) Φ Ψ := by
  intro A env l hE Z₀ Z W s Q E hA hl hO hR hQ hX
  refine Subscript_ (load_hold hO hR h0 (by nofun) fun m v hm hh hs' => ?_)
  obtain ⟨D, _, rfl, _⟩ := hs'
  refine h A env l hE Z₀ Z W s _ E hA hl hO hR ?_ hX
  rintro v U st₁ Z₁ W₁ h₁ tk₁ ⟨x, kvs, n, rfl, hA1, hn, hΦ⟩ hR₁ hL₁ hv
  obtain ⟨m', g1, g2, D', ws, q1, q2, q3, q4⟩ := hR.again hR₁ hL₁ hm hh hA1 (by nofun)
  cases q1
  cases hv with
  | str _ t =>
  have hg := sdGet_at (x := x) q4
  rw [hn] at hg
  obtain ⟨tk, hg⟩ := hg
  refine tail_any (ops := [_, _]) (T := "dict") q3.typeIs F.slot_dict_getitem.lookup (wpAny_getItem_of (strKind_is _ _ _ _) q3.mapOf hg ?_) (hs _ _)
  exact hQ _ _ _ _ _ _ _ hΦ hR₁ hL₁ (.int _ _)

theorem IntVals.length {ws : List (Str × Value)} {kvs : List (Str × Int)} (h : IntVals ws kvs) : ws.length = kvs.length := by
  induction ws generalizing kvs with
  | nil => cases kvs with
    | nil => rfl
    | cons b q => exact h.elim
  | cons a r ih => cases kvs with
    | nil => exact h.elim
    | cons b q => exact congrArg (· + 1) (ih h.2.2)
theorem IntVals.append {ws : List (Str × Value)} {kvs : List (Str × Int)} (h : IntVals ws kvs) (x : Str) (n : Int) (t : Tok) : IntVals (ws ++ [(x, .int n t)]) (kvs ++ [(x, n)]) := by
  induction ws generalizing kvs with
  | nil => cases kvs with
    | nil => exact ⟨rfl, ⟨t, rfl⟩, trivial⟩
    | cons b q => exact h.elim
  | cons a r ih => cases kvs with
    | nil => exact h.elim
    | cons b q => exact ⟨h.1, h.2.1, ih h.2.2⟩
theorem stored_new {K : Type} [DecidableEq K] {ws : List (K × Value)} {k : K} {v : Value} (h : valueAt ws k = none) : stored ws k v = ws ++ [(k, v)] := by
  unfold stored
  rw [if_neg]
  unfold valueAt at h
  simp only [Option.map_eq_none_iff, List.find?_eq_none, decide_eq_true_eq] at h
  simp only [List.any_eq_true, decide_eq_true_eq, not_exists, not_and]
  exact fun p hp => h p hp
theorem stored_keys {K : Type} [DecidableEq K] {ws : List (K × Value)} {k : K} {v : Value} : (stored ws k v).map (·.1) = if k ∈ ws.map (·.1) then ws.map (·.1) else ws.map (·.1) ++ [k] := by
  unfold stored
  have e : (ws.any fun kv => kv.1 = k) = decide (k ∈ ws.map (·.1)) := by
    rw [Bool.eq_iff_iff]; simp
  rw [e]
  by_cases h : k ∈ ws.map (·.1)
  · rw [if_pos (decide_eq_true h), if_pos h, List.map_map]
    refine List.map_congr_left fun p hp => ?_
    simp only [Function.comp]
    split <;> simp
  · rw [if_neg (by simpa using h), if_neg h]; simp

/-- d[x] = e, a new key -/
theorem WX.putS {d : Str} {i e : Expr} {p1 p pos : Pos} {Φ : Fl → St → Prop}
    (h : WE w h₀ Γ st e (fun U st₁ => ∃ n kvs₀, U = .d (.int n) ∧ At st₁.mu d (.sd kvs₀) ∧ WE w h₀ Γ st₁ i (fun U' st₂ => ∃ x kvs mu', U' = .d (.str x) ∧ At st₂.mu d (.sd kvs) ∧ sdGet kvs x = none ∧ kvs.length ≤ sizeLine ∧ SetV st₂.mu d (.sd (kvs ++ [(x, n)])) mu' ∧ Φ .next ⟨mu', st₂.row⟩) Ψ) Ψ)
    (hs : ∀ env, swapsWith e (some (.Subscript (.Name d p1) i p)) pos.line env = pure false := by intro _; rfl) : WX w h₀ Γ st (.Assign [.Subscript (.Name d p1) i p] e pos) Φ Ψ := by
  intro A env l hE Z₀ Z W s Q E hA hl hO hR hQ hX
  refine wpAny_Assign_Subscript (h A env l hE Z₀ Z W s _ E hA hl hO hR ?_ hX) (hs env)
  rintro v U st₁ Z₁ W₁ h₁ tk₁ ⟨n, kvs₀, rfl, hA0, h2⟩ hR₁ hL₁ hv
  cases hv with
  | int _ t =>
  refine load_hold (s := { s with heap := h₁, toks := tk₁ }) hO hR₁ hA0 (by nofun) fun m v hm hh hs' => ?_
  obtain ⟨D, _, rfl, _⟩ := hs'
  refine h2 A env l hE Z₀ Z₁ W₁ _ _ E hA hl hO hR₁ ?_ (fun e' msg r h' tk p q => hX e' msg r h' tk p (q.leE hL₁))
  rintro v' U' st₂ Z₂ W₂ h₂ tk₂ ⟨x, kvs, mu', rfl, hA1, hn, hlen, hS, hΦ⟩ hR₂ hL₂ hv'
  obtain ⟨m', g1, g2, D', ws, q1, q2, q3, q4⟩ := hR₁.again hR₂ hL₂ hm hh hA1 (by nofun)
  cases q1
  cases hv' with
  | str _ t' =>
  have hg := sdGet_at (x := x) q4
  rw [hn] at hg
  refine wpAny_setItem_pairs (hsz := by rw [q4.length]; exact hlen) (strKind_is _ _ _ _) q3 fun h' hd hs => ?_
  rw [stored_new hg] at hd
  obtain ⟨ob, _, _, hob, _⟩ := id hd
  obtain ⟨hR', hL'⟩ := hR₂.changeOwn hO hA1 (by nofun) q2 hs ⟨_, hob⟩ hS g1 g2 ⟨_, _, rfl, q2, hd, q4.append x n t⟩
  exact hQ .next .next _ _ _ _ _ hΦ hR' ((hL₁.trans hL₂).le.trans hL') trivial

/-- d[k] = e, whatever the key -/
theorem WX.putI {d : Str} {i e : Expr} {p1 p pos : Pos} {Φ : Fl → St → Prop}
    (h : WE w h₀ Γ st e (fun U st₁ => ∃ x ks₀, U = .d x ∧ At st₁.mu d (.it ks₀) ∧ WE w h₀ Γ st₁ i (fun U' st₂ => ∃ k ks mu', U' = .d (.int k) ∧ At st₂.mu d (.it ks) ∧ ks.length ≤ sizeLine ∧ SetV st₂.mu d (.it (if k ∈ ks then ks else ks ++ [k])) mu' ∧ Φ .next ⟨mu', st₂.row⟩) Ψ) Ψ)
    (hs : ∀ env, swapsWith e (some (.Subscript (.Name d p1) i p)) pos.line env = pure false := by intro _; rfl) : WX w h₀ Γ st (.Assign [.Subscript (.Name d p1) i p] e pos) Φ Ψ := by
  intro A env l hE Z₀ Z W s Q E hA hl hO hR hQ hX
  refine wpAny_Assign_Subscript (h A env l hE Z₀ Z W s _ E hA hl hO hR ?_ hX) (hs env)
  rintro v U st₁ Z₁ W₁ h₁ tk₁ ⟨n, kvs₀, rfl, hA0, h2⟩ hR₁ hL₁ hv
  refine load_hold (s := { s with heap := h₁, toks := tk₁ }) hO hR₁ hA0 (by nofun) fun m v hm hh hs' => ?_
  obtain ⟨D, _, rfl, _⟩ := hs'
  refine h2 A env l hE Z₀ Z₁ W₁ _ _ E hA hl hO hR₁ ?_ (fun e' msg r h' tk p q => hX e' msg r h' tk p (q.leE hL₁))
  rintro v' U' st₂ Z₂ W₂ h₂ tk₂ ⟨k, ks, mu', rfl, hA1, hlen, hS, hΦ⟩ hR₂ hL₂ hv'
  obtain ⟨m', g1, g2, D', ws, q1, q2, q3, q4⟩ := hR₁.again hR₂ hL₂ hm hh hA1 (by nofun)
  cases q1
  cases hv' with
  | int _ t' =>
  refine wpAny_setItem_pairs (hsz := by rw [← q4] at hlen; simpa using hlen) (intKind_is _ _ _ _) q3 fun h' hd hs => ?_
  obtain ⟨ob, _, _, hob, _⟩ := id hd
  obtain ⟨hR', hL'⟩ := hR₂.changeOwn hO hA1 (by nofun) q2 hs ⟨_, hob⟩ hS g1 g2 ⟨_, _, rfl, q2, hd, by rw [stored_keys, q4]⟩
  exact hQ .next .next _ _ _ _ _ hΦ hR' ((hL₁.trans hL₂).le.trans hL') trivial

/-! ## calls of built-ins -/
theorem WE.callB (hw : Wd w h₀ mg mb) {f : Str} {id : String} {e : Expr} {es : List Expr} {p pos : Pos} {Φ : V → St → Prop} (hg : f ∈ Γ.globs) (hb : BiFact mg mb f (.builtin id))
    (h : WA w h₀ Γ st pos (e :: es) (fun Us st₁ => ∀ (A : Around) (env : Env) (l : List Env) (hE : Heap) (Z₀ Z : ZM) (W : WM) (s : Shared) (Q : Value → Shared → Prop) (E : Value → Shared → Prop) (vs : List Value),
      AOk Γ.rank A → Rel w h₀ Γ env l hE Z₀ Z W st₁ s.heap → Vals w Z W s.heap vs Us →
      (∀ v U st' Z' W' h' tk, Φ U st' → Rel w h₀ Γ env l hE Z₀ Z' W' st' h' → LeE Z W s.heap Z' W' h' → SRel w Z' W' h' none v U → Q v { s with heap := h', toks := tk }) →
      wpAny (model pg w) A (call (.builtin id) vs) Q E s) Ψ)
    (he : ∀ env, starEach (e :: es) env = (false, eval e env) :: starEach es env := by intro _; rfl) (hp : ∀ env, (backTo pos (starEach es env)).any (·.1) = false := by intro _; rfl) :
    WE w h₀ Γ st (.Call (.Name f p) (e :: es) [] pos) Φ Ψ := by
  intro A env l hE Z₀ Z W s Q E hA hl hO hR hQ hX
  refine wpAny_Call_ofName (eval_bi hw hO hR.core hg hb ?_)
  refine PyProof.Rows.callWith_builtin1 ?_ (he env) (hp env)
  refine h A env l hE Z₀ Z W s _ E hA hl hO hR ?_ hX
  intro vs Us st₁ Z₁ W₁ h₁ tk₁ h2 hR₁ hL₁ hv
  exact h2 A env l hE Z₀ Z₁ W₁ _ Q E vs hA hR₁ hv fun v U st₂ Z₂ W₂ h₂ tk₂ p r le sr => hQ v U st₂ Z₂ W₂ h₂ tk₂ p r (hL₁.trans le) sr

theorem WE.len (hw : Wd w h₀ mg mb) {e : Expr} {p pos : Pos} {Φ : V → St → Prop} (hg : (Str.ofString "len") ∈ Γ.globs)
    (h : WE w h₀ Γ st e (fun U st₁ => ∃ xs, U = .d (.list xs) ∧ xs.length < 2 ^ 62 ∧ Φ (.d (.int xs.length)) st₁) Ψ) (he : ∀ env, starEach [e] env = [(false, eval e env)] := by intro _; rfl) :
    WE w h₀ Γ st (.Call (.Name "len" p) [e] [] pos) Φ Ψ := by
  refine WE.callB hw hg hw.len (WA.cons (h.mono ?_ fun _ _ q => q) he) he
  rintro U st₁ ⟨xs, rfl, hlt, hΦ⟩
  refine ⟨rfl, WA.nil ?_⟩
  intro A env l hE Z₀ Z W s Q E vs hA hR hv hQ
  cases hv with
  | cons x _ r => cases r with
    | nil => cases x with
      | list z c _ d q =>
        refine call_len_list ⟨_, hR.core.zin _ _ z, c, _, d⟩ ?_ ?_
        · have := q.length; simp at this; omega
        · have e : (_ : Nat) = xs.length := q.length
          simp at e
          rw [e]
          exact hQ _ _ _ _ _ _ _ hΦ hR (LeE.refl _ _ _) (.int _ _)

theorem WE.max2 (hw : Wd w h₀ mg mb) {a b : Expr} {p pos : Pos} {Φ : V → St → Prop} (hg : (Str.ofString "max") ∈ Γ.globs)
    (h : WE w h₀ Γ st a (fun U st₁ => ∃ m : Int, U = .d (.int m) ∧ WE w h₀ Γ st₁ b (fun U' st₂ => ∃ n : Int, U' = .d (.int n) ∧ Φ (.d (.int (max m n))) st₂) Ψ) Ψ)
    (he : ∀ env, starEach [a, b] env = (false, eval a env) :: starEach [b] env := by intro _; rfl) (he' : ∀ env, starEach [b] env = [(false, eval b env)] := by intro _; rfl) (hp : ∀ env, (backTo pos (starEach [b] env)).any (·.1) = false := by intro _; rfl) :
    WE w h₀ Γ st (.Call (.Name "max" p) [a, b] [] pos) Φ Ψ := by
  refine WE.callB hw hg hw.max (WA.cons (h.mono ?_ fun _ _ q => q) he) he hp
  rintro U st₁ ⟨m, rfl, h2⟩
  refine ⟨rfl, WA.cons (h2.mono ?_ fun _ _ q => q) he'⟩
  rintro U' st₂ ⟨n, rfl, hΦ⟩
  refine ⟨rfl, WA.nil ?_⟩
  intro A env l hE Z₀ Z W s Q E vs hA hR hv hQ
  cases hv with
  | cons x _ r => cases r with
    | cons y _ r => cases r with
      | nil =>
        cases x; cases y
        refine max_two_ints hA.handled fun h' tk hk => ?_
        have hv : ∀ t u, FD Z (if n > m then Value.int n u else Value.int m t) (.int (max m n)) := fun t u => by
          by_cases hc : n > m
          · rw [if_pos hc, show max m n = n by omega]; exact .int _ _
          · rw [if_neg hc, show max m n = m by omega]; exact .int _ _
        exact hQ _ _ _ _ _ _ _ hΦ (hR.keeps hk) (LeE.keeps hR.core hk) (hv _ _)

theorem ints_items : ∀ {vs : List Value} {ks : List Int}, IntsAre vs ks → ∃ xs : List (Int × Tok), vs = xs.map (fun p => Value.int p.1 p.2) ∧ ks = xs.map (·.1)
  | _, _, .nil => ⟨[], rfl, rfl⟩
  | _, _, .cons n t r => let ⟨xs, e, f⟩ := ints_items r; ⟨(n, t) :: xs, by rw [e]; rfl, by rw [f]; rfl⟩

theorem WE.maxL (hw : Wd w h₀ mg mb) {a : Expr} {p pos : Pos} {Φ : V → St → Prop} (hg : (Str.ofString "max") ∈ Γ.globs)
    (h : WE w h₀ Γ st a (fun U st₁ => ∃ ks : List Int, U = .d (.list (ks.map .int)) ∧ ks ≠ [] ∧ ∀ m, m ∈ ks → (∀ k ∈ ks, k ≤ m) → Φ (.d (.int m)) st₁) Ψ)
    (he : ∀ env, starEach [a] env = [(false, eval a env)] := by intro _; rfl) : WE w h₀ Γ st (.Call (.Name "max" p) [a] [] pos) Φ Ψ := by
  refine WE.callB hw hg hw.max (WA.cons (h.mono ?_ fun _ _ q => q) he) he
  rintro U st₁ ⟨ks, rfl, hne, hΦ⟩
  refine ⟨rfl, WA.nil ?_⟩
  intro A env l hE Z₀ Z W s Q E vs hA hR hv hQ
  cases hv with
  | cons x _ r => cases r with
    | nil => cases x with
      | @list a' o vs' n ds z c _ d q =>
        obtain ⟨xs, e1, e2⟩ := ints_items q.toInts
        have ei : vs' = intItems xs.toArray := by
          apply Array.toList_inj.mp
          rw [e1]; simp [intItems]
        have hxs : xs ≠ [] := by rintro rfl; exact hne e2
        have hsz : 0 < xs.length := List.length_pos_iff.mpr hxs
        refine max_intList (xs := xs.toArray) hA.handled ⟨_, hR.core.zin _ _ z, c, _, by rw [d, ei]⟩ (by simpa using hsz) fun v h' tk hv hk => ?_
        obtain ⟨t, rfl⟩ := intItems_at hv
        obtain ⟨b1, b2⟩ := argBest_gt (numAt xs.toArray) (xs.toArray.size - 1)
        have num : ∀ i, i < xs.length → ∃ k, k ∈ ks ∧ numAt xs.toArray i = k ∧ ks[i]? = some k := fun i hi => by
          refine ⟨(xs[i]).1, ?_, ?_, ?_⟩
          · rw [e2]; exact List.mem_map_of_mem (f := (·.1)) (List.getElem_mem hi)
          · unfold numAt; simp [hi]
          · rw [e2]; simp [hi]
        have hsz' : xs.toArray.size = xs.length := by simp
        refine hQ _ _ _ _ _ _ _ (hΦ _ ?_ ?_) (hR.keeps hk) (LeE.keeps hR.core hk) (.int _ _)
        · obtain ⟨k, hk1, hk2, _⟩ := num _ (by omega : argBest (fun i j => decide (numAt xs.toArray i > numAt xs.toArray j)) (xs.toArray.size - 1) < xs.length)
          rw [hk2]; exact hk1
        · intro k hkm
          obtain ⟨i, hi, e⟩ := List.getElem_of_mem hkm
          have hi' : i < xs.length := by rw [e2] at hi; simpa using hi
          obtain ⟨k', _, hk2, hk3⟩ := num i hi'
          have : k' = k := by
            rw [List.getElem?_eq_getElem hi, e] at hk3; cases hk3; rfl
          rw [← this, ← hk2]
          exact b2 i (by omega)

theorem WE.abs (hw : Wd w h₀ mg mb) {e : Expr} {p pos : Pos} {Φ : V → St → Prop} (hg : (Str.ofString "abs") ∈ Γ.globs)
    (h : WE w h₀ Γ st e (fun U st₁ => ∃ n : Int, U = .d (.int n) ∧ Φ (.d (.int (if n < 0 then -n else n))) st₁) Ψ) (he : ∀ env, starEach [e] env = [(false, eval e env)] := by intro _; rfl) :
    WE w h₀ Γ st (.Call (.Name "abs" p) [e] [] pos) Φ Ψ := by
  refine WE.callB hw hg hw.abs (WA.cons (h.mono ?_ fun _ _ q => q) he) he
  rintro U st₁ ⟨xs, rfl, hΦ⟩
  refine ⟨rfl, WA.nil ?_⟩
  intro A env l hE Z₀ Z W s Q E vs hA hR hv hQ
  cases hv with
  | cons x _ r => cases r with
    | nil => cases x with
      | int => exact call_abs_int fun u tk => hQ _ _ _ _ _ _ _ hΦ hR (LeE.refl _ _ _) (.int _ _)
theorem WE.chr (hw : Wd w h₀ mg mb) {e : Expr} {p pos : Pos} {Φ : V → St → Prop} (hg : (Str.ofString "chr") ∈ Γ.globs)
    (h : WE w h₀ Γ st e (fun U st₁ => ∃ n : Int, U = .d (.int n) ∧ 0 ≤ n ∧ n ≤ 1114111 ∧ Φ (.d (.str ⟨#[n.toNat]⟩)) st₁) Ψ) (he : ∀ env, starEach [e] env = [(false, eval e env)] := by intro _; rfl) :
    WE w h₀ Γ st (.Call (.Name "chr" p) [e] [] pos) Φ Ψ := by
  refine WE.callB hw hg hw.chr (WA.cons (h.mono ?_ fun _ _ q => q) he) he
  rintro U st₁ ⟨n, rfl, h0, h1, hΦ⟩
  refine ⟨rfl, WA.nil ?_⟩
  intro A env l hE Z₀ Z W s Q E vs hA hR hv hQ
  cases hv with
  | cons x _ r => cases r with
    | nil => cases x with
      | int => exact chr_of_range h0 h1 (hQ _ _ _ _ _ _ _ hΦ hR (LeE.refl _ _ _) (.str _ _))

/-! ## what the frame owns, looked at -/
theorem WE.lenOwn (hw : Wd w h₀ mg mb) {x : Str} {p p' pos : Pos} {Φ : V → St → Prop} {xs : List PyData} (hg : (Str.ofString "len") ∈ Γ.globs) (hm : At st.mu x (.ol xs)) (hlt : xs.length < 2 ^ 62) (h : Φ (.d (.int xs.length)) st) :
    WE w h₀ Γ st (.Call (.Name "len" p) [.Name x p'] [] pos) Φ Ψ := by
  intro A env l hE Z₀ Z W s Q E hA hl hO hR hQ hX
  refine wpAny_Call_ofName (eval_bi hw hO hR.core hg hw.len ?_)
  refine PyProof.Rows.callWith_builtin1 (wpAny_items_cons ?_ rfl) rfl rfl
  refine load_name hO hR hm (by nofun) fun v hs => ?_
  obtain ⟨a, vs, n, rfl, e2, e3, e4⟩ := hs
  refine wpAny_items_nil (call_len_list ⟨_, e3, rfl, n, rfl⟩ (by have := e4.length; simp; omega) ?_)
  have e : vs.toArray.size = xs.length := by rw [← e4.length]; simp
  rw [e]
  exact hQ _ _ st Z W s.heap _ h hR (LeE.refl _ _ _) (.int _ _)
theorem WE.lenOwnI (hw : Wd w h₀ mg mb) {x : Str} {p p' pos : Pos} {Φ : V → St → Prop} {ks : List Int} (hg : (Str.ofString "len") ∈ Γ.globs) (hm : At st.mu x (.it ks)) (hlt : ks.length < 2 ^ 62) (h : Φ (.d (.int ks.length)) st) :
    WE w h₀ Γ st (.Call (.Name "len" p) [.Name x p'] [] pos) Φ Ψ := by
  intro A env l hE Z₀ Z W s Q E hA hl hO hR hQ hX
  refine wpAny_Call_ofName (eval_bi hw hO hR.core hg hw.len ?_)
  refine PyProof.Rows.callWith_builtin1 (wpAny_items_cons ?_ rfl) rfl rfl
  refine load_name hO hR hm (by nofun) fun v hs => ?_
  obtain ⟨a, ws, rfl, e2, e3, e4⟩ := hs
  have e : ws.length = ks.length := by rw [← e4]; simp
  refine wpAny_items_nil (call_len_dict (hw.notSys hR.core e2 (by nofun)) e3 (by omega) ?_)
  rw [e]
  exact hQ _ _ st Z W s.heap _ h hR (LeE.refl _ _ _) (.int _ _)
/-- e in x, x a list that the frame owns -/
theorem WT.inOwn {e : Expr} {x : Str} {p pos : Pos} {Φ : Bool → St → Prop} (h : WE w h₀ Γ st e (fun U st₁ => ∃ d xs, U = .d d ∧ At st₁.mu x (.ol xs) ∧ PyData.canLayAll0 xs = true ∧ SeqAt.shaped d = true ∧ Φ (xs.any fun y => PyData.eqv y d) st₁) Ψ) :
    WT w h₀ Γ st (.Compare e [.In] [.Name x p] pos) Φ Ψ := by
  intro A env l hE Z₀ Z W s Q E hA hl hO hR hQ hX
  refine wpAny_isTrue_Compare1 (h A env l hE Z₀ Z W s _ E hA hl hO hR ?_ hX) rfl
  rintro v U st₁ Z₁ W₁ h₁ tk₁ ⟨d, xs, rfl, hm, h1, h2, hΦ⟩ hR₁ hL₁ hv
  refine load_name (s := { s with heap := h₁, toks := tk₁ }) hO hR₁ hm (by nofun) fun dv hs => ?_
  obtain ⟨D, vs, n, rfl, e2, e3, e4⟩ := hs
  have hz : Z₁ D = none := (hR₁.core.dj _ _ e2).1
  have zm : ∀ a o, Z₁ a = some o → upd Z₁ D (some (listOf vs.toArray n)) a = some o := fun a o e => by rw [upd_ne (by rintro rfl; rw [hz] at e; cases e)]; exact e
  refine (CmpR.inL d xs h1 h2).run (Z := upd Z₁ D (some (listOf vs.toArray n))) (FD.mono zm hv) (.list (upd_same _ _ _) rfl rfl rfl (FDs.mono zm (by simpa using e4))) hA (fun a o e => ?_) (wpAny_truthy_bool (hQ _ _ _ _ _ _ hΦ hR₁ hL₁))
  by_cases ha : a = D
  · subst ha; rw [upd_same] at e; cases e; exact e3
  · rw [upd_ne ha] at e; exact hR₁.core.zin _ _ e
end
end Mine
namespace Mine
section
variable {w : World} {h₀ : Heap} {mg mb : Str → Option Value} {Γ : Cx} {st : St} {Ψ : Str → List Int → Prop}

theorem Wd.XK (hw : Wd w h₀ mg mb) {hE h : Heap} {Z₀ Z : ZM} {W : WM} {r : List Int} (c : Core h₀ hE Z₀ Z W r h) : (hd.heap_1 w.params).In h := hw.X.keeps c.stay

/-! ## fields of the instances -/
theorem IxR.inst {Z : ZM} {v : Value} {o : Ix} (x : IxR Z v o) {h : Heap} (hz : ∀ a o, Z a = some o → h.get? a = some o) : ∃ a dx es n, v = .ref a ∧ InstAt h a (instObj (ixCls o) dx) (ixCls o) (some (dictOf es n)) ∧ Z a = some (instObj (ixCls o) dx) ∧ Z dx = some (dictOf es n) := by
  obtain ⟨a, dx, es, n, e1, e2, e3, _⟩ := x.it
  exact ⟨a, dx, es, n, e1, ⟨hz _ _ e2, rfl, rfl, hz _ _ e3⟩, e2, e3⟩

def ixKind : Ix → Str
  | .missing => "missing"
  | .null => "NULL"
  | .vec k _ => k
  | .sym _ => "symbol"

theorem field_of {K : Frag} {C : Addr} {name : Str} {attr : Option Value} {A : Around} {E : Value → Shared → Prop} {s : Shared} {x : Addr} {ox : Obj} {es : List DictEntry} {n : Nat} {v : Value} {expr : Bool} {Q : Value → Shared → Prop}
    (X : K.In s.heap) (I : InstAt s.heap x ox C (some (dictOf es n))) (hg : plainGet K C name = true) (hh : hasDictIn K C = true) (ha : findIn K (.ref C) name = some attr) (hn : noGet K attr = true) (hl : getL name es = some (some v)) (hv : handedIn v = true)
    (h : Q v { s with toks := s.toks + 1 }) : wpAny (model pg w) A (getAttr (.ref x) name expr) Q E s :=
  get_value X I (plainGet_of hg).1 (findObj_own hh ha hn hl) hv h

theorem get_kind {A : Around} {E : Value → Shared → Prop} {s : Shared} {Z : ZM} {v : Value} {o : Ix} {expr : Bool} {Q : Value → Shared → Prop} (X : (hd.heap_1 w.params).In s.heap) (x : IxR Z v o) (hz : ∀ a o, Z a = some o → s.heap.get? a = some o)
    (h : ∀ t, Q (.str (ixKind o) t) { s with toks := s.toks + 1 }) : wpAny (model pg w) A (getAttr v "kind" expr) Q E s := by
  obtain ⟨a, dx, es, n, rfl, e2, e3, e4⟩ := x.it
  have I : InstAt s.heap a (instObj (ixCls o) dx) (ixCls o) (some (dictOf es n)) := ⟨hz _ _ e2, rfl, rfl, hz _ _ e3⟩
  cases o with
  | missing => obtain ⟨t, e⟩ := e4; exact field_of (C := 180) X I (by k_is) (by k_is) (by k_is) (by k_is) e rfl (h t)
  | null => obtain ⟨t, e⟩ := e4; exact field_of (C := 159) X I (by k_is) (by k_is) (by k_is) (by k_is) e rfl (h t)
  | vec k xs => obtain ⟨⟨t, e⟩, _⟩ := e4; exact field_of (C := 209) X I (by k_is) (by k_is) (by k_is) (by k_is) e rfl (h t)
  | sym y => obtain ⟨⟨t, e⟩, _⟩ := e4; exact field_of (C := 230) X I (by k_is) (by k_is) (by k_is) (by k_is) e rfl (h t)
theorem FD.handed {Z : ZM} {v : Value} {d : PyData} (h : FD Z v d) : handedIn v = true := by cases h <;> rfl
theorem get_items {A : Around} {E : Value → Shared → Prop} {s : Shared} {Z : ZM} {v : Value} {k : Str} {xs : List PyData} {expr : Bool} {Q : Value → Shared → Prop} (X : (hd.heap_1 w.params).In s.heap) (x : IxR Z v (.vec k xs)) (hz : ∀ a o, Z a = some o → s.heap.get? a = some o)
    (h : ∀ u, FD Z u (.list xs) → Q u { s with toks := s.toks + 1 }) : wpAny (model pg w) A (getAttr v "items" expr) Q E s := by
  obtain ⟨a, dx, es, n, rfl, e2, e3, ⟨_, iv, e, f⟩⟩ := x.it
  have I : InstAt s.heap a (instObj 209 dx) 209 (some (dictOf es n)) := ⟨hz _ _ e2, rfl, rfl, hz _ _ e3⟩
  exact field_of (C := 209) X I (by k_is) (by k_is) (by k_is) (by k_is) e f.handed (h _ f)
theorem get_name {A : Around} {E : Value → Shared → Prop} {s : Shared} {Z : ZM} {v : Value} {y : Str} {expr : Bool} {Q : Value → Shared → Prop} (X : (hd.heap_1 w.params).In s.heap) (x : IxR Z v (.sym y)) (hz : ∀ a o, Z a = some o → s.heap.get? a = some o)
    (h : ∀ t, Q (.str y t) { s with toks := s.toks + 1 }) : wpAny (model pg w) A (getAttr v "name" expr) Q E s := by
  obtain ⟨a, dx, es, n, rfl, e2, e3, ⟨_, t, e⟩⟩ := x.it
  have I : InstAt s.heap a (instObj 230 dx) 230 (some (dictOf es n)) := ⟨hz _ _ e2, rfl, rfl, hz _ _ e3⟩
  exact field_of (C := 230) X I (by k_is) (by k_is) (by k_is) (by k_is) e rfl (h t)

theorem WE.kind (hw : Wd w h₀ mg mb) {x : Str} {p pos : Pos} {o : Ix} {Φ : V → St → Prop} (hm : At st.mu x (.ix o)) (h : Φ (.d (.str (ixKind o))) st) : WE w h₀ Γ st (.Attribute (.Name x p) "kind" pos) Φ Ψ := by
  intro A env l hE Z₀ Z W s Q E hA hl hO hR hQ hX
  refine Attribute_Name_ (load_name hO hR hm (by nofun) fun v hs => ?_)
  exact get_kind (hw.XK hR.core) hs hR.core.zin fun t => hQ _ _ _ _ _ _ _ h hR (LeE.refl _ _ _) (.str _ _)
theorem WE.items (hw : Wd w h₀ mg mb) {x : Str} {p pos : Pos} {k : Str} {xs : List PyData} {Φ : V → St → Prop} (hm : At st.mu x (.ix (.vec k xs))) (h : Φ (.d (.list xs)) st) : WE w h₀ Γ st (.Attribute (.Name x p) "items" pos) Φ Ψ := by
  intro A env l hE Z₀ Z W s Q E hA hl hO hR hQ hX
  refine Attribute_Name_ (load_name hO hR hm (by nofun) fun v hs => ?_)
  exact get_items (hw.XK hR.core) hs hR.core.zin fun t ht => hQ _ _ _ _ _ _ _ h hR (LeE.refl _ _ _) ht
theorem WE.sname (hw : Wd w h₀ mg mb) {x : Str} {p pos : Pos} {y : Str} {Φ : V → St → Prop} (hm : At st.mu x (.ix (.sym y))) (h : Φ (.d (.str y)) st) : WE w h₀ Γ st (.Attribute (.Name x p) "name" pos) Φ Ψ := by
  intro A env l hE Z₀ Z W s Q E hA hl hO hR hQ hX
  refine Attribute_Name_ (load_name hO hR hm (by nofun) fun v hs => ?_)
  exact get_name (hw.XK hR.core) hs hR.core.zin fun t => hQ _ _ _ _ _ _ _ h hR (LeE.refl _ _ _) (.str _ _)

def ixVec : Ix → Bool
  | .vec .. => true
  | _ => false
theorem g_Vector (hw : Wd w h₀ mg mb) : mg "Vector" = some (.ref 209) := hw.glob (by k_is)
theorem is_vec {A : Around} {E : Value → Shared → Prop} {s : Shared} {Z : ZM} {v : Value} {o : Ix} {Q : Value → Shared → Prop} (X : (hd.heap_1 w.params).In s.heap) (x : IxR Z v o) (hz : ∀ a o, Z a = some o → s.heap.get? a = some o)
    (h : ∀ tk, Q (.bool (ixVec o)) { s with toks := tk }) : wpAny (model pg w) A (call (.builtin "isinstance") [v, .ref 209]) Q E s := by
  obtain ⟨a, dx, es, n, rfl, I, _, _⟩ := x.inst hz
  cases o with
  | missing => exact kin_callC (D := 180) X I (by kin_no) (by k_is) (by k_is) (by k_is) (by k_is) (by k_is) (by k_is) (h _)
  | null => exact kin_callC (D := 159) X I (by kin_no) (by k_is) (by k_is) (by k_is) (by k_is) (by k_is) (by k_is) (h _)
  | vec k xs =>
    have I' : InstAt s.heap a (instObj 209 dx) 209 (some (dictOf es n)) := I
    exact isi_call (t := .ref 209) X (fun M => I'.type) (by k_is) nofun (h s.toks)
  | sym y => exact kin_callC (D := 230) X I (by kin_no) (by k_is) (by k_is) (by k_is) (by k_is) (by k_is) (by k_is) (h _)
theorem WE.isVec (hw : Wd w h₀ mg mb) {x : Str} {p p1 p2 pos : Pos} {o : Ix} {Φ : V → St → Prop} (hg : (Str.ofString "isinstance") ∈ Γ.globs) (hg2 : (Str.ofString "Vector") ∈ Γ.globs) (hm : At st.mu x (.ix o)) (h : Φ (.d (.bool (ixVec o))) st) :
    WE w h₀ Γ st (.Call (.Name "isinstance" p) [.Name x p1, .Name "Vector" p2] [] pos) Φ Ψ := by
  intro A env l hE Z₀ Z W s Q E hA hl hO hR hQ hX
  refine wpAny_Call_ofName (eval_bi hw hO hR.core hg hw.isinstance ?_)
  refine PyProof.Rows.callWith_builtin1 (wpAny_items_cons ?_ rfl) rfl rfl
  refine load_name hO hR hm (by nofun) fun v hs => ?_
  refine wpAny_items_cons (eval_gl hw hO hR.core hg2 (g_Vector hw) ?_) rfl
  refine wpAny_items_nil ?_
  exact is_vec (hw.XK hR.core) hs hR.core.zin fun tk => hQ _ _ _ _ _ _ _ h hR (LeE.refl _ _ _) (.bool _)

/-! ## lists made of iterables; cuts -/
theorem Rel.fresh {env : Env} {l : List Env} {hE h h' : Heap} {Z₀ Z : ZM} {W : WM} (hR : Rel w h₀ Γ env l hE Z₀ Z W st h) {a : Addr} {o : Obj} (ha : h.objs.size ≤ a) (hk : ∀ b o, h.get? b = some o → h'.get? b = some o) (ho : h'.get? a = some o) :
    Rel w h₀ Γ env l hE Z₀ (upd Z a (some o)) W st h' ∧ LeE Z W h (upd Z a (some o)) W h' := by
  obtain ⟨hz, hw⟩ := hR.dom ha
  have hP := hR.keeps hk
  have c := hP.core.freeze hz ho (hR.core.out ha) (by rw [hw]; nofun)
  rw [upd_none hw] at c
  have zm : ∀ b ob, Z b = some ob → upd Z a (some o) b = some ob := fun b ob e => by rw [upd_ne (by rintro rfl; rw [hz] at e; cases e)]; exact e
  refine ⟨⟨c, ?_, hP.frs⟩, ?_⟩
  · obtain ⟨hn, hfr, ⟨m, hm, hv⟩, hc⟩ := hP.vars
    refine ⟨hn, hfr, ⟨m, hm, fun p hp => ?_⟩, hc⟩
    rcases hv p hp with e | ⟨v, hh, hs⟩
    · exact .inl e
    · refine .inr ⟨v, ?_, ?_⟩
      · rcases hh with q | ⟨q1, c, q2, q3, q4⟩
        · exact .inl q
        · exact .inr ⟨q1, c, q2, q3, q4.imp id fun ⟨o, q⟩ => ⟨o, zm _ _ q⟩⟩
      · generalize p.2 = U at hs ⊢
        cases U with
        | un => trivial
        | d y => exact FD.mono zm hs
        | scr ns => obtain ⟨a, oz, vs, n, e1, e2, r⟩ := hs; exact ⟨a, oz, vs, n, e1, zm _ _ e2, r⟩
        | ix i => exact SRel.plainMono (w := w) (U := .ix i) (W := W) (W' := W) (h := h) (h' := h) (o := none) (o' := none) hs rfl zm fun _ e _ => e
        | row => exact hs
        | ol xs => obtain ⟨a, vs, n, e1, e2, e3, e4⟩ := hs; exact ⟨a, vs, n, e1, e2, e3, FDs.mono zm e4⟩
        | sd kvs => exact hs
        | it ks => exact hs
        | itf ks => obtain ⟨a, oz, ws, e1, e2, r⟩ := hs; exact ⟨a, oz, ws, e1, zm _ _ e2, r⟩
  · exact ⟨zm, fun _ _ e => e, fun b _ e _ => by
      obtain ⟨ob, ho⟩ := (hR.core.dj b _ e).2
      rw [ho, hk _ _ ho], fun _ e => e⟩

theorem FDs.range {Z : ZM} {acc : List Value} {n : Nat} (hl : acc.length = n) (h : ∀ (j : Nat) (v : Value), acc[j]? = some v → ∃ t, v = .int (j : Nat) t) : FDs Z acc ((List.range n).map fun k : Nat => PyData.int (k : Int)) := by
  induction n generalizing acc with
  | zero => have : acc = [] := List.length_eq_zero_iff.mp hl; subst this; exact .nil
  | succ n ih =>
    have hne : acc ≠ [] := by rintro rfl; simp at hl
    obtain ⟨ini, x, rfl⟩ : ∃ ini x, acc = ini ++ [x] := ⟨acc.dropLast, acc.getLast hne, (List.dropLast_concat_getLast hne).symm⟩
    have hl' : ini.length = n := by simpa using hl
    rw [List.range_succ, List.map_append]
    refine (ih hl' fun j v hj => h j v ?_).append (.cons ?_ .nil)
    · have : j < ini.length := (List.getElem?_eq_some_iff.mp hj).1
      rw [List.getElem?_append_left this]; exact hj
    · obtain ⟨t, e⟩ := h n x (by rw [← hl']; simp)
      rw [e]; exact .int _ _

theorem WE.listRange (hw : Wd w h₀ mg mb) {a : Expr} {p p1 p2 pos : Pos} {Φ : V → St → Prop} (hg : (Str.ofString "list") ∈ Γ.globs) (hg2 : (Str.ofString "range") ∈ Γ.globs)
    (h : WE w h₀ Γ st a (fun U st₁ => ∃ n : Int, U = .d (.int n) ∧ 0 ≤ n ∧ n ≤ 2 ^ 24 ∧ Φ (.d (.list ((List.range n.toNat).map fun k : Nat => PyData.int (k : Int)))) st₁) Ψ)
    (he : ∀ env, starEach [a] env = [(false, eval a env)] := by intro _; rfl) : WE w h₀ Γ st (.Call (.Name "list" p) [.Call (.Name "range" p1) [a] [] p2] [] pos) Φ Ψ := by
  intro A env l hE Z₀ Z W s Q E hA hl hO hR hQ hX
  refine wpAny_Call_ofName (eval_bi hw hO hR.core hg hw.list ?_)
  refine PyProof.Rows.callWith_type1 (wpAny_items_cons ?_ rfl) rfl rfl
  refine wpAny_Call_ofName (eval_bi hw hO hR.core hg2 hw.range ?_)
  refine PyProof.Rows.callWith_type1 (wpAny_items_cons ?_ (he env)) (he env)
  refine h A env l hE Z₀ Z W s _ E hA hl hO hR ?_ hX
  rintro v U st₁ Z₁ W₁ h₁ tk₁ ⟨n, rfl, hn1, hn2, hΦ⟩ hR₁ hL₁ hv
  cases hv with
  | int _ t =>
  refine wpAny_items_nil (call_range_1 (wpAny_items_nil ?_))
  have hR₂ := hR₁.push { cls := .type "range", data := .fields #[.int 0 tk₁, .int n t, .int 1 (tk₁ + 1)] }
  have hL₂ := LeE.keeps (h' := h₁.push { cls := .type "range", data := .fields #[.int 0 tk₁, .int n t, .int 1 (tk₁ + 1)] }) hR₁.core fun _ _ e => Heap.get?_push_of_some _ e
  have hsz : Builtin.Range.rangeSize 0 n 1 = ((n.toNat : Nat) : Int) := by rw [rangeSize_one]; split <;> omega
  refine call_list_range hA.handled (IsRange.new _ _ _ _ _ _ _) (small_one (by omega) (by omega) (by omega) (by omega)) hsz (by omega) fun h' tk acc c' hk ho hit => ?_
  obtain ⟨hR₃, hL₃⟩ := hR₂.fresh (Nat.le_refl _) hk ho
  refine hQ _ _ _ _ _ _ _ hΦ hR₃ ((hL₁.trans hL₂).trans hL₃) (.list (upd_same _ _ _) rfl rfl rfl (FDs.range (by simpa using hit.1) fun j v hj => ?_))
  obtain ⟨t', e⟩ := hit.2 j v (by simpa using hj)
  exact ⟨t', by rw [e]; simp⟩

theorem WE.listCopy (hw : Wd w h₀ mg mb) {a : Expr} {p pos : Pos} {Φ : V → St → Prop} (hg : (Str.ofString "list") ∈ Γ.globs)
    (h : WE w h₀ Γ st a (fun U st₁ => ∃ xs, U = .d (.list xs) ∧ xs.length ≤ sizeLine ∧ Φ (.d (.list xs)) st₁) Ψ)
    (he : ∀ env, starEach [a] env = [(false, eval a env)] := by intro _; rfl) : WE w h₀ Γ st (.Call (.Name "list" p) [a] [] pos) Φ Ψ := by
  intro A env l hE Z₀ Z W s Q E hA hl hO hR hQ hX
  refine wpAny_Call_ofName (eval_bi hw hO hR.core hg hw.list ?_)
  refine PyProof.Rows.callWith_type1 (wpAny_items_cons ?_ (he env)) (he env)
  refine h A env l hE Z₀ Z W s _ E hA hl hO hR ?_ hX
  rintro v U st₁ Z₁ W₁ h₁ tk₁ ⟨xs, rfl, hn, hΦ⟩ hR₁ hL₁ hv
  cases hv with
  | list z c _ d q =>
  refine wpAny_items_nil (call_list_seq _ (.inl rfl) (hR₁.core.zin _ _ z) c d (fun h' c' hk ho => ?_) (by have := q.length; simp at this; omega))
  obtain ⟨hR₃, hL₃⟩ := hR₁.fresh (h' := h') (Nat.le_refl _) hk ho
  exact hQ _ _ _ _ _ _ _ hΦ hR₃ (hL₁.trans hL₃) (.list (upd_same _ _ _) rfl rfl rfl (FDs.mono hL₃.z q))

/-- e[:k] -/
theorem getSlice {A : Around} {E : Value → Shared → Prop} {s : Shared} {Q : Value → Shared → Prop} {l sl : Addr} {items : Array Value} {k : Nat} {t : Tok} (hl : s.heap.IsList l items) (hs : s.heap.IsSliceOf sl .none (.int (k : Int) t) .none) (hsz : items.size ≤ sizeLine)
    (h : Q (.ref s.heap.objs.size) { s with heap := s.heap.push { cls := .type "list", data := .seq (items.toList.take k).toArray } }) : wpAny (model pg w) A (getItem (.ref l) (.ref sl)) Q E s := by
  refine wpAny_getItem_list_slice (lo := none) (hi := some (k : Int)) (st := none) hl hs .none (.int _ _) .none (by simp) ?_ hsz
  rw [slicePick_upto']; exact h

theorem WE.slice {e : Expr} {k : Nat} {kk : Nat} {p1 p2 pos : Pos} {Φ : V → St → Prop} (h : WE w h₀ Γ st e (fun U st₁ => ∃ xs, (U = .d (.list xs) ∨ ∃ ns : List Int, xs = ns.map .int ∧ U = .scr ns) ∧ xs.length ≤ sizeLine ∧ Φ (.d (.list (xs.take k))) st₁) Ψ) :
    WE w h₀ Γ st (.Subscript e (.Slice none (some (.Constant (.int (k : Int)) kk p1)) none p2) pos) Φ Ψ := by
  intro A env l hE Z₀ Z W s Q E hA hl hO hR hQ hX
  refine Subscript_ (h A env l hE Z₀ Z W s _ E hA hl hO hR ?_ hX)
  rintro v U st₁ Z₁ W₁ h₁ tk₁ ⟨xs, hU, hn, hΦ⟩ hR₁ hL₁ hv
  obtain ⟨a, o, vs, n, rfl, z, c, d, q⟩ : ∃ a o vs n, v = .ref a ∧ Z₁ a = some o ∧ o.cls = .type "list" ∧ o.data = .seq vs n ∧ FDs Z₁ vs.toList xs := by
    rcases hU with rfl | ⟨ns, rfl, rfl⟩
    · cases hv with
      | list z c _ d q => exact ⟨_, _, _, _, rfl, z, c, d, q⟩
    · obtain ⟨a, o, vs, n, rfl, z, c, d, q⟩ := hv
      exact ⟨_, _, _, _, rfl, z, c, d, FDs.ofInts q⟩
  refine wpAny_Slice (wpAny_evalPart_none (wpAny_evalPart_some (wpAny_Constant_int (wpAny_evalPart_none ?_))))
  have hl1 : h₁.IsList a vs := ⟨o, hR₁.core.zin _ _ z, c, n, d⟩
  have hR₂ := hR₁.push { cls := .type "slice", data := .fields #[.none, .int (k : Int) tk₁, .none] }
  have hL₂ := LeE.keeps (h' := h₁.push { cls := .type "slice", data := .fields #[.none, .int (k : Int) tk₁, .none] }) hR₁.core fun _ _ e => Heap.get?_push_of_some _ e
  refine tail_any (T := "list") (ops := [_, _]) (hl1.push _).typeIs slot_list_getitem.lookup ?_ rfl
  refine getSlice (k := k) (t := tk₁) (hl1.push _) (Heap.IsSliceOf.new ..) (by have := q.length; simp at this; omega) ?_
  obtain ⟨hR₃, hL₃⟩ := hR₂.alloc { cls := .type "list", data := .seq (vs.toList.take k).toArray } rfl
  exact hQ _ _ _ _ _ _ _ hΦ hR₃ ((hL₁.trans hL₂).trans hL₃) (.list (upd_same _ _ _) rfl rfl rfl (by simpa using FDs.mono hL₃.z (q.take k)))
/-- x[:k], x the frame's own list: a new list of the frame's -/
theorem WE.sliceOwn {x : Str} {k : Nat} {kk : Nat} {p p1 p2 pos : Pos} {xs : List PyData} {Φ : V → St → Prop} (hm : At st.mu x (.ol xs)) (hn : xs.length ≤ sizeLine) (h : Φ (.ol (xs.take k)) st) :
    WE w h₀ Γ st (.Subscript (.Name x p) (.Slice none (some (.Constant (.int (k : Int)) kk p1)) none p2) pos) Φ Ψ := by
  intro A env l hE Z₀ Z W s Q E hA hl hO hR hQ hX
  refine Subscript_ (load_name hO hR hm (by nofun) fun v hs => ?_)
  obtain ⟨a, vs, n, rfl, e2, e3, e4⟩ := hs
  refine wpAny_Slice (wpAny_evalPart_none (wpAny_evalPart_some (wpAny_Constant_int (wpAny_evalPart_none ?_))))
  have hl1 : s.heap.IsList a vs.toArray := ⟨_, e3, rfl, n, rfl⟩
  have hR₂ := hR.push { cls := .type "slice", data := .fields #[.none, .int (k : Int) s.toks, .none] }
  have hL₂ := LeE.keeps (h' := s.heap.push { cls := .type "slice", data := .fields #[.none, .int (k : Int) s.toks, .none] }) hR.core fun _ _ e => Heap.get?_push_of_some _ e
  refine tail_any (T := "list") (ops := [_, _]) (hl1.push _).typeIs slot_list_getitem.lookup ?_ rfl
  refine getSlice (k := k) (t := s.toks) (hl1.push _) (Heap.IsSliceOf.new ..) (by have := e4.length; simp; omega) ?_
  obtain ⟨hR₃, hL₃⟩ := hR₂.allocW { cls := .type "list", data := .seq (vs.toArray.toList.take k).toArray } rfl (.inl rfl)
  exact hQ _ _ _ _ _ _ _ h hR₃ (hL₂.trans hL₃) ⟨_, vs.take k, 0, rfl, upd_same _ _ _, by rw [Heap.get?_push_size _ rfl], e4.take k⟩
end
end Mine
namespace Mine
section
variable {w : World} {h₀ : Heap} {mg mb : Str → Option Value} {Γ : Cx} {st : St} {Ψ : Str → List Int → Prop}

theorem callWith_m1 {M : Model} {A : Around} {E : Value → Shared → Prop} {s : Shared} {pos : Pos} {id : String} {self : Value} {t : Sem Value} {Q : Value → Shared → Prop} (h : wpAny M A t (fun v s₁ => wpAny M A (call (.builtin id) [self, v]) Q E s₁) E s) :
    wpAny M A (callWith pos (.builtin id) [self] [(false, t)] []) Q E s :=
  Calls.callWith_builtin rfl (Calls.evalArgs_plain (Calls.spliced_cons (wpAny_mono h (fun _ _ h₁ => Calls.spliced_nil h₁) fun _ _ e => e)))

/-! ## the place of an item -/
theorem run_index {n : Nat} {Z : ZM} {A : Around} (hA : AOk n A) {E : Value → Shared → Prop} {s : Shared} {Q : Value → Shared → Prop} {l : Addr} {vs : Array Value} {k : Nat} {xs : List PyData} {v : Value} {d : PyData}
    (ho : ∃ dd sl, s.heap.get? l = some { cls := .type "list", dict := dd, data := .seq vs k, slots := sl }) (hx : FDs Z vs.toList xs) (hv : FD Z v d) (hz : ∀ a o, Z a = some o → s.heap.get? a = some o)
    (h1 : PyData.canLayAll0 xs = true) (h2 : SeqAt.shaped d = true) (hany : xs.any (fun y => PyData.eqv y d) = true) (hlen : xs.length < 2 ^ 62) (h : ∀ t tk, Q (.int (xs.findIdx fun y => PyData.eqv y d : Nat) t) { s with toks := tk }) :
    wpAny (model pg w) A (call (.builtin "list.index") [.ref l, v]) Q E s := by
  obtain ⟨dd, sl, ho⟩ := ho
  obtain ⟨as, r1⟩ := hx.reads hz
  obtain ⟨bs, r2⟩ := hv.reads hz
  have hd : d.canLay0 = true := (Bool.and_eq_true_iff.mp h2).1
  have hroom : A.units + 1 + min (PyData.depthAll xs) d.depth < cLine := by
    have a1 := hA.units; have a2 := cLine_is
    have a3 := Nat.min_le_right (PyData.depthAll xs) d.depth
    have a4 := of_decide_eq_true (Bool.and_eq_true_iff.mp h2).2
    omega
  have hmap := SeqAt.readsAll_map xs _ _ h1 r1
  have hl : vs.size = xs.length := by rw [← hx.length]; simp
  have hj : (xs.findIdx fun y => PyData.eqv y d) < xs.length := by
    rw [List.findIdx_lt_length]; simpa using hany
  have at_ : ∀ (i : Nat) (hi : i < vs.size), SeqAt.readOf s.heap vs[i] = xs[i]'(by omega) := fun i hi => by
    have e : (vs.toList.map (SeqAt.readOf s.heap))[i]? = xs[i]? := by rw [hmap]
    rw [List.getElem?_map, Array.getElem?_toList, Array.getElem?_eq_getElem hi, List.getElem?_eq_getElem (by omega)] at e
    simpa using e
  refine call_meets PySem.F.slot_list_index ⟨_, ho, rfl⟩ PySem.F.entry_list_index (PySem.F.args_list_index_2 _ _)
    (SeqAt.list_indexAt l vs k dd sl v (fun y => PyData.eqv (SeqAt.readOf s.heap y) d) (xs.findIdx fun y => PyData.eqv y d) (by omega) (by omega) ?_ ?_) ⟨ho, SeqAt.items_eqAt r1 r2 h1 hd hroom, h _ _⟩
  · show PyData.eqv (SeqAt.readOf s.heap vs[_]) d = true
    rw [at_ _ (by omega)]
    exact List.findIdx_getElem (p := fun y => PyData.eqv y d) (w := hj)
  · intro m hm hlt
    show PyData.eqv (SeqAt.readOf s.heap vs[m]) d = false
    rw [at_ _ hm]
    have := List.not_of_lt_findIdx (p := fun y => PyData.eqv y d) (xs := xs) hlt
    simpa using this

theorem WE.index {o e : Expr} {apos pos : Pos} {Φ : V → St → Prop}
    (h : WE w h₀ Γ st o (fun U st₁ => ∃ xs, U = .d (.list xs) ∧ WE w h₀ Γ st₁ e (fun U' st₂ => ∃ d, U' = .d d ∧ PyData.canLayAll0 xs = true ∧ SeqAt.shaped d = true ∧ xs.any (fun y => PyData.eqv y d) = true ∧ xs.length < 2 ^ 62 ∧ Φ (.d (.int (xs.findIdx fun y => PyData.eqv y d : Nat))) st₂) Ψ) Ψ)
    (hb : ∀ env, attributeBase o "index" env (eval o env) = eval o env := by intro _; rfl) (hs : ∀ env, starEach [e] env = [(false, eval e env)] := by intro _; rfl) (hline : (apos.endLine == pos.line) = true := by rfl) :
    WE w h₀ Γ st (.Call (.Attribute o "index" apos) [e] [] pos) Φ Ψ := by
  intro A env l hE Z₀ Z W s Q E hA hl hO hR hQ hX
  refine Call_method1 (hb env) (hs env) hline ?_
  refine h A env l hE Z₀ Z W s _ E hA hl hO hR ?_ hX
  rintro v U st₁ Z₁ W₁ h₁ tk₁ ⟨xs, rfl, h2⟩ hR₁ hL₁ hv
  cases hv with
  | @list a o vs n ds z c dn dt q =>
  refine ⟨"list", "list.index", PySem.F.plainAttrs_list, PySem.F.slot_list_index, PySem.F.type_list_index, ⟨_, hR₁.core.zin _ _ z, c⟩, fun b e => by cases e; exact ⟨_, hR₁.core.zin _ _ z, dn⟩, callWith_m1 ?_⟩
  refine h2 A env l hE Z₀ Z₁ W₁ _ _ E hA hl hO hR₁ ?_ (fun e' msg r h' tk p q => hX e' msg r h' tk p (q.leE hL₁))
  rintro v' U' st₂ Z₂ W₂ h₂ tk₂ ⟨d, rfl, g1, g2, g3, g4, hΦ⟩ hR₂ hL₂ hv'
  refine run_index (k := n) hA ?_ (FDs.mono hL₂.z q) hv' hR₂.core.zin g1 g2 g3 g4 fun t tk => hQ _ _ _ _ _ _ _ hΦ hR₂ (hL₁.trans hL₂) (.int _ _)
  refine ⟨o.dict, o.slots, ?_⟩
  rw [hR₂.core.zin _ _ (hL₂.z _ _ z)]
  obtain ⟨oc, od, odt, os⟩ := o
  simp only at c dt; subst c dt; rfl
theorem WE.indexOwn {x : Str} {e : Expr} {p apos pos : Pos} {Φ : V → St → Prop} {xs₀ : List PyData} (h0 : At st.mu x (.ol xs₀))
    (h : WE w h₀ Γ st e (fun U' st₂ => ∃ d xs, U' = .d d ∧ At st₂.mu x (.ol xs) ∧ PyData.canLayAll0 xs = true ∧ SeqAt.shaped d = true ∧ xs.any (fun y => PyData.eqv y d) = true ∧ xs.length < 2 ^ 62 ∧ Φ (.d (.int (xs.findIdx fun y => PyData.eqv y d : Nat))) st₂) Ψ)
    (hs : ∀ env, starEach [e] env = [(false, eval e env)] := by intro _; rfl) (hline : (apos.endLine == pos.line) = true := by rfl) :
    WE w h₀ Γ st (.Call (.Attribute (.Name x p) "index" apos) [e] [] pos) Φ Ψ := by
  intro A env l hE Z₀ Z W s Q E hA hl hO hR hQ hX
  refine Call_method1 rfl (hs env) hline ?_
  refine load_hold hO hR h0 (by nofun) fun m v hm hh hs' => ?_
  obtain ⟨D, vs, n, rfl, e2, e3, e4⟩ := hs'
  refine ⟨"list", "list.index", PySem.F.plainAttrs_list, PySem.F.slot_list_index, PySem.F.type_list_index, ⟨_, e3, rfl⟩, fun b e => by cases e; exact ⟨_, e3, rfl⟩, callWith_m1 ?_⟩
  refine h A env l hE Z₀ Z W _ _ E hA hl hO hR ?_ hX
  rintro v' U' st₂ Z₂ W₂ h₂ tk₂ ⟨d, xs, rfl, hA1, g1, g2, g3, g4, hΦ⟩ hR₂ hL₂ hv'
  obtain ⟨m', f1, f2, D', us, k, q1, q2, q3, q4⟩ := hR.again hR₂ hL₂ hm hh hA1 (by nofun)
  cases q1
  exact run_index (vs := us.toArray) hA ⟨_, _, q3⟩ (by simpa using q4) hv' hR₂.core.zin g1 g2 g3 g4 fun t tk => hQ _ _ _ _ _ _ _ hΦ hR₂ hL₂ (.int _ _)

theorem WE.startswith {o e : Expr} {apos pos : Pos} {Φ : V → St → Prop}
    (h : WE w h₀ Γ st o (fun U st₁ => ∃ x, U = .d (.str x) ∧ WE w h₀ Γ st₁ e (fun U' st₂ => ∃ y, U' = .d (.str y) ∧ Φ (.d (.bool (Txt.startswith x y))) st₂) Ψ) Ψ)
    (hb : ∀ env, attributeBase o "startswith" env (eval o env) = eval o env := by intro _; rfl) (hs : ∀ env, starEach [e] env = [(false, eval e env)] := by intro _; rfl) (hline : (apos.endLine == pos.line) = true := by rfl) :
    WE w h₀ Γ st (.Call (.Attribute o "startswith" apos) [e] [] pos) Φ Ψ := by
  intro A env l hE Z₀ Z W s Q E hA hl hO hR hQ hX
  refine Call_method1 (hb env) (hs env) hline ?_
  refine h A env l hE Z₀ Z W s _ E hA hl hO hR ?_ hX
  rintro v U st₁ Z₁ W₁ h₁ tk₁ ⟨x, rfl, h2⟩ hR₁ hL₁ hv
  cases hv with
  | str _ t =>
  refine SB.startswith ?_
  refine h2 A env l hE Z₀ Z₁ W₁ _ _ E hA hl hO hR₁ ?_ (fun e' msg r h' tk p q => hX e' msg r h' tk p (q.leE hL₁))
  rintro v' U' st₂ Z₂ W₂ h₂ tk₂ ⟨y, rfl, hΦ⟩ hR₂ hL₂ hv'
  cases hv' with
  | str _ u => exact ⟨y, u, rfl, hQ _ _ _ _ _ _ _ hΦ hR₂ (hL₁.trans hL₂) (.bool _)⟩

/-- o.get(x, n), o a dict just made -/
theorem WE.getS (hw : Wd w h₀ mg mb) {o e f : Expr} {apos pos : Pos} {Φ : V → St → Prop}
    (h : WE w h₀ Γ st o (fun U st₁ => ∃ kvs, U = .sd kvs ∧ WE w h₀ Γ st₁ e (fun U' st₂ => ∃ x, U' = .d (.str x) ∧ WE w h₀ Γ st₂ f (fun U'' st₃ => ∃ n, U'' = .d (.int n) ∧ Φ (.d (.int ((sdGet kvs x).getD n))) st₃) Ψ) Ψ) Ψ)
    (hb : ∀ env, attributeBase o "get" env (eval o env) = eval o env := by intro _; rfl) (hs : ∀ env, starEach [e, f] env = [(false, eval e env), (false, eval f env)] := by intro _; rfl) (hline : (apos.endLine == pos.line) = true := by rfl) :
    WE w h₀ Γ st (.Call (.Attribute o "get" apos) [e, f] [] pos) Φ Ψ := by
  intro A env l hE Z₀ Z W s Q E hA hl hO hR hQ hX
  refine Call_method2 (hb env) (hs env) hline ?_
  refine h A env l hE Z₀ Z W s _ E hA hl hO hR ?_ hX
  rintro v U st₁ Z₁ W₁ h₁ tk₁ ⟨kvs, rfl, h2⟩ hR₁ hL₁ hv
  obtain ⟨a, ws, rfl, e2, e3, e4⟩ := hv
  refine ⟨"dict", "dict.get", PySem.F.plainAttrs_dict, PySem.F.slot_dict_get, PySem.F.type_dict_get, e3.typeIs, e3.mapOf.noDict, wpAny_dict_get2 (knd := strKind pg w) (hw.notSys hR₁.core e2 (by nofun)) ?_⟩
  refine h2 A env l hE Z₀ Z₁ W₁ _ _ E hA hl hO hR₁ ?_ (fun e' msg r h' tk p q => hX e' msg r h' tk p (q.leE hL₁))
  rintro v' U' st₂ Z₂ W₂ h₂ tk₂ ⟨x, rfl, h3⟩ hR₂ hL₂ hv'
  cases hv' with
  | str _ u =>
  refine h3 A env l hE Z₀ Z₂ W₂ _ _ E hA hl hO hR₂ ?_ (fun e' msg r h' tk p q => hX e' msg r h' tk p (q.leE (hL₁.trans hL₂)))
  rintro v'' U'' st₃ Z₃ W₃ h₃ tk₃ ⟨n, rfl, hΦ⟩ hR₃ hL₃ hv''
  cases hv'' with
  | int _ t =>
  have e3' : h₃.DictOf (strKind pg w) a ws := by
    obtain ⟨ob, es, ep, g, r⟩ := e3
    exact ⟨ob, es, ep, by rw [(hL₂.trans hL₃).same _ _ e2 (by nofun)]; exact g, r⟩
  refine ⟨x, valueAt ws, strKind_is _ _ _ _, e3'.mapOf, ?_⟩
  have hg := sdGet_at (x := x) e4
  cases hk : sdGet kvs x with
  | none =>
    rw [hk] at hg hΦ; rw [show valueAt ws x = none from hg]
    exact hQ _ _ _ _ _ _ _ hΦ hR₃ ((hL₁.trans hL₂).trans hL₃) (.int _ _)
  | some i =>
    rw [hk] at hg hΦ; obtain ⟨tt, hg⟩ := hg; rw [hg]
    exact hQ _ _ _ _ _ _ _ hΦ hR₃ ((hL₁.trans hL₂).trans hL₃) (.int _ _)

/-! ## the row -/
theorem Rel.rowIs {env : Env} {l : List Env} {hE h : Heap} {Z₀ Z : ZM} {W : WM} {v : Value} (hR : Rel w h₀ Γ env l hE Z₀ Z W st h) {o : Option Str} (hs : SRel w Z W h o v .row) : ∃ a vs n, v = .ref a ∧ (W a = some .row ∧ a ≠ tabA) ∧ h.get? a = some (listOf vs.toArray n) ∧ IntsAre vs st.row := by
  obtain ⟨a, rfl, e, hn⟩ := hs
  obtain ⟨vs, n, g, i⟩ := hR.core.row a e hn
  exact ⟨a, vs, n, rfl, ⟨e, hn⟩, g, i⟩
/-- row != [] -/
theorem WT.rowNe {x : Str} {p p1 pos : Pos} {Φ : Bool → St → Prop} (hm : At st.mu x .row) (h : Φ (!st.row.isEmpty) st) : WT w h₀ Γ st (.Compare (.Name x p) [.NotEq] [.List [] p1] pos) Φ Ψ := by
  intro A env l hE Z₀ Z W s Q E hA hl hO hR hQ hX
  refine wpAny_isTrue_Compare1 (load_name hO hR hm (by nofun) fun v hs => ?_) rfl
  obtain ⟨a, vs, n, rfl, ⟨e2, hna⟩, e3, e4⟩ := hR.rowIs hs
  refine wpAny_List (wpAny_items_nil ⟨Nat.zero_le _, ?_⟩)
  obtain ⟨hR₂, hL₂⟩ := hR.alloc { cls := .type "list", data := .seq ([] : List Value).toArray } rfl
  have hz : upd Z s.heap.objs.size (some { cls := .type "list", data := .seq ([] : List Value).toArray }) a = none := (hR₂.core.dj _ _ e2).1
  have e3' := Heap.get?_push_of_some { cls := .type "list", data := .seq ([] : List Value).toArray } e3
  let Z' : ZM := upd (upd Z s.heap.objs.size (some { cls := .type "list", data := .seq ([] : List Value).toArray })) a (some (listOf vs.toArray n))
  have hne : s.heap.objs.size ≠ a := by rintro e; rw [← e, upd_same] at hz; cases hz
  have lay : ∀ ns : List Int, PyData.canLayAll0 (ns.map PyData.int) = true := fun ns => by
    induction ns with
    | nil => rfl
    | cons n r ih => simpa [PyData.canLayAll0, PyData.canLay0] using ih
  have dep : ∀ ns : List Int, PyData.depthAll (ns.map PyData.int) = 0 := fun ns => by
    induction ns with
    | nil => rfl
    | cons n r ih => simp [PyData.depthAll, PyData.depth, ih]
  have hsh : SeqAt.shaped (.list (st.row.map .int)) = true := by
    unfold SeqAt.shaped
    rw [Bool.and_eq_true]
    exact ⟨by simpa [PyData.canLay0] using lay st.row, by simp [PyData.depth, dep]⟩
  refine (CmpR.ne (.list (st.row.map .int)) (.list []) hsh rfl).run (Z := Z') (.list (upd_same _ _ _) rfl rfl rfl (by simpa using FDs.ofInts e4)) (.list (by
    show upd _ _ _ _ = _
    rw [upd_ne hne, upd_same]) rfl rfl rfl (by simpa using FDs.nil)) hA (fun b o e => ?_) (wpAny_truthy_bool ?_)
  · by_cases hb : b = a
    · subst hb; rw [show Z' b = _ from upd_same _ _ _] at e; cases e; exact e3'
    · rw [show Z' b = _ from upd_ne hb] at e; exact hR₂.core.zin _ _ e
  · have : (!PyData.eqv (.list (st.row.map .int)) (.list [])) = !st.row.isEmpty := by
      cases st.row with
      | nil => rfl
      | cons a r => rfl
    rw [this]
    exact hQ _ _ _ _ _ _ h hR₂ hL₂
/-- row.pop() -/
theorem WE.popRow {x : Str} {p apos pos : Pos} {Φ : V → St → Prop} {ini : List Int} {k : Int} (hm : At st.mu x .row) (hr : st.row = ini ++ [k]) (hlen : st.row.length ≤ sizeLine) (h : Φ (.d (.int k)) ⟨st.mu, ini⟩) (hline : (apos.endLine == pos.line) = true := by rfl) :
    WE w h₀ Γ st (.Call (.Attribute (.Name x p) "pop" apos) [] [] pos) Φ Ψ := by
  intro A env l hE Z₀ Z W s Q E hA hl hO hR hQ hX
  refine Call_method0 rfl hline (load_name hO hR hm (by nofun) fun v hs => ?_)
  obtain ⟨a, vs, n, rfl, ⟨e2, hna⟩, e3, e4⟩ := hR.rowIs hs
  rw [hr] at e4
  obtain ⟨us, t, rfl, e5⟩ : ∃ us t, vs = us ++ [.int k t] ∧ IntsAre us ini := by
    have key : ∀ (ini : List Int) (vs : List Value), IntsAre vs (ini ++ [k]) → ∃ us t, vs = us ++ [.int k t] ∧ IntsAre us ini := by
      intro ini
      induction ini with
      | nil => intro vs h; cases h with
        | cons _ t r => cases r; exact ⟨[], t, rfl, .nil⟩
      | cons a r ih => intro vs h; cases h with
        | cons _ t q => obtain ⟨us, t', e, f⟩ := ih _ q; exact ⟨_ :: us, t', by rw [e]; rfl, .cons _ _ f⟩
    exact key ini vs e4
  have hsz : (us ++ [Value.int k t]).toArray.size = us.length + 1 := by simp
  have hul : us.length = ini.length := e5.length
  have hrl : st.row.length = ini.length + 1 := by rw [hr]; simp
  refine ⟨"list", "list.pop", PySem.F.plainAttrs_list, PySem.F.slot_list_pop, PySem.F.type_list_pop, ⟨_, e3, rfl⟩, fun b e => by cases e; exact ⟨_, e3, rfl⟩, P.pop_list (y := .int k t) e3 (by simp) ?_ (by rw [hsz]; omega)⟩
  have hup := IsL.update (h := s.heap) e3 fun xs => xs.eraseIdxIfInBounds ((us ++ [Value.int k t]).toArray.size - 1)
  have hit : ((us ++ [Value.int k t]).toArray.eraseIdxIfInBounds ((us ++ [Value.int k t]).toArray.size - 1)) = us.toArray := by
    apply Array.toList_inj.mp
    simp [Array.eraseIdxIfInBounds, List.eraseIdx_append_of_length_le]
  rw [hit] at hup
  have hsb : Heap.SameBut a s.heap (s.heap.update a (Obj.mapSeq fun xs => xs.eraseIdxIfInBounds ((us ++ [Value.int k t]).toArray.size - 1))) := Heap.SameBut.update _ _ _
  have hc := hR.core.newRow hsb e2 hna hup e5
  have hkp : ∀ b o, s.heap.get? b = some o → W b ≠ some .iter → W b ≠ some .row → (s.heap.update a (Obj.mapSeq fun xs => xs.eraseIdxIfInBounds ((us ++ [Value.int k t]).toArray.size - 1))).get? b = some o :=
    fun b o e _ n => (hsb.2 b (by rintro rfl; exact n e2)).trans e
  refine hQ _ _ ⟨st.mu, ini⟩ Z W _ s.toks h ⟨hc, hR.vars.mono hkp hR.core.zw, hR.frs⟩ ⟨fun _ _ e => e, fun _ _ e => e, fun b ρ e n => hsb.2 b (by rintro rfl; rw [e2] at e; cases e; exact n rfl), fun _ e => e⟩ (.int _ _)

/-- x.reverse() -/
theorem WX.reverse {x : Str} {p1 apos cpos pos : Pos} {Φ : Fl → St → Prop} {xs : List PyData} {mu' : List (Str × V)} (hm : At st.mu x (.ol xs)) (hlen : xs.length ≤ sizeLine) (hS : SetV st.mu x (.ol xs.reverse) mu') (h : Φ .next ⟨mu', st.row⟩) (hline : (apos.endLine == cpos.line) = true := by rfl) :
    WX w h₀ Γ st (.Expr (.Call (.Attribute (.Name x p1) "reverse" apos) [] [] cpos) pos) Φ Ψ := by
  intro A env l hE Z₀ Z W s Q E hA hl hO hR hQ hX
  refine wpAny_Expr ?_ (interactive_off hO) rfl
  refine Call_method0 rfl hline (load_hold hO hR hm (by nofun) fun m v g1 g2 hs => ?_)
  obtain ⟨a, vs, n, rfl, e2, e3, e4⟩ := hs
  refine ⟨"list", "list.reverse", PySem.F.plainAttrs_list, PySem.F.slot_list_reverse, PySem.F.type_list_reverse, ⟨_, e3, rfl⟩, fun b e => by cases e; exact ⟨_, e3, rfl⟩, P.reverse_list e3 ?_ (by have := e4.length; simp; omega)⟩
  have hup := IsL.update (h := s.heap) e3 fun xs => xs.reverse
  have hsb : Heap.SameBut a s.heap (s.heap.update a (Obj.mapSeq fun xs => xs.reverse)) := Heap.SameBut.update _ _ _
  obtain ⟨hR', hL'⟩ := hR.changeOwn hO hm (by nofun) e2 hsb ⟨_, hup⟩ hS g1 g2 ⟨_, vs.reverse, n, rfl, e2, by rw [hup]; simp, e4.reverse⟩
  exact hQ .next .next _ _ _ _ _ h hR' hL' trivial

/-! ## a text with a name in it -/
theorem WE.fstr {a b : Str} {x : Str} {k1 k2 : Nat} {p1 p2 p3 p4 pos : Pos} {y : Str} {Φ : V → St → Prop} (hm : At st.mu x (.d (.str y))) (hl : ((Str.empty ++ a ++ y) ++ b).length ≤ sizeLine ∧ (Str.empty ++ a ++ y).length ≤ sizeLine ∧ (Str.empty ++ a).length ≤ sizeLine ∧ y.length ≤ sizeLine)
    (h : Φ (.d (.str ((Str.empty ++ a ++ y) ++ b))) st) :
    WE w h₀ Γ st (.JoinedStr [.Constant (.str a) k1 p1, .FormattedValue (.Name x p2) (-1) none p3, .Constant (.str b) k2 p4] pos) Φ Ψ := by
  intro A env l hE Z₀ Z W s Q E hA hl' hO hR hQ hX
  refine wpAny_JoinedStr ?_
  show wpAny _ _ (eval (.Constant (.str a) k1 p1) env) _ _ _
  refine wpAny_Constant_str ⟨a, _, rfl, hl.2.2.1, ?_⟩
  show wpAny _ _ (eval (.FormattedValue (.Name x p2) (-1) none p3) env) _ _ _
  refine wpAny_FormattedValue_plain (load_name (s := { s with toks := s.toks + 1 }) hO hR hm (by nofun) fun v hs => ?_)
  cases hs with
  | str _ t =>
  have fin : ∀ tk, wpAny (model pg w) A (eval (.Constant (.str b) k2 p4) env) (fun v s₁ => ∃ y' t, v = .str y' t ∧ ((Str.empty ++ a ++ y) ++ y').length ≤ sizeLine ∧ (((Str.empty ++ a ++ y) ++ y').length ≤ sizeLine ∧ Q (.str ((Str.empty ++ a ++ y) ++ y') s₁.toks) { s₁ with toks := s₁.toks + 1 })) E { s with toks := tk } := by
    intro tk
    exact wpAny_Constant_str ⟨b, _, rfl, hl.1, hl.1, hQ _ _ _ _ _ _ _ h hR (LeE.refl _ _ _) (.str _ _)⟩
  exact wpAny_formatField_str ⟨y, _, rfl, hl.2.1, fin _⟩ ⟨y, _, rfl, hl.2.1, fin _⟩ hl.2.2.2

/-! ## a dict or list of the frame's own handed back -/
theorem WX.retOwn {x : Str} {p pos : Pos} {U : V} {mu' : List (Str × V)} {Φ : Fl → St → Prop} (hm : At st.mu x U) (hU : (∃ xs, U = .ol xs) ∨ ∃ kvs, U = .sd kvs) (hS : SetV st.mu x .un mu') (h : Φ (.ret U) ⟨mu', st.row⟩) : WX w h₀ Γ st (.Return (some (.Name x p)) pos) Φ Ψ := by
  intro A env l hE Z₀ Z W s Q E hA hl hO hR hQ hX
  have hu : U ≠ .un := by rcases hU with ⟨_, rfl⟩ | ⟨_, rfl⟩ <;> nofun
  refine wpAny_Return_some (load_hold hO hR hm hu fun m v g1 g2 hs => ?_)
  obtain ⟨a, rfl, e2⟩ : ∃ a, v = .ref a ∧ W a = some (.own (some x)) := by
    rcases hU with ⟨_, rfl⟩ | ⟨_, rfl⟩
    · obtain ⟨a, _, _, e1, e2, _⟩ := hs; exact ⟨a, e1, e2⟩
    · obtain ⟨a, _, e1, e2, _⟩ := hs; exact ⟨a, e1, e2⟩
  obtain ⟨c, ⟨hn, hf, ⟨m', hm', hvs⟩, hc⟩, hfr⟩ := hR
  have nd : (st.mu.map (·.1)).Nodup := by rw [hn]; exact hO.nodup
  have wne : ∀ {b ρ}, W b = some ρ → ρ ≠ .own (some x) → upd W a (some (.own none)) b = some ρ := fun {b ρ} e n => by
    rw [upd_ne (by rintro rfl; rw [e2] at e; cases e; exact n rfl)]; exact e
  have rb : ∀ b, upd W a (some (.own none)) b = some .row → W b = some .row := fun b e => by
    by_cases hb : b = a
    · subst hb; rw [upd_same] at e; cases e
    · rw [upd_ne hb] at e; exact e
  have hR' : Rel w h₀ Γ env l hE Z₀ Z (upd W a (some (.own none))) ⟨mu', st.row⟩ s.heap := by
    refine ⟨c.role (c.dj _ _ e2).1 (c.dj _ _ e2).2 (c.wf _ _ e2 (by nofun)) (c.wf0 _ _ e2 (by nofun)) (by nofun) (by nofun) (by rw [e2]; nofun), ⟨hS.names.trans hn, wne hf (by nofun), ⟨m', hm', fun q hq => ?_⟩, fun y hy => ?_⟩, ⟨fun fe hfe => ?_, fun t => wne (hfr.2 t) (by nofun)⟩⟩
    · rcases hS.cases nd q hq with rfl | ⟨hne, hq'⟩
      · exact .inl rfl
      · rcases hvs q hq' with e | ⟨v, r1, r2⟩
        · exact .inl e
        · refine .inr ⟨v, ?_, ?_⟩
          · rcases r1 with r1 | ⟨q1, c, q2, q3, q4⟩
            · exact .inl r1
            · exact .inr ⟨q1, c, q2, q3, q4.imp (fun e => wne e (by nofun)) id⟩
          · generalize q.2 = U9 at r2 ⊢
            have lab : ∀ {b}, W b = some (.own (some q.1)) → upd W a (some (.own none)) b = some (.own (some q.1)) := fun {b} e => wne e (by intro z; cases z; exact hne rfl)
            cases U9 with
            | row => obtain ⟨b, e1, e2, e3⟩ := r2; exact ⟨b, e1, wne e2 (by nofun), e3⟩
            | ol xs => obtain ⟨b, vs, n, e1, e2, r⟩ := r2; exact ⟨b, vs, n, e1, lab e2, r⟩
            | sd kvs => obtain ⟨b, ws, e1, e2, r⟩ := r2; exact ⟨b, ws, e1, lab e2, r⟩
            | it ks => obtain ⟨b, ws, e1, e2, r⟩ := r2; exact ⟨b, ws, e1, lab e2, r⟩
            | _ => exact r2
    · obtain ⟨c', f1, f2, r⟩ := hc y hy
      exact ⟨c', f1, wne f2 (by nofun), r⟩
    · obtain ⟨k, b, e, q⟩ := hfr.1 fe hfe
      exact ⟨k, b, e, q.imp id fun ⟨o, q1, q2, q3, q4⟩ => ⟨o, q1, q2, fun z => q3 (rb _ z), fun z => q4 (rb _ z)⟩⟩
  refine hQ (.ret (.ref a)) (.ret U) _ _ _ _ s.toks h hR' ⟨fun _ _ e => e, fun b ρ e hst => wne e (by rintro rfl; cases hst), fun _ _ => rfl, rb⟩ ?_
  rcases hU with ⟨xs, rfl⟩ | ⟨kvs, rfl⟩
  · obtain ⟨b, vs, n, e1, _, r⟩ := hs; cases e1; exact ⟨a, vs, n, rfl, upd_same _ _ _, r⟩
  · obtain ⟨b, ws, e1, _, r⟩ := hs; cases e1; exact ⟨a, ws, rfl, upd_same _ _ _, r⟩
end
end Mine
namespace Mine

/-! ## leaving a call by an exception -/
structure Noted (S : List Addr) (e : Addr) (oe : Obj) (vs : Array Value) (T₀ : Option Addr) (h h' : Heap) : Prop where
  keep : ∀ b o, h.get? b = some o → b ∉ S → b ≠ e → some b ≠ T₀ → h'.get? b = some o
  slot : ∀ b o, h.get? b = some o → b ∈ S → b ≠ e → some b ≠ T₀ → ∃ sl, h'.get? b = some { o with slots := sl }
  exc : ∃ T oT ts, h'.get? e = some { oe with data := .fields (vs.setIfInBounds 1 (.ref T)) } ∧ h.objs.size ≤ T ∧ T ≠ e ∧ h'.get? T = some oT ∧ oT.data = .fields ts ∧ ts[3]? = some .none
  grow : h.objs.size ≤ h'.objs.size

theorem size_update (h : Heap) (a : Addr) (f : Obj → Obj) : (h.update a f).objs.size = h.objs.size := Heap.size_after_update ..

section
variable {M : Model} {A : Around} {E : Value → Shared → Prop} {s : Shared}
theorem noted_entry {base : Heap} {env : Env} {outer : List Env} {L e : Addr} {oe : Obj} {vs : Array Value} {head : Value} {hadNext : Bool} {Q : Unit → Shared → Prop}
    (hfr : A.frames = some (env :: outer)) (hl : s.heap.FunFrames base (env :: outer)) (hf : env.frame = some L)
    (he : s.heap.get? e = some oe) (hd : oe.data = .fields vs) (hsz : 1 < vs.size)
    (h : ∀ h', Noted (frsOf (env :: outer)) e oe vs none s.heap h' → Q () { s with heap := h' }) :
    wpAny M A (do let a ← frameOf env; let pl ← entryPlaceOf L hadNext; let b ← EntryCells.newEntry head a .none (rawInt L) .none pl; setField (.ref e) 1 b) (fun _ s' => wpAny M A (setFlight (.ref e) none) Q E s') E s := by
  have hene : e ∉ (env :: outer).filterMap (·.frame) := fun hm => by
    obtain ⟨_, o, ho, hnf⟩ := hl.mem hm
    rw [he] at ho; injection ho with ho; subst ho; exact hnf vs hd
  refine wpAny_bind (wpAny_frameOf_fun hfr hl hf fun h₁ hs₁ => ?_)
  refine wpAny_bind (wpAny_entryPlaceOf fun pl hpl => ?_)
  unfold EntryCells.newEntry newFields
  refine wpAny_bind (wpAny_newObj_type ?_ (hpl.sizeOk5 _ _ _ _ _))
  have he₁ : h₁.get? e = some oe := (hs₁.2.1 e hene).trans he
  have he₂ := Heap.get?_push_of_some (h := h₁) { cls := .type "traceback", dict := none, data := .fields ([head, .ref L, .none, rawInt L, .none] ++ (if pl.isEmpty then List.replicate 6 Value.none else pl)).toArray } he₁
  refine wpAny_setField he₂ hd hsz ?_
  have hTe : h₁.objs.size ≠ e := Nat.ne_of_gt (Heap.lt_size he₁)
  have hd₃ := Obj.data_mapFields hd (·.setIfInBounds 1 (Value.ref h₁.objs.size))
  have he₃ := Heap.get?_update_self (Obj.mapFields (·.setIfInBounds 1 (Value.ref h₁.objs.size))) he₂ (Obj.isFreed_of_fields hd₃)
  have hT₃ := (Heap.get?_update_other (h₁.push { cls := .type "traceback", dict := none, data := .fields ([head, .ref L, .none, rawInt L, .none] ++ (if pl.isEmpty then List.replicate 6 Value.none else pl)).toArray })
    (Obj.mapFields (·.setIfInBounds 1 (Value.ref h₁.objs.size))) (Ne.symm hTe)).trans (Heap.get?_push_size h₁ rfl)
  unfold setFlight
  refine wpAny_bind (wpAny_field he₃ hd₃ (x := .ref h₁.objs.size) (by simp [hsz]) ?_)
  rw [if_pos (show (Value.ref h₁.objs.size != Value.none) = true from by simp)]
  refine wpAny_setField hT₃ rfl (by simp only [List.size_toArray, List.length_append, List.length_cons, List.length_nil] <;> omega) (h _ ?_)
  have keep : ∀ b o, b ≠ e → h₁.get? b = some o →
      (((h₁.push { cls := .type "traceback", dict := none, data := .fields ([head, .ref L, .none, rawInt L, .none] ++ (if pl.isEmpty then List.replicate 6 Value.none else pl)).toArray }).update e (Obj.mapFields (·.setIfInBounds 1 (Value.ref h₁.objs.size)))).update h₁.objs.size
        (Obj.mapFields (·.setIfInBounds 3 ((none : Option Addr).elim Value.none fun f => rawInt f)))).get? b = some o := fun b o hbe hb => by
    have hbT : h₁.objs.size ≠ b := Nat.ne_of_gt (Heap.lt_size hb)
    rw [Heap.get?_update_other _ _ hbT, Heap.get?_update_other _ _ (Ne.symm hbe)]
    exact Heap.get?_push_of_some _ hb
  refine ⟨fun b o hb hS hbe _ => keep b o hbe ((hs₁.2.1 b hS).trans hb), fun b o hb hS hbe _ => ?_, ?_, ?_⟩
  · obtain ⟨sl, hs⟩ := hs₁.2.2 b o hb
    exact ⟨sl, keep b _ hbe hs⟩
  · refine ⟨h₁.objs.size, _, _, ?_, Nat.le_of_eq hs₁.1.symm, hTe, Heap.get?_update_self _ hT₃ (Obj.isFreed_of_fields (Obj.data_mapFields rfl _)), Obj.data_mapFields rfl _, by first | (simp; done) | (rcases hpl with rfl | ⟨_, _, _, _, _, _, _, rfl⟩ <;> simp)⟩
    rw [Heap.get?_update_other _ _ hTe, he₃]
    obtain ⟨c1, c2, c3, c4⟩ := oe
    cases hd
    rfl
  · rw [size_update, size_update, push_size, hs₁.1]; omega

theorem noted_leaving {base : Heap} {env : Env} {outer : List Env} {L e : Addr} {oe : Obj} {vs : Array Value} {Q : Unit → Shared → Prop} {T₀ : Option Addr}
    (hfr : A.frames = some (env :: outer)) (hl : s.heap.FunFrames base (env :: outer)) (hf : env.frame = some L)
    (he : s.heap.get? e = some oe) (hd : oe.data = .fields vs)
    (h1 : (vs[1]? = some .none ∧ T₀ = none) ∨ ∃ T oT ts, T₀ = some T ∧ vs[1]? = some (.ref T) ∧ T ≠ e ∧ s.heap.get? T = some oT ∧ oT.data = .fields ts ∧ ts[3]? = some .none)
    (h : ∀ h', Noted (frsOf (env :: outer)) e oe vs T₀ s.heap h' → Q () { s with heap := h' }) : wpAny M A (leaving env (.ref e)) Q E s := by
  unfold leaving noteFrame
  simp only [hf]
  rcases h1 with ⟨h1, rfl⟩ | ⟨T, oT, ts, rfl, h1, hTe, hT, hdT, h3⟩
  · refine wpAny_bind (wpAny_bind (wpAny_field he hd h1 ?_))
    rw [if_neg (by decide)]
    exact noted_entry hfr hl hf he hd (Array.getElem?_eq_some_iff.mp h1).1 h
  · refine wpAny_bind (wpAny_bind (wpAny_field he hd h1 ?_))
    rw [if_pos (show (Value.ref T != Value.none) = true from by simp)]
    refine wpAny_bind (wpAny_field hT hdT h3 ?_)
    rw [if_neg (show ¬ ((Value.none == rawInt L) = true) from by simp [rawInt])]
    refine wpAny_bind (wpAny_setField hT hdT (Array.getElem?_eq_some_iff.mp h3).1 ?_)
    have other : ∀ b, b ≠ T → (s.heap.update T (Obj.mapFields (·.setIfInBounds 3 Value.none))).get? b = s.heap.get? b := fun b hb => Heap.get?_update_other _ _ (Ne.symm hb)
    have noRecord : ∀ b o, s.heap.get? b = some o → (∀ vs, o.data ≠ .fields vs) → b ≠ T := fun b o hb hnf q => by
      rw [q, hT] at hb; injection hb with hb; subst hb; exact hnf ts hdT
    refine noted_entry hfr (hl.of_keeps fun b o hb hnf => ⟨o, (other b (noRecord b o hb hnf)).trans hb, rfl⟩) hf ((other e (Ne.symm hTe)).trans he) hd (Array.getElem?_eq_some_iff.mp h1).1 fun h' n => h h' ⟨?_, ?_, ?_, ?_⟩
    · intro b o hb hS hbe hbT
      exact n.keep b o ((other b fun q => hbT (by rw [q])).trans hb) hS hbe nofun
    · intro b o hb hS hbe hbT
      exact n.slot b o ((other b fun q => hbT (by rw [q])).trans hb) hS hbe nofun
    · obtain ⟨T', oT', ts', a1, a2, r⟩ := n.exc
      exact ⟨T', oT', ts', a1, by rwa [size_update] at a2, r⟩
    · have := n.grow; rwa [size_update] at this
end

/-- an exception on its way out of a call -/
structure Exc0 (l : List Env) (hE : Heap) (W : WM) (msg : Str) (r : List Int) (e : Value) (h : Heap) : Prop where
  obj : ∃ a, e = .ref a ∧ ExcObj l hE msg a h ∧ a ∉ frsOf l
  kept : ∀ b o, hE.get? b = some o → W b ≠ some .row → b ∉ frsOf l → h.get? b = some o
  slots : ∀ b o, hE.get? b = some o → W b ≠ some .row → b ∈ frsOf l → ∃ sl, h.get? b = some { o with slots := sl }
  grow : hE.objs.size ≤ h.objs.size
  row : ∀ a, W a = some .row → a ≠ tabA → ∃ vs n, h.get? a = some (listOf vs.toArray n) ∧ IntsAre vs r

/-- the frames under way, at a call -/
def FrOk (l : List Env) (h : Heap) (W : WM) : Prop := ∀ fe ∈ l, fe.scope.kind ≠ .module ∧ ∃ b, fe.frame = some b ∧ ∃ o, h.get? b = some o ∧ (∀ vs, o.data ≠ .fields vs) ∧ W b ≠ some .row

theorem FrSt.ok {w : World} {h₀ : Heap} {Γ : Cx} {env : Env} {l : List Env} {hE h : Heap} {Z₀ Z : ZM} {W : WM} {st : St} (hR : Rel w h₀ Γ env l hE Z₀ Z W st h) : FrOk l h W := fun fe hfe => by
  obtain ⟨k, b, e, q⟩ := hR.frs.1 fe hfe
  refine ⟨k, b, e, ?_⟩
  rcases q with rfl | ⟨o, q1, q2, q3, _⟩
  · obtain ⟨m, ⟨o, es, ep, g, gd, _⟩, _⟩ := hR.vars.ns
    exact ⟨o, g, (fun vs q => by rw [gd] at q; cases q), by rw [hR.vars.fr]; nofun⟩
  · exact ⟨o, hR.core.kept _ _ q1 q3, q2, q3⟩

def frBase : Heap := { objs := #[] }
theorem frBase_none (a : Addr) : frBase.get? a = none := by simp [frBase, Heap.get?]
theorem funFrames_of {h : Heap} : ∀ {l : List Env}, (∀ fe ∈ l, fe.scope.kind ≠ .module ∧ ∃ b, fe.frame = some b ∧ ∃ o, h.get? b = some o ∧ ∀ vs, o.data ≠ .fields vs) → h.FunFrames frBase l
  | [], _ => trivial
  | fe :: r, q => by
    obtain ⟨k, b, e, o, ho, hd⟩ := q fe (.head _)
    exact ⟨k, ⟨b, o, e, frBase_none _, ho, hd⟩, funFrames_of fun x hx => q x (.tail _ hx)⟩
section
variable {M : Model} {A : Around} {E : Value → Shared → Prop} {s : Shared} {w : World} {h₀ : Heap}
theorem frsOf_cons {env : Env} {l : List Env} {L : Addr} (hf : env.frame = some L) : frsOf (env :: l) = L :: frsOf l := by
  unfold frsOf; rw [List.filterMap_cons, hf]
theorem mem_frsOf {fe : Env} {l : List Env} {b : Addr} (h : fe ∈ l) (e : fe.frame = some b) : b ∈ frsOf l := List.mem_filterMap.mpr ⟨fe, h, e⟩
theorem of_frsOf {l : List Env} {b : Addr} (h : b ∈ frsOf l) : ∃ fe ∈ l, fe.frame = some b := by
  obtain ⟨fe, a, b⟩ := List.mem_filterMap.mp h; exact ⟨fe, a, b⟩

theorem leave_exc {env : Env} {l : List Env} {hE : Heap} {W W' : WM} {msg : Str} {r : List Int} {e : Value} {Q : Unit → Shared → Prop} (hfr : A.frames = some (env :: l)) (hk : env.scope.kind ≠ .module) (hf : env.frame = some env.locals)
    (hl : FrOk l hE W) (hLn : hE.get? env.locals = none) (X : Exc (env :: l) hE W' env.locals msg r e s.heap) (hW : ∀ a, W' a = some .row ↔ W a = some .row) (hrE : ∀ a, W a = some .row → hE.get? a ≠ none)
    (hQ : ∀ h', Exc0 l hE W msg r e h' → Q () { s with heap := h' }) : wpAny M A (leaving env e) Q E s := by
  obtain ⟨a, rfl, xo, hna⟩ := X.obj
  obtain ⟨dx, vs, sl, es, n, t, g1, g2, g3, g4, g5, g6⟩ := xo.obj
  have hS := frsOf_cons (l := l) hf
  have hWn : ∀ {b}, W b ≠ some .row → W' b ≠ some .row := fun q z => q ((hW _).mp z)
  have fun_ : s.heap.FunFrames frBase (env :: l) := funFrames_of fun fe hfe => by
    rcases List.mem_cons.mp hfe with rfl | hfe'
    · obtain ⟨o, ho, hd⟩ := X.own
      exact ⟨hk, _, hf, o, ho, hd⟩
    · obtain ⟨k, b, e, o, ho, hd, hr⟩ := hl fe hfe'
      obtain ⟨sl, q⟩ := X.slots b o ho (hWn hr) (mem_frsOf hfe e)
      exact ⟨k, b, e, _, q, hd⟩
  have hTd : ∃ T₀ : Option Addr, ((vs[1]? = some .none ∧ T₀ = none) ∨ ∃ T oT ts, T₀ = some T ∧ vs[1]? = some (.ref T) ∧ T ≠ a ∧ s.heap.get? T = some oT ∧ oT.data = .fields ts ∧ ts[3]? = some .none) ∧ (∀ T, T₀ = some T → hE.get? T = none ∧ T ≠ dx ∧ ∃ oT ts, s.heap.get? T = some oT ∧ oT.data = .fields ts) := by
    rcases g6 with q | ⟨T, oT, ts, q1, q2, q3, q4, q5, q6, q7⟩
    · exact ⟨none, .inl ⟨q, rfl⟩, nofun⟩
    · exact ⟨some T, .inr ⟨T, oT, ts, rfl, q1, q3, q5, q6, q7⟩, fun T' e => by cases e; exact ⟨q2, q4, oT, ts, q5, q6⟩⟩
  obtain ⟨T₀, hT, hT'⟩ := hTd
  refine noted_leaving hfr fun_ hf g1 rfl hT fun h' N => hQ h' ?_
  have hrow : ∀ b, W b = some .row → b ≠ tabA → ∃ vs n, s.heap.get? b = some (listOf vs.toArray n) ∧ IntsAre vs r := fun b q n => X.row b ((hW b).mpr q) n
  have alive : ∀ b ∈ frsOf (env :: l), ∃ o, s.heap.get? b = some o ∧ ∀ vs, o.data ≠ .fields vs := fun b hb => (fun_.mem hb).2
  refine ⟨⟨a, rfl, ⟨xo.new, ?_⟩, fun q => hna (by rw [hS]; exact .tail _ q)⟩, fun b o ho hr hb => ?_, fun b o ho hr hb => ?_, Nat.le_trans X.grow N.grow, fun b hb hbn => ?_⟩
  · obtain ⟨T, oT, ts, q1, q2, q3, q4, q5, q6⟩ := N.exc
    have hdxa : dx ≠ a := by rintro rfl; rw [g1] at g4; cases g4
    have hfresh : ∀ {b : Addr} {o : Obj} {hh : Heap}, hh.get? b = some o → hh.objs.size ≤ s.heap.objs.size → b ≠ T := fun hb hs q => absurd (Heap.lt_size hb) (by rw [q]; exact Nat.not_lt.mpr (Nat.le_trans hs q2))
    refine ⟨dx, _, sl, es, n, t, q1, by simpa using g2, fun q => g3 (by rw [hS]; exact .tail _ q), N.keep dx _ g4 g3 hdxa (fun q => (hT' dx q.symm).2.1 rfl), g5, .inr ⟨T, oT, ts, by simp [g2], ?_, q3, Ne.symm (hfresh g4 (Nat.le_refl _)), q4, q5, q6⟩⟩
    cases hz : hE.get? T with
    | none => rfl
    | some o => exact absurd rfl (hfresh hz X.grow)
  · by_cases hbL : b = env.locals
    · rw [hbL, hLn] at ho; cases ho
    · have hnS : b ∉ frsOf (env :: l) := fun q => by
        rw [hS] at q
        rcases List.mem_cons.mp q with q | q
        · exact hbL q
        · exact hb q
      refine N.keep b o (X.kept b o ho (hWn hr) hnS) hnS (fun q => by rw [q, xo.new] at ho; cases ho) fun q => ?_
      have := (hT' b q.symm).1; rw [this] at ho; cases ho
  · have hbS : b ∈ frsOf (env :: l) := by rw [hS]; exact .tail _ hb
    obtain ⟨sl₁, q⟩ := X.slots b o ho (hWn hr) hbS
    obtain ⟨sl₂, q⟩ := N.slot b _ q hbS (fun q => by rw [q, xo.new] at ho; cases ho) fun q => by have := (hT' b q.symm).1; rw [this] at ho; cases ho
    exact ⟨sl₂, q⟩
  · obtain ⟨us, k, q1, q2⟩ := hrow b hb hbn
    have nf : ∀ vs, (listOf us.toArray k).data ≠ .fields vs := nofun
    have hnS : b ∉ frsOf (env :: l) := fun q => by
      rw [hS] at q
      rcases List.mem_cons.mp q with q | q
      · exact hrE b hb (by rw [q]; exact hLn)
      · obtain ⟨fe, hfe, e⟩ := of_frsOf q
        obtain ⟨_, b', e', _, _, _, hr⟩ := hl fe hfe
        rw [e] at e'; cases e'; exact hr hb
    exact ⟨us, k, N.keep b _ q1 hnS (fun q => by rw [q, g1] at q1; cases q1) (fun q => by
      obtain ⟨_, _, oT, ts, q2, q3⟩ := hT' b q.symm
      rw [q2] at q1; cases q1; cases q3), q2⟩
end
end Mine
namespace Mine

def cxb (Γ : Cx) (names : List (Str × NameKind)) (ps : List Str) : Bool := decide (
  (∀ x ∈ Γ.locs, names.lookup x = some .local) ∧ (∀ x ∈ Γ.cells, names.lookup x = some .cell) ∧ (∀ x ∈ Γ.globs, names.lookup x = some .globalImplicit) ∧
  (∀ x ∈ Γ.names ++ Γ.globs, (x == ("__debug__" : Str)) = false ∧ (x == ("__classdict__" : Str)) = false) ∧ Γ.names.Nodup ∧ (∀ x ∈ ps, x ∈ Γ.locs ∨ x ∈ Γ.cells) ∧ ps.Nodup)
abbrev cxB (Γ : Cx) (names : List (Str × NameKind)) (ps : List Str) : Prop := cxb Γ names ps = true

inductive Init (bs : List (Str × V)) : List (Str × V) → Prop
  | nil : Init bs []
  | un {x r} : Init bs r → Init bs ((x, .un) :: r)
  | arg {x U r} : At bs x U → Init bs r → Init bs ((x, U) :: r)
theorem Init.of {bs mu : List (Str × V)} (h : Init bs mu) : ∀ p ∈ mu, p.2 = .un ∨ p ∈ bs := by
  induction h with
  | nil => nofun
  | un _ ih => intro p hp; rcases List.mem_cons.mp hp with rfl | hp
               · exact .inl rfl
               · exact ih p hp
  | arg a _ ih => intro p hp; rcases List.mem_cons.mp hp with rfl | hp
                  · exact .inr a.mem
                  · exact ih p hp

theorem bindL_at {kindOf : Str → Option NameKind} {x : Str} {v : Value} (hk : kindOf x = some .local) : ∀ (bs : List (Str × Value)) (m : Str → Option Value), (bs.map (·.1)).Nodup → ((x, v) ∈ bs ∨ (x ∉ bs.map (·.1) ∧ m x = some v)) → bindL kindOf bs m x = some v
  | [], m, _, h => by
    rcases h with h | ⟨_, h⟩
    · cases h
    · exact h
  | (n, u) :: r, m, hn, h => by
    have hn' := List.nodup_cons.mp hn
    unfold bindL
    refine bindL_at hk r _ hn'.2 ?_
    rcases h with h | ⟨h1, h2⟩
    · rcases List.mem_cons.mp h with e | h
      · cases e
        exact .inr ⟨hn'.1, by rw [if_pos hk]; simp⟩
      · exact .inl h
    · have : x ≠ n := fun e => h1 (by rw [e]; exact .head _)
      refine .inr ⟨fun q => h1 (.tail _ q), ?_⟩
      split
      · simp [this, h2]
      · exact h2
theorem bindC_at {kindOf : Str → Option NameKind} {x : Str} {v : Value} (hk : kindOf x ≠ some .local) : ∀ (bs : List (Str × Value)) (m : Str → Option Value), (bs.map (·.1)).Nodup → ((x, v) ∈ bs ∨ (x ∉ bs.map (·.1) ∧ m x = some v)) → bindC kindOf bs m x = some v
  | [], m, _, h => by
    rcases h with h | ⟨_, h⟩
    · cases h
    · exact h
  | (n, u) :: r, m, hn, h => by
    have hn' := List.nodup_cons.mp hn
    unfold bindC
    refine bindC_at hk r _ hn'.2 ?_
    rcases h with h | ⟨h1, h2⟩
    · rcases List.mem_cons.mp h with e | h
      · cases e
        exact .inr ⟨hn'.1, by rw [if_neg hk]; simp⟩
      · exact .inl h
    · have : x ≠ n := fun e => h1 (by rw [e]; exact .head _)
      refine .inr ⟨fun q => h1 (.tail _ q), ?_⟩
      split
      · exact h2
      · simp [this, h2]

theorem cellsFrom_has {x : Str} : ∀ (names : List (Str × NameKind)) (n : Nat) (acc : List (Str × Addr)), (names.lookup x = some .cell ∨ ∃ c, acc.lookup x = some c) → ∃ c, (cellsFrom n names acc).lookup x = some c
  | [], _, _, h => by
    rcases h with h | h
    · cases h
    · exact h
  | (y, k) :: r, n, acc, h => by
    have step : ∀ m, ∃ c, ((y, m) :: acc).lookup x = some c ∨ ((y == x) = false ∧ ∀ e, acc.lookup x = some e → ((y, m) :: acc).lookup x = some e) := fun m => by
      by_cases e : x = y
      · subst e; exact ⟨m, .inl (by simp [List.lookup])⟩
      · have e' : (x == y) = false := by simpa using e
        exact ⟨m, .inr ⟨by simpa using fun q => e q.symm, fun c hc => by rw [List.lookup_cons, e']; exact hc⟩⟩
    unfold cellsFrom
    by_cases hk : k = .cell
    · subst hk
      rw [if_pos (by rfl)]
      refine cellsFrom_has r _ _ ?_
      by_cases e : x = y
      · subst e; exact .inr ⟨n, by simp [List.lookup]⟩
      · have e' : (x == y) = false := by simpa using e
        rcases h with h | ⟨c, h⟩
        · rw [List.lookup_cons, e'] at h; exact .inl h
        · exact .inr ⟨c, by rw [List.lookup_cons, e']; exact h⟩
    · rw [if_neg (by intro q; exact hk (by cases k <;> first | rfl | cases q))]
      refine cellsFrom_has r _ _ ?_
      rcases h with h | h
      · by_cases e : x = y
        · subst e; rw [List.lookup_cons] at h; simp at h; exact absurd h hk
        · have e' : (x == y) = false := by simpa using e
          rw [List.lookup_cons, e'] at h; exact .inl h
      · exact .inr h

def RowsOnly (W : WM) : Prop := ∀ a ρ, W a = some ρ → ρ = .row ∧ a ≠ tabA

section
variable (w : World) (h₀ : Heap)
/-- what a call of a function of the program's comes to -/
def FS (rank : Nat) (f : Addr) (args : List V) (r : List Int) (Φ : V → List Int → Prop) (Ψ : Str → List Int → Prop) : Prop :=
  ∀ (A : Around) (l : List Env) (Z : ZM) (W : WM) (s : Shared) (vs : List Value) (Q : Value → Shared → Prop) (E : Value → Shared → Prop),
    AOk rank A → A.frames = some l → FrOk l s.heap W → Core h₀ s.heap Z Z W r s.heap → RowsOnly W → Vals w Z W s.heap vs args →
    (∀ v U r' Z' W' h' tk, Φ U r' → Core h₀ s.heap Z Z' W' r' h' → (∀ a, W' a = some .row ↔ W a = some .row) → SRel w Z' W' h' none v U → Q v { s with heap := h', toks := tk }) →
    (∀ e msg r' h' tk, Ψ msg r' → Exc0 l s.heap W msg r' e h' → E e { s with heap := h', toks := tk }) →
    wpAny (model pg w) A (call (.ref f) vs) Q E s
end
theorem FS.mono {w : World} {h₀ : Heap} {k k' : Nat} {f : Addr} {args : List V} {r : List Int} {Φ Φ' : V → List Int → Prop} {Ψ Ψ' : Str → List Int → Prop} (h : FS w h₀ k f args r Φ Ψ) (hk : k ≤ k') (h1 : ∀ U r, Φ U r → Φ' U r) (h2 : ∀ m r, Ψ m r → Ψ' m r) : FS w h₀ k' f args r Φ' Ψ' :=
  fun A l Z W s vs Q E hA hl hf hc hr hv hQ hE => h A l Z W s vs Q E (hA.mono hk) hl hf hc hr hv (fun v U r' Z' W' h' tk p => hQ v U r' Z' W' h' tk (h1 _ _ p)) (fun e msg r' h' tk p => hE e msg r' h' tk (h2 _ _ p))

theorem vals_zip {w : World} {Z : ZM} {W : WM} {h : Heap} {x : Str} {U : V} : ∀ {vs : List Value} {args : List V} {ps : List Str}, Vals w Z W h vs args → (x, U) ∈ ps.zip args → ∃ v, (x, v) ∈ ps.zip vs ∧ SRel w Z W h none v U ∧ U.plain = true
  | _, _, [], _, q => by cases q
  | _, _, _ :: _, .nil, q => by cases q
  | _, _, p :: ps, .cons s pl r, q => by
    rw [List.zip_cons_cons] at q
    rcases List.mem_cons.mp q with e | q
    · cases e; exact ⟨_, .head _, s, pl⟩
    · obtain ⟨v, a, b⟩ := vals_zip r q; exact ⟨v, .tail _ a, b⟩
theorem Vals.length {w : World} {Z : ZM} {W : WM} {h : Heap} : ∀ {vs : List Value} {args : List V}, Vals w Z W h vs args → vs.length = args.length
  | _, _, .nil => rfl
  | _, _, .cons _ _ r => congrArg (· + 1) r.length

def Wc (Γ : Cx) (L : Addr) (cs : List (Str × Addr)) (W : WM) : WM := fun a => if a = L then some .fr else match Γ.cells.find? (fun x => cs.lookup x = some a) with
  | some x => some (.cell x)
  | none => W a

theorem Wc_cases {Γ : Cx} {L : Addr} {cs : List (Str × Addr)} {W : WM} {a : Addr} {ρ : Role} (h : Wc Γ L cs W a = some ρ) : (a = L ∧ ρ = .fr) ∨ (a ≠ L ∧ ∃ x ∈ Γ.cells, cs.lookup x = some a ∧ ρ = .cell x) ∨ (a ≠ L ∧ W a = some ρ) := by
  unfold Wc at h
  split at h
  · cases h; exact .inl ⟨by assumption, rfl⟩
  · rename_i hn
    split at h
    · rename_i x hx
      cases h
      exact .inr (.inl ⟨hn, x, List.mem_of_find?_eq_some hx, by simpa using List.find?_some hx, rfl⟩)
    · exact .inr (.inr ⟨hn, h⟩)
theorem Wc_fr {Γ : Cx} {L : Addr} {cs : List (Str × Addr)} {W : WM} : Wc Γ L cs W L = some .fr := by unfold Wc; rw [if_pos rfl]
theorem Wc_cell {Γ : Cx} {L : Addr} {cs : List (Str × Addr)} {W : WM} (hap : cs.Pairwise fun x y => x.2 ≠ y.2) {x : Str} {c : Addr} (hx : x ∈ Γ.cells) (hc : cs.lookup x = some c) (hL : c ≠ L) : Wc Γ L cs W c = some (.cell x) := by
  unfold Wc; rw [if_neg hL]
  cases hf : Γ.cells.find? (fun x => cs.lookup x = some c) with
  | none => have := List.find?_eq_none.mp hf x hx; simp [hc] at this
  | some y =>
    have hy : cs.lookup y = some c := by simpa using List.find?_some hf
    rw [name_of_addr hap (mem_of_lookup hc) (mem_of_lookup hy)]

section
variable {w : World} {h₀ : Heap} {mg mb : Str → Option Value}
theorem FS.intro (hw : Wd w h₀ mg mb) {rank : Nat} {f : Addr} {oc : Value} {od : Option Addr} {fd : FuncData} {osl : Array (Option Value)} {body : List Stmt} {args : List V} {r : List Int} {mu : List (Str × V)} {Φ : V → List Int → Prop} {Ψ : Str → List Int → Prop}
    (Γ : Cx) (ps : List Str) (ho : (hd.heap_1 w.params).lookup f = some ⟨oc, od, .func fd, osl⟩) (hcd : codeIn (hd.heap_1 w.params) fd.code fd.qualname = true) (hbody : fd.body = .stmts body)
    (hlen : args.length = ps.length) (hbind : ∀ vals : List Value, vals.length = ps.length → bindArgs fd ⟨vals, []⟩ = pure (ps.zip vals)) (hcx : cxB Γ fd.scope.names ps) (hrk : Γ.rank + 1 ≤ rank)
    (hfrees : Γ.frees = []) (hnm : mu.map (·.1) = Γ.names) (hmu : Init (ps.zip args) mu)
    (h : WS w h₀ Γ ⟨mu, r⟩ body (fun F st => match F with | .ret U => Φ U st.row | .next => Φ (.d .none) st.row | .cont => False) Ψ)
    (hclo : fd.closure = [] := by rfl) (hgl : fd.globals = mainGlobals := by rfl) (hbi : fd.builtins = builtinsNs := by rfl)
    (hco : fd.scope.isCoroutine = false := by rfl) (hgen : fd.scope.isGenerator = false := by rfl) (hk : fd.scope.kind = .function := by rfl) (h50 : Γ.rank < 50 := by decide) (hsg : ¬ tabCx Γ := by decide) : FS w h₀ rank f args r Φ Ψ := by
  intro A l Z W s vs Q E hA hl hfr hc hro hv hQ hE
  obtain ⟨x1, x2, x3, x4, x5, x6, x7⟩ := of_decide_eq_true hcx
  have X : (hd.heap_1 w.params).In s.heap := hw.XK hc
  have hvl : vs.length = ps.length := hv.length.trans hlen
  have hkind : ∀ x ∈ ps.zip vs, fd.scope.names.lookup x.1 = some .local ∨ (fd.scope.names.lookup x.1 = some .cell ∧ ((cellsFrom (s.heap.objs.size + 1) fd.scope.names []).lookup x.1).isSome = true) := fun x hx => by
    have hx1 : x.1 ∈ ps := (List.of_mem_zip hx).1
    rcases x6 _ hx1 with q | q
    · exact .inl (x1 _ q)
    · obtain ⟨c, hc⟩ := cellsFrom_has fd.scope.names (s.heap.objs.size + 1) [] (.inl (x2 _ q))
      exact .inr ⟨x2 _ q, by rw [hc]; rfl⟩
  refine wpAny_call (codeAny_call_cells hA.room (X _ _ ho) rfl (hw.nolimit.keeps hc.stay) (codeRec_of X hcd) hbody (hbind vs hvl) hclo hkind (fun s₁ x => ?_) hco hgen hk)
  obtain ⟨h₁, tk₁, rfl⟩ := x.toInCall.same
  have hkeep := x.toInCall.keep
  let env := callEnvC fd s.heap.objs.size f
  let cs := cellsFrom (s.heap.objs.size + 1) fd.scope.names []
  let L := s.heap.objs.size
  have nd : ((ps.zip vs).map (·.1)).Nodup := by rw [List.map_fst_zip (by omega)]; exact x7
  have rowW : ∀ a, Wc Γ L cs W a = some .row ↔ W a = some .row := fun a => by
    constructor
    · intro q
      rcases Wc_cases q with ⟨_, e⟩ | ⟨_, _, _, _, e⟩ | ⟨_, e⟩
      · cases e
      · cases e
      · exact e
    · intro q
      have ha : a < s.heap.objs.size := by obtain ⟨_, o, ho⟩ := hc.dj a _ q; exact Heap.lt_size ho
      have hne : a ≠ L := Nat.ne_of_lt ha
      unfold Wc; rw [if_neg hne]
      cases hf : Γ.cells.find? (fun x => cs.lookup x = some a) with
      | none => exact q
      | some y =>
        have hy : cs.lookup y = some a := by simpa using List.find?_some hf
        exact absurd (x.above y a (mem_of_lookup hy)) (Nat.not_lt.mpr (Nat.le_of_lt ha))
  have out : ∀ a, s.heap.objs.size ≤ a → Z a = none := fun a ha => by
    cases hz : Z a with
    | none => rfl
    | some o => exact absurd (Heap.lt_size (hc.zin _ _ hz)) (Nat.not_lt.mpr ha)
  have hns := x.toInCall.ns
  have core : Core h₀ s.heap Z Z (Wc Γ L cs W) r h₁ := {
    base := hc.base
    zE := hc.zin
    z0 := fun _ _ e => e
    zin := fun a o e => hkeep a o (hc.zin a o e)
    zf := fun _ _ e => .inl e
    dj := fun a ρ e => by
      rcases Wc_cases e with ⟨rfl, _⟩ | ⟨_, y, hy, hl, _⟩ | ⟨_, e⟩
      · obtain ⟨o, _, _, g, _⟩ := hns
        exact ⟨out _ (Nat.le_refl _), o, g⟩
      · obtain ⟨o, g, _⟩ := x.cell y a hl
        exact ⟨out _ (Nat.le_of_lt (x.above y a (mem_of_lookup hl))), o, g⟩
      · obtain ⟨z, o, g⟩ := hc.dj a ρ e
        exact ⟨z, o, hkeep _ _ g⟩
    wf := fun a ρ e n => by
      rcases Wc_cases e with ⟨rfl, _⟩ | ⟨_, y, hy, hl, _⟩ | ⟨_, e⟩
      · exact hc.out (Nat.le_refl _)
      · exact hc.out (Nat.le_of_lt (x.above y a (mem_of_lookup hl)))
      · exact absurd (hro a ρ e).1 n
    wfr := fun a e => by
      rcases Wc_cases e with ⟨rfl, _⟩ | ⟨_, y, hy, hl, e⟩ | ⟨_, e⟩
      · exact Nat.le_refl _
      · cases e
      · exact absurd (hro a _ e).1 nofun
    wf0 := fun a ρ e n => by
      rcases Wc_cases e with ⟨rfl, _⟩ | ⟨_, y, hy, hl, _⟩ | ⟨_, e⟩
      · exact hc.far (Nat.le_refl _)
      · exact hc.far (Nat.le_of_lt (x.above y a (mem_of_lookup hl)))
      · exact absurd (hro a ρ e).1 n
    h0 := hc.h0
    kept := fun b o e _ => hkeep b o e
    grow := by
      obtain ⟨o, _, _, g, _⟩ := hns
      exact Nat.le_of_lt (Heap.lt_size g)
    row := fun a e hn => by
      obtain ⟨us, n, g, i⟩ := hc.row a ((rowW a).mp e) hn
      exact ⟨us, n, hkeep _ _ g, i⟩
    row1 := fun a b e e' n n' => hc.row1 a b ((rowW a).mp e) ((rowW b).mp e') n n'
    tab := fun e => (hc.tab ((rowW _).mp e)).keep (fun _ _ z => z) fun o g => hkeep _ _ g }
  have hO : EnvOk Γ env := ⟨hk, hgl, hbi, x1, x2, x3, x4, x5, fun t => absurd t hsg⟩
  have vars : Vars w Γ env Z (Wc Γ L cs W) h₁ mu := by
    refine ⟨hnm, Wc_fr, ⟨_, hns, fun p hp => ?_⟩, fun y hy => ?_⟩
    · rcases hmu.of p hp with e | e
      · exact .inl e
      · obtain ⟨v, q1, q2, q3⟩ := vals_zip hv e
        refine .inr ⟨v, ?_, q2.plainMono q3 (fun _ _ e => e) fun a e _ => (rowW a).mpr e⟩
        have hp1 : p.1 ∈ ps := (List.of_mem_zip e).1
        rcases x6 _ hp1 with q | q
        · exact .inl ⟨x1 _ q, bindL_at (x1 _ q) _ _ nd (.inl q1)⟩
        · have k2 : env.kindOf p.1 = some .cell := x2 _ q
          obtain ⟨c, hc'⟩ := cellsFrom_has fd.scope.names (s.heap.objs.size + 1) [] (.inl (x2 _ q))
          have hic := x.cell p.1 c hc'
          rw [bindC_at (by rw [show (callEnvC fd s.heap.objs.size f).kindOf p.1 = some .cell from k2]; nofun) _ _ nd (.inl q1)] at hic
          exact .inr ⟨.inl k2, c, hc', hic, .inl (Wc_cell x.apart q hc' (Nat.ne_of_gt (x.above _ _ (mem_of_lookup hc'))))⟩
    · obtain ⟨c, hc'⟩ := cellsFrom_has fd.scope.names (s.heap.objs.size + 1) [] (.inl (x2 _ hy))
      exact ⟨c, hc', Wc_cell x.apart hy hc' (Nat.ne_of_gt (x.above _ _ (mem_of_lookup hc'))), _, x.cell y c hc'⟩
  have frs : FrSt (env :: l) s.heap (Wc Γ L cs W) env.locals := fun fe hfe => by
    rcases List.mem_cons.mp hfe with rfl | hfe
    · exact ⟨by rw [show env.scope.kind = .function from hk]; nofun, _, rfl, .inl rfl⟩
    · obtain ⟨k, b, e, o, g, nf, nr⟩ := hfr fe hfe
      exact ⟨k, b, e, .inr ⟨o, g, nf, fun q => nr ((rowW b).mp q), fun q => (hro _ _ ((rowW _).mp q)).2 rfl⟩⟩
  have hA' : AOk Γ.rank (A.deeper env) := ⟨hA.handled, by show A.depth + 1 + _ ≤ _; have := hA.depth; omega, by show A.units + 3 + _ ≤ _; have := hA.units; omega, fun q => absurd h50 (by omega)⟩
  have hLn : s.heap.get? env.locals = none := by
    cases hz : s.heap.get? env.locals with
    | none => rfl
    | some o => exact absurd (Heap.lt_size hz) (Nat.lt_irrefl _)
  refine h (A.deeper env) env (env :: l) s.heap Z Z (Wc Γ L cs W) _ _ _ hA' (Around.frames_deeper hl) hO ⟨core, vars, frs, fun t => absurd t hsg⟩ ?_ ?_
  · intro fl F st' Z' W' h' tk hΦ hR' hL' hfl
    have hrow' : ∀ a, W' a = some .row ↔ W a = some .row := fun a => ⟨fun q => (rowW a).mp (hL'.rb a q), fun q => hL'.wk a _ ((rowW a).mpr q) rfl⟩
    cases F with
    | ret U => cases fl with
      | ret v => exact hQ v U st'.row Z' W' h' tk hΦ hR'.core hrow' hfl
      | _ => exact hfl.elim
    | next => cases fl with
      | next => exact hQ .none (.d .none) st'.row Z' W' h' tk hΦ hR'.core hrow' .none
      | _ => exact hfl.elim
    | cont => exact hΦ.elim
  · intro e' msg r' h' tk hΨ hX
    exact leave_exc (s := { s with heap := h', toks := tk }) (Around.frames_deeper hl) (by rw [show env.scope.kind = .function from hk]; nofun) rfl hfr hLn hX rowW (fun a q z => by
      obtain ⟨_, o, ho⟩ := hc.dj a _ q; rw [ho] at z; cases z) fun h'' hX' => hE _ _ _ _ _ hΨ hX'
end
end Mine
namespace Mine


def Wr (W : WM) : WM := fun a => if W a = some .row ∧ a ≠ tabA then some .row else none
theorem Wr_row {W : WM} {a : Addr} : Wr W a = some .row ↔ W a = some .row ∧ a ≠ tabA := by
  unfold Wr
  split
  · exact ⟨fun _ => by assumption, fun _ => rfl⟩
  · rename_i hn
    exact ⟨fun q => (nomatch q), fun q => absurd q hn⟩
theorem Wr_only {W : WM} : RowsOnly (Wr W) := fun a ρ h => by
  unfold Wr at h
  split at h
  · rename_i q; cases h; exact ⟨rfl, q.2⟩
  · cases h
/-- after a call -/
def Wj (W W' : WM) : WM := fun a => match W a with
  | some ρ => some ρ
  | none => if W' a = some (.own none) then some (.own none) else none
theorem Wj_of {W W' : WM} {a : Addr} {ρ : Role} (h : W a = some ρ) : Wj W W' a = some ρ := by unfold Wj; rw [h]
theorem Wj_cases {W W' : WM} {a : Addr} {ρ : Role} (h : Wj W W' a = some ρ) : W a = some ρ ∨ (W a = none ∧ W' a = some (.own none) ∧ ρ = .own none) := by
  unfold Wj at h
  cases hw : W a with
  | some σ => rw [hw] at h; exact .inl h
  | none =>
    rw [hw] at h
    simp only at h
    split at h
    · cases h; exact .inr ⟨rfl, by assumption, rfl⟩
    · cases h

section
variable {w : World} {h₀ : Heap} {mg mb : Str → Option Value} {Γ : Cx} {st : St} {Ψ : Str → List Int → Prop}

theorem Vars.zk {env : Env} {Z Z' : ZM} {W : WM} {h : Heap} {mu : List (Str × V)} (x : Vars w Γ env Z W h mu) (zm : ∀ a o, Z a = some o → Z' a = some o) : Vars w Γ env Z' W h mu := by
  obtain ⟨hn, hfr, ⟨m, hm, hv⟩, hc⟩ := x
  refine ⟨hn, hfr, ⟨m, hm, fun p hp => ?_⟩, hc⟩
  rcases hv p hp with e | ⟨v, hh, hs⟩
  · exact .inl e
  · refine .inr ⟨v, ?_, ?_⟩
    · rcases hh with q | ⟨q1, c, q2, q3, q4⟩
      · exact .inl q
      · exact .inr ⟨q1, c, q2, q3, q4.imp id fun ⟨o, q⟩ => ⟨o, zm _ _ q⟩⟩
    · generalize p.2 = U at hs ⊢
      cases U with
      | un => trivial
      | d y => exact FD.mono zm hs
      | scr ns => obtain ⟨a, oz, vs, n, e1, e2, r⟩ := hs; exact ⟨a, oz, vs, n, e1, zm _ _ e2, r⟩
      | ix i => exact SRel.plainMono (w := w) (U := .ix i) (W := W) (W' := W) (h := h) (h' := h) (o := none) (o' := none) hs rfl zm fun _ e _ => e
      | row => exact hs
      | ol xs => obtain ⟨a, vs, n, e1, e2, e3, e4⟩ := hs; exact ⟨a, vs, n, e1, e2, e3, FDs.mono zm e4⟩
      | sd kvs => exact hs
      | it ks => exact hs
      | itf ks => obtain ⟨a, oz, ws, e1, e2, r⟩ := hs; exact ⟨a, oz, ws, e1, zm _ _ e2, r⟩

theorem Vars.back {env : Env} {Z : ZM} {W : WM} {h h' : Heap} {mu : List (Str × V)} (x : Vars w Γ env Z W h mu) (hk : ∀ b o, h.get? b = some o → W b ≠ some .row → (W b ≠ none ∨ Z b ≠ none) → h'.get? b = some o)
    (hz : ∀ a o, Z a = some o → W a = none) : Vars w Γ env Z W h' mu := by
  obtain ⟨hn, hf, ⟨m, hm, hv⟩, hc⟩ := x
  have kw : ∀ {b o ρ}, h.get? b = some o → W b = some ρ → ρ ≠ .row → h'.get? b = some o := fun {b o ρ} e q n => hk b o e (by rw [q]; intro z; cases z; exact n rfl) (.inl (by rw [q]; nofun))
  have kz : ∀ {b o oz}, h.get? b = some o → Z b = some oz → h'.get? b = some o := fun {b o oz} e q => hk b o e (by rw [hz _ _ q]; nofun) (.inr (by rw [q]; nofun))
  refine ⟨hn, hf, ⟨m, ?_, fun p hp => ?_⟩, fun y hy => ?_⟩
  · obtain ⟨o, es, ep, ho, r⟩ := hm
    exact ⟨o, es, ep, kw ho hf nofun, r⟩
  · rcases hv p hp with e | ⟨v, hh, hs⟩
    · exact .inl e
    · refine .inr ⟨v, ?_, ?_⟩
      · rcases hh with a | ⟨a, c, b, ⟨o, d1, d2⟩, e⟩
        · exact .inl a
        · refine .inr ⟨a, c, b, ⟨o, ?_, d2⟩, e⟩
          rcases e with e | ⟨oz, e⟩
          · exact kw d1 e nofun
          · exact kz d1 e
      · generalize p.2 = U at hs ⊢
        cases U with
        | ol xs => obtain ⟨a, vs, n, e1, e2, e3, e4⟩ := hs; exact ⟨a, vs, n, e1, e2, kw e3 e2 nofun, e4⟩
        | sd kvs =>
          obtain ⟨a, ws, e1, e2, ⟨ob, es, ep, g, r⟩, e4⟩ := hs
          exact ⟨a, ws, e1, e2, ⟨ob, es, ep, kw g e2 nofun, r⟩, e4⟩
        | it ks =>
          obtain ⟨a, ws, e1, e2, ⟨ob, es, ep, g, r⟩, e4⟩ := hs
          exact ⟨a, ws, e1, e2, ⟨ob, es, ep, kw g e2 nofun, r⟩, e4⟩
        | itf ks =>
          obtain ⟨a, oz, ws, e1, e2, ⟨ob, es, ep, g, r⟩, e4⟩ := hs
          exact ⟨a, oz, ws, e1, e2, ⟨ob, es, ep, kz g e2, r⟩, e4⟩
        | _ => exact hs
  · obtain ⟨c, e1, e2, v, ⟨o, e3, e4⟩⟩ := hc y hy
    exact ⟨c, e1, e2, v, ⟨o, kw e3 e2 nofun, e4⟩⟩

theorem Core.asCall {hE h : Heap} {Z₀ Z : ZM} {W : WM} {r : List Int} (c : Core h₀ hE Z₀ Z W r h) : Core h₀ h Z Z (Wr W) r h where
  base := c.zbase
  zE := c.zin
  z0 := fun _ _ e => e
  zin := c.zin
  zf := fun _ _ e => .inl e
  dj := fun a ρ e => by cases (Wr_only a ρ e).1; exact c.dj a _ (Wr_row.mp e).1
  wf := fun a ρ e n => absurd (Wr_only a ρ e).1 n
  wfr := fun a e => absurd (Wr_only a _ e).1 nofun
  wf0 := fun a ρ e n => absurd (Wr_only a ρ e).1 n
  h0 := Nat.le_trans c.h0 c.grow
  kept := fun _ _ e _ => e
  grow := Nat.le_refl _
  row := fun a e n => c.row a (Wr_row.mp e).1 n
  row1 := fun a b e e' n n' => c.row1 a b (Wr_row.mp e).1 (Wr_row.mp e').1 n n'
  tab := fun e => absurd rfl (Wr_row.mp e).2

theorem Rel.called {env : Env} {l : List Env} {hE h hb h' : Heap} {Z₀ Z Z' : ZM} {W W' : WM} {r' : List Int} {I : Addr} (hR : Rel w h₀ Γ env l hE Z₀ Z W st h) (c' : Core h₀ hb Z Z' W' r' h') (hrow : ∀ a, W' a = some .row ↔ Wr W a = some .row)
    (hI : hE.get? I = none) (hWI : W I = none) (hZI : Z I = none) (hkb : ∀ b o, h.get? b = some o → b ≠ I → hb.get? b = some o) (hsz : h.objs.size ≤ hb.objs.size) :
    Rel w h₀ Γ env l hE Z₀ Z' (Wj W W') ⟨st.mu, r'⟩ h' ∧ LeE Z W h Z' (Wj W W') h' ∧ ∀ a, W' a = some (.own none) → W a = none := by
  have c := hR.core
  have up : ∀ {a ρ}, W a = some ρ → ∃ o, hb.get? a = some o := fun {a ρ} e => by
    obtain ⟨_, o, ho⟩ := c.dj a ρ e
    exact ⟨o, hkb a o ho (by rintro rfl; rw [hWI] at e; cases e)⟩
  have dead : ∀ {a}, hb.get? a = none → W a ≠ some .row → hE.get? a = none := fun {a} e n => by
    cases q : hE.get? a with
    | none => rfl
    | some o =>
      have := hkb a o (c.kept a o q n) (by rintro rfl; rw [hI] at q; cases q)
      rw [e] at this; cases this
  have kp : ∀ b o, h.get? b = some o → W b ≠ some .row → b ≠ I → h'.get? b = some o := fun b o e n m => c'.kept b o (hkb b o e m) fun q => n (Wr_row.mp ((hrow b).mp q)).1
  have neI : ∀ {a ρ}, W a = some ρ → a ≠ I := fun {a ρ} e => by rintro rfl; rw [hWI] at e; cases e
  have rb : ∀ a, Wj W W' a = some .row → W a = some .row := fun a e => by
    rcases Wj_cases e with e | ⟨_, _, e⟩
    · exact e
    · cases e
  have core : Core h₀ hE Z₀ Z' (Wj W W') r' h' := {
    base := c.base
    zE := c.zE
    z0 := fun a o e => c'.z0 a o (c.z0 a o e)
    zin := c'.zin
    zf := fun a o e => by
      rcases c'.zf a o e with q | q
      · exact c.zf a o q
      · refine .inr (dead q fun n => ?_)
        by_cases hat : a = tabA
        · subst hat
          obtain ⟨o', ho'⟩ := up n
          rw [q] at ho'; cases ho'
        · have := (c'.dj a _ ((hrow a).mpr (Wr_row.mpr ⟨n, hat⟩))).1
          rw [e] at this; cases this
    dj := fun a ρ e => by
      rcases Wj_cases e with e | ⟨_, e, _⟩
      · refine ⟨?_, ?_⟩
        · cases hz : Z' a with
          | none => rfl
          | some o =>
            rcases c'.zf a o hz with q | q
            · have := (c.dj a _ e).1; rw [q] at this; cases this
            · obtain ⟨o', ho'⟩ := up e; rw [q] at ho'; cases ho'
        · by_cases hr : ρ = .row
          · subst hr
            by_cases hat : a = tabA
            · subst hat
              obtain ⟨o, ho⟩ := up e
              exact ⟨o, c'.kept _ o ho fun q => absurd rfl (Wr_row.mp ((hrow _).mp q)).2⟩
            · obtain ⟨vs, n, g, _⟩ := c'.row a ((hrow a).mpr (Wr_row.mpr ⟨e, hat⟩)) hat
              exact ⟨_, g⟩
          · obtain ⟨o, ho⟩ := (c.dj a _ e).2
            exact ⟨o, kp a o ho (by rw [e]; intro q; cases q; exact hr rfl) (neI e)⟩
      · exact c'.dj a _ e
    wf := fun a ρ e n => by
      rcases Wj_cases e with e | ⟨e', e, _⟩
      · exact c.wf a ρ e n
      · exact dead (c'.wf a _ e (by nofun)) (by rw [e']; nofun)
    wfr := fun a e => by
      rcases Wj_cases e with e | ⟨_, _, e⟩
      · exact c.wfr a e
      · cases e
    wf0 := fun a ρ e n => by
      rcases Wj_cases e with e | ⟨_, e, _⟩
      · exact c.wf0 a ρ e n
      · exact c'.wf0 a _ e (by nofun)
    h0 := c.h0
    kept := fun b o e n => by
      have n' : W b ≠ some .row := fun q => n (Wj_of q)
      exact kp b o (c.kept b o e n') n' (by rintro rfl; rw [hI] at e; cases e)
    grow := Nat.le_trans c.grow (Nat.le_trans hsz c'.grow)
    row := fun a e n => c'.row a ((hrow a).mpr (Wr_row.mpr ⟨rb a e, n⟩)) n
    row1 := fun a b e e' n n' => c.row1 a b (rb a e) (rb b e') n n'
    tab := fun e => (c.tab (rb _ e)).keep c'.z0 fun o g => c'.kept _ o (hkb _ o g (neI (rb _ e))) fun q => absurd rfl (Wr_row.mp ((hrow _).mp q)).2 }
  have vk : Vars w Γ env Z W h' st.mu := hR.vars.back (fun b o e n m => kp b o e n (by
    rintro rfl
    rcases m with m | m
    · exact m hWI
    · exact m hZI)) c.zw
  refine ⟨⟨core, (vk.zk c'.z0).wk fun b ρ e _ => Wj_of e, ⟨fun fe hfe => ?_, fun t => Wj_of (hR.frs.2 t)⟩⟩, ⟨c'.z0, fun a ρ e => Wj_of e, fun a ρ e n => ?_, rb⟩, fun a e => ?_⟩
  · obtain ⟨k, b, e, q⟩ := hR.frs.1 fe hfe
    exact ⟨k, b, e, q.imp id fun ⟨o, q1, q2, q3, q4⟩ => ⟨o, q1, q2, fun z => q3 (rb _ z), fun z => q4 (rb _ z)⟩⟩
  · obtain ⟨o, ho⟩ := (c.dj a _ e).2
    rw [ho, kp a o ho (by rw [e]; intro q; cases q; exact n rfl) (neI e)]
  · cases hz : W a with
    | none => rfl
    | some ρ => obtain ⟨o, ho⟩ := up hz; rw [c'.wf a _ e (by nofun)] at ho; cases ho

theorem SRel.called {Z : ZM} {W W' : WM} {h : Heap} {v : Value} {U : V} (hs : SRel w Z W' h none v U) (hrow : ∀ a, W' a = some .row → W a = some .row) (hnew : ∀ a, W' a = some (.own none) → W a = none) : SRel w Z (Wj W W') h none v U := by
  have lab : ∀ {a}, W' a = some (.own none) → Wj W W' a = some (.own none) := fun {a} e => by unfold Wj; rw [hnew a e]; simp [e]
  cases U with
  | row => obtain ⟨a, e1, e2, e3⟩ := hs; exact ⟨a, e1, Wj_of (hrow a e2), e3⟩
  | ol xs => obtain ⟨a, vs, n, e1, e2, r⟩ := hs; exact ⟨a, vs, n, e1, lab e2, r⟩
  | sd kvs => obtain ⟨a, ws, e1, e2, r⟩ := hs; exact ⟨a, ws, e1, lab e2, r⟩
  | it ks => obtain ⟨a, ws, e1, e2, r⟩ := hs; exact ⟨a, ws, e1, lab e2, r⟩
  | _ => exact hs

theorem Exc0.up {env : Env} {l : List Env} {hE h h' : Heap} {Z₀ Z : ZM} {W : WM} {msg : Str} {r : List Int} {e : Value} (X : Exc0 l h (Wr W) msg r e h') (hR : Rel w h₀ Γ env l hE Z₀ Z W st h) : Exc l hE W env.locals msg r e h' := by
  have c := hR.core
  have alive : ∀ b o, hE.get? b = some o → ∃ o', h.get? b = some o' := fun b o e => by
    by_cases q : W b = some .row
    · exact (c.dj b _ q).2
    · exact ⟨o, c.kept b o e q⟩
  have dead : ∀ b, h.get? b = none → hE.get? b = none := fun b e => by
    cases q : hE.get? b with
    | none => rfl
    | some o => obtain ⟨o', q'⟩ := alive b o q; rw [e] at q'; cases q'
  have nr : ∀ {b}, W b ≠ some .row → Wr W b ≠ some .row := fun q z => q (Wr_row.mp z).1
  refine ⟨?_, fun b o e n m => X.kept b o (c.kept b o e n) (nr n) m, fun b o e n m => X.slots b o (c.kept b o e n) (nr n) m, ?_, Nat.le_trans c.grow X.grow, fun a e n => X.row a (Wr_row.mpr ⟨e, n⟩) n⟩
  · obtain ⟨a, e, xo, hn⟩ := X.obj
    obtain ⟨dx, vs, sl, es, n, t, g1, g2, g3, g4, g5, g6⟩ := xo.obj
    refine ⟨a, e, ⟨dead _ xo.new, dx, vs, sl, es, n, t, g1, g2, g3, g4, g5, ?_⟩, hn⟩
    rcases g6 with q | ⟨T, oT, ts, q1, q2, q3⟩
    · exact .inl q
    · exact .inr ⟨T, oT, ts, q1, dead _ q2, q3⟩
  · obtain ⟨m, ⟨o, es, ep, g, gd, _⟩, _⟩ := hR.vars.ns
    have hw : W env.locals ≠ some .row := by rw [hR.vars.fr]; nofun
    have nf : ∀ vs, o.data ≠ .fields vs := fun vs q => by rw [gd] at q; cases q
    by_cases hb : env.locals ∈ frsOf l
    · obtain ⟨sl, q⟩ := X.slots _ o g (nr hw) hb
      exact ⟨_, q, nf⟩
    · exact ⟨o, X.kept _ o g (nr hw) hb, nf⟩

theorem Vals.wr {Z : ZM} {W : WM} {h : Heap} : ∀ {vs : List Value} {args : List V}, Vals w Z W h vs args → Vals w Z (Wr W) h vs args
  | _, _, .nil => .nil
  | _, _, .cons x hp r => .cons (x.plainMono hp (fun _ _ e => e) fun a e n => Wr_row.mpr ⟨e, n⟩) hp r.wr
/-- a call of a function, by its value -/
theorem FS.run {k : Nat} {f : Addr} {args : List V} {Φ : V → St → Prop} (F : FS w h₀ k f args st.row (fun U r' => Φ U ⟨st.mu, r'⟩) Ψ) (hk : k ≤ Γ.rank) {A : Around} {env : Env} {l : List Env} {hE : Heap} {Z₀ Z : ZM} {W : WM} {s : Shared} {vs : List Value} {Q : Value → Shared → Prop} {E : Value → Shared → Prop}
    (hA : AOk Γ.rank A) (hl : A.frames = some l) (hR : Rel w h₀ Γ env l hE Z₀ Z W st s.heap) (hv : Vals w Z W s.heap vs args)
    (hQ : ∀ v U st' Z' W' h' tk, Φ U st' → Rel w h₀ Γ env l hE Z₀ Z' W' st' h' → LeE Z W s.heap Z' W' h' → SRel w Z' W' h' none v U → Q v { s with heap := h', toks := tk })
    (hX : ∀ e' msg r h' tk, Ψ msg r → Exc l hE W env.locals msg r e' h' → E e' { s with heap := h', toks := tk }) : wpAny (model pg w) A (call (.ref f) vs) Q E s := by
  have hv' : Vals w Z (Wr W) s.heap vs args := hv.wr
  refine F A l Z (Wr W) s vs Q E (hA.mono hk) hl (fun fe hfe => ?_) hR.core.asCall Wr_only hv' ?_ ?_
  · obtain ⟨k, b, e, o, g, nf, nr⟩ := FrSt.ok hR fe hfe
    exact ⟨k, b, e, o, g, nf, fun q => nr (Wr_row.mp q).1⟩
  · intro v U r' Z' W' h' tk hΦ hc' hrow hs
    obtain ⟨hzI, hwI⟩ := hR.dom (Nat.le_refl _)
    obtain ⟨hR', hL', hn'⟩ := hR.called hc' hrow (hR.core.out (Nat.le_refl _)) hwI hzI (fun _ _ e _ => e) (Nat.le_refl _)
    exact hQ v U _ Z' _ h' tk hΦ hR' hL' (hs.called (fun a q => (Wr_row.mp ((hrow a).mp q)).1) hn')
  · intro e msg r' h' tk hΨ X
    exact hX _ _ _ _ _ hΨ (X.up hR)

theorem WE.call (hw : Wd w h₀ mg mb) {f : Str} {a : Addr} {e : Expr} {es : List Expr} {p pos : Pos} {Φ : V → St → Prop} {k : Nat} (hg : f ∈ Γ.globs) (hm : mg f = some (.ref a)) (hkp : keepIn (hd.heap_1 w.params) (.ref a) = true) (hk : k ≤ Γ.rank)
    (h : WA w h₀ Γ st pos (e :: es) (fun Us st₁ => FS w h₀ k a Us st₁.row (fun U r' => Φ U ⟨st₁.mu, r'⟩) Ψ) Ψ)
    (he : ∀ env, starEach (e :: es) env = (false, eval e env) :: starEach es env := by intro _; rfl) (hp : ∀ env, (backTo pos (starEach es env)).any (·.1) = false := by intro _; rfl) :
    WE w h₀ Γ st (.Call (.Name f p) (e :: es) [] pos) Φ Ψ := by
  intro A env l hE Z₀ Z W s Q E hA hl hO hR hQ hX
  refine wpAny_Call_ofName (eval_gl hw hO hR.core hg hm ?_)
  refine callWith_K (hw.XK hR.core) hkp (h A env l hE Z₀ Z W s _ E hA hl hO hR ?_ hX) (he env) (hp env)
  intro vs Us st₁ Z₁ W₁ h₁ tk₁ F hR₁ hL₁ hv
  refine ⟨hw.XK hR₁.core, F.run hk (s := { s with heap := h₁, toks := tk₁ }) hA hl hR₁ hv ?_ ?_⟩
  · intro v U st₂ Z₂ W₂ h₂ tk₂ p r le sr
    exact hQ v U st₂ Z₂ W₂ h₂ tk₂ p r (hL₁.trans le) sr
  · intro e' msg r h' tk p q
    exact hX e' msg r h' tk p (q.leE hL₁)
end
end Mine
namespace Mine

/-! ## comprehensions -/
def capd (Γ : Cx) (env : Env) (a : Addr) : Bool := Γ.cells.any fun y => decide (env.cells.lookup y = some a)
def Zc (Γ : Cx) (env : Env) (Z : ZM) (h : Heap) : ZM := fun a => if capd Γ env a then h.get? a else Z a
theorem Vars.capd {w : World} {Γ : Cx} {env : Env} {Z : ZM} {W : WM} {h : Heap} {mu : List (Str × V)} (x : Vars w Γ env Z W h mu) {a : Addr} (hc : capd Γ env a = true) : ∃ y v, W a = some (.cell y) ∧ h.IsCell a v := by
  unfold Mine.capd at hc
  rw [List.any_eq_true] at hc
  obtain ⟨y, hy, e⟩ := hc
  obtain ⟨c, e1, e2, v, e3⟩ := x.cel y hy
  have := of_decide_eq_true e
  rw [e1] at this; cases this
  exact ⟨y, v, e2, e3⟩

mutual
theorem FD.cut {Z Z' : ZM} (hz : ∀ a o vs n, Z a = some o → o.data = .seq vs n → Z' a = some o) : ∀ {v : Value} {d : PyData}, FD Z v d → FD Z' v d
  | _, _, .none => .none
  | _, _, .bool b => .bool b
  | _, _, .int i t => .int i t
  | _, _, .str x t => .str x t
  | _, _, .list h c dn k r => .list (hz _ _ _ _ h k) c dn k (FDs.cut hz r)
  | _, _, .tuple h c k r => .tuple (hz _ _ _ _ h k) c k (FDs.cut hz r)
theorem FDs.cut {Z Z' : ZM} (hz : ∀ a o vs n, Z a = some o → o.data = .seq vs n → Z' a = some o) : ∀ {vs : List Value} {ds : List PyData}, FDs Z vs ds → FDs Z' vs ds
  | _, _, .nil => .nil
  | _, _, .cons h r => .cons (FD.cut hz h) (FDs.cut hz r)
end

def clFrom (env : Env) : List (Str × NameKind) → List (Str × Addr) → List (Str × Addr)
  | [], acc => acc
  | (n, k) :: r, acc => if k == .free then clFrom env r ((n, (env.cells.lookup n).getD 0) :: acc) else clFrom env r acc
theorem closureFor_is {scope : Scope} {env : Env} (h : ∀ p ∈ scope.names, p.2 = .free → ∃ c, env.cells.lookup p.1 = some c) : closureFor scope env = pure (clFrom env scope.names []) := by
  unfold closureFor
  have key : ∀ (names : List (Str × NameKind)) (acc : List (Str × Addr)), (∀ p ∈ names, p.2 = .free → ∃ c, env.cells.lookup p.1 = some c) →
      (forIn names acc (fun x cs => match x with | (name, kind) => if (kind == NameKind.free) = true then (do let __do_lift ← cellOf env name; pure (ForInStep.yield ((name, __do_lift) :: cs))) else pure (ForInStep.yield cs)) : Sem _) = pure (clFrom env names acc) := by
    intro names
    induction names with
    | nil => intro acc _; rfl
    | cons p r ih =>
      obtain ⟨n, k⟩ := p
      intro acc hp
      have hr := fun q hq => hp q (List.mem_cons_of_mem _ hq)
      rw [List.forIn_cons]
      unfold clFrom
      by_cases hk : (k == NameKind.free) = true
      · obtain ⟨c, hc⟩ := hp (n, k) (.head _) (by cases k <;> first | rfl | cases hk)
        have : cellOf env n = pure c := by unfold cellOf; rw [show env.cells.lookup n = some c from hc]
        simp only [hk, if_true, this, pure_bind, hc, Option.getD_some]
        exact ih _ hr
      · simp only [hk, if_false, pure_bind, Bool.false_eq_true]
        exact ih _ hr
  have := key scope.names [] h
  simp only [pure_bind] at this ⊢
  rw [this]
  rfl
theorem clFrom_at {env : Env} {x : Str} : ∀ (names : List (Str × NameKind)) (acc : List (Str × Addr)), (names.lookup x = some .free ∨ acc.lookup x = env.cells.lookup x) → (∃ c, env.cells.lookup x = some c) → (clFrom env names acc).lookup x = env.cells.lookup x
  | [], acc, h, _ => by
    rcases h with h | h
    · cases h
    · exact h
  | (n, k) :: r, acc, h, hc => by
    unfold clFrom
    by_cases e : x = n
    · subst e
      by_cases hk : (k == NameKind.free) = true
      · rw [if_pos hk]
        refine clFrom_at r _ (.inr ?_) hc
        obtain ⟨c, hc⟩ := hc
        rw [List.lookup_cons, beq_self_eq_true, hc]; rfl
      · rw [if_neg hk]
        refine clFrom_at r _ ?_ hc
        rcases h with h | h
        · rw [List.lookup_cons, beq_self_eq_true] at h
          cases h; exact absurd rfl hk
        · exact .inr h
    · have e' : (x == n) = false := by simpa using e
      split
      · refine clFrom_at r _ ?_ hc
        rcases h with h | h
        · rw [List.lookup_cons, e'] at h; exact .inl h
        · exact .inr (by rw [List.lookup_cons, e']; exact h)
      · refine clFrom_at r _ ?_ hc
        rcases h with h | h
        · rw [List.lookup_cons, e'] at h; exact .inl h
        · exact .inr h

theorem lookup_rel {env : Env} {x : Str} : ∀ (names : List (Str × NameKind)), (names.map fun (n, k) => if (k == .free && env.scope.kind == .function && env.kindOf n == some .cell) then (n, .cell) else (n, k)).lookup x =
    (names.lookup x).map fun k => if (k == .free && env.scope.kind == .function && env.kindOf x == some .cell) then NameKind.cell else k
  | [] => rfl
  | (n, k) :: r => by
    have ih := lookup_rel (env := env) (x := x) r
    by_cases e : x = n
    · subst e
      have h1 : ∀ (b : Bool) (R : List (Str × NameKind)), List.lookup x ((if b = true then (x, NameKind.cell) else (x, k)) :: R) = some (if b = true then NameKind.cell else k) := by
        intro b R; cases b <;> simp [List.lookup_cons]
      refine (h1 _ _).trans ?_
      rw [List.lookup_cons, beq_self_eq_true]; rfl
    · have e' : (x == n) = false := by simpa using e
      have h1 : ∀ (b : Bool) (R : List (Str × NameKind)), List.lookup x ((if b = true then (n, NameKind.cell) else (n, k)) :: R) = R.lookup x := by
        intro b R; cases b <;> simp [List.lookup_cons, e']
      refine (h1 _ _).trans ?_
      rw [List.lookup_cons, e']; exact ih

def ccb (Γ Γc : Cx) (names : List (Str × NameKind)) (x : Str) : Bool := decide (
  names.lookup x = some .local ∧ (∀ y ∈ names, y.2 ≠ .cell) ∧ (∀ y ∈ names, y.2 = .local → names.lookup y.1 = some .local) ∧ (∀ y ∈ names, y.2 = .free → y.1 ∈ Γ.cells) ∧
  (∀ y ∈ Γc.frees, names.lookup y = some .free ∧ y ∈ Γ.cells) ∧ (∀ y ∈ Γc.globs, names.lookup y = some .globalImplicit) ∧
  (∀ y ∈ Γc.names ++ Γc.globs, (y == ("__debug__" : Str)) = false ∧ (y == ("__classdict__" : Str)) = false) ∧ Γc.names.Nodup)
abbrev ccB (Γ Γc : Cx) (names : List (Str × NameKind)) (x : Str) : Prop := ccb Γ Γc names x = true

def V.stays : V → Bool
  | .itf _ => true
  | U => U.plain

inductive Caps (mu : List (Str × V)) : List (Str × V) → Prop
  | nil : Caps mu []
  | cons {x U r} : At mu x U → U.stays = true → Caps mu r → Caps mu ((x, U) :: r)
theorem Caps.of {mu cs : List (Str × V)} (h : Caps mu cs) : ∀ p ∈ cs, p ∈ mu ∧ p.2.stays = true := by
  induction h with
  | nil => nofun
  | cons a b _ ih =>
    intro p hp
    rcases List.mem_cons.mp hp with rfl | hp
    · exact ⟨a.mem, b⟩
    · exact ih p hp

section
variable {w : World} {h₀ : Heap} {mg mb : Str → Option Value} {Γ : Cx} {st : St} {Ψ : Str → List Int → Prop}

theorem SRel.stayMono {Z Z' : ZM} {W W' : WM} {h h' : Heap} {o o' : Option Str} {v : Value} {U : V} (x : SRel w Z W h o v U) (hp : U.stays = true) (hz : ∀ a ob, Z a = some ob → Z' a = some ob)
    (hw : ∀ a, W a = some .row → a ≠ tabA → W' a = some .row) (hh : ∀ a ob o, Z a = some ob → h.get? a = some o → h'.get? a = some o) : SRel w Z' W' h' o' v U := by
  cases U with
  | itf ks =>
    obtain ⟨a, oz, ws, e1, e2, ⟨ob, es, ep, g, r⟩, e4⟩ := x
    exact ⟨a, oz, ws, e1, hz _ _ e2, ⟨ob, es, ep, hh _ _ _ e2 g, r⟩, e4⟩
  | d y => exact x.plainMono rfl hz hw
  | scr ns => exact x.plainMono rfl hz hw
  | ix i => exact x.plainMono rfl hz hw
  | row => exact x.plainMono rfl hz hw
  | _ => cases hp

/-- the tests of one comprehension -/
def WC (w : World) (h₀ : Heap) (Γ : Cx) (st : St) : List Expr → (Bool → St → Prop) → Prop
  | [], Φ => Φ true st
  | [t], Φ => WT w h₀ Γ st t Φ (fun _ _ => False)
  | _, _ => False

/-- one turn -/
def Turn (w : World) (h₀ : Heap) (Γc : Cx) (x : Str) (ifs : List Expr) (elt : Expr) (xs : List PyData) (J : List PyData → List PyData → St → Prop) : Prop :=
  ∀ pre d post ds st₂, xs = pre ++ d :: post → J pre ds st₂ → ∃ mu', SetV st₂.mu x (.d d) mu' ∧ WC w h₀ Γc ⟨mu', st₂.row⟩ ifs (fun b st₃ =>
    if b then WE w h₀ Γc st₃ elt (fun U st₄ => ∃ e, U = .d e ∧ J (pre ++ [d]) (ds ++ [e]) st₄) (fun _ _ => False) else J (pre ++ [d]) ds st₃)

def Wk (W : WM) (I D C : Addr) : WM := upd (upd (upd (Wr W) I (some .iter)) D (some .iter)) C (some .fr)
theorem Wk_cases {W : WM} {I D C a : Addr} {ρ : Role} (h : Wk W I D C a = some ρ) : (a = C ∧ ρ = .fr) ∨ (a = D ∧ ρ = .iter) ∨ (a = I ∧ ρ = .iter) ∨ (a ≠ C ∧ a ≠ D ∧ a ≠ I ∧ Wr W a = some ρ) := by
  unfold Wk at h
  by_cases h1 : a = C
  · subst h1; rw [upd_same] at h; cases h; exact .inl ⟨rfl, rfl⟩
  · rw [upd_ne h1] at h
    by_cases h2 : a = D
    · subst h2; rw [upd_same] at h; cases h; exact .inr (.inl ⟨rfl, rfl⟩)
    · rw [upd_ne h2] at h
      by_cases h3 : a = I
      · subst h3; rw [upd_same] at h; cases h; exact .inr (.inr (.inl ⟨rfl, rfl⟩))
      · rw [upd_ne h3] at h; exact .inr (.inr (.inr ⟨h1, h2, h3, h⟩))

/-- what holds at the head of a turn of a comprehension's loop -/
inductive CInv (w : World) (h₀ : Heap) (Γc : Cx) (ce : Env) (A : Around) (l : List Env) (hE : Heap) (Z₀ : ZM) (I D C : Addr) (W : WM) (xs : List PyData) (Sx : Nat → Heap → Prop) (J : List PyData → List PyData → St → Prop) (s : Shared) : Nat → Shared → Prop
  | mk (pre post ds : List PyData) (vs : List Value) (n : Nat) (st' : St) (Z' : ZM) (W' : WM) (h' : Heap) (tk : Nat) (hxs : xs = pre ++ post) (hR : Rel w h₀ Γc ce l hE Z₀ Z' W' st' h') (hI : W' I = some .iter) (hD : W' D = some .iter) (hC : W' C = some .fr)
      (hr : ∀ a, W' a = some .row ↔ Wr W a = some .row) (hl : h'.get? D = some (listOf vs.toArray n)) (hf : FDs Z' vs ds) (hIt : Itr w A Z' I xs Sx) (hS : Sx pre.length h') (hn : ds.length ≤ pre.length) (hJ : J pre ds st') :
    CInv w h₀ Γc ce A l hE Z₀ I D C W xs Sx J s post.length { s with heap := h', toks := tk }
theorem comp_start {Γc : Cx} {x : Str} {px : Pos} {ifs : List Expr} {elt iter : Expr} {scope : Scope} {pos : Pos} {capmu : List (Str × V)} {A : Around} {env : Env} {l : List Env} {hE : Heap} {Z₀ Z : ZM} {W : WM} {s : Shared} {E : Value → Shared → Prop} {I : Addr} {xs : List PyData} {Sx : Nat → Heap → Prop} {J : List PyData → List PyData → St → Prop}
    {RR : Value → Addr → Result → Shared → Prop}
    (hA : AOk Γ.rank A) (hl : A.frames = some l) (hO : EnvOk Γ env) (hR : Rel w h₀ Γ env l hE Z₀ Z W st s.heap) (hI : W I = some .iter) (hIt : Itr w A Z I xs Sx) (hS : Sx 0 s.heap)
    (hB : ccB Γ Γc scope.names x) (hkind : scope.kind = .function) (hrk : Γc.rank = Γ.rank) (hlocs : Γc.locs = [x]) (hcells : Γc.cells = []) (hcn : capmu.map (·.1) = Γc.frees) (hcaps : Caps st.mu capmu)
    (hlen : xs.length ≤ sizeLine) (hJ : J [] [] ⟨(x, .un) :: capmu, st.row⟩) (hT : Turn w h₀ Γc x ifs elt xs J)
    (hRR : ∀ D C h' tk ds vs n st' Z' W' m, J xs ds st' → Rel w h₀ Γ env l hE Z₀ Z' (Wj (upd W I none) W') ⟨st.mu, st'.row⟩ h' → LeE Z (upd W I none) s.heap Z' (Wj (upd W I none) W') h' → FDs Z' vs ds → ds.length ≤ xs.length → D ≠ C → h'.get? D = some (listOf vs.toArray n) → h'.Ns C m →
      s.heap.objs.size ≤ D → s.heap.objs.size ≤ C → Z' D = none → Z' C = none → Wj (upd W I none) W' D = none → Wj (upd W I none) W' C = none → RR (.ref D) C (.ok .next) { s with heap := h', toks := tk }) :
    wpAny (model pg w) A (newList []) (fun acc s₃ => wpAny (model pg w) A (newFunctionEnv scope env.globals (clFrom env scope.names []) [] env.qual none .none (some env)) (fun cenv s₄ =>
      codeAny (model pg w) A (.compStart (.ListComp elt [⟨.Name x px, iter, ifs, 0⟩] scope pos) 0 (.ref I) acc { cenv with scope := PySem.relabel scope env }) (RR acc cenv.locals) s₄) E s₃) E s := by
  obtain ⟨b1, b2, b3, b4, b5, b6, b7, b8⟩ := of_decide_eq_true hB
  have c := hR.core
  refine wpAny_newObj_type (wpAny_newFunctionEnv b2 (by intro y hy; simp at hy) (fun h₁ hns₁ hsb₁ => ?_) hkind)
  dsimp only at hns₁ hsb₁ ⊢
  generalize hH2 : s.heap.push { cls := .type "list", dict := none, data := .seq ([] : List Value).toArray } = H2 at hns₁ hsb₁ ⊢
  have hC : H2.objs.size = s.heap.objs.size + 1 := by rw [← hH2, Heap.size_push]
  have hDC : s.heap.objs.size ≠ H2.objs.size := by rw [hC]; exact Nat.ne_of_lt (Nat.lt_succ_self _)
  have hCle : s.heap.objs.size ≤ H2.objs.size := by rw [hC]; exact Nat.le_succ _
  have old : ∀ b o, s.heap.get? b = some o → h₁.get? b = some o := fun b o e => hsb₁.extBut b o (by rw [hC]; exact Nat.ne_of_lt (Nat.lt_succ_of_lt (Heap.lt_size e))) (Heap.get?_push_of_some _ (hH2 ▸ Heap.get?_push_of_some _ e))
  have hD₁ : h₁.get? s.heap.objs.size = some (listOf ([] : List Value).toArray 0) := hsb₁.extBut _ _ hDC (Heap.get?_push_of_some _ (hH2 ▸ Heap.get?_push_size _ rfl))
  generalize hDn : s.heap.objs.size = D at *
  generalize hCn : H2.objs.size = C at *
  have hIa : ∃ o, s.heap.get? I = some o := (c.dj I _ hI).2
  have hIz : Z I = none := (c.dj I _ hI).1
  have hIE : hE.get? I = none := c.wf I _ hI (by nofun)
  have hIlt : I < D := by obtain ⟨o, ho⟩ := hIa; rw [← hDn]; exact Heap.lt_size ho
  have hID : I ≠ D := Nat.ne_of_lt hIlt
  have hIC : I ≠ C := Nat.ne_of_lt (Nat.lt_of_lt_of_le hIlt hCle)
  have outz : ∀ a, D ≤ a → Z a = none ∧ W a = none := fun a ha => hR.dom (by rw [hDn]; exact ha)
  have ncap : ∀ {a}, (∀ y, W a ≠ some (.cell y)) → Mine.Zc Γ env Z s.heap a = Z a := fun {a} n => by
    unfold Mine.Zc
    cases hc : Mine.capd Γ env a with
    | false => rfl
    | true => obtain ⟨y, _, e, _⟩ := hR.vars.capd hc; exact absurd e (n y)
  have zcI : Mine.Zc Γ env Z s.heap I = none := (ncap (by rw [hI]; nofun)).trans hIz
  have zcout : ∀ a, D ≤ a → Mine.Zc Γ env Z s.heap a = none := fun a ha => (ncap (by rw [(outz a ha).2]; nofun)).trans (outz a ha).1
  have zcZ : ∀ a o, Z a = some o → Mine.Zc Γ env Z s.heap a = some o := fun a o e => (ncap (by rw [c.zw a o e]; nofun)).trans e
  have zcs : ∀ a o, Mine.Zc Γ env Z s.heap a = some o → s.heap.get? a = some o ∧ a ≠ I := fun a o e => by
    refine ⟨?_, fun q => by rw [q, zcI] at e; cases e⟩
    unfold Mine.Zc at e
    split at e
    · exact e
    · exact c.zin a o e
  have hb : ∀ b o, s.heap.get? b = some o → b ≠ I → (s.heap.hide I).get? b = some o := fun b o e n => (Heap.hide_ne _ n).trans e
  have rowk : ∀ a, Mine.Wk W I D C a = some .row ↔ Wr W a = some .row := fun a => by
    constructor
    · intro e
      rcases Wk_cases e with ⟨_, e⟩ | ⟨_, e⟩ | ⟨_, e⟩ | ⟨_, _, _, e⟩
      · cases e
      · cases e
      · cases e
      · exact e
    · intro e
      have e' := (Wr_row.mp e).1
      have h1 : a < D := by obtain ⟨_, o, ho⟩ := c.dj a _ e'; rw [← hDn]; exact Heap.lt_size ho
      unfold Mine.Wk
      rw [upd_ne (Nat.ne_of_lt (Nat.lt_of_lt_of_le h1 hCle)), upd_ne (Nat.ne_of_lt h1), upd_ne (fun q => by rw [q, hI] at e'; cases e')]
      exact e
  have wkI : Mine.Wk W I D C I = some .iter := by unfold Mine.Wk; rw [upd_ne hIC, upd_ne hID, upd_same]
  have wkD : Mine.Wk W I D C D = some .iter := by unfold Mine.Wk; rw [upd_ne hDC, upd_same]
  have wkC : Mine.Wk W I D C C = some .fr := by unfold Mine.Wk; rw [upd_same]
  have core : Core h₀ (s.heap.hide I) (Mine.Zc Γ env Z s.heap) (Mine.Zc Γ env Z s.heap) (Mine.Wk W I D C) st.row h₁ := {
    base := fun a o e => zcZ a o (c.zbase a o e)
    zE := fun a o e => hb a o (zcs a o e).1 (zcs a o e).2
    z0 := fun _ _ e => e
    zin := fun a o e => old a o (zcs a o e).1
    zf := fun _ _ e => .inl e
    dj := fun a ρ e => by
      rcases Wk_cases e with ⟨rfl, _⟩ | ⟨rfl, _⟩ | ⟨rfl, _⟩ | ⟨_, _, _, e⟩
      · obtain ⟨o, _, _, g, _⟩ := hns₁
        exact ⟨zcout _ hCle, o, g⟩
      · exact ⟨zcout _ (Nat.le_refl _), _, hD₁⟩
      · obtain ⟨o, ho⟩ := hIa
        exact ⟨zcI, o, old _ _ ho⟩
      · cases (Wr_only a ρ e).1
        have e' := (Wr_row.mp e).1
        obtain ⟨z, o, ho⟩ := c.dj a _ e'
        exact ⟨(ncap (by rw [e']; nofun)).trans z, o, old _ _ ho⟩
    wf := fun a ρ e n => by
      have out : ∀ a, D ≤ a → (s.heap.hide I).get? a = none := fun a ha => by
        cases q : (s.heap.hide I).get? a with
        | none => rfl
        | some o => exact absurd (Heap.lt_size (Heap.of_hide q)) (Nat.not_lt.mpr (by rw [hDn]; exact ha))
      rcases Wk_cases e with ⟨rfl, _⟩ | ⟨rfl, _⟩ | ⟨rfl, _⟩ | ⟨_, _, _, e⟩
      · exact out _ hCle
      · exact out _ (Nat.le_refl _)
      · exact Heap.hide_self _ _
      · exact absurd (Wr_only a ρ e).1 n
    wfr := fun a e => by
      rcases Wk_cases e with ⟨rfl, _⟩ | ⟨_, e⟩ | ⟨_, e⟩ | ⟨_, _, _, e⟩
      · rw [Heap.hide_size, hDn]; exact hCle
      · cases e
      · cases e
      · exact absurd (Wr_only a _ e).1 nofun
    wf0 := fun a ρ e n => by
      rcases Wk_cases e with ⟨rfl, _⟩ | ⟨rfl, _⟩ | ⟨rfl, _⟩ | ⟨_, _, _, e⟩
      · exact c.far (by rw [hDn]; exact hCle)
      · exact c.far (by rw [hDn]; exact Nat.le_refl _)
      · exact c.wf0 _ _ hI nofun
      · exact absurd (Wr_only a ρ e).1 n
    h0 := by rw [Heap.hide_size]; exact Nat.le_trans c.h0 c.grow
    kept := fun b o e _ => old b o (Heap.of_hide e)
    grow := by
      obtain ⟨o, _, _, g, _⟩ := hns₁
      rw [Heap.hide_size, hDn]; exact Nat.le_trans hCle (Nat.le_of_lt (Heap.lt_size g))
    row := fun a e hn => by
      obtain ⟨us, n, g, i⟩ := c.row a (Wr_row.mp ((rowk a).mp e)).1 hn
      exact ⟨us, n, old _ _ g, i⟩
    row1 := fun a b e e' n n' => c.row1 a b (Wr_row.mp ((rowk a).mp e)).1 (Wr_row.mp ((rowk b).mp e')).1 n n'
    tab := fun e => absurd rfl (Wr_row.mp ((rowk _).mp e)).2 }
  have hrl : ∀ y, (PySem.relabel scope env).names.lookup y = (scope.names.lookup y).map fun k => if (k == .free && env.scope.kind == .function && env.kindOf y == some .cell) then NameKind.cell else k := fun y => lookup_rel scope.names
  have hOc : EnvOk Γc (compEnvC scope (clFrom env scope.names []) C env) := {
    kind := hkind
    glob := hO.glob
    bi := hO.bi
    locs := fun y hy => by
      rw [hlocs] at hy
      rw [List.mem_singleton.mp hy]
      refine (hrl x).trans ?_
      rw [b1]; rfl
    cells := fun y hy => by rw [hcells] at hy; cases hy
    globs := fun y hy => by
      refine (hrl y).trans ?_
      rw [b6 y hy]; rfl
    debug := b7
    nodup := b8
    top := fun t => by unfold tabCx at t; rw [hcells] at t; cases t }
  have hcap : ∀ p ∈ capmu, p.1 ∈ Γc.frees := fun p hp => by rw [← hcn]; exact List.mem_map_of_mem (f := (·.1)) hp
  have vars : Vars w Γc (compEnvC scope (clFrom env scope.names []) C env) (Mine.Zc Γ env Z s.heap) (Mine.Wk W I D C) h₁ ((x, .un) :: capmu) := by
    refine ⟨?_, wkC, ⟨_, hns₁, fun p hp => ?_⟩, fun y hy => by rw [hcells] at hy; cases hy⟩
    · rw [List.map_cons, hcn]; unfold Cx.names; rw [hlocs, hcells]; rfl
    · rcases List.mem_cons.mp hp with rfl | hp
      · exact .inl rfl
      · obtain ⟨hp', hst⟩ := hcaps.of p hp
        obtain ⟨hf, hcl⟩ := b5 _ (hcap p hp)
        obtain ⟨m, hm1, hm2⟩ := hR.vars.ns
        rcases hm2 p hp' with e | ⟨v, hh, hs⟩
        · rw [e] at hst; cases hst
        · refine .inr ⟨v, ?_, hs.stayMono hst zcZ (fun a e n => (rowk a).mpr (Wr_row.mpr ⟨e, n⟩)) (fun a _ o _ e => old a o e)⟩
          have kc := hO.cells _ hcl
          rcases hh with ⟨k, _⟩ | ⟨_, c', e1, e2, e3⟩
          · rw [kc] at k; cases k
          · refine .inr ⟨.inl ?_, c', ?_, e2.keeps old, .inr ?_⟩
            · refine (hrl p.1).trans ?_
              rw [hf, kc, hO.kind]; rfl
            · exact (clFrom_at _ _ (.inl hf) ⟨_, e1⟩).trans e1
            · obtain ⟨o, ho, _⟩ := e2
              refine ⟨o, ?_⟩
              have hcp : Mine.capd Γ env c' = true := by unfold Mine.capd; exact List.any_eq_true.mpr ⟨p.1, hcl, decide_eq_true e1⟩
              unfold Mine.Zc
              rw [if_pos hcp]
              exact ho
  have frs : FrSt l (s.heap.hide I) (Mine.Wk W I D C) C := fun fe hfe => by
    obtain ⟨k, b, e, q⟩ := hR.frs.1 fe hfe
    refine ⟨k, b, e, .inr ?_⟩
    have nt : Mine.Wk W I D C tabA ≠ some .row := fun q => (Wr_row.mp ((rowk _).mp q)).2 rfl
    rcases q with rfl | ⟨o, q1, q2, q3, _⟩
    · obtain ⟨m, ⟨o, es, ep, g, gd, _⟩, _⟩ := hR.vars.ns
      refine ⟨o, hb _ _ g (by intro q; have := hR.vars.fr; rw [q, hI] at this; cases this), (fun vs q => by rw [gd] at q; cases q), fun q => ?_, nt⟩
      have := (Wr_row.mp ((rowk _).mp q)).1; rw [hR.vars.fr] at this; cases this
    · exact ⟨o, hb _ _ (c.kept _ _ q1 q3) (fun q => by rw [q, hIE] at q1; cases q1), q2, fun q => q3 (Wr_row.mp ((rowk _).mp q)).1, nt⟩
  have hRc : Rel w h₀ Γc (compEnvC scope (clFrom env scope.names []) C env) l (s.heap.hide I) (Mine.Zc Γ env Z s.heap) (Mine.Zc Γ env Z s.heap) (Mine.Wk W I D C) ⟨(x, .un) :: capmu, st.row⟩ h₁ := ⟨core, vars, frs, fun t => by unfold tabCx at t; rw [hcells] at t; cases t⟩
  have hItc : Itr w A (Mine.Zc Γ env Z s.heap) I xs Sx := hIt.mono zcZ
  have hS₁ : Sx 0 h₁ := by
    obtain ⟨⟨fp, P, Wx, hfp, hP⟩, hal⟩ := hIt
    refine Wx.frame _ _ _ hS fun b hb' o e => old b o e
  have hAc : AOk Γc.rank A := by rw [hrk]; exact hA
  have loop : ∀ s₃ : Shared, s₃ = { s with heap := h₁, toks := s.toks + ([] : List (Str × Value)).length } →
      codeAny (model pg w) A (.compLoop (.ListComp elt [⟨.Name x px, iter, ifs, 0⟩] scope pos) 0 (.ref I) (.ref D) (compEnvC scope (clFrom env scope.names []) C env)) (RR (.ref D) C) s₃ := by
    rintro s₃ rfl
    refine codeAny_compLoop_tests (CInv w h₀ Γc (compEnvC scope (clFrom env scope.names []) C env) A l (s.heap.hide I) (Mine.Zc Γ env Z s.heap) I D C W xs Sx J s) ?_ xs.length
      (.mk [] xs [] [] 0 _ _ _ h₁ _ rfl hRc wkI wkD wkC rowk hD₁ .nil hItc hS₁ (Nat.le_refl _) hJ)
    rintro k s' ⟨pre, post, ds, vs, n, st₂, Z₂, W₂, h₂, tk₂, hxs, hR₂, hI₂, hD₂, hC₂, hr₂, hl₂, hf₂, hIt₂, hS₂, hn₂, hJ₂⟩
    obtain ⟨⟨fp, P, Wx, hfp, hP⟩, hal⟩ := id hIt₂
    have nD : D ∉ [I] := fun m => hID (List.mem_singleton.mp m).symm
    cases post with
    | nil =>
      have hplen : pre.length = xs.length := by rw [hxs]; simp
      rw [hplen] at hS₂
      refine Wx.done _ _ _ hS₂ fun h' tk hk => ?_
      have hR₃ := hR₂.ended hI₂ hk
      have c₃ := hR₃.core
      have rI' : ∀ a, upd W₂ I none a = some .row ↔ W₂ a = some .row := fun a => by
        by_cases hb : a = I
        · rw [hb, upd_same, hI₂]; exact ⟨nofun, nofun⟩
        · rw [upd_ne hb]
      have c₄ : Core h₀ (s.heap.hide I) Z (fun a => if Mine.capd Γ env a then none else Z₂ a) (upd W₂ I none) st₂.row h' := {
        base := c.zbase
        zE := fun a o e => hb a o (c.zin a o e) (fun q => by rw [q, hIz] at e; cases e)
        z0 := fun a o e => by
          have h1 := c₃.z0 a o (zcZ a o e)
          have h2 : Mine.capd Γ env a = false := by
            cases hc : Mine.capd Γ env a with
            | false => rfl
            | true => obtain ⟨y, _, e', _⟩ := hR.vars.capd hc; rw [c.zw a o e] at e'; cases e'
          rw [h2]; exact h1
        zin := fun a o e => by
          split at e
          · cases e
          · exact c₃.zin a o e
        zf := fun a o e => by
          split at e
          · cases e
          · rename_i hc
            rcases c₃.zf a o e with q | q
            · unfold Mine.Zc at q; rw [if_neg hc] at q; exact .inl q
            · exact .inr q
        dj := fun a ρ e => by
          obtain ⟨z, r⟩ := c₃.dj a ρ e
          exact ⟨by rw [z]; simp, r⟩
        wf := c₃.wf
        wfr := c₃.wfr
        wf0 := c₃.wf0
        h0 := c₃.h0
        kept := c₃.kept
        grow := c₃.grow
        row := c₃.row
        row1 := c₃.row1
        tab := fun e => absurd rfl (Wr_row.mp ((hr₂ _).mp ((rI' _).mp e))).2 }
      have hRp := hR.ended (h' := s.heap) hI (fun _ _ _ e => e)
      have rI : ∀ {V : WM} a, V I ≠ some .row → (upd V I none a = some .row ↔ V a = some .row) := fun {V} a n => by
        by_cases hb : a = I
        · rw [hb, upd_same]; exact ⟨fun q => (nomatch q), fun q => absurd q n⟩
        · rw [upd_ne hb]
      obtain ⟨hRf, hLf, _⟩ := hRp.called c₄ (fun a => by
        rw [rI a (by rw [hI₂]; nofun), hr₂ a, Wr_row, Wr_row, rI a (by rw [hI]; nofun)]) hIE (upd_same _ _ _) hIz hb (Nat.le_of_eq (Heap.hide_size _ _).symm)
      have z2 : ∀ {a}, W₂ a = some .iter ∨ W₂ a = some .fr → (if Mine.capd Γ env a then none else Z₂ a) = none := fun {a} q => by
        have : Z₂ a = none := by rcases q with q | q <;> exact (hR₂.core.dj _ _ q).1
        rw [this]; simp
      have wj : ∀ {a ρ}, W₂ a = some ρ → ρ ≠ .own none → D ≤ a → Wj (upd W I none) (upd W₂ I none) a = none := fun {a ρ} q n ha => by
        have hw : upd W I none a = none := by
          by_cases hb : a = I
          · rw [hb, upd_same]
          · rw [upd_ne hb]; exact (outz a ha).2
        unfold Wj
        rw [hw]
        dsimp only
        rw [if_neg]
        by_cases hb : a = I
        · rw [hb, upd_same]; nofun
        · rw [upd_ne hb, q]; intro z; cases z; exact n rfl
      obtain ⟨m, hm, _⟩ := hR₃.vars.ns
      refine hRR D C h' tk ds vs n st₂ _ _ m (by rw [hxs, List.append_nil]; exact hJ₂) hRf hLf (hf₂.cut fun a o us k e ed => ?_) (by rw [← hplen]; exact hn₂) hDC (hk _ _ nD hl₂) hm (Nat.le_refl _) hCle (z2 (.inl hD₂)) (z2 (.inr hC₂)) (wj hD₂ nofun (Nat.le_refl _)) (wj hC₂ nofun hCle)
      cases hc : Mine.capd Γ env a with
      | false => exact e
      | true =>
        obtain ⟨y, v, e1, oc, e2, e3⟩ := hR.vars.capd hc
        have : Mine.Zc Γ env Z s.heap a = some oc := by unfold Mine.Zc; rw [if_pos hc]; exact e2
        have := hR₂.core.z0 _ _ this
        rw [e] at this; cases this
        rw [ed] at e3; cases e3
    | cons d post =>
      have hi : pre.length < xs.length := by rw [hxs]; simp
      refine Wx.item _ _ _ _ hi hS₂ fun v h₃ tk₃ hp hS₃ hk => ?_
      obtain ⟨d', hd', hfd⟩ := hP _ _ hi hp
      have : d' = d := by rw [hxs] at hd'; simpa using hd'.symm
      subst this
      have hR₃ := hR₂.turned hI₂ hk (hal _ _ hS₃)
      have hl₃ := hk _ _ nD hl₂
      obtain ⟨mu', hSet, hbody⟩ := hT pre d' post ds st₂ hxs hJ₂
      refine wpAny_assign_Name (store_name (s := { s with heap := h₃, toks := tk₃ }) hOc hR₃ hSet (.inl (by rw [hlocs]; exact .head _)) hfd fun h₄ tk₄ hR₄ hL₄ => ?_)
      have plen : (pre ++ [d']).length = pre.length + 1 := by simp
      have next : ∀ {Z₅ W₅ h₅ tk₅ st₅ ds' vs' n'}, Rel w h₀ Γc (compEnvC scope (clFrom env scope.names []) C env) l (s.heap.hide I) (Mine.Zc Γ env Z s.heap) Z₅ W₅ st₅ h₅ →
          (∀ a o, Z₂ a = some o → Z₅ a = some o) → W₅ I = some .iter → W₅ D = some .iter → W₅ C = some .fr → (∀ a, W₅ a = some .row ↔ Wr W a = some .row) → h₅.get? I = h₃.get? I → h₅.get? D = some (listOf vs'.toArray n') → FDs Z₅ vs' ds' → ds'.length ≤ pre.length + 1 → J (pre ++ [d']) ds' st₅ →
          ∃ m, m < (d' :: post).length ∧ CInv w h₀ Γc (compEnvC scope (clFrom env scope.names []) C env) A l (s.heap.hide I) (Mine.Zc Γ env Z s.heap) I D C W xs Sx J s m ({ s with heap := h₅, toks := tk₅ } : Shared) := by
        intro Z₅ W₅ h₅ tk₅ st₅ ds' vs' n' q1 q2 q3 q4 q5 q6 q7 q8 q9 q10 q11
        refine ⟨post.length, by simp, .mk (pre ++ [d']) post ds' vs' n' st₅ Z₅ W₅ h₅ tk₅ (by rw [hxs]; simp) q1 q3 q4 q5 q6 q8 q9 (hIt₂.mono q2) ?_ (by rw [plen]; exact q10) q11⟩
        rw [plen]
        refine Wx.frame _ _ _ hS₃ fun b hb o ho => ?_
        rcases hfp b hb with rfl | ⟨oz, hz⟩
        · rw [q7]; exact ho
        · rw [hR₃.core.zin _ _ hz] at ho; cases ho
          exact q1.core.zin _ _ (q2 _ _ hz)
      have hI₄ : Mine.relabel x W₂ I = some .iter := relabel_of hI₂ nofun
      have hD₄ : Mine.relabel x W₂ D = some .iter := relabel_of hD₂ nofun
      have hC₄ : Mine.relabel x W₂ C = some .fr := relabel_of hC₂ nofun
      have hr₄ : ∀ a, Mine.relabel x W₂ a = some .row ↔ Wr W a = some .row := fun a => relabel_row.trans (hr₂ a)
      have gI₄ : h₄.get? I = h₃.get? I := hL₄.it _ hI₂
      have gD₄ : h₄.get? D = some (listOf vs.toArray n) := (hL₄.it _ hD₂).trans hl₃
      -- after the tests
      have turn : ∀ b st₅ Z₅ W₅ h₅ tk₅, (if b = true then WE w h₀ Γc st₅ elt (fun U st₄ => ∃ e, U = .d e ∧ J (pre ++ [d']) (ds ++ [e]) st₄) (fun _ _ => False) else J (pre ++ [d']) ds st₅) →
          Rel w h₀ Γc (compEnvC scope (clFrom env scope.names []) C env) l (s.heap.hide I) (Mine.Zc Γ env Z s.heap) Z₅ W₅ st₅ h₅ → LeE Z₂ (Mine.relabel x W₂) h₄ Z₅ W₅ h₅ →
          (if b = true then wpAny (model pg w) A (eval elt (compEnvC scope (clFrom env scope.names []) C env)) (fun x s₄ =>
              wpAny (model pg w) A (call (.builtin "list.append") [.ref D, x]) (fun _ s₅ => ∃ m, m < (d' :: post).length ∧ CInv w h₀ Γc (compEnvC scope (clFrom env scope.names []) C env) A l (s.heap.hide I) (Mine.Zc Γ env Z s.heap) I D C W xs Sx J s m s₅) (notedBy (model pg w) A (compEnvC scope (clFrom env scope.names []) C env) fun e s' => RR (.ref D) C (.error e) s') s₄) (notedBy (model pg w) A (compEnvC scope (clFrom env scope.names []) C env) fun e s' => RR (.ref D) C (.error e) s') { s with heap := h₅, toks := tk₅ }
            else ∃ m, m < (d' :: post).length ∧ CInv w h₀ Γc (compEnvC scope (clFrom env scope.names []) C env) A l (s.heap.hide I) (Mine.Zc Γ env Z s.heap) I D C W xs Sx J s m ({ s with heap := h₅, toks := tk₅ } : Shared)) := by
        intro b st₅ Z₅ W₅ h₅ tk₅ hb₅ hR₅ hL₅
        have gD₅ : h₅.get? D = some (listOf vs.toArray n) := (hL₅.same _ _ hD₄ nofun).trans gD₄
        have gI₅ : h₅.get? I = h₃.get? I := (hL₅.same _ _ hI₄ nofun).trans gI₄
        have hr₅ : ∀ a, W₅ a = some .row ↔ Wr W a = some .row := fun a => ⟨fun q => (hr₄ a).mp (hL₅.rb a q), fun q => hL₅.w a _ ((hr₄ a).mpr q)⟩
        cases b with
        | false => exact next hR₅ hL₅.z (hL₅.w _ _ hI₄) (hL₅.w _ _ hD₄) (hL₅.w _ _ hC₄) hr₅ gI₅ gD₅ (hf₂.mono hL₅.z) (by omega) hb₅
        | true =>
          refine hb₅ A _ l _ _ Z₅ W₅ { s with heap := h₅, toks := tk₅ } _ _ hAc hl hOc hR₅ ?_ (fun _ _ _ _ _ q => q.elim)
          rintro v U st₆ Z₆ W₆ h₆ tk₆ ⟨e, rfl, hJ₆⟩ hR₆ hL₆ hv
          have hD₆ := hL₆.w _ _ (hL₅.w _ _ hD₄)
          have gD₆ : h₆.get? D = some (listOf vs.toArray n) := (hL₆.same _ _ (hL₅.w _ _ hD₄) nofun).trans gD₅
          have gI₆ : h₆.get? I = h₃.get? I := (hL₆.same _ _ (hL₅.w _ _ hI₄) nofun).trans gI₅
          have fl := hf₂.length
          refine append_at (its := vs.toArray) (n := n) gD₆ (fun h₇ hs₇ ho₇ => ?_) (by rw [List.size_toArray]; omega)
          have zz : ∀ a o, Z₂ a = some o → Z₆ a = some o := fun a o q => hL₆.z a o (hL₅.z a o q)
          refine next (vs' := vs ++ [v]) (n' := n + 1) (hR₆.turned hD₆ (fun b o hb q => (hs₇.2 b fun z => hb (by rw [z]; exact .head _)).trans q) ⟨_, ho₇⟩) zz (hL₆.w _ _ (hL₅.w _ _ hI₄)) hD₆ (hL₆.w _ _ (hL₅.w _ _ hC₄)) (fun a => ⟨fun q => (hr₅ a).mp (hL₆.rb a q), fun q => hL₆.w a _ ((hr₅ a).mpr q)⟩)
            ((hs₇.2 I hID).trans gI₆) (by rw [ho₇]; simp) ((hf₂.mono zz).append (.cons hv .nil)) (by simp; omega) hJ₆
      cases ifs with
      | nil =>
        refine wpAny_tests_nil ?_
        exact turn true _ Z₂ _ h₄ tk₄ hbody hR₄ (LeE.refl _ _ _)
      | cons t r => cases r with
        | nil =>
          refine wpAny_tests_one ?_
          refine hbody A _ l _ _ Z₂ _ { s with heap := h₄, toks := tk₄ } _ _ hAc hl hOc hR₄ ?_ (fun _ _ _ _ _ q => q.elim)
          intro b st₅ Z₅ W₅ h₅ tk₅ hb₅ hR₅ hL₅
          exact turn b st₅ Z₅ W₅ h₅ tk₅ hb₅ hR₅ hL₅
        | cons _ _ => exact hbody.elim
  exact codeAny_compStart_list (loop _ rfl) (by
    obtain ⟨⟨fp, P, Wx, hfp, hP⟩, hal⟩ := hIt
    exact Wx.self 0 _ _ _ hS₁ (loop _ rfl))

/-- an object that nobody has a role for, frozen -/
theorem Rel.freezeFree {env : Env} {l : List Env} {hE h : Heap} {Z₀ Z : ZM} {W : WM} {a : Addr} {o : Obj} (hR : Rel w h₀ Γ env l hE Z₀ Z W st h) (hz : Z a = none) (hw : W a = none) (hE' : hE.get? a = none) (ho : h.get? a = some o) :
    Rel w h₀ Γ env l hE Z₀ (upd Z a (some o)) W st h ∧ LeE Z W h (upd Z a (some o)) W h := by
  have c := hR.core.freeze hz ho hE' (by rw [hw]; nofun)
  rw [upd_none hw] at c
  have zm : ∀ b ob, Z b = some ob → upd Z a (some o) b = some ob := fun b ob e => by rw [upd_ne (by rintro rfl; rw [hz] at e; cases e)]; exact e
  exact ⟨⟨c, hR.vars.zk zm, hR.frs⟩, ⟨zm, fun _ _ e => e, fun _ _ _ _ => rfl, fun _ e => e⟩⟩
/-- a place without a role changes -/
theorem Rel.sameOff {env : Env} {l : List Env} {hE h h' : Heap} {Z₀ Z : ZM} {W : WM} {a : Addr} (hR : Rel w h₀ Γ env l hE Z₀ Z W st h) (hz : Z a = none) (hw : W a = none) (hE' : hE.get? a = none) (hs : Heap.SameBut a h h') :
    Rel w h₀ Γ env l hE Z₀ Z W st h' ∧ LeE Z W h Z W h' := by
  have c := hR.core
  have kw : ∀ {b ρ}, W b = some ρ → h'.get? b = h.get? b := fun {b ρ} q => hs.2 b (by rintro rfl; rw [hw] at q; cases q)
  refine ⟨⟨{ base := c.base, zE := c.zE, z0 := c.z0, zin := fun b o e => ?_, zf := c.zf, dj := fun b ρ e => ?_, wf := c.wf, wfr := c.wfr, wf0 := c.wf0, h0 := c.h0, kept := fun b o e n => ?_, grow := ?_, row := fun b e hn => ?_, row1 := c.row1, tab := fun e => (c.tab e).keep (fun _ _ z => z) fun o g => (kw e).trans g }, hR.vars.back (fun b o e n m => ?_) c.zw, hR.frs⟩, ⟨fun _ _ e => e, fun _ _ e => e, fun b _ e _ => kw e, fun _ e => e⟩⟩
  · exact (hs.2 b (by rintro rfl; rw [hz] at e; cases e)).trans (c.zin b o e)
  · obtain ⟨z, o, ho⟩ := c.dj b ρ e
    exact ⟨z, o, (kw e).trans ho⟩
  · exact (hs.2 b (by rintro rfl; rw [hE'] at e; cases e)).trans (c.kept b o e n)
  · rw [hs.1]; exact c.grow
  · obtain ⟨us, n, g, i⟩ := c.row b e hn
    exact ⟨us, n, (kw e).trans g, i⟩
  · refine (hs.2 b ?_).trans e
    rintro rfl
    rcases m with m | m
    · exact m hw
    · exact m hz
theorem Rel.addIter {env : Env} {l : List Env} {hE h : Heap} {Z₀ Z : ZM} {W : WM} {a : Addr} {o : Obj} (hR : Rel w h₀ Γ env l hE Z₀ Z W st h) (hz : Z a = none) (hw : W a = none) (hE' : hE.get? a = none) (h0' : h₀.objs.size ≤ a) (ho : h.get? a = some o) :
    Rel w h₀ Γ env l hE Z₀ Z (upd W a (some .iter)) st h ∧ LeE Z W h Z (upd W a (some .iter)) h := by
  have hup : ∀ b σ, W b = some σ → upd W a (some .iter) b = some σ := fun b σ e => by rw [upd_ne (by rintro rfl; rw [hw] at e; cases e)]; exact e
  have rb : ∀ b, upd W a (some .iter) b = some .row → W b = some .row := fun b e => by
    by_cases hb : b = a
    · subst hb; rw [upd_same] at e; cases e
    · rw [upd_ne hb] at e; exact e
  refine ⟨⟨hR.core.role hz ⟨_, ho⟩ hE' h0' nofun nofun (by rw [hw]; nofun), hR.vars.wk fun b σ e _ => hup b σ e, ⟨fun fe hfe => ?_, fun t => hup _ _ (hR.frs.2 t)⟩⟩, ⟨fun _ _ e => e, hup, fun _ _ _ _ => rfl, rb⟩⟩
  obtain ⟨k, b, e, q⟩ := hR.frs.1 fe hfe
  exact ⟨k, b, e, q.imp id fun ⟨o, q1, q2, q3, q4⟩ => ⟨o, q1, q2, fun z => q3 (rb _ z), fun z => q4 (rb _ z)⟩⟩
theorem LeE.drop {Z Z' : ZM} {W W₁ : WM} {h h' : Heap} {I : Addr} (hl : LeE Z W h Z' W₁ h') (hI : W I = none) : LeE Z W h Z' (upd W₁ I none) h' :=
  ⟨hl.z, fun a ρ e => by rw [upd_ne (by rintro rfl; rw [hI] at e; cases e)]; exact hl.w a ρ e, hl.same, fun a e => hl.rb a (by
    by_cases hb : a = I
    · rw [hb, upd_same] at e; cases e
    · rw [upd_ne hb] at e; exact e)⟩

/-- what a comprehension asks for -/
def WComp (w : World) (h₀ : Heap) (Γ : Cx) (st : St) (x : Str) (ifs : List Expr) (elt iter : Expr) (scope : Scope) (Φ : List PyData → St → Prop) (Ψ : Str → List Int → Prop) : Prop :=
  ∃ Γc : Cx, ccB Γ Γc scope.names x ∧ Γc.rank = Γ.rank ∧ Γc.locs = [x] ∧ Γc.cells = [] ∧
    WI w h₀ Γ st iter (fun xs st₁ => ∃ (capmu : List (Str × V)) (J : List PyData → List PyData → St → Prop), capmu.map (·.1) = Γc.frees ∧ Caps st₁.mu capmu ∧ xs.length ≤ sizeLine ∧ J [] [] ⟨(x, .un) :: capmu, st₁.row⟩ ∧ Turn w h₀ Γc x ifs elt xs J ∧
      ∀ ds st₂, J xs ds st₂ → ds.length ≤ xs.length → Φ ds ⟨st₁.mu, st₂.row⟩) Ψ

theorem WE.listComp {x : Str} {px : Pos} {ifs : List Expr} {elt iter : Expr} {scope : Scope} {pos : Pos} {Φ : V → St → Prop} (h : WComp w h₀ Γ st x ifs elt iter scope (fun ds st' => Φ (.d (.list ds)) st') Ψ) (hkind : scope.kind = .function := by rfl)
    (hs : ∀ env x, foldedSetIterable iter env x = pure x := by intro _ _; rfl) : WE w h₀ Γ st (.ListComp elt [⟨.Name x px, iter, ifs, 0⟩] scope pos) Φ Ψ := by
  intro A env l hE Z₀ Z W s Q E hA hl hO hR hQ hX
  obtain ⟨Γc, hB, e1, e2, e3, hI⟩ := h
  have hclo := closureFor_is (scope := scope) (env := env) fun p hp hk => by
    obtain ⟨c, q, _⟩ := hR.vars.cel _ ((of_decide_eq_true hB).2.2.2.1 p hp hk)
    exact ⟨c, q⟩
  rw [eval_ListComp]
  refine wpAny_comprehension_free (use := none) rfl (hs env) hclo hkind (of_decide_eq_true hB).2.2.1 (hI A env l hE Z₀ Z W s _ E hA hl hO hR ?_ hX)
  rintro I xs st₁ Z₁ W₁ h₁ tk₁ Sx ⟨capmu, J, g1, g2, g3, g4, g5, g6⟩ hR₁ hL₁ hI₁ hI0 hIt hS0
  refine comp_start (s := { s with heap := h₁, toks := tk₁ }) (RR := fun acc C => compPost (model pg w) A E none Q acc C) hA hl hO hR₁ hI₁ hIt hS0 hB hkind e1 e2 e3 g1 g2 g3 g4 g5 ?_
  intro D C h' tk ds vs n st' Z' W' m hJ hRf hLf hf hle hDC hD hC hsD hsC zD zC wD wC
  refine ⟨m, hC, fun h'' hs'' => ?_⟩
  obtain ⟨hR₂, hL₂⟩ := hRf.sameOff zC wC (hR₁.core.out hsC) hs''
  obtain ⟨hR₃, hL₃⟩ := hR₂.freezeFree zD wD (hR₁.core.out hsD) ((hs''.2 D hDC).trans hD)
  have hL := ((hL₁.drop hI0).trans hLf).trans (hL₂.trans hL₃)
  exact hQ _ _ _ _ _ _ _ (g6 ds st' hJ hle) hR₃ hL (.list (upd_same _ _ _) rfl rfl rfl (by simpa using hf.mono hL₃.z))

theorem WX.assignComp {y x : Str} {py px : Pos} {ifs : List Expr} {elt iter : Expr} {scope : Scope} {pos spos : Pos} {Φ : Fl → St → Prop} (hy : y ∈ Γ.locs)
    (h : WComp w h₀ Γ st x ifs elt iter scope (fun ds st' => ∃ mu', SetV st'.mu y (.d (.list ds)) mu' ∧ Φ .next ⟨mu', st'.row⟩) Ψ) (hnt : scope.names.any (fun p => p.1 == y && (p.2 == .local || p.2 == .cell)) = false) (hkind : scope.kind = .function := by rfl)
    (hline : (py.line == pos.line) = true := by rfl) (hs : ∀ env x, foldedSetIterable iter env x = pure x := by intro _ _; rfl) :
    WX w h₀ Γ st (.Assign [.Name y py] (.ListComp elt [⟨.Name x px, iter, ifs, 0⟩] scope pos) spos) Φ Ψ := by
  intro A env l hE Z₀ Z W s Q E hA hl hO hR hQ hX
  obtain ⟨Γc, hB, e1, e2, e3, hI⟩ := h
  have hclo := closureFor_is (scope := scope) (env := env) fun p hp hk => by
    obtain ⟨c, q, _⟩ := hR.vars.cel _ ((of_decide_eq_true hB).2.2.2.1 p hp hk)
    exact ⟨c, q⟩
  have hsw : swapsWith (.ListComp elt [⟨.Name x px, iter, ifs, 0⟩] scope pos) (some (.Name y py)) spos.line env = pure true := by
    show (pure (env.blockKind == .function && env.kindOf y == some .local && py.line == pos.line && !(scope.names.any fun (n, k) => n == y && (k == .local || k == .cell))) : Sem Bool) = _
    have hb : env.blockKind = .function := by unfold Env.blockKind; rw [hO.kind]; rfl
    rw [hb, hO.locs y hy, hline]
    have : (scope.names.any fun (n, k) => n == y && (k == .local || k == .cell)) = false := hnt
    rw [this]; rfl
  rw [exec_Assign_Name_used _ _ _ _ hsw]
  refine wpAny_bind (wpAny_standAt (wpAny_bind ?_))
  show wpAny _ A (do let _ ← comprehension (.ListComp elt [⟨.Name x px, iter, ifs, 0⟩] scope pos) scope env _ (newList []) false (eval iter env) (some (PySem.assign (.Name y py) env))) _ _ s
  refine wpAny_bind (wpAny_mono (wpAny_comprehension_free (use := some (PySem.assign (.Name y py) env)) (Q := fun _ s' => Q .next s') rfl (hs env) hclo hkind (of_decide_eq_true hB).2.2.1 (hI A env l hE Z₀ Z W s _ E hA hl hO hR ?_ hX)) (fun _ s' hq => wpAny_pure (wpAny_pure hq)) fun _ _ e => e)
  rintro I xs st₁ Z₁ W₁ h₁ tk₁ Sx ⟨capmu, J, g1, g2, g3, g4, g5, g6⟩ hR₁ hL₁ hI₁ hI0 hIt hS0
  refine comp_start (s := { s with heap := h₁, toks := tk₁ }) (RR := fun acc C => compPost (model pg w) A E (some (PySem.assign (.Name y py) env)) (fun _ s' => Q .next s') acc C) hA hl hO hR₁ hI₁ hIt hS0 hB hkind e1 e2 e3 g1 g2 g3 g4 g5 ?_
  intro D C h' tk ds vs n st' Z' W' m hJ hRf hLf hf hle hDC hD hC hsD hsC zD zC wD wC
  obtain ⟨mu', hS, hΦ⟩ := g6 ds st' hJ hle
  obtain ⟨hR₃, hL₃⟩ := hRf.freezeFree zD wD (hR₁.core.out hsD) hD
  show wpAny _ A (PySem.assign (.Name y py) env (.ref D)) _ _ _
  have zC' : upd Z' D (some (listOf vs.toArray n)) C = none := by rw [upd_ne (Ne.symm hDC)]; exact zC
  obtain ⟨oC, es, ep, hCo, hCr⟩ := hC
  obtain ⟨hR₃', hL₃'⟩ := hR₃.addIter zC' wC (hR₁.core.out hsC) (hR₁.core.far hsC) hCo
  refine wpAny_assign_Name (store_name (s := { s with heap := h', toks := tk }) hO hR₃' hS (.inl hy) (U := .d (.list ds)) (.list (upd_same _ _ _) rfl rfl rfl (by simpa using hf.mono hL₃.z)) fun h₄ tk₄ hR₄ hL₄ => ?_)
  have wC₄ : Mine.relabel y (upd (Wj (upd W₁ I none) W') C (some .iter)) C = some .iter := relabel_of (upd_same _ _ _) nofun
  refine ⟨m, ⟨oC, es, ep, (hL₄.it _ (upd_same _ _ _)).trans hCo, hCr⟩, fun h₅ hs₅ => ?_⟩
  have hR₅ := hR₄.ended (h' := h₄) wC₄ fun _ _ _ e => e
  have zC₄ := (hR₄.core.dj _ _ wC₄).1
  obtain ⟨hR₆, hL₆⟩ := hR₅.sameOff zC₄ (upd_same _ _ _) (hR₁.core.out hsC) hs₅
  have hw0 : W C = none := (hL₁.drop hI0).old (hLf.old wC)
  have hL := (((((hL₁.drop hI0).trans hLf).trans hL₃).trans hL₃').le.trans hL₄).drop hw0
  exact hQ .next .next _ _ _ _ _ hΦ hR₆ (hL.trans hL₆.le) trivial
end
end Mine
namespace Mine
open PySem.Builtin PySem.Builtin.ObjectAttr


section
variable {w : World} {A : Around} {E : Value → Shared → Prop} {s : Shared} {R : Result → Shared → Prop} {K : Frag}

def putIn (w : World) (dx : Addr) (name : Str) (t : Nat) (v : Value) (h : Heap) : Heap := h.update dx (Obj.putName name (PyData.keyHash w.params name) (.str name t) v)
theorem putIn_at {h : Heap} {dx : Addr} {name : Str} {t : Nat} {v : Value} {es : List DictEntry} {n : Nat} (hd : h.get? dx = some (dictOf es n)) :
    (putIn w dx name t v h).get? dx = some (dictOf (putL name (PyData.keyHash w.params name) (.str name t) v es) (putN name es n)) := by
  unfold putIn
  rw [← putName_dict]
  exact Heap.get?_update_self _ hd (by rw [putName_dict]; rfl)
theorem putIn_ne {h : Heap} {dx b : Addr} {name : Str} {t : Nat} {v : Value} (hb : b ≠ dx) : (putIn w dx name t v h).get? b = h.get? b := Heap.get?_update_ne _ _ _ _ hb
theorem putIn_size {h : Heap} {dx : Addr} {name : Str} {t : Nat} {v : Value} : (putIn w dx name t v h).objs.size = h.objs.size := size_update ..

theorem storeInDict_run {prog : Program} {dx : Addr} {name : Str} {tk : Tok} {v : Value} {es : List DictEntry} {n : Nat} {Q : Fin → Shared → Prop} (hdx : s.heap.get? dx = some (dictOf es n)) (hl : (getL name es).isSome = true) (hz : es.length ≤ 1000)
    (h : Q (.done (.ret .none)) { s with heap := putIn w dx name s.toks v s.heap, toks := s.toks + 1 }) : wpAny (model prog w) A (storeInDict dx (.str name tk) name v) Q E s := by
  unfold storeInDict newKeyGuard
  refine wpAny_bind (wpAny_pure (wpAny_bind ?_))
  unfold nsSet
  refine wpAny_bind (wpAny_bind (wpAny_askSetting (wpAny_pure (wpAny_bind (wpAny_mkText (wpAny_bind (wpAny_loadPart hdx ?_)))))))
  dsimp only
  have c : (!es.toArray.any (·.key.isStr name) && es.toArray.any (·.refKey)) = false := by
    rw [← Array.any_toList, ← Array.any_toList]
    unfold getL at hl
    split at hl
    · rename_i en he
      rw [List.any_eq_true.mpr ⟨en, List.mem_of_find?_eq_some he, List.find?_some he⟩]; rfl
    · split at hl
      · cases hl
      · rename_i z; rw [Bool.not_eq_true] at z; rw [z, Bool.and_false]
  rw [aRefKeyMayBeTheName_at, c]
  refine wpAny_updatePart hdx ?_
  have hput : (putL name (PyData.keyHash w.params name) (.str name s.toks) v es).length ≤ es.length + 1 := by
    clear hdx hl hz h c
    induction es with
    | nil => simp [putL]
    | cons e r ih => unfold putL; split <;> simp <;> omega
  refine wpAny_bind (wpAny_lookBehind (putIn_at hdx) (pastItsLine_dict (by rw [List.size_toArray, sizeLine_eq]; exact Nat.le_trans hput (by omega))) ?_)
  exact wpAny_pure h

theorem storeOwn_run {prog : Program} {x C dx : Addr} {ox : Obj} {name : Str} {tk : Tok} {v : Value} {b : Bool} {es : List DictEntry} {n : Nat} {Q : Fin → Shared → Prop} (X : K.In s.heap) (hx : s.heap.get? x = some ox) (hcl : ox.cls = .ref C) (hd : ox.dict = some dx)
    (hdx : s.heap.get? dx = some (dictOf es n)) (hh : (clsIn K C).any (·.hasDict) = true) (hl : (getL name es).isSome = true) (hz : es.length ≤ 1000)
    (h : Q (.done (.ret .none)) { s with heap := putIn w dx name s.toks v s.heap, toks := s.toks + 1 }) : wpAny (model prog w) A (storeInOwnDict (.ref x) (.ref C) (.str name tk) name v b) Q E s := by
  obtain ⟨cd, hc, hd'⟩ := any_some hh
  obtain ⟨oc, odi, oda, osl⟩ := ox
  dsimp only at hcl hd
  subst hcl hd
  refine wpAny_bind (wpAny_pure (wpAny_bind (wpAny_bind (wpAny_loadPart hx (wpAny_bind ((looks_clsIn X hc).here ?_))))))
  rw [hd']
  refine wpAny_pure (a := some dx) ?_
  exact storeInDict_run hdx hl hz h

theorem storeNone_run {prog : Program} {x C : Addr} {ox : Obj} {fs : Array Value} {name : Str} {tk : Tok} {v : Value} {b : Bool} {Q : Fin → Shared → Prop} (X : K.In s.heap) (hx : s.heap.get? x = some ox) (hcl : ox.cls = .ref C) (hd : ox.dict = none) (hf : ox.data = .fields fs)
    (hh : (clsIn K C).any (·.hasDict) = true) 
    (h : Q (.done (.ret .none)) { s with heap := putIn w s.heap.objs.size name s.toks v ((s.heap.push emptyDict).update x fun o => { o with dict := some s.heap.objs.size }), toks := s.toks + 1 }) : wpAny (model prog w) A (storeInOwnDict (.ref x) (.ref C) (.str name tk) name v b) Q E s := by
  obtain ⟨cd, hc, hd'⟩ := any_some hh
  obtain ⟨oc, odi, oda, osl⟩ := ox
  dsimp only at hcl hd hf
  subst hcl hd hf
  refine wpAny_bind (wpAny_pure (wpAny_bind (wpAny_bind (wpAny_loadPart hx (wpAny_bind ((looks_clsIn X hc).here ?_))))))
  rw [hd']
  have hx₁ := Heap.get?_push_of_some emptyDict hx
  have hne : s.heap.objs.size ≠ x := Nat.ne_of_gt (Heap.lt_size hx)
  show wpAny _ _ (alloc emptyDict >>= fun d => update x (fun o => { o with dict := some d }) >>= fun _ => pure (some d)) _ _ _
  refine wpAny_bind (wpAny_alloc (wpAny_bind (wpAny_update hx₁ (wpAny_pure ?_))))
  have hdx : ((s.heap.push emptyDict).update x fun o => { o with dict := some s.heap.objs.size }).get? s.heap.objs.size = some (dictOf [] 0) :=
    (Heap.get?_update_ne _ _ _ _ hne).trans (Heap.get?_push_at rfl rfl)
  exact storeInDict_run (s := { s with heap := (s.heap.push emptyDict).update x fun o => { o with dict := some s.heap.objs.size } }) hdx rfl (Nat.zero_le _) h

theorem set_run {prog : Program} {x C dx : Addr} {ox : Obj} {name : Str} {v : Value} {es : List DictEntry} {n : Nat} {Q : Unit → Shared → Prop} (X : K.In s.heap) (hx : s.heap.get? x = some ox) (hcl : ox.cls = .ref C) (hno : notCls ox = true) (hd : ox.dict = some dx)
    (hdx : s.heap.get? dx = some (dictOf es n)) (hs : findIn K (.ref C) "__setattr__" = some (some (.builtin "object.__setattr__"))) (hp : plainOver K C = true) (ht : takerIn K C name = some none) (hh : (clsIn K C).any (·.hasDict) = true) (hl : (getL name es).isSome = true) (hz : es.length ≤ 1000)
    (h : Q () { s with heap := putIn w dx name (s.toks + 1) v s.heap, toks := s.toks + 2 }) : wpAny (model prog w) A (setAttr (.ref x) name v) Q E s := by
  have I : InstAt s.heap x ox C (some (dictOf es n)) := ⟨hx, hcl, hno, by rw [hd]; exact hdx⟩
  refine set_plain X I hs ?_
  refine osa_open (s := { s with toks := s.toks + 1 }) X I hp ht fun b => ?_
  exact storeOwn_run (s := { s with toks := s.toks + 1 }) X hx hcl hd hdx hh hl hz h

theorem set_exc {prog : Program} {x C : Addr} {ox : Obj} {fs : Array Value} {name : Str} {v : Value} {cd : ClassData} {a1 : Addr} {Q : Unit → Shared → Prop} (X : K.In s.heap) (hx : s.heap.get? x = some ox) (hcl : ox.cls = .ref C) (hd : ox.dict = none) (hf : ox.data = .fields fs)
    (hs : findIn K (.ref C) "__setattr__" = some (some (.builtin "object.__setattr__"))) (hc : clsIn K C = some cd) (hm : cd.mro = [.ref C, .ref a1, .type "Exception", .type "BaseException", .type "object"]) (ht : findIn K (.ref C) name = some none) (hh : cd.hasDict = true)
    (h : Q () { s with heap := putIn w s.heap.objs.size name (s.toks + 1) v ((s.heap.push emptyDict).update x fun o => { o with dict := some s.heap.objs.size }), toks := s.toks + 2 }) : wpAny (model prog w) A (setAttr (.ref x) name v) Q E s := by
  have hno : notCls ox = true := by unfold notCls; rw [hf]
  have I : InstAt s.heap x ox C none := ⟨hx, hcl, hno, by rw [hd]; trivial⟩
  refine set_plain X I hs ?_
  have SF := PySem.F.store_object
  have hmm : Looks (model prog w) s.heap (mroOf (.ref C)) cd.mro := (looks_clsIn X hc).andThen .now
  have sub : Looks (model prog w) s.heap (isInstance (.ref x) (.type "object")) true := I.type.andThen (looks_mroIn X (by unfold mroIn; rw [hc, Option.bind_some, hm]; rfl))
  refine codeAny_call_builtin SF.slot.plain SF.entry (@check_slot (model prog w) _ _ { s with toks := s.toks + 1 } "object.__setattr__" "object" "__setattr__" (.ref x) [.str name s.toks, v] [] _ SF.kind SF.split sub (SF.args (.ref x) (.str name s.toks) v) ?_)
  rw [osa_eq, refuse_eq]
  refine wpAny_bind (wpAny_bind (Looks.here (s := { s with toks := s.toks + 1 }) I.type (wpAny_bind (Looks.here (s := { s with toks := s.toks + 1 }) hmm ?_))))
  rw [hm, refuseLoop_ref, refuseLoop_ref, PySem.F.store_Exception.passes]
  refine wpAny_pure (wpAny_bind (Looks.here (s := { s with toks := s.toks + 1 }) I.type (wpAny_bind (Looks.here (s := { s with toks := s.toks + 1 }) (looks_findIn X ht) (wpAny_bind (wpAny_pure ?_))))))
  exact storeNone_run (s := { s with toks := s.toks + 1 }) X hx hcl hd hf (by rw [hc]; exact hh) h

theorem exc_made {prog : Program} {h : Heap} {g : Array GenState} {d : Drawn} {t : Nat} {os : OsState} {nm q : Str} {C N : Addr} {bs bm bmB : List Value} {hdct : Bool} {sn : List Str} {sub : List Value} {ab : Bool} {col : Option Bool} {dd : Option Addr} {k0 k1 k2 k3 k5 : Option Value} {B newId initId : String}
    (F : ExcBaseFacts B newId initId bmB) (T : OwnTail h bmB bm) {mN : Str → Option Value} {rest : List Value} {fI : Addr} {oI : Obj} {Q : Fin → Shared → Prop}
    (hC : h.get? C = some (excClassObj nm q C N bs bm hdct sn sub ab col dd k0 k1 k2 k3 k5 newId)) (hn : h.Ns N mN) (hi : mN "__init__" = some (.ref fI))
    (hfI : h.get? fI = some oI) (hfc : oI.cls = .type "function")
    (hq : wpAny (model prog w) A (call (.ref fI) (.ref (h.objs.size + 1) :: rest)) (fun r s' => r = .none ∧ Q (.done (.ret (.ref (h.objs.size + 1)))) s') E
      ⟨(h.push { cls := .type "tuple", data := .seq rest.toArray }).push { cls := .ref C, data := .fields #[.ref h.objs.size, .none, .none, .none, .bool false, .none] }, g, d, t, os⟩) (hrest : rest.length ≤ sizeLine := by size_fits) :
    wpAny (model prog w) A (Builtin.«type.__call__» ⟨.ref C :: rest, []⟩) Q E ⟨h, g, d, t, os⟩ := by
  repeat (first | with_reducible refine wpAny_loadPart_at hC ?_ | with_reducible refine wpAny_madeBy_exc hC ?_ | wp_step)
  refine codeAny_call_builtin_code (Code.quiet_builtin _ F.quiet) (wpAny_check_new_subT F T hC ?_)
  refine codeAny_exc_new_subT F T hC ?_ hrest
  show wpAny _ _ _ _ _ _
  have hC₁ := Heap.get?_push_of_some { cls := .ref C, data := .fields #[.ref h.objs.size, .none, .none, .none, .bool false, .none] }
    (Heap.get?_push_of_some { cls := .type "tuple", data := .seq rest.toArray } hC)
  have hfI₁ := Heap.get?_push_of_some { cls := .ref C, data := .fields #[.ref h.objs.size, .none, .none, .none, .bool false, .none] }
    (Heap.get?_push_of_some { cls := .type "tuple", data := .seq rest.toArray } hfI)
  have kk : ∀ b o, h.get? b = some o → ((h.push { cls := .type "tuple", data := .seq rest.toArray }).push { cls := .ref C, data := .fields #[.ref h.objs.size, .none, .none, .none, .bool false, .none] }).get? b = some o :=
    fun b o e => Heap.get?_push_of_some _ (Heap.get?_push_of_some _ e)
  have hn₁ := hn.keeps kk
  have hget : ((h.push { cls := .type "tuple", data := .seq rest.toArray }).push
      { cls := .ref C, data := .fields #[.ref h.objs.size, .none, .none, .none, .bool false, .none] }).get? (h.objs.size + 1) = some
      { cls := .ref C, data := .fields #[.ref h.objs.size, .none, .none, .none, .bool false, .none] } := by heap_get
  have hcC : (Value.ref C :: bm).contains (.ref C) = true := by simp
  unfold isInstance
  repeat (first | with_reducible refine wpAny_loadPart_at hget ?_ | (with_reducible refine wpAny_isSubtype_exc hC₁ ?_; rw [hcC]) | wp_step)
  show wpAny _ _ (typeLookup (.ref C) _) _ _ _
  refine wpAny_typeLookup_tail hC₁ hn₁ (T.keeps kk) F.mroIs F.init.lookup ?_
  rw [hi]
  refine wpAny_holding (wpAny_bind ?_)
  unfold bindSpecial
  refine wpAny_bind (wpAny_typeOf (T := "function") ⟨_, hfI₁, hfc⟩ ?_)
  rw [if_pos (by decide)]
  refine wpAny_pure (wpAny_bind (wpAny_mono hq (fun r s' hr => ?_) fun _ _ x => x))
  obtain ⟨rfl, hQ⟩ := hr
  wp_walk
  exact hQ

theorem call_exc {prog : Program} {h : Heap} {g : Array GenState} {d : Drawn} {t : Nat} {os : OsState} {nm q : Str} {C N : Addr} {bs bm bmB : List Value} {hdct : Bool} {sn : List Str} {sub : List Value} {ab : Bool} {col : Option Bool} {dd : Option Addr} {k0 k1 k2 k3 k5 : Option Value} {B newId initId : String}
    (F : ExcBaseFacts B newId initId bmB) (T : OwnTail h bmB bm) {mN : Str → Option Value} {rest : List Value} {fI : Addr} {oI : Obj} {Q : Value → Shared → Prop}
    (hC : h.get? C = some (excClassObj nm q C N bs bm hdct sn sub ab col dd k0 k1 k2 k3 k5 newId)) (hn : h.Ns N mN) (hi : mN "__init__" = some (.ref fI))
    (hfI : h.get? fI = some oI) (hfc : oI.cls = .type "function")
    (hq : wpAny (model prog w) (A.under (.builtin "type.__call__" ⟨.ref C :: rest, []⟩)) (call (.ref fI) (.ref (h.objs.size + 1) :: rest)) (fun r s' => r = .none ∧ Q (.ref (h.objs.size + 1)) s') E
      ⟨(h.push { cls := .type "tuple", data := .seq rest.toArray }).push { cls := .ref C, data := .fields #[.ref h.objs.size, .none, .none, .none, .bool false, .none] }, g, d, t, os⟩) (hrest : rest.length ≤ sizeLine := by size_fits) :
    wpAny (model prog w) A (call (.ref C) rest) Q E ⟨h, g, d, t, os⟩ := by
  have f1 := tc_lookup
  have f2 := tc_bind (.ref C)
  have hT : (⟨h, g, d, t, os⟩ : Shared).TypeIs (.ref C) "type" := ⟨_, hC, rfl⟩
  refine wpAny_call (codeAny_of_tree ?_)
  show wpAny _ _ (callAny (.ref C) _) _ _ _
  repeat (any_goals (first | assumption | with_reducible refine wpAny_loadPart_at hC ?_ | wp_step))
  refine ⟨rfl, ?_⟩
  exact codeAny_call_builtin_at (Code.quiet_builtin _ (by decide +kernel)) entry_typeCall (wpAny_check_type_call_sub hC (exc_made (hrest := hrest) F T hC hn hi hfI hfc hq))

theorem raise_made {prog : Program} {env : Env} {nm q : Str} {C N : Addr} {bs bm : List Value} {hdct : Bool} {sn : List Str} {sub : List Value} {ab : Bool} {col : Option Bool} {dd : Option Addr} {k0 k1 k2 k3 k5 : Option Value} {newId : String} {x : Sem Value} {Q : Flow → Shared → Prop}
    {h₀ : Heap} (hC₀ : h₀.get? C = some (excClassObj nm q C N bs bm hdct sn sub ab col dd k0 k1 k2 k3 k5 newId)) (hbase : bm.contains (.type "BaseException") = true) (hh : A.handled = none)
    (h : wpAny (model prog w) A x (fun v s₁ => ∃ e t dx, v = .ref e ∧ (∀ b o, h₀.get? b = some o → s₁.heap.get? b = some o) ∧
      s₁.heap.get? e = some { cls := .ref C, dict := some dx, data := .fields #[.ref t, .none, .none, .none, .bool false, .none] } ∧ E (.ref e) s₁) E s) :
    wpAny (model prog w) A (raiseStmt env (some x) none) Q E s := by
  have hcB : (Value.ref C :: bm).contains (.type "BaseException") = true := by rw [List.contains_cons, hbase, Bool.or_true]
  unfold raiseStmt
  refine wpAny_bind (wpAny_mono h (fun v s₁ h₁ => ?_) fun _ _ x => x)
  obtain ⟨e, t, dx, rfl, hst, he, hE⟩ := h₁
  have hC := hst _ _ hC₀
  obtain ⟨hp, g, d, tk, os⟩ := s₁
  repeat (first | with_reducible refine wpAny_loadPart_at he ?_ | with_reducible refine wpAny_loadPart_at hC ?_ | (with_reducible refine wpAny_isSubtype_exc hC ?_; rw [hcB]) | wp_step)
  exact wpAny_raiseNew_none hh hE
end


theorem AOk.underMake {n : Nat} {A : Around} {C : Addr} {vals : List Value} (h : AOk (n + 1) A) : AOk n (A.under (.builtin "type.__call__" ⟨.ref C :: vals, []⟩)) :=
  ⟨h.handled, by rw [depth_under_make]; have := h.depth; omega, by rw [units_under_make]; have := h.units; omega, fun q => h.top (Nat.le_succ_of_le q)⟩

section
variable {w : World} {h₀ : Heap} {mg mb : Str → Option Value}
theorem nsOk_of {K : Frag} {N : Addr} {c : Value} {d : Option Addr} {es : Array DictEntry} {n : Nat} {sl : Array (Option Value)} (hl : K.lookup N = some ⟨c, d, .dict es n, sl⟩) (h : (es.toList.all fun e => match e.key with | .str _ _ => true | _ => false) = true) : nsOkIn K N = true := by
  unfold nsOkIn
  rw [hl]
  rw [Array.all_toList] at h
  exact h
theorem refusal_tail (X : (hd.heap_1 w.params).In h₀) : OwnTail h₀ [.type "Exception", .type "BaseException", .type "object"] [.ref 31, .type "Exception", .type "BaseException", .type "object"] := by
  refine OwnTail.own (A := 31) (X 31 _ (by k_is)) (.of_isNs (isNs_of_in X (nsOk_of (by k_is) rfl))) (nsMap_none_of_in X (nsOk_of (by k_is) rfl) (by k_is)) .base

theorem ns_some_of {K : Frag} {h : Heap} {N : Addr} {mg : Str → Option Value} {n : Str} {v : Value} (X : K.In h) (G : h.Ns N mg) (e : nsIn K N n = some (some v)) : mg n = some v := by
  obtain ⟨o, es, ep, ho, hd, _, hf⟩ := G
  unfold nsIn at e
  split at e
  · rename_i c d es' n' sl q
    have := X _ _ q
    rw [ho] at this
    cases this
    cases hd
    split at e
    · rename_i en he
      cases e
      rw [← hf]
      unfold nsFind findBy
      rw [← Array.find?_toList, he]
      rfl
    · split at e <;> cases e
  · cases e
theorem refusal_init (X : (hd.heap_1 w.params).In h₀) : h₀.nsMap 50 "__init__" = some (.ref 48) :=
  ns_some_of X (.of_isNs (isNs_of_in X (nsOk_of (by k_is) rfl))) (by k_is)

/-- the frame of a constructor -/
theorem init_call (hw : Wd w h₀ mg mb) {A : Around} {s : Shared} {E : Value → Shared → Prop} {Q : Value → Shared → Prop} {f : Addr} {oc : Value} {od : Option Addr} {fd : FuncData} {osl : Array (Option Value)} {body : List Stmt} {vals : List Value} {binds : List (Str × Value)}
    (hr : A.depth < recursionLimit) (X : (hd.heap_1 w.params).In s.heap) (hs : ∀ b o, h₀.get? b = some o → s.heap.get? b = some o) (ho : (hd.heap_1 w.params).lookup f = some ⟨oc, od, .func fd, osl⟩) (hcd : codeIn (hd.heap_1 w.params) fd.code fd.qualname = true) (hbody : fd.body = .stmts body)
    (hb : BindsTo s fd ⟨vals, []⟩ binds) (hcell : ∀ x ∈ fd.scope.names, x.2 ≠ .cell) (hloc : ∀ x ∈ binds, fd.scope.names.lookup x.1 = some .local)
    (h : ∀ h₁, h₁.Ns s.heap.objs.size (fun x => binds.reverse.lookup x) → (∀ b o, s.heap.get? b = some o → h₁.get? b = some o) →
      wpAny (model pg w) (A.deeper (callEnv fd s.heap.objs.size f)) (execs body (callEnv fd s.heap.objs.size f)) (fun f s' => f = .next ∧ Q .none s') (fun _ _ => False) { s with heap := h₁, toks := s.toks + binds.length })
    (hco : fd.scope.isCoroutine = false := by rfl) (hgen : fd.scope.isGenerator = false := by rfl) (hk : fd.scope.kind = .function := by rfl) : wpAny (model pg w) A (call (.ref f) vals) Q E s := by
  refine wpAny_call (codeAny_call_def hr (X _ _ ho) rfl (hw.nolimit.keeps hs) (codeRec_of X hcd) hbody hb hcell hloc (fun h₁ a b => ?_) hco hgen hk)
  refine wpAny_mono (h h₁ a b) (fun fl s' q => ?_) (fun _ _ q => q.elim)
  obtain ⟨rfl, q⟩ := q
  exact q

theorem load_local {M : Model} {A : Around} {env : Env} {s : Shared} {E : Value → Shared → Prop} {Q : Value → Shared → Prop} {m : Str → Option Value} {x : Str} {v : Value} {pos : Pos} (hk : env.scope.kind = .function) (hl : env.kindOf x = some .local) (hn : s.heap.Ns env.locals m) (hm : m x = some v)
    (h : Q v s) (hd : (x == ("__debug__" : Str)) = false := by decide) : wpAny M A (eval (.Name x pos) env) Q E s := wpAny_Name (wpAny_loadName_local hk hl hn hm h) hd
end
end Mine
namespace Mine
section
variable {w : World} {h₀ : Heap} {mg mb : Str → Option Value} {Γ : Cx} {st : St} {Ψ : Str → List Int → Prop}

theorem g_Refusal (hw : Wd w h₀ mg mb) : mg "Refusal" = some (.ref 51) := hw.glob (by k_is)

/-- the Refusal is made -/
theorem refusal_made (hw : Wd w h₀ mg mb) {A : Around} {s : Shared} {E : Value → Shared → Prop} {Q : Value → Shared → Prop} {n : Nat} {v : Value} (hA : AOk (n + 2) A) (hs : ∀ b o, h₀.get? b = some o → s.heap.get? b = some o)
    (h : ∀ h' tk t es k e dx, (∀ b o, s.heap.get? b = some o → h'.get? b = some o) → s.heap.objs.size ≤ h'.objs.size → s.heap.objs.size ≤ e → s.heap.objs.size ≤ dx → 
      h'.get? e = some { cls := .ref 51, dict := some dx, data := .fields #[.ref t, .none, .none, .none, .bool false, .none] } →
      h'.get? dx = some (dictOf es k) → getL "message" es = some (some v) → Q (.ref e) { s with heap := h', toks := tk }) :
    wpAny (model pg w) A (call (.ref 51) [v]) Q E s := by
  have X : (hd.heap_1 w.params).In s.heap := hw.X.keeps hs
  obtain ⟨hh, g, d, t, os⟩ := s
  refine call_exc PySem.F.excBase_Exception (refusal_tail X) (rest := [v]) (fI := 48) (X 51 _ (by k_is)) (.of_isNs (isNs_of_in X (nsOk_of (by k_is) rfl))) (refusal_init X) (X 48 _ (by k_is)) rfl ?_ (by show 1 ≤ sizeLine; decide)
  generalize hH2 : (hh.push { cls := .type "tuple", data := .seq [v].toArray }).push { cls := .ref 51, data := .fields #[.ref hh.objs.size, .none, .none, .none, .bool false, .none] } = H2
  have k2 : ∀ b o, hh.get? b = some o → H2.get? b = some o := fun b o e => by rw [← hH2]; exact Heap.get?_push_of_some _ (Heap.get?_push_of_some _ e)
  have he2 : H2.get? (hh.objs.size + 1) = some { cls := .ref 51, data := .fields #[.ref hh.objs.size, .none, .none, .none, .bool false, .none] } := by
    rw [← hH2, ← push_size hh { cls := .type "tuple", data := .seq [v].toArray }]; exact Heap.get?_push_size _ rfl
  have hsz2 : H2.objs.size = hh.objs.size + 2 := by rw [← hH2, push_size, push_size]
  have hA1 := hA.underMake (C := 51) (vals := [v])
  refine init_call hw (s := ⟨H2, g, d, t, os⟩) hA1.room (X.keeps k2) (fun b o e => k2 b o (hs b o e)) (f := 48) (by k_is) (by k_is) rfl (binds := [("self", .ref (hh.objs.size + 1)), ("message", v)]) (.of_eq rfl) (by decide) (locs rfl) (fun h₁ hn hk => ?_)
  have he3 := hk _ _ he2
  have k3 : ∀ b o, hh.get? b = some o → h₁.get? b = some o := fun b o e => hk _ _ (k2 b o e)
  have hsz3 : hh.objs.size + 2 ≤ h₁.objs.size := by
    obtain ⟨o, _, _, e, _⟩ := hn
    have := Heap.lt_size e
    rw [hsz2] at this
    exact Nat.le_of_lt this
  refine wpAny_execs_cons (plainObj_wpAny_Assign_Attribute ?_ (by with_unfolding_all rfl))
  refine load_local rfl rfl hn rfl ?_
  refine load_local rfl rfl hn rfl ?_
  refine set_exc (w := w) (a1 := 31) (s := ⟨h₁, g, d, t + 2, os⟩) (X.keeps k3) he3 rfl rfl rfl (by k_is) (by k_is) rfl (by k_is) rfl ?_
  have hne : ∀ b o, hh.get? b = some o → b ≠ hh.objs.size + 1 ∧ b ≠ h₁.objs.size := fun b o e => ⟨Nat.ne_of_lt (Nat.lt_succ_of_lt (Heap.lt_size e)), Nat.ne_of_lt (Heap.lt_size (k3 _ _ e))⟩
  have h1ne : hh.objs.size + 1 ≠ h₁.objs.size := by omega
  have hp := Heap.get?_push_of_some emptyDict he3
  have hdx : ((h₁.push emptyDict).update (hh.objs.size + 1) fun o => { o with dict := some h₁.objs.size }).get? h₁.objs.size = some (dictOf [] 0) :=
    (Heap.get?_update_ne _ _ _ _ (Ne.symm h1ne)).trans (Heap.get?_push_at rfl rfl)
  refine wpAny_execs_nil ⟨rfl, rfl, h _ _ hh.objs.size _ _ (hh.objs.size + 1) h₁.objs.size (fun b o e => ?_) ?_ (Nat.le_succ _) (Nat.le_trans (Nat.le_add_right _ 2) hsz3) ?_ (putIn_at hdx) rfl⟩
  · rw [putIn_ne (hne b o e).2, Heap.get?_update_ne _ _ _ _ (hne b o e).1]
    exact Heap.get?_push_of_some _ (k3 b o e)
  · rw [putIn_size, size_update, push_size]; exact Nat.le_trans (Nat.le_trans (Nat.le_add_right _ 2) hsz3) (Nat.le_succ _)
  · rw [putIn_ne h1ne, Heap.get?_update_self _ hp rfl]

theorem WX.raise (hw : Wd w h₀ mg mb) {e : Expr} {np cpos pos : Pos} {Φ : Fl → St → Prop} (hg : (Str.ofString "Refusal") ∈ Γ.globs) (hrk : 2 ≤ Γ.rank) (h : WE w h₀ Γ st e (fun U st₁ => ∃ msg, U = .d (.str msg) ∧ Ψ msg st₁.row) Ψ)
    (he : ∀ env, starEach [e] env = [(false, eval e env)] := by intro _; rfl) : WX w h₀ Γ st (.Raise (some (.Call (.Name "Refusal" np) [e] [] cpos)) none pos) Φ Ψ := by
  intro A env l hE Z₀ Z W s Q E hA hl hO hR hQ hX
  rw [arm_exec_Raise]
  refine wpAny_bind (wpAny_standAt (raise_made (C := 51) (hw.X 51 _ (by k_is)) rfl hA.handled (wpAny_bind (wpAny_mono (wpAny_Call_ofName (eval_gl hw hO hR.core hg (g_Refusal hw) ?_)) (fun v s₃ h₃ => wpAny_bind (wpAny_standAt (wpAny_pure h₃))) fun _ _ x => x))))
  refine callWith_K (hw.XK hR.core) (by k_is) (wpAny_items_cons (h A env l hE Z₀ Z W s _ E hA hl hO hR ?_ hX) (he env)) (he env)
  rintro v U st₁ Z₁ W₁ h₁ tk₁ ⟨msg, rfl, hΨ⟩ hR₁ hL₁ hv
  refine wpAny_items_nil ⟨hw.XK hR₁.core, ?_⟩
  have c₁ := hR₁.core
  refine refusal_made hw (s := { s with heap := h₁, toks := tk₁ }) (n := 0) (hA.mono hrk) c₁.stay ?_
  intro h' tk t es k e dx hk hgr hle hld ge gd gm
  refine ⟨e, t, dx, rfl, fun b o q => hk _ _ (c₁.stay b o q), ge, ?_⟩
  cases hv with
  | str _ tt =>
  have fr : ∀ b ∈ frsOf l, b < h₁.objs.size := fun b hb => by
    obtain ⟨fe, hfe, e'⟩ := of_frsOf hb
    obtain ⟨_, b', e'', o, ho, _⟩ := FrSt.ok hR₁ fe hfe
    rw [e'] at e''; cases e''
    exact Heap.lt_size ho
  refine hX _ _ _ _ _ hΨ (Exc.leE (W' := W₁) ⟨⟨e, rfl, ⟨c₁.out hle, dx, _, _, es, k, tt, ge, (by show 1 < 6; decide), fun q => absurd (fr _ q) (Nat.not_lt.mpr hld), gd, gm, .inl rfl⟩, fun q => absurd (fr _ q) (Nat.not_lt.mpr hle)⟩, fun b o q n _ => hk _ _ (c₁.kept b o q n), fun b o q n _ => ⟨o.slots, hk _ _ (c₁.kept b o q n)⟩, ?_, Nat.le_trans c₁.grow hgr, fun a q hn => ?_⟩ hL₁)
  · obtain ⟨m, ⟨o, es, ep, g, gd, _⟩, _⟩ := hR₁.vars.ns
    exact ⟨o, hk _ _ g, fun vs q => by rw [gd] at q; cases q⟩
  · obtain ⟨us, n, g, i⟩ := c₁.row a q hn
    exact ⟨us, n, hk _ _ g, i⟩
end
end Mine
namespace Mine
section
variable {w : World} {h₀ : Heap} {mg mb : Str → Option Value} {Γ : Cx} {st : St} {Ψ : Str → List Int → Prop}

/-- an object while its constructor runs -/
structure InitSt (hb : Heap) (x dx C L : Addr) (m : Str → Option Value) (es : List DictEntry) (n : Nat) (h : Heap) : Prop where
  old : ∀ b o, hb.get? b = some o → h.get? b = some o
  ns : h.Ns L m
  ox : h.get? x = some (instObj C dx)
  d : h.get? dx = some (dictOf es n)
  xd : x ≠ dx
  Ld : L ≠ dx
  newd : hb.get? dx = none
  size : hb.objs.size ≤ h.objs.size

theorem attr_step (hw : Wd w h₀ mg mb) {A : Around} {env : Env} {s : Shared} {E : Value → Shared → Prop} {Q : Flow → Shared → Prop} {hb : Heap} {x dx C : Addr} {m : Str → Option Value} {es : List DictEntry} {n : Nat} {attr : Str} {value : Expr} {p1 p2 pos : Pos} {u : Value}
    (hst : ∀ b o, h₀.get? b = some o → hb.get? b = some o) (I : InitSt hb x dx C env.locals m es n s.heap) (hk : env.scope.kind = .function) (hself : env.kindOf "self" = some .local) (hm : m "self" = some (.ref x))
    (hs : findIn (hd.heap_1 w.params) (.ref C) "__setattr__" = some (some (.builtin "object.__setattr__"))) (hp : plainOver (hd.heap_1 w.params) C = true) (ht : takerIn (hd.heap_1 w.params) C attr = some none) (hh : (clsIn (hd.heap_1 w.params) C).any (·.hasDict) = true)
    (hl : (getL attr es).isSome = true) (hz : es.length ≤ 1000) (hv : ∀ Q : Value → Shared → Prop, (∀ tk, Q u { s with toks := tk }) → wpAny (model pg w) A (eval value env) Q E s)
    (hQ : ∀ h' tk k, InitSt hb x dx C env.locals m (putL attr (PyData.keyHash w.params attr) (.str attr k) u es) (putN attr es n) h' → Q .next { s with heap := h', toks := tk })
    (hsw : swapsWith value (some (.Attribute (.Name "self" p1) attr p2)) pos.line env = pure false := by with_unfolding_all rfl) :
    wpAny (model pg w) A (exec (.Assign [.Attribute (.Name "self" p1) attr p2] value pos) env) Q E s := by
  refine plainObj_wpAny_Assign_Attribute (hv _ fun tk => ?_) hsw
  refine load_local (s := { s with toks := tk }) hk hself I.ns hm ?_
  refine set_run (w := w) (s := { s with toks := tk }) (hw.X.keeps fun b o e => I.old _ _ (hst b o e)) I.ox rfl rfl rfl I.d hs hp ht hh hl hz ?_
  refine hQ _ _ (tk + 1) ⟨fun b o e => ?_, I.ns.sameBut (Heap.SameBut.update ..) I.Ld, (putIn_ne I.xd).trans I.ox, putIn_at I.d, I.xd, I.Ld, I.newd, by rw [putIn_size]; exact I.size⟩
  exact (putIn_ne (by rintro rfl; rw [I.newd] at e; cases e)).trans (I.old _ _ e)

theorem inst_made (hw : Wd w h₀ mg mb) {A : Around} {s : Shared} {E : Value → Shared → Prop} {Q : Value → Shared → Prop} {n : Nat} {C f : Addr} {oc : Value} {od : Option Addr} {fd : FuncData} {osl : Array (Option Value)} {body : List Stmt} {rest : List Value} {binds : List (Str × Value)}
    (hA : AOk (n + 2) A) (hs : ∀ b o, h₀.get? b = some o → s.heap.get? b = some o)
    (hm : makesIn (hd.heap_1 w.params) C = true) (hi : findIn (hd.heap_1 w.params) (.ref C) "__init__" = some (some (.ref f))) (hf : typeIn (hd.heap_1 w.params) (.ref f) = some (.type "function"))
    (ho : (hd.heap_1 w.params).lookup f = some ⟨oc, od, .func fd, osl⟩) (hcd : codeIn (hd.heap_1 w.params) fd.code fd.qualname = true) (hbody : fd.body = .stmts body)
    (hb : ∀ h', (∀ b o, h₀.get? b = some o → h'.get? b = some o) → BindsTo { s with heap := h' } fd ⟨.ref (s.heap.objs.size + 1) :: rest, []⟩ binds) (hcell : ∀ x ∈ fd.scope.names, x.2 ≠ .cell) (hloc : ∀ x ∈ binds, fd.scope.names.lookup x.1 = some .local)
    (h : ∀ h₁ tk L, InitSt s.heap (s.heap.objs.size + 1) s.heap.objs.size C L (fun x => binds.reverse.lookup x) [] 0 h₁ →
      wpAny (model pg w) ((A.under (.builtin "type.__call__" ⟨.ref C :: rest, []⟩)).deeper (callEnv fd L f)) (execs body (callEnv fd L f)) (fun fl s' => fl = .next ∧ ∃ h' tk es k m, s' = { s with heap := h', toks := tk } ∧ InitSt s.heap (s.heap.objs.size + 1) s.heap.objs.size C L m es k h' ∧
        ((∀ b o, s.heap.get? b = some o → h'.get? b = some o) → s.heap.objs.size ≤ h'.objs.size → h'.get? (s.heap.objs.size + 1) = some (instObj C s.heap.objs.size) → h'.get? s.heap.objs.size = some (dictOf es k) → Q (.ref (s.heap.objs.size + 1)) { s with heap := h', toks := tk })) (fun _ _ => False) { s with heap := h₁, toks := tk })
    (hco : fd.scope.isCoroutine = false := by rfl) (hgen : fd.scope.isGenerator = false := by rfl) (hk : fd.scope.kind = .function := by rfl) : wpAny (model pg w) A (call (.ref C) rest) Q E s := by
  have X : (hd.heap_1 w.params).In s.heap := hw.X.keeps hs
  obtain ⟨hh, g, d, t, os⟩ := s
  refine wpAny_call (make_core (makes_of X hm) (looks_findIn X hi) (fun self => bind_fn X self hf) (.inl rfl) ?_)
  have hA1 := hA.underMake (C := C) (vals := rest)
  have k2 : ∀ b o, hh.get? b = some o → ((hh.push emptyDict).push (instObj C hh.objs.size)).get? b = some o := fun b o e => Heap.get?_push_of_some _ (Heap.get?_push_of_some _ e)
  have hx2 : ((hh.push emptyDict).push (instObj C hh.objs.size)).get? (hh.objs.size + 1) = some (instObj C hh.objs.size) := by heap_get
  have hd2 : ((hh.push emptyDict).push (instObj C hh.objs.size)).get? hh.objs.size = some (dictOf [] 0) := Heap.get?_push_of_some _ (Heap.get?_push_at rfl rfl)
  have sz2 : ((hh.push emptyDict).push (instObj C hh.objs.size)).objs.size = hh.objs.size + 2 := by rw [push_size, push_size]
  refine codeAny_call_def hA1.room (k2 _ _ (X _ _ ho)) rfl (hw.nolimit.keeps fun b o e => k2 _ _ (hs b o e)) (codeRec_of (X.keeps k2) hcd) hbody (hb _ fun b o e => k2 _ _ (hs b o e)) hcell hloc (fun h₁ a b => ?_) hco hgen hk
  have hL := a.lt
  have I : InitSt hh (hh.objs.size + 1) hh.objs.size C ((hh.push emptyDict).push (instObj C hh.objs.size)).objs.size (fun x => binds.reverse.lookup x) [] 0 h₁ :=
    ⟨fun q o e => b _ _ (k2 _ _ e), a, b _ _ hx2, b _ _ hd2, Nat.ne_of_gt (Nat.lt_succ_self _), by rw [sz2]; exact Nat.ne_of_gt (by omega), Heap.get?_none_of_le (Nat.le_refl _), by rw [sz2] at hL; exact Nat.le_of_lt (Nat.lt_trans (by omega) hL)⟩
  refine wpAny_mono (h h₁ _ _ I) (fun fl s' q => ?_) (fun _ _ q => q.elim)
  obtain ⟨rfl, h', tk, es, k, m, rfl, I', q⟩ := q
  exact ⟨rfl, q I'.old I'.size I'.ox I'.d⟩
end
end Mine
namespace Mine
section
variable {w : World} {h₀ : Heap} {mg mb : Str → Option Value} {Γ : Cx} {st : St} {Ψ : Str → List Int → Prop}

theorem Rel.born {env : Env} {l : List Env} {hE h h' : Heap} {Z₀ Z : ZM} {W : WM} {C : Addr} {es : List DictEntry} {k : Nat} (hR : Rel w h₀ Γ env l hE Z₀ Z W st h) (hk : ∀ b o, h.get? b = some o → h'.get? b = some o)
    (hx : h'.get? (h.objs.size + 1) = some (instObj C h.objs.size)) (hd : h'.get? h.objs.size = some (dictOf es k)) :
    ∃ Z', Rel w h₀ Γ env l hE Z₀ Z' W st h' ∧ LeE Z W h Z' W h' ∧ Z' (h.objs.size + 1) = some (instObj C h.objs.size) ∧ Z' h.objs.size = some (dictOf es k) := by
  obtain ⟨hR₁, hL₁⟩ := hR.fresh (Nat.le_refl _) hk hd
  obtain ⟨hz, hw⟩ := hR.dom (Nat.le_succ h.objs.size)
  have hne : h.objs.size ≠ h.objs.size + 1 := Nat.ne_of_lt (Nat.lt_succ_self _)
  obtain ⟨hR₂, hL₂⟩ := hR₁.freezeFree (by rw [upd_ne (Ne.symm hne)]; exact hz) hw (hR.core.out (Nat.le_succ _)) hx
  exact ⟨_, hR₂, hL₁.trans hL₂, upd_same _ _ _, by rw [upd_ne hne, upd_same]⟩

theorem WE.newNull (hw : Wd w h₀ mg mb) {np pos : Pos} {Φ : V → St → Prop} (hg : (Str.ofString "Null") ∈ Γ.globs) (hrk : 2 ≤ Γ.rank) (h : Φ (.ix .null) st) : WE w h₀ Γ st (.Call (.Name "Null" np) [] [] pos) Φ Ψ := by
  intro A env l hE Z₀ Z W s Q E hA hl hO hR hQ hX
  refine wpAny_Call_ofName (eval_gl hw hO hR.core hg (hw.glob (by k_is)) ?_)
  refine callWith_K0 (hw.XK hR.core) (by k_is) ?_
  refine inst_made hw (rest := []) (binds := [("self", .ref (s.heap.objs.size + 1))]) (hA.mono hrk) hR.core.stay (by k_is) (by k_is) (by k_is) (by k_is) (by k_is) rfl (fun h9 e9 => .of_eq rfl) (by decide) (locs rfl) (fun h₅ tk₅ L I1 => ?_)
  refine wpAny_execs_cons (attr_step hw hR.core.stay I1 rfl rfl rfl (by k_is) (by k_is) (by k_is) (show hasDictIn _ _ = true by k_is) rfl (by show 0 ≤ 1000; decide) (fun Q q => wpAny_Constant_str (q _)) fun h2 tk2 k2 I2 => ?_)
  refine wpAny_execs_cons (attr_step hw hR.core.stay I2 rfl rfl rfl (by k_is) (by k_is) (by k_is) (show hasDictIn _ _ = true by k_is) rfl (by show 1 ≤ 1000; decide) (fun Q q => wpAny_Constant_none (q _)) fun h3 tk3 k3 I3 => ?_)
  refine wpAny_execs_nil ⟨rfl, _, _, _, _, _, rfl, I3, fun hk _ gx gd => ?_⟩
  obtain ⟨Z', hR', hL', z1, z2⟩ := hR.born hk gx gd
  exact hQ _ _ _ _ _ _ _ h hR' hL' ⟨_, _, _, _, rfl, z1, z2, _, rfl⟩

theorem WE.newMissing (hw : Wd w h₀ mg mb) {np pos : Pos} {Φ : V → St → Prop} (hg : (Str.ofString "Missing") ∈ Γ.globs) (hrk : 2 ≤ Γ.rank) (h : Φ (.ix .missing) st) : WE w h₀ Γ st (.Call (.Name "Missing" np) [] [] pos) Φ Ψ := by
  intro A env l hE Z₀ Z W s Q E hA hl hO hR hQ hX
  refine wpAny_Call_ofName (eval_gl hw hO hR.core hg (hw.glob (by k_is)) ?_)
  refine callWith_K0 (hw.XK hR.core) (by k_is) ?_
  refine inst_made hw (rest := []) (binds := [("self", .ref (s.heap.objs.size + 1))]) (hA.mono hrk) hR.core.stay (by k_is) (by k_is) (by k_is) (by k_is) (by k_is) rfl (fun h9 e9 => .of_eq rfl) (by decide) (locs rfl) (fun h₅ tk₅ L I1 => ?_)
  refine wpAny_execs_cons (attr_step hw hR.core.stay I1 rfl rfl rfl (by k_is) (by k_is) (by k_is) (show hasDictIn _ _ = true by k_is) rfl (by show 0 ≤ 1000; decide) (fun Q q => wpAny_Constant_str (q _)) fun h2 tk2 k2 I2 => ?_)
  refine wpAny_execs_cons (attr_step hw hR.core.stay I2 rfl rfl rfl (by k_is) (by k_is) (by k_is) (show hasDictIn _ _ = true by k_is) rfl (by show 1 ≤ 1000; decide) (fun Q q => wpAny_Constant_none (q _)) fun h3 tk3 k3 I3 => ?_)
  refine wpAny_execs_nil ⟨rfl, _, _, _, _, _, rfl, I3, fun hk _ gx gd => ?_⟩
  obtain ⟨Z', hR', hL', z1, z2⟩ := hR.born hk gx gd
  exact hQ _ _ _ _ _ _ _ h hR' hL' ⟨_, _, _, _, rfl, z1, z2, _, rfl⟩

theorem WE.newSymbol (hw : Wd w h₀ mg mb) {e : Expr} {np pos : Pos} {Φ : V → St → Prop} (hg : (Str.ofString "Symbol") ∈ Γ.globs) (hrk : 2 ≤ Γ.rank) (h : WE w h₀ Γ st e (fun U st₁ => ∃ x, U = .d (.str x) ∧ Φ (.ix (.sym x)) st₁) Ψ)
    (he : ∀ env, starEach [e] env = [(false, eval e env)] := by intro _; rfl) : WE w h₀ Γ st (.Call (.Name "Symbol" np) [e] [] pos) Φ Ψ := by
  intro A env l hE Z₀ Z W s Q E hA hl hO hR hQ hX
  refine wpAny_Call_ofName (eval_gl hw hO hR.core hg (hw.glob (by k_is)) ?_)
  refine callWith_K (hw.XK hR.core) (by k_is) (wpAny_items_cons (h A env l hE Z₀ Z W s _ E hA hl hO hR ?_ hX) (he env)) (he env)
  rintro v U st₁ Z₁ W₁ h₁ tk₁ ⟨y, rfl, hΦ⟩ hR₁ hL₁ hv
  cases hv with
  | str _ tt =>
  refine wpAny_items_nil ⟨hw.XK hR₁.core, ?_⟩
  refine inst_made hw (s := { s with heap := h₁, toks := tk₁ }) (rest := [.str y tt]) (binds := [("self", .ref (h₁.objs.size + 1)), ("name", .str y tt)]) (hA.mono hrk) hR₁.core.stay (by k_is) (by k_is) (by k_is) (by k_is) (by k_is) rfl (fun h9 e9 => .of_eq rfl) (by decide) (locs rfl) (fun h₅ tk₅ L I1 => ?_)
  refine wpAny_execs_cons (attr_step hw hR₁.core.stay I1 rfl rfl rfl (by k_is) (by k_is) (by k_is) (show hasDictIn _ _ = true by k_is) rfl (by show 0 ≤ 1000; decide) (fun Q q => wpAny_Constant_str (q _)) fun h2 tk2 k2 I2 => ?_)
  refine wpAny_execs_cons (attr_step hw hR₁.core.stay I2 rfl rfl rfl (by k_is) (by k_is) (by k_is) (show hasDictIn _ _ = true by k_is) rfl (by show 1 ≤ 1000; decide) (fun Q q => load_local rfl rfl I2.ns rfl (q _)) fun h3 tk3 k3 I3 => ?_)
  refine wpAny_execs_cons (attr_step hw hR₁.core.stay I3 rfl rfl rfl (by k_is) (by k_is) (by k_is) (show hasDictIn _ _ = true by k_is) rfl (by show 2 ≤ 1000; decide) (fun Q q => wpAny_Constant_none (q _)) fun h4 tk4 k4 I4 => ?_)
  refine wpAny_execs_nil ⟨rfl, _, _, _, _, _, rfl, I4, fun hk _ gx gd => ?_⟩
  obtain ⟨Z', hR', hL', z1, z2⟩ := hR₁.born hk gx gd
  exact hQ _ _ _ _ _ _ _ hΦ hR' (hL₁.trans hL') ⟨_, _, _, _, rfl, z1, z2, ⟨_, rfl⟩, _, rfl⟩

theorem WE.newVector (hw : Wd w h₀ mg mb) {e1 e2 : Expr} {np pos : Pos} {Φ : V → St → Prop} (hg : (Str.ofString "Vector") ∈ Γ.globs) (hrk : 2 ≤ Γ.rank) (h : WE w h₀ Γ st e1 (fun U st₁ => ∃ y, U = .d (.str y) ∧ WE w h₀ Γ st₁ e2 (fun U' st₂ => ∃ xs, U' = .d (.list xs) ∧ Φ (.ix (.vec y xs)) st₂) Ψ) Ψ)
    (he : ∀ env, starEach [e1, e2] env = (false, eval e1 env) :: starEach [e2] env := by intro _; rfl) (he' : ∀ env, starEach [e2] env = [(false, eval e2 env)] := by intro _; rfl) (hpl : ∀ env, (backTo pos (starEach [e2] env)).any (·.1) = false := by intro _; rfl) : WE w h₀ Γ st (.Call (.Name "Vector" np) [e1, e2] [] pos) Φ Ψ := by
  intro A env l hE Z₀ Z W s Q E hA hl hO hR hQ hX
  refine wpAny_Call_ofName (eval_gl hw hO hR.core hg (hw.glob (by k_is)) ?_)
  refine callWith_K (hw.XK hR.core) (by k_is) (wpAny_items_cons (h A env l hE Z₀ Z W s _ E hA hl hO hR ?_ hX) (he env)) (he env) (hpl env)
  rintro v U st₀ Z₀' W₀ hh₀ tk₀ ⟨y, rfl, h2⟩ hR₀ hL₀ hv
  cases hv with
  | str _ tt =>
  refine wpAny_items_cons (h2 A env l hE Z₀ Z₀' W₀ _ _ E hA hl hO hR₀ ?_ (fun e' msg r h' tk p q => hX e' msg r h' tk p (q.leE hL₀))) (he' env)
  rintro v' U' st₁ Z₁ W₁ h₁ tk₁ ⟨xs, rfl, hΦ⟩ hR₁ hL₁ hv'
  refine wpAny_items_nil ⟨hw.XK hR₁.core, ?_⟩
  refine inst_made hw (s := { s with heap := h₁, toks := tk₁ }) (rest := [.str y tt, v']) (binds := [("self", .ref (h₁.objs.size + 1)), ("kind", .str y tt), ("items", v'), ("attrs", .none)]) (hA.mono hrk) hR₁.core.stay (by k_is) (by k_is) (by k_is) (by k_is) (by k_is) rfl (fun h9 e9 => .of_defaults rfl (hw.X.keeps e9 _ _ (by k_is)) rfl rfl rfl) (by decide) (locs rfl) (fun h₅ tk₅ L I1 => ?_)
  refine wpAny_execs_cons (attr_step hw hR₁.core.stay I1 rfl rfl rfl (by k_is) (by k_is) (by k_is) (show hasDictIn _ _ = true by k_is) rfl (by show 0 ≤ 1000; decide) (fun Q q => load_local rfl rfl I1.ns rfl (q _)) fun h2 tk2 k2 I2 => ?_)
  refine wpAny_execs_cons (attr_step hw hR₁.core.stay I2 rfl rfl rfl (by k_is) (by k_is) (by k_is) (show hasDictIn _ _ = true by k_is) rfl (by show 1 ≤ 1000; decide) (fun Q q => load_local rfl rfl I2.ns rfl (q _)) fun h3 tk3 k3 I3 => ?_)
  refine wpAny_execs_cons (attr_step hw hR₁.core.stay I3 rfl rfl rfl (by k_is) (by k_is) (by k_is) (show hasDictIn _ _ = true by k_is) rfl (by show 2 ≤ 1000; decide) (fun Q q => load_local rfl rfl I3.ns rfl (q _)) fun h4 tk4 k4 I4 => ?_)
  refine wpAny_execs_cons (attr_step hw hR₁.core.stay I4 rfl rfl rfl (by k_is) (by k_is) (by k_is) (show hasDictIn _ _ = true by k_is) rfl (by show 3 ≤ 1000; decide) (fun Q q => wpAny_Constant_bool (q _)) fun h5 tk5 k5 I5 => ?_)
  refine wpAny_execs_cons (attr_step hw hR₁.core.stay I5 rfl rfl rfl (by k_is) (by k_is) (by k_is) (show hasDictIn _ _ = true by k_is) rfl (by show 4 ≤ 1000; decide) (fun Q q => wpAny_Constant_bool (q _)) fun h6 tk6 k6 I6 => ?_)
  refine wpAny_execs_nil ⟨rfl, _, _, _, _, _, rfl, I6, fun hk _ gx gd => ?_⟩
  obtain ⟨Z', hR', hL', z1, z2⟩ := hR₁.born hk gx gd
  exact hQ _ _ _ _ _ _ _ hΦ hR' ((hL₀.trans hL₁).trans hL') ⟨_, _, _, _, rfl, z1, z2, ⟨_, rfl⟩, _, rfl, FD.mono hL'.z hv'⟩

end
end Mine
namespace Mine
section
variable {w : World} {h₀ : Heap} {mg mb : Str → Option Value} {Γ : Cx} {st : St} {Ψ : Str → List Int → Prop}
theorem afterX_next {ts : List Stmt} {Φ : Fl → St → Prop} (h : WS w h₀ Γ st ts Φ Ψ) : afterX w h₀ Γ ts Φ Ψ .next st := h
theorem afterX_ret {ts : List Stmt} {Φ : Fl → St → Prop} {U : V} (h : Φ (.ret U) st) : afterX w h₀ Γ ts Φ Ψ (.ret U) st := h
theorem afterX_cont {ts : List Stmt} {Φ : Fl → St → Prop} (h : Φ .cont st) : afterX w h₀ Γ ts Φ Ψ .cont st := h
theorem forEnd_ret {J : St → Prop} {Φ : Fl → St → Prop} {U : V} (h : Φ (.ret U) st) : forEnd J Φ (.ret U) st := h
theorem forEnd_next {J : St → Prop} {Φ : Fl → St → Prop} (h : J st) : forEnd J Φ .next st := h
theorem forEnd_cont {J : St → Prop} {Φ : Fl → St → Prop} (h : J st) : forEnd J Φ .cont st := h
theorem of_true {P Q : Prop} {c : Bool} (hc : c = true) (h : P) : if c then P else Q := by rw [if_pos hc]; exact h
theorem of_false {P Q : Prop} {c : Bool} (hc : c = false) (h : Q) : if c then P else Q := by rw [if_neg (by rw [hc]; nofun)]; exact h
theorem of_both {P Q : Prop} {c : Bool} (h1 : c = true → P) (h2 : c = false → Q) : if c then P else Q := by
  cases c with
  | true => exact h1 rfl
  | false => exact h2 rfl
/-- what a body comes to -/
def Bd (Φ : V → List Int → Prop) : Fl → St → Prop
  | .ret U, st => Φ U st.row
  | .next, st => Φ (.d .none) st.row
  | .cont, _ => False
theorem Bd_ret {Φ : V → List Int → Prop} {U : V} (h : Φ U st.row) : Bd Φ (.ret U) st := h
theorem Bd_next {Φ : V → List Int → Prop} (h : Φ (.d .none) st.row) : Bd Φ .next st := h
inductive At2 : List Str → List V → Str → V → Prop
  | here {x U ps args} : At2 (x :: ps) (U :: args) x U
  | there {p q ps args x U} : At2 ps args x U → At2 (p :: ps) (q :: args) x U
theorem At2.at {ps : List Str} {args : List V} {x : Str} {U : V} (h : At2 ps args x U) : At (ps.zip args) x U := by
  induction h with
  | here => exact .here
  | there _ ih => exact .there ih
inductive Init2 (ps : List Str) (args : List V) : List (Str × V) → Prop
  | nil : Init2 ps args []
  | arg {x U r} : At2 ps args x U → Init2 ps args r → Init2 ps args ((x, U) :: r)
  | un {x r} : Init2 ps args r → Init2 ps args ((x, .un) :: r)
theorem Init2.to {ps : List Str} {args : List V} {mu : List (Str × V)} (h : Init2 ps args mu) : Init (ps.zip args) mu := by
  induction h with
  | nil => exact .nil
  | arg a _ ih => exact .arg a.at ih
  | un _ ih => exact .un ih
theorem FS.of (hw : Wd w h₀ mg mb) {rank : Nat} {f : Addr} {oc : Value} {od : Option Addr} {fd : FuncData} {osl : Array (Option Value)} {body : List Stmt} {args : List V} {r : List Int} {mu : List (Str × V)} {Φ : V → List Int → Prop}
    (Γ : Cx) (ps : List Str) (ho : (hd.heap_1 w.params).lookup f = some ⟨oc, od, .func fd, osl⟩) (hcd : codeIn (hd.heap_1 w.params) fd.code fd.qualname = true) (hbody : fd.body = .stmts body)
    (hlen : args.length = ps.length) (hbind : ∀ vals : List Value, vals.length = ps.length → bindArgs fd ⟨vals, []⟩ = pure (ps.zip vals)) (hcx : cxB Γ fd.scope.names ps) (hrk : Γ.rank + 1 ≤ rank)
    (hfrees : Γ.frees = []) (hnm : mu.map (·.1) = Γ.names) (hmu : Init2 ps args mu) (h : WS w h₀ Γ ⟨mu, r⟩ body (Bd Φ) Ψ)
    (hclo : fd.closure = [] := by rfl) (hgl : fd.globals = mainGlobals := by rfl) (hbi : fd.builtins = builtinsNs := by rfl)
    (hco : fd.scope.isCoroutine = false := by rfl) (hgen : fd.scope.isGenerator = false := by rfl) (hk : fd.scope.kind = .function := by rfl) (h50 : Γ.rank < 50 := by decide) (hsg : ¬ tabCx Γ := by decide) : FS w h₀ rank f args r Φ Ψ :=
  FS.intro hw Γ ps ho hcd hbody hlen hbind hcx hrk hfrees hnm hmu.to (h.mono (fun F st q => by cases F <;> exact q) fun _ _ q => q) hclo hgl hbi hco hgen hk h50 hsg
theorem bind1 {fd : FuncData} {p : Str} (h : ∀ a, bindArgs fd ⟨[a], []⟩ = pure [(p, a)]) : ∀ vals : List Value, vals.length = [p].length → bindArgs fd ⟨vals, []⟩ = pure ([p].zip vals)
  | [a], _ => h a
theorem bind2 {fd : FuncData} {p q : Str} (h : ∀ a b, bindArgs fd ⟨[a, b], []⟩ = pure [(p, a), (q, b)]) : ∀ vals : List Value, vals.length = [p, q].length → bindArgs fd ⟨vals, []⟩ = pure ([p, q].zip vals)
  | [a, b], _ => h a b
theorem bind3 {fd : FuncData} {p q r : Str} (h : ∀ a b c, bindArgs fd ⟨[a, b, c], []⟩ = pure [(p, a), (q, b), (r, c)]) : ∀ vals : List Value, vals.length = [p, q, r].length → bindArgs fd ⟨vals, []⟩ = pure ([p, q, r].zip vals)
  | [a, b, c], _ => h a b c
theorem bind4 {fd : FuncData} {p q r t : Str} (h : ∀ a b c d, bindArgs fd ⟨[a, b, c, d], []⟩ = pure [(p, a), (q, b), (r, c), (t, d)]) : ∀ vals : List Value, vals.length = [p, q, r, t].length → bindArgs fd ⟨vals, []⟩ = pure ([p, q, r, t].zip vals)
  | [a, b, c, d], _ => h a b c d

theorem map_split {α : Type} {f : α → PyData} : ∀ {items : List α} {pre₀ : List α} {d : PyData} {post : List PyData}, items.map f = pre₀.map f ++ d :: post → (∃ rest, items = pre₀ ++ rest) → ∃ a rest, d = f a ∧ items = pre₀ ++ a :: rest := by
  rintro items pre₀ d post h ⟨rest, rfl⟩
  rw [List.map_append] at h
  have h := List.append_cancel_left h
  cases rest with
  | nil => cases h
  | cons a r => exact ⟨a, r, by simp only [List.map_cons, List.cons.injEq] at h; exact h.1.symm, rfl⟩
theorem map_full {α : Type} {f : α → PyData} {items pre₀ : List α} (h : items.map f = pre₀.map f) (hp : ∃ rest, items = pre₀ ++ rest) : items = pre₀ := by
  obtain ⟨rest, rfl⟩ := hp
  have := congrArg List.length h
  simp at this
  rw [this, List.append_nil]

theorem WX.forMap {α : Type} {f : α → PyData} {items : List α} {x : Str} {p pos : Pos} {iter : Expr} {body : List Stmt} {Φ : Fl → St → Prop} (J : List α → St → Prop) (hx : x ∈ Γ.locs ∨ x ∈ Γ.cells)
    (h : WI w h₀ Γ st iter (fun xs st₁ => xs = items.map f ∧ J [] st₁) Ψ) (hstep : ∀ pre a post st₂, items = pre ++ a :: post → J pre st₂ → ∃ mu', SetV st₂.mu x (.d (f a)) mu' ∧ WS w h₀ Γ ⟨mu', st₂.row⟩ body (forEnd (J (pre ++ [a])) Φ) (fun _ _ => False))
    (hend : ∀ st₂, J items st₂ → Φ .next st₂) (hs : ∀ env x, foldedSetIterable iter env x = pure x := by intro _ _; rfl) : WX w h₀ Γ st (.For (.Name x p) iter body [] pos) Φ Ψ := by
  refine WX.for hx ?_ hs
  intro A env l hE Z₀ Z W s Q E hA hl hO hR hQ hX
  refine h A env l hE Z₀ Z W s Q E hA hl hO hR (fun I xs st' Z' W' h' tk Sx q => ?_) hX
  obtain ⟨rfl, hJ⟩ := q
  refine hQ I _ st' Z' W' h' tk Sx ⟨fun done st => ∃ pre, done = pre.map f ∧ (∃ rest, items = pre ++ rest) ∧ J pre st, ⟨[], rfl, ⟨items, rfl⟩, hJ⟩, ?_, ?_⟩
  · rintro done d post st₂ e ⟨pre, rfl, hp, hj⟩
    obtain ⟨a, rest, rfl, e2⟩ := map_split e hp
    obtain ⟨mu', hS, hb⟩ := hstep pre a rest st₂ e2 hj
    refine ⟨mu', hS, hb.mono (fun F st₃ q => ?_) fun _ _ q => q⟩
    have : J (pre ++ [a]) st₃ → ∃ pre₁, pre.map f ++ [f a] = pre₁.map f ∧ (∃ rest, items = pre₁ ++ rest) ∧ J pre₁ st₃ := fun q => ⟨pre ++ [a], by simp, ⟨rest, by rw [e2]; simp⟩, q⟩
    cases F with
    | next => exact this q
    | cont => exact this q
    | ret U => exact q
  · rintro st₂ ⟨pre, e, hp, hj⟩
    exact hend st₂ (by rw [map_full e hp]; exact hj)

theorem WI.of {e : Expr} {α : Type} {f : α → PyData} {items : List α} {J : St → Prop} (h : WE w h₀ Γ st e (fun U st₁ => U = .d (.list (items.map f)) ∧ J st₁) Ψ) : WI w h₀ Γ st e (fun xs st₁ => xs = items.map f ∧ J st₁) Ψ :=
  WI.list (h.mono (fun _ _ ⟨a, b⟩ => ⟨_, a, rfl, b⟩) fun _ _ q => q)
theorem WI.ofRange (hw : Wd w h₀ mg mb) {a : Expr} {p pos : Pos} {J : St → Prop} {n : Nat} (hg : (Str.ofString "range") ∈ Γ.globs) (hn : n < 2 ^ 62)
    (h : WE w h₀ Γ st a (fun U st₁ => U = .d (.int (n : Int)) ∧ J st₁) Ψ) (he : ∀ env, starEach [a] env = [(false, eval a env)] := by intro _; rfl) : WI w h₀ Γ st (.Call (.Name "range" p) [a] [] pos) (fun xs st₁ => xs = (List.range n).map (fun k : Nat => PyData.int (k : Int)) ∧ J st₁) Ψ := by
  refine WI.range hw hg (h.mono ?_ fun _ _ q => q) he
  rintro U st₁ ⟨rfl, hj⟩
  exact ⟨n, rfl, by omega, by omega, by simp, hj⟩

/-- a comprehension over a list of one kind -/
theorem WComp.map {α : Type} {f : α → PyData} {items : List α} {x : Str} {ifs : List Expr} {elt iter : Expr} {scope : Scope} {Φ : List PyData → St → Prop} (Γc : Cx) (capmu : List (Str × V)) (J : List α → List PyData → St → Prop)
    (hB : ccB Γ Γc scope.names x) (hrk : Γc.rank = Γ.rank) (hlocs : Γc.locs = [x]) (hcells : Γc.cells = []) (hcn : capmu.map (·.1) = Γc.frees) (hlen : items.length ≤ sizeLine)
    (h : WI w h₀ Γ st iter (fun xs st₁ => xs = items.map f ∧ st₁.mu = st.mu ∧ J [] [] ⟨(x, .un) :: capmu, st₁.row⟩) Ψ) (hcaps : Caps st.mu capmu)
    (hstep : ∀ pre a post ds st₂, items = pre ++ a :: post → J pre ds st₂ → ∃ mu', SetV st₂.mu x (.d (f a)) mu' ∧ WC w h₀ Γc ⟨mu', st₂.row⟩ ifs (fun b st₃ =>
      if b then WE w h₀ Γc st₃ elt (fun U st₄ => ∃ e, U = .d e ∧ J (pre ++ [a]) (ds ++ [e]) st₄) (fun _ _ => False) else J (pre ++ [a]) ds st₃))
    (hend : ∀ ds st₂, J items ds st₂ → ds.length ≤ items.length → Φ ds ⟨st.mu, st₂.row⟩) : WComp w h₀ Γ st x ifs elt iter scope Φ Ψ := by
  refine ⟨Γc, hB, hrk, hlocs, hcells, ?_⟩
  intro A env l hE Z₀ Z W s Q E hA hl hO hR hQ hX
  refine h A env l hE Z₀ Z W s Q E hA hl hO hR (fun I xs st' Z' W' h' tk Sx q => ?_) hX
  obtain ⟨rfl, em, hJ⟩ := q
  refine hQ I _ st' Z' W' h' tk Sx ⟨capmu, fun done ds st => ∃ pre, done = pre.map f ∧ (∃ rest, items = pre ++ rest) ∧ J pre ds st, hcn, by rw [em]; exact hcaps, by simpa using hlen, ⟨[], rfl, ⟨items, rfl⟩, hJ⟩, ?_, ?_⟩
  · rintro done d post ds st₂ e ⟨pre, rfl, hp, hj⟩
    obtain ⟨a, rest, rfl, e2⟩ := map_split e hp
    obtain ⟨mu', hS, hb⟩ := hstep pre a rest ds st₂ e2 hj
    refine ⟨mu', hS, ?_⟩
    have up : ∀ {ds' st₃}, J (pre ++ [a]) ds' st₃ → ∃ pre₁, pre.map f ++ [f a] = pre₁.map f ∧ (∃ rest, items = pre₁ ++ rest) ∧ J pre₁ ds' st₃ := fun q => ⟨pre ++ [a], by simp, ⟨rest, by rw [e2]; simp⟩, q⟩
    have fin : ∀ b st₃, (if b = true then WE w h₀ Γc st₃ elt (fun U st₄ => ∃ e, U = .d e ∧ J (pre ++ [a]) (ds ++ [e]) st₄) (fun _ _ => False) else J (pre ++ [a]) ds st₃) →
        (if b = true then WE w h₀ Γc st₃ elt (fun U st₄ => ∃ e, U = .d e ∧ ∃ pre₁, pre.map f ++ [f a] = pre₁.map f ∧ (∃ rest, items = pre₁ ++ rest) ∧ J pre₁ (ds ++ [e]) st₄) (fun _ _ => False) else ∃ pre₁, pre.map f ++ [f a] = pre₁.map f ∧ (∃ rest, items = pre₁ ++ rest) ∧ J pre₁ ds st₃) := by
      intro b st₃ q
      cases b with
      | false => exact up q
      | true => exact WE.mono q (fun U st₄ ⟨e, h1, h2⟩ => ⟨e, h1, up h2⟩) fun _ _ q => q
    cases ifs with
    | nil => exact fin true _ hb
    | cons t r => cases r with
      | nil => exact WT.mono hb (fun b st₃ q => fin b st₃ q) fun _ _ q => q
      | cons _ _ => exact hb.elim
  · rintro ds st₂ ⟨pre, e, hp, hj⟩ hle
    have e9 := map_full e hp
    rw [em]
    exact hend ds st₂ (by rw [e9]; exact hj) (by simpa using hle)

theorem shaped_str {x : Str} (h : PyData.strOk x = true) : SeqAt.shaped (.str x) = true := by simp [SeqAt.shaped, PyData.canLay0, PyData.depth, h]
theorem shaped_int (x : Int) : SeqAt.shaped (.int x) = true := rfl
theorem shaped_none : SeqAt.shaped .none = true := rfl
theorem CmpR.eqS {x y : Str} (hx : SeqAt.shaped (.str x) = true) (hy : SeqAt.shaped (.str y) = true) : CmpR .Eq (.str x) (.str y) (decide (x = y)) := by
  have : PyData.eqv (.str x) (.str y) = decide (x = y) := by rw [PyData.eqv, Bool.eq_iff_iff]; simp
  rw [← this]; exact .eq _ _ hx hy
theorem CmpR.neS {x y : Str} (hx : SeqAt.shaped (.str x) = true) (hy : SeqAt.shaped (.str y) = true) : CmpR .NotEq (.str x) (.str y) (!decide (x = y)) := by
  have : PyData.eqv (.str x) (.str y) = decide (x = y) := by rw [PyData.eqv, Bool.eq_iff_iff]; simp
  rw [← this]; exact .ne _ _ hx hy
theorem CmpR.eqI (x y : Int) : CmpR .Eq (.int x) (.int y) (decide (x = y)) := by
  have : PyData.eqv (.int x) (.int y) = decide (x = y) := by rw [PyData.eqv, Bool.eq_iff_iff]; simp
  rw [← this]; exact .eq _ _ rfl rfl
theorem CmpR.neI (x y : Int) : CmpR .NotEq (.int x) (.int y) (!decide (x = y)) := by
  have : PyData.eqv (.int x) (.int y) = decide (x = y) := by rw [PyData.eqv, Bool.eq_iff_iff]; simp
  rw [← this]; exact .ne _ _ rfl rfl
theorem CmpR.neNI (y : Int) : CmpR .NotEq .none (.int y) true := .ne .none (.int y) rfl rfl
theorem CmpR.eqNI (y : Int) : CmpR .Eq .none (.int y) false := .eq .none (.int y) rfl rfl
theorem CmpR.neNS {y : Str} (hy : SeqAt.shaped (.str y) = true) : CmpR .NotEq .none (.str y) true := .ne .none (.str y) rfl hy
theorem CmpR.eqNS {y : Str} (hy : SeqAt.shaped (.str y) = true) : CmpR .Eq .none (.str y) false := .eq .none (.str y) rfl hy

theorem WE.kindVec (hw : Wd w h₀ mg mb) {x : Str} {p pos : Pos} {k : Str} {xs : List PyData} {Φ : V → St → Prop} (hm : At st.mu x (.ix (.vec k xs))) (h : Φ (.d (.str k)) st) : WE w h₀ Γ st (.Attribute (.Name x p) "kind" pos) Φ Ψ := WE.kind hw hm h
theorem WE.kindNull (hw : Wd w h₀ mg mb) {x : Str} {p pos : Pos} {Φ : V → St → Prop} (hm : At st.mu x (.ix .null)) (h : Φ (.d (.str "NULL")) st) : WE w h₀ Γ st (.Attribute (.Name x p) "kind" pos) Φ Ψ := WE.kind hw hm h
theorem WE.kindMissing (hw : Wd w h₀ mg mb) {x : Str} {p pos : Pos} {Φ : V → St → Prop} (hm : At st.mu x (.ix .missing)) (h : Φ (.d (.str "missing")) st) : WE w h₀ Γ st (.Attribute (.Name x p) "kind" pos) Φ Ψ := WE.kind hw hm h
theorem WE.kindSym (hw : Wd w h₀ mg mb) {x : Str} {p pos : Pos} {y : Str} {Φ : V → St → Prop} (hm : At st.mu x (.ix (.sym y))) (h : Φ (.d (.str "symbol")) st) : WE w h₀ Γ st (.Attribute (.Name x p) "kind" pos) Φ Ψ := WE.kind hw hm h
end
end Mine
namespace Mine
theorem kf_start (w : World) : PySem.Challenge.rw_nz0476_01 = PySem.Challenge.rw_nz0476_01 ∧ hd.heap_1 w.params = hd.heap_1 w.params := by
  k_fill
  exact ⟨rfl, rfl⟩
end Mine
set_option hygiene false
local macro_rules | `(tactic| walk_at "mW") => `(tactic| (repeat (first | (with_reducible show WE _ _ _ _ _ _ _) <;> (with_reducible first | refine WE.bI (by (repeat (first | with_reducible apply At.here | with_reducible apply At.there)) <;> fail) (by first | apply BinR.add | apply BinR.sub | (apply BinR.mod; omega) | (apply BinR.fdiv; omega; exact PyProof.noPylong_small (by omega))) ?_ | refine WE.cint ?_ | refine WE.cnone ?_ | refine WE.cstr ?_ | refine WE.cbool ?_ | refine WE.name (by (repeat (first | with_reducible apply At.here | with_reducible apply At.there)) <;> fail) rfl ?_ | refine WE.bin ?_ | refine WE.neg ?_ | refine WE.cmp ?_ | refine WE.ite ?_ | refine WE.itemS (by (repeat (first | with_reducible apply At.here | with_reducible apply At.there)) <;> fail) ?_ (by intro _ _; with_unfolding_all rfl) | refine WE.item ?_ | refine WE.and2 ?_ | refine WE.kindVec hw (by (repeat (first | with_reducible apply At.here | with_reducible apply At.there)) <;> fail) ?_ | refine WE.kindSym hw (by (repeat (first | with_reducible apply At.here | with_reducible apply At.there)) <;> fail) ?_ | refine WE.kind hw (by (repeat (first | with_reducible apply At.here | with_reducible apply At.there)) <;> fail) ?_ | refine WE.items hw (by (repeat (first | with_reducible apply At.here | with_reducible apply At.there)) <;> fail) ?_ | refine WE.sname hw (by (repeat (first | with_reducible apply At.here | with_reducible apply At.there)) <;> fail) ?_ | refine WE.lenOwn hw (by decide +kernel) (by (repeat (first | with_reducible apply At.here | with_reducible apply At.there)) <;> fail) (by first | omega | (simp only [List.length_map]; omega)) ?_ | refine WE.lenOwnI hw (by decide +kernel) (by (repeat (first | with_reducible apply At.here | with_reducible apply At.there)) <;> fail) (by first | omega | (simp only [List.length_map]; omega)) ?_ | refine WE.abs hw (by decide +kernel) ?_ (by intro _; with_unfolding_all rfl) | refine WE.len hw (by decide +kernel) ?_ (by intro _; with_unfolding_all rfl) | refine WE.max2 hw (by decide +kernel) ?_ (by intro _; with_unfolding_all rfl) (by intro _; with_unfolding_all rfl) (by intro _; with_unfolding_all rfl) | refine WE.chr hw (by decide +kernel) ?_ (by intro _; with_unfolding_all rfl) | refine WE.listRange hw (by decide +kernel) (by decide +kernel) ?_ (by intro _; with_unfolding_all rfl) | refine WE.listNil ?_ | refine WE.newVecNil hw (by decide +kernel) (by decide) ?_ (by intro _; with_unfolding_all rfl) | refine WE.newVector hw (by decide +kernel) (by decide) ?_ (by intro _; with_unfolding_all rfl) (by intro _; with_unfolding_all rfl) (by intro _; with_unfolding_all rfl) | refine WE.list ?_ | refine WE.tuple ?_) | (with_reducible show WX _ _ _ _ _ _ _) <;> (with_reducible first | refine WX.retNil ?_ | refine WX.ret ?_ | refine WX.cont ?_ | refine WX.ite ?_ | refine WX.append (by (repeat (first | with_reducible apply At.here | with_reducible apply At.there)) <;> fail) ?_ (by intro _; with_unfolding_all rfl) (by with_unfolding_all rfl) (by intro _; with_unfolding_all rfl) | refine WX.raise hw (by decide +kernel) (by decide) ?_ (by intro _; with_unfolding_all rfl) | refine WX.putI' (by (repeat (first | with_reducible apply At.here | with_reducible apply At.there)) <;> fail) ?_ (by intro _; with_unfolding_all rfl) | refine WX.putS' (by (repeat (first | with_reducible apply At.here | with_reducible apply At.there)) <;> fail) ?_ (by intro _; with_unfolding_all rfl) | refine WX.assignNil (by (repeat (first | with_reducible apply SetV.here | with_reducible apply SetV.there)) <;> fail) (by decide +kernel) ?_ | refine WX.assign ?_ (by decide +kernel) (by intro _; with_unfolding_all rfl)) | (with_reducible show WT _ _ _ _ _ _ _) <;> (with_reducible first | refine WT.notInI' (by (repeat (first | with_reducible apply At.here | with_reducible apply At.there)) <;> fail) ?_ | refine WT.inOwn' (by (repeat (first | with_reducible apply At.here | with_reducible apply At.there)) <;> fail) ?_ | refine WT.inS' hw (by (repeat (first | with_reducible apply At.here | with_reducible apply At.there)) <;> fail) ?_ | refine WT.notInS' hw (by (repeat (first | with_reducible apply At.here | with_reducible apply At.there)) <;> fail) ?_ | refine WT.nS (by (repeat (first | with_reducible apply At.here | with_reducible apply At.there)) <;> fail) (by first | exact CmpR.eqS (by first | assumption | decide +kernel) (by first | assumption | decide +kernel) | exact CmpR.neS (by first | assumption | decide +kernel) (by first | assumption | decide +kernel) | exact CmpR.eqNS (by first | assumption | decide +kernel) | exact CmpR.neNS (by first | assumption | decide +kernel)) ?_ | refine WT.nI (by (repeat (first | with_reducible apply At.here | with_reducible apply At.there)) <;> fail) (by first | apply CmpR.eqI | apply CmpR.neI | apply CmpR.lt | apply CmpR.le | apply CmpR.gt | apply CmpR.ge | apply CmpR.eqNI | apply CmpR.neNI) ?_ | refine WT.nN (by (repeat (first | with_reducible apply At.here | with_reducible apply At.there)) <;> fail) (by first | apply CmpR.isN | apply CmpR.isNotN) ?_ | refine WT.kV hw (by (repeat (first | with_reducible apply At.here | with_reducible apply At.there)) <;> fail) (by first | exact CmpR.eqS (by first | assumption | decide +kernel) (by first | assumption | decide +kernel) | exact CmpR.neS (by first | assumption | decide +kernel) (by first | assumption | decide +kernel) | exact CmpR.eqNS (by first | assumption | decide +kernel) | exact CmpR.neNS (by first | assumption | decide +kernel)) ?_ | refine WT.kS hw (by (repeat (first | with_reducible apply At.here | with_reducible apply At.there)) <;> fail) (by first | exact CmpR.eqS (by first | assumption | decide +kernel) (by first | assumption | decide +kernel) | exact CmpR.neS (by first | assumption | decide +kernel) (by first | assumption | decide +kernel) | exact CmpR.eqNS (by first | assumption | decide +kernel) | exact CmpR.neNS (by first | assumption | decide +kernel)) ?_ | refine WT.kA hw (by (repeat (first | with_reducible apply At.here | with_reducible apply At.there)) <;> fail) (by first | exact CmpR.eqS (by first | assumption | decide +kernel) (by first | assumption | decide +kernel) | exact CmpR.neS (by first | assumption | decide +kernel) (by first | assumption | decide +kernel) | exact CmpR.eqNS (by first | assumption | decide +kernel) | exact CmpR.neNS (by first | assumption | decide +kernel)) ?_ | refine WT.rowNe (by (repeat (first | with_reducible apply At.here | with_reducible apply At.there)) <;> fail) ?_ | refine WT.cmp ?_ | refine WT.not ?_ | refine WT.bool ?_ | refine WT.val ?_ (by intro _ _; with_unfolding_all rfl)) | (with_reducible first | refine WS.cons ?_ | refine WS.nil ?_ | refine afterX_next ?_ | refine afterX_ret ?_ | refine afterX_cont ?_ | refine WA.nil ?_ | refine WA.consNil ?_ | refine WA.cons ?_ (by intro _; with_unfolding_all rfl) | refine WAll.andCons ?_ | refine WAll.orCons ?_ | refine WAll.andNil ?_ | refine WAll.orNil ?_ | refine forEnd_ret ?_ | refine forEnd_next ?_ | refine forEnd_cont ?_ | refine Bd_ret ?_ | refine Bd_next ?_) | (with_reducible show @ite Prop (_ = true) _ _ _) <;> (first | refine of_true rfl ?_ | refine of_false rfl ?_ | refine of_true (by decide +kernel) ?_ | refine of_false (by decide +kernel) ?_) | (with_reducible show Exists _) <;> (first | (with_reducible first | refine setA (by (repeat (first | with_reducible apply SetV.here | with_reducible apply SetV.there)) <;> fail) ?_ | refine appA (by (repeat (first | with_reducible apply SetV.here | with_reducible apply SetV.there)) <;> fail) (by (repeat (first | with_reducible apply At.here | with_reducible apply At.there)) <;> fail) (by simp only [List.length_map, List.length_append, List.length_cons, List.length_nil, sizeLine_eq]; omega) ?_) | refine ⟨_, rfl, ?_⟩ | refine ⟨_, _, rfl, (by (repeat (first | with_reducible apply At.here | with_reducible apply At.there)) <;> fail), ?_⟩ | refine ⟨_, _, rfl, BinR.add _ _, ?_⟩ | refine ⟨_, _, rfl, BinR.sub _ _, ?_⟩ | refine ⟨_, _, rfl, BinR.fdiv _ _ (by omega) (PyProof.noPylong_small (by omega)), ?_⟩ | refine ⟨_, _, rfl, BinR.mod _ _ (by omega), ?_⟩ | refine ⟨_, _, rfl, CmpR.isN _, ?_⟩ | refine ⟨_, _, rfl, CmpR.isNotN _, ?_⟩ | refine ⟨_, _, rfl, CmpR.lt _ _, ?_⟩ | refine ⟨_, _, rfl, CmpR.le _ _, ?_⟩ | refine ⟨_, _, rfl, CmpR.gt _ _, ?_⟩ | refine ⟨_, _, rfl, CmpR.ge _ _, ?_⟩ | refine ⟨_, _, rfl, CmpR.eqI _ _, ?_⟩ | refine ⟨_, _, rfl, CmpR.neI _ _, ?_⟩ | refine ⟨_, _, rfl, CmpR.eqNI _, ?_⟩ | refine ⟨_, _, rfl, CmpR.neNI _, ?_⟩ | refine ⟨_, _, rfl, CmpR.eqS (by first | assumption | decide +kernel) (by first | assumption | decide +kernel), ?_⟩ | refine ⟨_, _, rfl, CmpR.neS (by first | assumption | decide +kernel) (by first | assumption | decide +kernel), ?_⟩ | refine ⟨_, _, rfl, CmpR.eqNS (by first | assumption | decide +kernel), ?_⟩ | refine ⟨_, _, rfl, CmpR.neNS (by first | assumption | decide +kernel), ?_⟩ | refine ⟨_, _, rfl, ItemR.tuple (by decide) (by decide) rfl, ?_⟩ | refine ⟨_, _, rfl, ItemR.list (by decide) (by decide) rfl, ?_⟩ | refine ⟨_, _, rfl, CmpR.notInT _ _ (by decide +kernel) (by first | assumption | decide +kernel), ?_⟩ | refine ⟨_, _, rfl, CmpR.inT _ _ (by decide +kernel) (by first | assumption | decide +kernel), ?_⟩ | refine ⟨_, _, _, rfl, (by (repeat (first | with_reducible apply At.here | with_reducible apply At.there)) <;> fail), (by simp only [List.length_map, List.length_append, List.length_cons, List.length_nil, sizeLine_eq]; omega), (by (repeat (first | with_reducible apply SetV.here | with_reducible apply SetV.there)) <;> fail), ?_⟩ | refine ⟨_, _, _, rfl, (by (repeat (first | with_reducible apply At.here | with_reducible apply At.there)) <;> fail), (by first | assumption | simpa using hc), (by simp only [List.length_map, List.length_append, List.length_cons, List.length_nil, sizeLine_eq]; omega), (by (repeat (first | with_reducible apply SetV.here | with_reducible apply SetV.there)) <;> fail), ?_⟩ | (refine ⟨_, (by (repeat (first | with_reducible apply SetV.here | with_reducible apply SetV.there)) <;> fail), ?_⟩) | refine ⟨[_, _], ⟨rfl, rfl, trivial⟩, (by rw [sizeLine_eq]; simp), ?_⟩ | refine ⟨[_, _, _, _], ⟨rfl, rfl, rfl, rfl, trivial⟩, (by rw [sizeLine_eq]; simp), ?_⟩ | refine ⟨[_, _, _], ⟨rfl, rfl, rfl, trivial⟩, (by rw [sizeLine_eq]; simp), ?_⟩) | (with_reducible show And _ _) <;> refine ⟨rfl, ?_⟩)))
local macro_rules | `(tactic| walk_at "mA") => `(tactic| (walk_at "mW" <;> repeat' (((with_reducible show @ite Prop (_ = true) _ _ _) <;> (refine of_both (fun hc => ?_) (fun hc => ?_) <;> try simp only [decide_eq_true_eq, decide_eq_false_iff_not, Bool.not_eq_true', Bool.not_eq_false'] at hc)) <;> walk_at "mW")))
set_option hygiene true
namespace Mine
theorem setA {w : World} {h₀ : Heap} {Γ : Cx} {mu : List (Str × V)} {r : List Int} {x : Str} {U : V} {mu' : List (Str × V)} {ts : List Stmt} {Φ : Fl → St → Prop} {Ψ : Str → List Int → Prop} (h : SetV mu x U mu') (h2 : afterX w h₀ Γ ts Φ Ψ .next ⟨mu', r⟩) :
    ∃ mu', SetV (St.mu ⟨mu, r⟩) x U mu' ∧ afterX w h₀ Γ ts Φ Ψ .next ⟨mu', St.row ⟨mu, r⟩⟩ := ⟨mu', h, h2⟩
theorem appA {w : World} {h₀ : Heap} {Γ : Cx} {mu : List (Str × V)} {r : List Int} {x : Str} {d : PyData} {xs : List PyData} {mu' : List (Str × V)} {ts : List Stmt} {Φ : Fl → St → Prop} {Ψ : Str → List Int → Prop} (h : SetV mu x (.ol (xs ++ [d])) mu') (ha : At mu x (.ol xs)) (hl : xs.length ≤ sizeLine) (h2 : afterX w h₀ Γ ts Φ Ψ .next ⟨mu', r⟩) :
    ∃ d' mu' xs', V.d d = .d d' ∧ At (St.mu ⟨mu, r⟩) x (.ol xs') ∧ xs'.length ≤ sizeLine ∧ SetV (St.mu ⟨mu, r⟩) x (.ol (xs' ++ [d'])) mu' ∧ afterX w h₀ Γ ts Φ Ψ .next ⟨mu', St.row ⟨mu, r⟩⟩ := ⟨d, mu', xs, rfl, ha, hl, h, h2⟩
theorem WX.forMap0 {w : World} {h₀ : Heap} {Γ : Cx} {st : St} {Ψ : Str → List Int → Prop} {α : Type} {f : α → PyData} {items : List α} {x : Str} {p pos : Pos} {iter : Expr} {body : List Stmt} {Φ : Fl → St → Prop} (J : List α → St → Prop) (hx : x ∈ Γ.locs ∨ x ∈ Γ.cells)
    (h : WI w h₀ Γ st iter (fun xs st₁ => xs = items.map f ∧ J [] st₁) Ψ) (hstep : ∀ pre a post st₂, items = pre ++ a :: post → J pre st₂ → ∃ mu', SetV st₂.mu x (.d (f a)) mu' ∧ WS w h₀ Γ ⟨mu', st₂.row⟩ body (forEnd (J (pre ++ [a])) (fun _ _ => False)) (fun _ _ => False))
    (hend : ∀ st₂, J items st₂ → Φ .next st₂) (hs : ∀ env x, foldedSetIterable iter env x = pure x := by intro _ _; rfl) : WX w h₀ Γ st (.For (.Name x p) iter body [] pos) Φ Ψ :=
  WX.forMap J hx h (fun pre a post st₂ e j => by
    obtain ⟨mu', hS, hb⟩ := hstep pre a post st₂ e j
    exact ⟨mu', hS, hb.mono (fun F st q => by cases F <;> first | exact q | exact q.elim) fun _ _ q => q⟩) hend hs
section
variable {w : World} {h₀ : Heap} {mg mb : Str → Option Value} {Γ : Cx} {st : St} {Ψ : Str → List Int → Prop}
theorem WT.nS {x : Str} {p p1 pos : Pos} {k : Nat} {op : CmpOp} {d : PyData} {s : Str} {c : Bool} {Φ : Bool → St → Prop} (hm : At st.mu x (.d d)) (hc : CmpR op d (.str s) c) (h : Φ c st) (hb : behindInMarks op (.Constant (.str s) k p1) = false := by with_unfolding_all rfl) :
    WT w h₀ Γ st (.Compare (.Name x p) [op] [.Constant (.str s) k p1] pos) Φ Ψ := WT.cmp (WE.name hm rfl ⟨_, rfl, WE.cstr ⟨_, _, rfl, hc, h⟩⟩) hb
theorem WT.nI {x : Str} {p p1 pos : Pos} {k : Nat} {op : CmpOp} {d : PyData} {i : Int} {c : Bool} {Φ : Bool → St → Prop} (hm : At st.mu x (.d d)) (hc : CmpR op d (.int i) c) (h : Φ c st) (hb : behindInMarks op (.Constant (.int i) k p1) = false := by with_unfolding_all rfl) :
    WT w h₀ Γ st (.Compare (.Name x p) [op] [.Constant (.int i) k p1] pos) Φ Ψ := WT.cmp (WE.name hm rfl ⟨_, rfl, WE.cint ⟨_, _, rfl, hc, h⟩⟩) hb
theorem WT.nN {x : Str} {p p1 pos : Pos} {k : Nat} {op : CmpOp} {d : PyData} {c : Bool} {Φ : Bool → St → Prop} (hm : At st.mu x (.d d)) (hc : CmpR op d .none c) (h : Φ c st) (hb : behindInMarks op (.Constant .none k p1) = false := by with_unfolding_all rfl) :
    WT w h₀ Γ st (.Compare (.Name x p) [op] [.Constant .none k p1] pos) Φ Ψ := WT.cmp (WE.name hm rfl ⟨_, rfl, WE.cnone ⟨_, _, rfl, hc, h⟩⟩) hb
theorem WT.kV (hw : Wd w h₀ mg mb) {x : Str} {p p1 p2 pos : Pos} {k : Nat} {op : CmpOp} {K : Str} {xs : List PyData} {s : Str} {c : Bool} {Φ : Bool → St → Prop} (hm : At st.mu x (.ix (.vec K xs))) (hc : CmpR op (.str K) (.str s) c) (h : Φ c st)
    (hb : behindInMarks op (.Constant (.str s) k p1) = false := by with_unfolding_all rfl) : WT w h₀ Γ st (.Compare (.Attribute (.Name x p) "kind" p2) [op] [.Constant (.str s) k p1] pos) Φ Ψ :=
  WT.cmp (WE.kindVec hw hm ⟨_, rfl, WE.cstr ⟨_, _, rfl, hc, h⟩⟩) hb
theorem WT.kS (hw : Wd w h₀ mg mb) {x : Str} {p p1 p2 pos : Pos} {k : Nat} {op : CmpOp} {y : Str} {s : Str} {c : Bool} {Φ : Bool → St → Prop} (hm : At st.mu x (.ix (.sym y))) (hc : CmpR op (.str "symbol") (.str s) c) (h : Φ c st)
    (hb : behindInMarks op (.Constant (.str s) k p1) = false := by with_unfolding_all rfl) : WT w h₀ Γ st (.Compare (.Attribute (.Name x p) "kind" p2) [op] [.Constant (.str s) k p1] pos) Φ Ψ :=
  WT.cmp (WE.kindSym hw hm ⟨_, rfl, WE.cstr ⟨_, _, rfl, hc, h⟩⟩) hb
theorem WT.kA (hw : Wd w h₀ mg mb) {x : Str} {p p1 p2 pos : Pos} {k : Nat} {op : CmpOp} {o : Ix} {s : Str} {c : Bool} {Φ : Bool → St → Prop} (hm : At st.mu x (.ix o)) (hc : CmpR op (.str (ixKind o)) (.str s) c) (h : Φ c st)
    (hb : behindInMarks op (.Constant (.str s) k p1) = false := by with_unfolding_all rfl) : WT w h₀ Γ st (.Compare (.Attribute (.Name x p) "kind" p2) [op] [.Constant (.str s) k p1] pos) Φ Ψ :=
  WT.cmp (WE.kind hw hm ⟨_, rfl, WE.cstr ⟨_, _, rfl, hc, h⟩⟩) hb
theorem WE.nS {x : Str} {p p1 pos : Pos} {k : Nat} {op : CmpOp} {d : PyData} {s : Str} {c : Bool} {Φ : V → St → Prop} (hm : At st.mu x (.d d)) (hc : CmpR op d (.str s) c) (h : Φ (.d (.bool c)) st) (hb : behindInMarks op (.Constant (.str s) k p1) = false := by with_unfolding_all rfl) :
    WE w h₀ Γ st (.Compare (.Name x p) [op] [.Constant (.str s) k p1] pos) Φ Ψ := WE.cmp (WE.name hm rfl ⟨_, rfl, WE.cstr ⟨_, _, rfl, hc, h⟩⟩) hb
theorem WE.bI {x : Str} {p p1 pos : Pos} {k : Nat} {op : Operator} {d z : PyData} {i : Int} {Φ : V → St → Prop} (hm : At st.mu x (.d d)) (hc : BinR op d (.int i) z) (h : Φ (.d z) st) :
    WE w h₀ Γ st (.BinOp (.Name x p) op (.Constant (.int i) k p1) pos) Φ Ψ := WE.bin (WE.name hm rfl ⟨_, rfl, WE.cint ⟨_, _, rfl, hc, h⟩⟩)
end
theorem WE.cut {w : World} {h₀ : Heap} {Γ : Cx} {st : St} {e : Expr} {Φ : V → St → Prop} {Ψ : Str → List Int → Prop} (U : V) (h : WE w h₀ Γ st e (fun U' st' => U' = U ∧ st' = st) Ψ) (k : Φ U st) : WE w h₀ Γ st e Φ Ψ :=
  h.mono (fun _ _ q => by obtain ⟨rfl, rfl⟩ := q; exact k) fun _ _ q => q
theorem WX.iteC {w : World} {h₀ : Heap} {Γ : Cx} {st : St} {t : Expr} {a b : List Stmt} {pos : Pos} {Φ : Fl → St → Prop} {Ψ : Str → List Int → Prop} (β : Bool) (h : WT w h₀ Γ st t (fun c st' => c = β ∧ st' = st) Ψ)
    (h1 : β = true → WS w h₀ Γ st a Φ Ψ) (h2 : β = false → WS w h₀ Γ st b Φ Ψ) : WX w h₀ Γ st (.If t a b pos) Φ Ψ :=
  WX.ite (h.mono (fun _ _ q => by obtain ⟨rfl, rfl⟩ := q; exact of_both h1 h2) fun _ _ q => q)
section
variable {w : World} {h₀ : Heap} {mg mb : Str → Option Value} {Γ : Cx} {st : St} {Ψ : Str → List Int → Prop}
theorem WX.retNil {p pos : Pos} {Φ : Fl → St → Prop} (h : Φ (.ret (.d (.list []))) st) : WX w h₀ Γ st (.Return (some (.List [] p)) pos) Φ Ψ :=
  WX.ret (WE.list (WA.nil ⟨[], trivial, Nat.zero_le _, h⟩))
theorem WT.notInI' {a : Expr} {d : Str} {p pos : Pos} {ks₀ : List Int} {Φ : Bool → St → Prop} (_h0 : At st.mu d (.itf ks₀)) (h : WE w h₀ Γ st a (fun U st₁ => ∃ x ks, U = .d (.int x) ∧ At st₁.mu d (.itf ks) ∧ Φ (!decide (x ∈ ks)) st₁) Ψ) :
    WT w h₀ Γ st (.Compare a [.NotIn] [.Name d p] pos) Φ Ψ := WT.notInI h
theorem WT.inS' (hw : Wd w h₀ mg mb) {a : Expr} {d : Str} {p pos : Pos} {kvs₀ : List (Str × Int)} {Φ : Bool → St → Prop} (_h0 : At st.mu d (.sd kvs₀)) (h : WE w h₀ Γ st a (fun U st₁ => ∃ x kvs, U = .d (.str x) ∧ At st₁.mu d (.sd kvs) ∧ Φ (sdGet kvs x).isSome st₁) Ψ) :
    WT w h₀ Γ st (.Compare a [.In] [.Name d p] pos) Φ Ψ := WT.inS hw h
theorem WT.notInS' (hw : Wd w h₀ mg mb) {a : Expr} {d : Str} {p pos : Pos} {kvs₀ : List (Str × Int)} {Φ : Bool → St → Prop} (_h0 : At st.mu d (.sd kvs₀)) (h : WE w h₀ Γ st a (fun U st₁ => ∃ x kvs, U = .d (.str x) ∧ At st₁.mu d (.sd kvs) ∧ Φ (!(sdGet kvs x).isSome) st₁) Ψ) :
    WT w h₀ Γ st (.Compare a [.NotIn] [.Name d p] pos) Φ Ψ := WT.notInS hw h
theorem WE.listNil {p : Pos} {Φ : V → St → Prop} (h : Φ (.d (.list [])) st) : WE w h₀ Γ st (.List [] p) Φ Ψ := WE.list (WA.nil ⟨[], trivial, Nat.zero_le _, h⟩)
theorem WX.assignNil {x : Str} {p p' pos : Pos} {mu' : List (Str × V)} {Φ : Fl → St → Prop} (hS : SetV st.mu x (.ol []) mu') (hx : x ∈ Γ.locs ∨ x ∈ Γ.cells) (h : Φ .next ⟨mu', st.row⟩) : WX w h₀ Γ st (.Assign [.Name x p] (.List [] p') pos) Φ Ψ :=
  WX.assign (WE.newlist ⟨mu', hS, h⟩) hx (by intro _; with_unfolding_all rfl)
theorem WT.inOwn' {e : Expr} {x : Str} {p pos : Pos} {xs₀ : List PyData} {Φ : Bool → St → Prop} (_h0 : At st.mu x (.ol xs₀)) (h : WE w h₀ Γ st e (fun U st₁ => ∃ d xs, U = .d d ∧ At st₁.mu x (.ol xs) ∧ PyData.canLayAll0 xs = true ∧ SeqAt.shaped d = true ∧ Φ (xs.any fun y => PyData.eqv y d) st₁) Ψ) :
    WT w h₀ Γ st (.Compare e [.In] [.Name x p] pos) Φ Ψ := WT.inOwn h
theorem WA.consNil {p pos : Pos} {es : List Expr} {Φ : List V → St → Prop} (h : WA w h₀ Γ st pos es (fun Us st₂ => Φ (.d (.list []) :: Us) st₂) Ψ) : WA w h₀ Γ st pos (.List [] p :: es) Φ Ψ :=
  WA.cons (WE.list (WA.nil ⟨[], trivial, Nat.zero_le _, rfl, h⟩))
theorem WX.putI' {d : Str} {i e : Expr} {p1 p pos : Pos} {Φ : Fl → St → Prop} {ks₀ : List Int} (_h0 : At st.mu d (.it ks₀))
    (h : WE w h₀ Γ st e (fun U st₁ => ∃ x ks₀, U = .d x ∧ At st₁.mu d (.it ks₀) ∧ WE w h₀ Γ st₁ i (fun U' st₂ => ∃ k ks mu', U' = .d (.int k) ∧ At st₂.mu d (.it ks) ∧ ks.length ≤ sizeLine ∧ SetV st₂.mu d (.it (if k ∈ ks then ks else ks ++ [k])) mu' ∧ Φ .next ⟨mu', st₂.row⟩) Ψ) Ψ)
    (hs : ∀ env, swapsWith e (some (.Subscript (.Name d p1) i p)) pos.line env = pure false) : WX w h₀ Γ st (.Assign [.Subscript (.Name d p1) i p] e pos) Φ Ψ := WX.putI h hs
theorem WX.putS' {d : Str} {i e : Expr} {p1 p pos : Pos} {Φ : Fl → St → Prop} {kvs₁ : List (Str × Int)} (_h0 : At st.mu d (.sd kvs₁))
    (h : WE w h₀ Γ st e (fun U st₁ => ∃ n kvs₀, U = .d (.int n) ∧ At st₁.mu d (.sd kvs₀) ∧ WE w h₀ Γ st₁ i (fun U' st₂ => ∃ x kvs mu', U' = .d (.str x) ∧ At st₂.mu d (.sd kvs) ∧ sdGet kvs x = none ∧ kvs.length ≤ sizeLine ∧ SetV st₂.mu d (.sd (kvs ++ [(x, n)])) mu' ∧ Φ .next ⟨mu', st₂.row⟩) Ψ) Ψ)
    (hs : ∀ env, swapsWith e (some (.Subscript (.Name d p1) i p)) pos.line env = pure false) : WX w h₀ Γ st (.Assign [.Subscript (.Name d p1) i p] e pos) Φ Ψ := WX.putS h hs
end
end Mine
namespace Mine

/-! ## values as data -/
def ox : Option Int → PyData
  | none => .none
  | some i => .int i
def tx : Option Str → PyData
  | none => .none
  | some x => .str x
def qx : Option (Int × Int) → PyData
  | none => .none
  | some (a, b) => .tuple [.int a, .int b]

def isFin : Option (Int × Int) → Bool
  | none => false
  | some (_, b) => decide (b > 0)
def toWhole : Option (Int × Int) → Option Int
  | none => none
  | some (a, b) => if b > 0 then (if a ≥ 0 then some ((if a < 0 then -a else a).fdiv b) else some (0 - (if a < 0 then -a else a).fdiv b)) else none
/-- a pair whose second figure is small -/
def qOk : Option (Int × Int) → Prop
  | none => True
  | some (a, b) => 0 ≤ b ∧ b ≤ 2 ∧ -100 ≤ a ∧ a ≤ 100

section
variable {w : World} {h₀ : Heap} {mg mb : Str → Option Value}
theorem fs_is_finite (hw : Wd w h₀ mg mb) (q : Option (Int × Int)) (r : List Int) : FS w h₀ 1 60 [.d (qx q)] r (fun U r' => U = .d (.bool (isFin q)) ∧ r' = r) (fun _ _ => False) := by
  refine FS.of hw ⟨0, ["x"], [], [], []⟩ ["x"] (by k_is) (by k_is) rfl rfl (bind1 fun _ => rfl) (by decide +kernel) (Nat.le_refl _) rfl (mu := [("x", .d (qx q))]) rfl (by repeat (first | with_reducible exact Init2.nil | with_reducible refine Init2.un ?_ | (with_reducible refine Init2.arg (by repeat (first | with_reducible exact At2.here | with_reducible apply At2.there)) ?_))) ?_
  cases q with
  | none =>
    walk_at "mW"
    rfl
  | some q =>
    obtain ⟨a, b⟩ := q
    dsimp only [qx]
    walk_at "mW"
    rfl
theorem fs_to_whole (hw : Wd w h₀ mg mb) (q : Option (Int × Int)) (hq : qOk q) (r : List Int) : FS w h₀ 2 67 [.d (qx q)] r (fun U r' => U = .d (ox (toWhole q)) ∧ r' = r) (fun _ _ => False) := by
  refine FS.of hw ⟨1, ["x", "found"], [], [], ["is_finite", "abs"]⟩ ["x"] (by k_is) (by k_is) rfl rfl (bind1 fun _ => rfl) (by decide +kernel) (Nat.le_refl _) rfl (mu := [("x", .d (qx q)), ("found", .un)]) rfl (by repeat (first | with_reducible exact Init2.nil | with_reducible refine Init2.un ?_ | (with_reducible refine Init2.arg (by repeat (first | with_reducible exact At2.here | with_reducible apply At2.there)) ?_))) ?_
  walk_at "mW"
  refine WE.call (k := 1) hw (by decide +kernel) (hw.glob (by k_is)) (by k_is) (by decide) ?_
  walk_at "mW"
  refine (fs_is_finite hw q r).mono (Nat.le_refl _) ?_ (fun _ _ q => q.elim)
  rintro U r' ⟨rfl, rfl⟩
  walk_at "mW"
  cases q with
  | none =>
    walk_at "mW"
    rfl
  | some q =>
    obtain ⟨a, b⟩ := q
    obtain ⟨q1, q2, q3, q4⟩ := hq
    by_cases hb : b > 0
    · refine of_false (by simp [isFin, hb]) ?_
      dsimp only [qx]
      walk_at "mA"
      · exact ⟨by simp only [toWhole, if_pos hb, if_pos hc]; rfl, rfl⟩
      · exact ⟨by simp only [toWhole, if_pos hb, if_neg hc]; rfl, rfl⟩
    · refine of_true (by simp [isFin, hb]) ?_
      walk_at "mW"
      simp [toWhole, hb, ox]

/-! ## whole_subscripts -/
def wsub (qs : List (Option (Int × Int))) : List (Option Int) := qs.map toWhole
theorem toWhole_zero (q : Int × Int) (h : q.2 = 0) : toWhole (some q) = none := by
  obtain ⟨a, b⟩ := q
  dsimp only at h
  subst h
  simp [toWhole]
theorem fs_whole_double (hw : Wd w h₀ mg mb) (qs : List (Option (Int × Int))) (hq : ∀ q ∈ qs, qOk q) (hlen : qs.length ≤ 9) (r : List Int) :
    FS w h₀ 4 74 [.ix (.vec "double" (qs.map qx))] r (fun U r' => U = .d (.list ((wsub qs).map ox)) ∧ r' = r) (fun _ _ => False) := by
  refine FS.of hw ⟨3, ["ix", "found", "item"], [], [], ["to_whole"]⟩ ["ix"] (by k_is) (by k_is) rfl rfl (bind1 fun _ => rfl) (by decide +kernel) (Nat.le_refl _) rfl (mu := [("ix", .ix (.vec "double" (qs.map qx))), ("found", .un), ("item", .un)]) rfl (by repeat (first | with_reducible exact Init2.nil | with_reducible refine Init2.un ?_ | (with_reducible refine Init2.arg (by repeat (first | with_reducible exact At2.here | with_reducible apply At2.there)) ?_))) ?_
  walk_at "mW"
  refine WX.forMap0 (f := qx) (items := qs) (fun done st => ∃ U, st = ⟨[("ix", .ix (.vec "double" (qs.map qx))), ("found", .ol ((done.map toWhole).map ox)), ("item", U)], r⟩) (by decide +kernel) (WI.of ?_) ?_ ?_
  · walk_at "mW"
    exact ⟨_, rfl⟩
  · rintro pre q post st₂ e ⟨U, rfl⟩
    refine ⟨_, (by (repeat (first | with_reducible apply SetV.here | with_reducible apply SetV.there)) <;> fail), ?_⟩
    have hq' : qOk q := hq q (by rw [e]; simp)
    have hl : pre.length ≤ 9 := by rw [e] at hlen; simp at hlen; omega
    have fin : ∀ t : Option Int, t = toWhole q → (pre.map toWhole).map ox ++ [ox t] = ((pre ++ [q]).map toWhole).map ox := by rintro t rfl; simp
    cases q with
    | none =>
      walk_at "mW"
      exact ⟨_, by rw [← fin none rfl]; rfl⟩
    | some q =>
      obtain ⟨a, b⟩ := q
      dsimp only [qx]
      walk_at "mA"
      · exact ⟨_, by rw [← fin none (toWhole_zero _ hc).symm]; rfl⟩
      · refine WE.call (k := 2) hw (by decide +kernel) (hw.glob (by k_is)) (by k_is) (by decide) ?_
        walk_at "mW"
        refine (fs_to_whole hw (some (a, b)) hq' _).mono (Nat.le_refl _) ?_ (fun _ _ q => q.elim)
        rintro U r' ⟨rfl, rfl⟩
        walk_at "mW"
        exact ⟨_, by rw [← fin _ rfl]⟩
  · rintro st₂ ⟨U, rfl⟩
    refine afterX_next (WS.cons ?_)
    refine WX.freezeL (x := "found") (by (repeat (first | with_reducible apply At.here | with_reducible apply At.there)) <;> fail) (by (repeat (first | with_reducible apply SetV.here | with_reducible apply SetV.there)) <;> fail) ?_
    walk_at "mW"
    rfl
end
end Mine
namespace Mine

inductive Res where
  | ok (d : PyData)
  | err (m : Str)

abbrev RΦ (r : List Int) (R : Res) (U : V) (r' : List Int) : Prop := r' = r ∧ ∃ d, U = .d d ∧ R = .ok d
abbrev RΨ (r : List Int) (R : Res) (m : Str) (r' : List Int) : Prop := r' = r ∧ R = .err m

section
variable {w : World} {h₀ : Heap} {mg mb : Str → Option Value}
theorem fs_whole_integer (hw : Wd w h₀ mg mb) (xs : List (Option Int)) (r : List Int) :
    FS w h₀ 4 74 [.ix (.vec "integer" (xs.map ox))] r (fun U r' => U = .d (.list (xs.map ox)) ∧ r' = r) (fun _ _ => False) := by
  refine FS.of hw ⟨3, ["ix", "found", "item"], [], [], ["to_whole"]⟩ ["ix"] (by k_is) (by k_is) rfl rfl (bind1 fun _ => rfl) (by decide +kernel) (Nat.le_refl _) rfl (mu := [("ix", .ix (.vec "integer" (xs.map ox))), ("found", .un), ("item", .un)]) rfl (by repeat (first | with_reducible exact Init2.nil | with_reducible refine Init2.un ?_ | (with_reducible refine Init2.arg (by repeat (first | with_reducible exact At2.here | with_reducible apply At2.there)) ?_))) ?_
  walk_at "mW"
  rfl

variable {Γ : Cx} {st : St} {Ψ : Str → List Int → Prop}
/-! ## logical_places -/
def lgStep (xs : List (Option Int)) (i : Nat) : List (Option Int) := match xs[i % xs.length]? with
  | some none => [none]
  | some (some k) => if k = 0 then [] else [some (i : Int)]
  | none => []
def logicalPlaces (xs : List (Option Int)) (n : Nat) : List (Option Int) := if xs = [] then [] else (List.range (max n xs.length)).flatMap (lgStep xs)
theorem flatMap_len {α β : Type} {f : α → List β} (h : ∀ a, (f a).length ≤ 1) : ∀ xs : List α, (xs.flatMap f).length ≤ xs.length
  | [] => Nat.le_refl _
  | a :: r => by rw [List.flatMap_cons, List.length_append, List.length_cons]; have := h a; have := flatMap_len h r; omega
theorem lgStep_len (xs : List (Option Int)) (i : Nat) : (lgStep xs i).length ≤ 1 := by
  unfold lgStep
  split
  · simp
  · split <;> simp
  · simp
theorem fmod_nat (a b : Nat) : ((a : Int).fmod (b : Int)) = ((a % b : Nat) : Int) := by
  rw [Int.fmod_eq_emod_of_nonneg _ (by omega)]; rfl
theorem fs_logical_places (hw : Wd w h₀ mg mb) (xs : List (Option Int)) (n : Nat) (hl : xs.length ≤ 9) (hn : n ≤ 9) (r : List Int) :
    FS w h₀ 2 81 [.d (.list (xs.map ox)), .d (.int n)] r (fun U r' => U = .d (.list ((logicalPlaces xs n).map ox)) ∧ r' = r) (fun _ _ => False) := by
  refine FS.of hw ⟨1, ["items", "n", "count", "places", "i", "item"], [], [], ["len", "range", "max"]⟩ ["items", "n"] (by k_is) (by k_is) rfl rfl (bind2 fun _ _ => rfl) (by decide +kernel) (Nat.le_refl _) rfl
    (mu := [("items", .d (.list (xs.map ox))), ("n", .d (.int n)), ("count", .un), ("places", .un), ("i", .un), ("item", .un)]) rfl (by repeat (first | with_reducible exact Init2.nil | with_reducible refine Init2.un ?_ | (with_reducible refine Init2.arg (by repeat (first | with_reducible exact At2.here | with_reducible apply At2.there)) ?_))) ?_
  walk_at "mW"
  refine ⟨by rw [List.length_map]; omega, ?_⟩
  rw [List.length_map]
  walk_at "mA"
  · have : xs = [] := List.length_eq_zero_iff.mp (by omega)
    refine ⟨?_, rfl⟩
    rw [this]; rfl
  · have hne : xs ≠ [] := fun e => hc (by rw [e]; rfl)
    have hpos : 0 < xs.length := List.length_pos_iff.mpr hne
    refine WX.forMap0 (f := fun k : Nat => PyData.int (k : Int)) (items := List.range (max n xs.length)) (fun done st => ∃ U U', st = ⟨[("items", .d (.list (xs.map ox))), ("n", .d (.int n)), ("count", .d (.int xs.length)), ("places", .ol ((done.flatMap (lgStep xs)).map ox)), ("i", U), ("item", U')], r⟩) (by decide +kernel) (WI.ofRange hw (by decide +kernel) (by omega) ?_ (by intro _; with_unfolding_all rfl)) ?_ ?_
    · walk_at "mW"
      exact ⟨by rw [show (max (n : Int) (xs.length : Int)) = ((max n xs.length : Nat) : Int) by omega], _, _, rfl⟩
    · rintro pre i post st₂ e ⟨U, U', rfl⟩
      refine ⟨_, (by (repeat (first | with_reducible apply SetV.here | with_reducible apply SetV.there)) <;> fail), ?_⟩
      have hlen : pre.length ≤ 9 := by have := congrArg List.length e; simp at this; omega
      have hpl : (pre.flatMap (lgStep xs)).length ≤ 9 := Nat.le_trans (flatMap_len (lgStep_len xs) pre) hlen
      have fin : ∀ t : List (Option Int), lgStep xs i = t → ((pre ++ [i]).flatMap (lgStep xs)).map ox = (pre.flatMap (lgStep xs)).map ox ++ t.map ox := by rintro t rfl; simp
      have hi : i % xs.length < xs.length := Nat.mod_lt _ hpos
      obtain ⟨it, hit⟩ : ∃ it, xs[i % xs.length]? = some it := ⟨_, List.getElem?_eq_getElem hi⟩
      walk_at "mW"
      rw [fmod_nat]
      refine ⟨_, _, rfl, ItemR.list (d := ox it) (by omega) (by omega) (by rw [Int.toNat_natCast, List.getElem?_map, hit]; rfl), ?_⟩
      walk_at "mW"
      cases it with
      | none =>
        refine of_true rfl ?_
        walk_at "mW"
        exact ⟨_, _, by rw [fin [none] (by simp [lgStep, hit])]; rfl⟩
      | some k =>
        refine of_false rfl ?_
        dsimp only [ox]
        walk_at "mA"
        · exact ⟨_, _, by rw [fin [some i] (by simp [lgStep, hit, hc])]; rfl⟩
        · exact ⟨_, _, by rw [fin [] (by simp [lgStep, hit, hc]), List.map_nil, List.append_nil]⟩
    · rintro st₂ ⟨U, U', rfl⟩
      refine afterX_next (WS.cons ?_)
      refine WX.freezeL (x := "places") (by (repeat (first | with_reducible apply At.here | with_reducible apply At.there)) <;> fail) (by (repeat (first | with_reducible apply SetV.here | with_reducible apply SetV.there)) <;> fail) ?_
      walk_at "mW"
      exact ⟨by rw [logicalPlaces, if_neg hne], rfl⟩

/-! ## whole_places -/
def posOf (x : Option Int) : List (Option Int) := match x with
  | none => [none]
  | some i => if i > 0 then [some (i - 1)] else []
theorem posOf_len (x : Option Int) : (posOf x).length ≤ 1 := by
  unfold posOf
  split
  · simp
  · split <;> simp
def outStep (ks : List Int) (x : Option Int) : List Int := match x with
  | none => ks
  | some i => if i > 0 then ks else if i < 0 then (if -i - 1 ∈ ks then ks else ks ++ [-i - 1]) else ks
def outKeys (xs : List (Option Int)) : List Int := xs.foldl outStep []
theorem outStep_len (ks : List Int) (x : Option Int) : (outStep ks x).length ≤ ks.length + 1 := by
  unfold outStep
  split
  · omega
  · split
    · omega
    · split
      · split
        · omega
        · simp
      · omega
theorem outFold_len : ∀ (xs : List (Option Int)) (ks : List Int), (xs.foldl outStep ks).length ≤ ks.length + xs.length
  | [], _ => Nat.le_refl _
  | a :: r, ks => by rw [List.foldl_cons, List.length_cons]; have := outFold_len r (outStep ks a); have := outStep_len ks a; omega
theorem outKeys_len (xs : List (Option Int)) : (outKeys xs).length ≤ xs.length := by have := outFold_len xs []; simpa [outKeys] using this
theorem outKeys_snoc (xs : List (Option Int)) (x : Option Int) : outKeys (xs ++ [x]) = outStep (outKeys xs) x := by simp [outKeys]
def lacksB (xs : List (Option Int)) : Bool := xs.any Option.isNone
def wholePlaces (xs : List (Option Int)) (n : Nat) : Res :=
  if (outKeys xs).length = 0 then .ok (.list ((xs.flatMap posOf).map ox))
  else if lacksB xs = true then .err "can't mix NAs with negative subscripts"
  else if (xs.flatMap posOf).length > 0 then .err "can't mix positive and negative subscripts"
  else .ok (.list (((List.range n).filter fun k : Nat => !decide ((k : Int) ∈ outKeys xs)).map fun k : Nat => PyData.int (k : Int)))
theorem fs_whole_places (hw : Wd w h₀ mg mb) (xs : List (Option Int)) (n : Nat) (hl : xs.length ≤ 9) (hn : n ≤ 9) (r : List Int) :
    FS w h₀ 5 86 [.d (.list (xs.map ox)), .d (.int n)] r (RΦ r (wholePlaces xs n)) (RΨ r (wholePlaces xs n)) := by
  refine FS.of hw ⟨3, ["items", "n", "places", "lacks", "item"], ["left_out"], [], ["len", "range", "Refusal"]⟩ ["items", "n"] (by k_is) (by k_is) rfl rfl (bind2 fun _ _ => rfl) (by decide +kernel) (by decide) rfl
    (mu := [("items", .d (.list (xs.map ox))), ("n", .d (.int n)), ("places", .un), ("lacks", .un), ("item", .un), ("left_out", .un)]) rfl (by repeat (first | with_reducible exact Init2.nil | with_reducible refine Init2.un ?_ | (with_reducible refine Init2.arg (by repeat (first | with_reducible exact At2.here | with_reducible apply At2.there)) ?_))) ?_
  walk_at "mW"
  refine WE.newdictI ?_
  walk_at "mW"
  refine WX.forMap0 (f := ox) (items := xs) (fun done st => ∃ U, st = ⟨[("items", .d (.list (xs.map ox))), ("n", .d (.int n)), ("places", .ol ((done.flatMap posOf).map ox)), ("lacks", .d (.bool (lacksB done))), ("item", U), ("left_out", .it (outKeys done))], r⟩) (by decide +kernel) (WI.of ?_) ?_ ?_
  · walk_at "mW"
    exact ⟨_, rfl⟩
  · rintro pre it post st₂ e ⟨U, rfl⟩
    refine ⟨_, (by (repeat (first | with_reducible apply SetV.here | with_reducible apply SetV.there)) <;> fail), ?_⟩
    have hlen : pre.length ≤ 9 := by have := congrArg List.length e; simp at this; omega
    have hpl : (pre.flatMap posOf).length ≤ 9 := Nat.le_trans (flatMap_len posOf_len pre) hlen
    have hkl : (outKeys pre).length ≤ 9 := Nat.le_trans (outKeys_len pre) hlen
    have fin : ∀ t : List (Option Int), posOf it = t → ((pre ++ [it]).flatMap posOf).map ox = (pre.flatMap posOf).map ox ++ t.map ox := by rintro t rfl; simp
    have fin2 : ∀ b : Bool, it.isNone = b → lacksB (pre ++ [it]) = (lacksB pre || b) := by rintro b rfl; simp [lacksB]
    rw [outKeys_snoc]
    cases it with
    | none =>
      walk_at "mW"
      exact ⟨_, by rw [fin [none] rfl, fin2 true rfl, Bool.or_true]; rfl⟩
    | some k =>
      rw [fin2 false rfl, Bool.or_false]
      dsimp only [ox]
      walk_at "mA"
      · exact ⟨_, by rw [fin [some (k - 1)] (by simp [posOf, hc]), outStep, if_pos hc]; rfl⟩
      · rename_i hc_1
        exact ⟨_, by rw [fin [] (by rw [posOf, if_neg hc_1]), outStep, if_neg hc_1, if_pos hc, List.map_nil, List.append_nil]⟩
      · rename_i hc_1
        exact ⟨_, by rw [fin [] (by rw [posOf, if_neg hc_1]), outStep, if_neg hc_1, if_neg hc, List.map_nil, List.append_nil]⟩
  · rintro st₂ ⟨U, rfl⟩
    have hpl : (xs.flatMap posOf).length ≤ 9 := Nat.le_trans (flatMap_len posOf_len xs) hl
    have hkl : (outKeys xs).length ≤ 9 := Nat.le_trans (outKeys_len xs) hl
    walk_at "mW"
    refine of_both (fun hc => ?_) (fun hc => ?_) <;> simp only [decide_eq_true_eq, decide_eq_false_iff_not] at hc
    · refine WS.cons ?_
      refine WX.freezeL (x := "places") (by (repeat (first | with_reducible apply At.here | with_reducible apply At.there)) <;> fail) (by (repeat (first | with_reducible apply SetV.here | with_reducible apply SetV.there)) <;> fail) ?_
      walk_at "mW"
      rw [wholePlaces, if_pos (by omega)]
    · walk_at "mW"
      refine of_both (fun hl' => ?_) (fun hl' => ?_)
      · walk_at "mW"
        rw [wholePlaces, if_neg (by omega), if_pos hl']
      · walk_at "mW"
        refine of_both (fun hp => ?_) (fun hp => ?_) <;> simp only [decide_eq_true_eq, decide_eq_false_iff_not, List.length_map] at hp
        · walk_at "mW"
          rw [wholePlaces, if_neg (by omega), if_neg (by rw [hl']; nofun), if_pos (by omega)]
        · refine WS.nil ?_
          refine afterX_next (WS.cons ?_)
          refine WX.freezeI hw (x := "left_out") (by (repeat (first | with_reducible apply At.here | with_reducible apply At.there)) <;> fail) (by (repeat (first | with_reducible apply SetV.here | with_reducible apply SetV.there)) <;> fail) ?_
          refine WX.ret ?_
          refine WE.listComp ?_ rfl (by intro _ _; rfl)
          refine WComp.map (f := fun k : Nat => PyData.int (k : Int)) (items := List.range n) ⟨3, ["i"], [], ["left_out"], []⟩ [("left_out", .itf (outKeys xs))]
            (fun done ds st => ds = (done.filter fun k : Nat => !decide ((k : Int) ∈ outKeys xs)).map (fun k : Nat => PyData.int (k : Int)) ∧ ∃ U, st = ⟨[("i", U), ("left_out", .itf (outKeys xs))], r⟩) (by decide +kernel) rfl rfl rfl rfl (by rw [List.length_range, sizeLine_eq]; omega) (WI.ofRange hw (by decide +kernel) (by omega) ?_ (by intro _; with_unfolding_all rfl)) (by try dsimp only; repeat (first | with_reducible exact Caps.nil | (with_reducible refine Caps.cons (by (repeat (first | with_reducible apply At.here | with_reducible apply At.there)) <;> fail) (by with_unfolding_all rfl) ?_))) ?_ ?_
          · walk_at "mW"
            exact ⟨_, rfl⟩
          · rintro pre k post ds st₂ e ⟨rfl, U, rfl⟩
            refine ⟨_, (by (repeat (first | with_reducible apply SetV.here | with_reducible apply SetV.there)) <;> fail), ?_⟩
            show WT _ _ _ _ _ _ _
            walk_at "mW"
            refine of_both (fun hk => ?_) (fun hk => ?_)
            · walk_at "mW"
              exact ⟨by simp [List.filter_append, hk], _, rfl⟩
            · exact ⟨by simp [List.filter_append, hk], _, rfl⟩
          · rintro ds st₂ ⟨rfl, U, rfl⟩ _
            walk_at "mW"
            rw [wholePlaces, if_neg (by omega), if_neg (by rw [hl']; nofun), if_neg (by omega)]
end
end Mine
namespace Mine

def nx : Option (List (Option Str)) → PyData
  | none => .none
  | some xs => .list (xs.map tx)
def TOk (x : Option Str) : Prop := SeqAt.shaped (tx x) = true
def NOk : Option (List (Option Str)) → Prop
  | none => True
  | some xs => xs.length ≤ 9 ∧ ∀ x ∈ xs, TOk x

def fpAt (xs : List (Option Str)) (tab : List (Str × Int)) (i : Nat) : List (Str × Int) := match xs[i]? with
  | some (some s) => if s = "" then tab else if (sdGet tab s).isSome = true then tab else tab ++ [(s, (i : Int))]
  | _ => tab
theorem fpAt_some {xs : List (Option Str)} {tab : List (Str × Int)} {i : Nat} {s : Str} (h : xs[i]? = some (some s)) : fpAt xs tab i = if s = "" then tab else if (sdGet tab s).isSome = true then tab else tab ++ [(s, (i : Int))] := by
  rw [fpAt, h]
def firstPlaces : Option (List (Option Str)) → List (Str × Int)
  | none => []
  | some xs => (List.range xs.length).foldl (fpAt xs) []
theorem fpAt_len (xs : List (Option Str)) (tab : List (Str × Int)) (i : Nat) : (fpAt xs tab i).length ≤ tab.length + 1 := by
  unfold fpAt
  split
  · split
    · omega
    · split
      · omega
      · simp
  · omega
theorem fold_len {α β : Type} {f : List β → α → List β} (h : ∀ t a, (f t a).length ≤ t.length + 1) : ∀ (xs : List α) (t : List β), (xs.foldl f t).length ≤ t.length + xs.length
  | [], _ => Nat.le_refl _
  | a :: r, t => by rw [List.foldl_cons, List.length_cons]; have := fold_len h r (f t a); have := h t a; omega
theorem firstPlaces_len {names : Option (List (Option Str))} (h : NOk names) : (firstPlaces names).length ≤ 9 := by
  cases names with
  | none => exact Nat.zero_le _
  | some xs => have := fold_len (fpAt_len xs) (List.range xs.length) []; have := h.1; simp only [firstPlaces, List.length_range, List.length_nil] at *; omega

section
variable {w : World} {h₀ : Heap} {mg mb : Str → Option Value}
theorem fs_first_places (hw : Wd w h₀ mg mb) (names : Option (List (Option Str))) (hN : NOk names) (r : List Int) :
    FS w h₀ 2 93 [.d (nx names)] r (fun U r' => U = .sd (firstPlaces names) ∧ r' = r) (fun _ _ => False) := by
  refine FS.of hw ⟨1, ["names", "table", "i", "name"], [], [], ["range", "len"]⟩ ["names"] (by k_is) (by k_is) rfl rfl (bind1 fun _ => rfl) (by decide +kernel) (Nat.le_refl _) rfl
    (mu := [("names", .d (nx names)), ("table", .un), ("i", .un), ("name", .un)]) rfl (by repeat (first | with_reducible exact Init2.nil | with_reducible refine Init2.un ?_ | (with_reducible refine Init2.arg (by repeat (first | with_reducible exact At2.here | with_reducible apply At2.there)) ?_))) ?_
  walk_at "mW"
  refine WE.newdictS ?_
  walk_at "mW"
  cases names with
  | none =>
    refine of_false rfl ?_
    refine WS.nil ?_
    refine afterX_next (WS.cons ?_)
    refine WX.retOwn (x := "table") (by (repeat (first | with_reducible apply At.here | with_reducible apply At.there)) <;> fail) (.inr ⟨_, rfl⟩) (by (repeat (first | with_reducible apply SetV.here | with_reducible apply SetV.there)) <;> fail) ?_
    walk_at "mW"
    rfl
  | some xs =>
    obtain ⟨hl, hs⟩ := hN
    refine of_true rfl ?_
    refine WS.cons ?_
    refine WX.forMap0 (f := fun k : Nat => PyData.int (k : Int)) (items := List.range xs.length) (fun done st => ∃ U U', st = ⟨[("names", .d (.list (xs.map tx))), ("table", .sd (done.foldl (fpAt xs) [])), ("i", U), ("name", U')], r⟩) (by decide +kernel) (WI.ofRange hw (by decide +kernel) (by omega) ?_ (by intro _; with_unfolding_all rfl)) ?_ ?_
    · dsimp only [nx]
      walk_at "mW"
      refine ⟨by rw [List.length_map]; omega, ?_⟩
      rw [List.length_map]
      exact ⟨rfl, _, _, rfl⟩
    · rintro pre i post st₂ e ⟨U, U', rfl⟩
      refine ⟨_, (by (repeat (first | with_reducible apply SetV.here | with_reducible apply SetV.there)) <;> fail), ?_⟩
      have hlen : pre.length ≤ 9 := by have := congrArg List.length e; simp at this; omega
      have htl : (pre.foldl (fpAt xs) []).length ≤ 9 := Nat.le_trans (fold_len (fpAt_len xs) pre []) (by simpa using hlen)
      have hi : i < xs.length := by
        have : i ∈ List.range xs.length := by rw [e]; simp
        simpa using this
      obtain ⟨it, hit⟩ : ∃ it, xs[i]? = some it := ⟨_, List.getElem?_eq_getElem hi⟩
      have hok : TOk it := hs it (List.mem_of_getElem? hit)
      rw [List.foldl_append, List.foldl_cons, List.foldl_nil]
      generalize pre.foldl (fpAt xs) [] = tab at htl ⊢
      walk_at "mW"
      refine ⟨_, _, rfl, ItemR.list (d := tx it) (by omega) (by omega) (by rw [Int.toNat_natCast, List.getElem?_map, hit]; rfl), ?_⟩
      walk_at "mW"
      cases it with
      | none =>
        walk_at "mW"
        exact ⟨_, _, by rw [fpAt, hit]⟩
      | some s =>
        have hok' : SeqAt.shaped (PyData.str s) = true := hok
        refine of_true rfl ?_
        dsimp only [tx]
        walk_at "mA"
        · rename_i h0
          exact ⟨_, _, by rw [fpAt_some hit, if_neg h0, if_neg (by rw [hc]; nofun)]⟩
        · rename_i h0
          exact ⟨_, _, by rw [fpAt_some hit, if_neg h0, if_pos hc]⟩
        · exact ⟨_, _, by rw [fpAt_some hit, if_pos hc]⟩
    · rintro st₂ ⟨U, U', rfl⟩
      refine afterX_next (WS.nil ?_)
      refine afterX_next (WS.cons ?_)
      refine WX.retOwn (x := "table") (by (repeat (first | with_reducible apply At.here | with_reducible apply At.there)) <;> fail) (.inr ⟨_, rfl⟩) (by (repeat (first | with_reducible apply SetV.here | with_reducible apply SetV.there)) <;> fail) ?_
      walk_at "mW"
      rfl

/-! ## name_places -/
def npAt (tab : List (Str × Int)) : Option Str → Option Int
  | none => none
  | some s => sdGet tab s
theorem fs_name_places (hw : Wd w h₀ mg mb) (texts : List (Option Str)) (names : Option (List (Option Str))) (hN : NOk names) (hl : texts.length ≤ 9) (hT : ∀ x ∈ texts, TOk x) (r : List Int) :
    FS w h₀ 4 100 [.d (.list (texts.map tx)), .d (nx names)] r (fun U r' => U = .d (.list ((texts.map (npAt (firstPlaces names))).map ox)) ∧ r' = r) (fun _ _ => False) := by
  refine FS.of hw ⟨3, ["texts", "names", "table", "places", "item"], [], [], ["first_places"]⟩ ["texts", "names"] (by k_is) (by k_is) rfl rfl (bind2 fun _ _ => rfl) (by decide +kernel) (Nat.le_refl _) rfl
    (mu := [("texts", .d (.list (texts.map tx))), ("names", .d (nx names)), ("table", .un), ("places", .un), ("item", .un)]) rfl (by repeat (first | with_reducible exact Init2.nil | with_reducible refine Init2.un ?_ | (with_reducible refine Init2.arg (by repeat (first | with_reducible exact At2.here | with_reducible apply At2.there)) ?_))) ?_
  walk_at "mW"
  refine WE.call (k := 2) hw (by decide +kernel) (hw.glob (by k_is)) (by k_is) (by decide) ?_
  walk_at "mW"
  refine (fs_first_places hw names hN _).mono (Nat.le_refl _) ?_ (fun _ _ q => q.elim)
  rintro U r' ⟨rfl, rfl⟩
  have htl := firstPlaces_len hN
  generalize firstPlaces names = tab at htl ⊢
  walk_at "mW"
  refine WX.forMap0 (f := tx) (items := texts) (fun done st => ∃ U, st = ⟨[("texts", .d (.list (texts.map tx))), ("names", .d (nx names)), ("table", .sd tab), ("places", .ol ((done.map (npAt tab)).map ox)), ("item", U)], r'⟩) (by decide +kernel) (WI.of ?_) ?_ ?_
  · walk_at "mW"
    exact ⟨_, rfl⟩
  · rintro pre it post st₂ e ⟨U, rfl⟩
    refine ⟨_, (by (repeat (first | with_reducible apply SetV.here | with_reducible apply SetV.there)) <;> fail), ?_⟩
    have hlen : pre.length ≤ 9 := by have := congrArg List.length e; simp at this; omega
    have hok : TOk it := hT it (by rw [e]; simp)
    have fin : ∀ t : Option Int, npAt tab it = t → ((pre ++ [it]).map (npAt tab)).map ox = (pre.map (npAt tab)).map ox ++ [ox t] := by rintro t rfl; simp
    cases it with
    | none =>
      walk_at "mW"
      exact ⟨_, by rw [fin none rfl]; rfl⟩
    | some s =>
      have hok' : SeqAt.shaped (PyData.str s) = true := hok
      dsimp only [tx]
      cases hg : sdGet tab s with
      | none =>
        walk_at "mW"
        refine of_false (by rw [hg]; rfl) ?_
        walk_at "mW"
        exact ⟨_, by rw [fin none hg]; rfl⟩
      | some k =>
        walk_at "mW"
        refine of_true (by rw [hg]; rfl) ?_
        walk_at "mW"
        refine ⟨_, _, _, rfl, (by (repeat (first | with_reducible apply At.here | with_reducible apply At.there)) <;> fail), hg, ?_⟩
        walk_at "mW"
        exact ⟨_, by rw [fin (some k) hg]; rfl⟩
  · rintro st₂ ⟨U, rfl⟩
    refine afterX_next (WS.cons ?_)
    refine WX.freezeL (x := "places") (by (repeat (first | with_reducible apply At.here | with_reducible apply At.there)) <;> fail) (by (repeat (first | with_reducible apply SetV.here | with_reducible apply SetV.there)) <;> fail) ?_
    walk_at "mW"
    rfl

/-! ## extending_places -/
structure Ext where
  P : List Int
  Ad : List (Option Str)
  T : List (Str × Int)
def exAt (n : Nat) (E : Ext) (x : Option Str) : Ext := match x with
  | none => ⟨E.P ++ [(n : Int) + (E.Ad.length : Int)], E.Ad ++ [none], E.T⟩
  | some s => match sdGet E.T s with
    | some k => ⟨E.P ++ [k], E.Ad, E.T⟩
    | none => ⟨E.P ++ [(n : Int) + (E.Ad.length : Int)], E.Ad ++ [some s], if s = "" then E.T else E.T ++ [(s, (n : Int) + (E.Ad.length : Int))]⟩
def extPlaces (texts : List (Option Str)) (n : Nat) (names : Option (List (Option Str))) : Ext := texts.foldl (exAt n) ⟨[], [], firstPlaces names⟩
theorem exAt_len (n : Nat) (E : Ext) (x : Option Str) : (exAt n E x).P.length ≤ E.P.length + 1 ∧ (exAt n E x).Ad.length ≤ E.Ad.length + 1 ∧ (exAt n E x).T.length ≤ E.T.length + 1 := by
  unfold exAt
  split
  · simp
  · split
    · simp
    · refine ⟨by simp, by simp, ?_⟩
      dsimp only
      split
      · omega
      · simp
theorem exFold_len (n : Nat) : ∀ (xs : List (Option Str)) (E : Ext), (xs.foldl (exAt n) E).P.length ≤ E.P.length + xs.length ∧ (xs.foldl (exAt n) E).Ad.length ≤ E.Ad.length + xs.length ∧ (xs.foldl (exAt n) E).T.length ≤ E.T.length + xs.length
  | [], _ => ⟨Nat.le_refl _, Nat.le_refl _, Nat.le_refl _⟩
  | a :: r, E => by
    rw [List.foldl_cons, List.length_cons]
    have h1 := exFold_len n r (exAt n E a); have h2 := exAt_len n E a
    exact ⟨by omega, by omega, by omega⟩
theorem fs_extending_places (hw : Wd w h₀ mg mb) (texts : List (Option Str)) (n : Nat) (names : Option (List (Option Str))) (hN : NOk names) (hn : n ≤ 9) (hl : texts.length ≤ 9) (hT : ∀ x ∈ texts, TOk x) (r : List Int) :
    FS w h₀ 4 107 [.d (.list (texts.map tx)), .d (.int n), .d (nx names)] r (fun U r' => U = .d (.tuple [.list ((extPlaces texts n names).P.map .int), .list ((extPlaces texts n names).Ad.map tx)]) ∧ r' = r) (fun _ _ => False) := by
  refine FS.of hw ⟨3, ["texts", "n", "names", "table", "places", "added", "item", "place"], [], [], ["first_places", "len"]⟩ ["texts", "n", "names"] (by k_is) (by k_is) rfl rfl (bind3 fun _ _ _ => rfl) (by decide +kernel) (Nat.le_refl _) rfl
    (mu := [("texts", .d (.list (texts.map tx))), ("n", .d (.int n)), ("names", .d (nx names)), ("table", .un), ("places", .un), ("added", .un), ("item", .un), ("place", .un)]) rfl (by repeat (first | with_reducible exact Init2.nil | with_reducible refine Init2.un ?_ | (with_reducible refine Init2.arg (by repeat (first | with_reducible exact At2.here | with_reducible apply At2.there)) ?_))) ?_
  walk_at "mW"
  refine WE.call (k := 2) hw (by decide +kernel) (hw.glob (by k_is)) (by k_is) (by decide) ?_
  walk_at "mW"
  refine (fs_first_places hw names hN _).mono (Nat.le_refl _) ?_ (fun _ _ q => q.elim)
  rintro U r' ⟨rfl, rfl⟩
  unfold extPlaces
  have htl := firstPlaces_len hN
  generalize firstPlaces names = tab at htl ⊢
  walk_at "mW"
  refine WX.forMap0 (f := tx) (items := texts) (fun done st => ∃ U U', st = ⟨[("texts", .d (.list (texts.map tx))), ("n", .d (.int n)), ("names", .d (nx names)), ("table", .sd (done.foldl (exAt n) ⟨[], [], tab⟩).T), ("places", .ol ((done.foldl (exAt n) ⟨[], [], tab⟩).P.map .int)), ("added", .ol ((done.foldl (exAt n) ⟨[], [], tab⟩).Ad.map tx)), ("item", U), ("place", U')], r'⟩) (by decide +kernel) (WI.of ?_) ?_ ?_
  · walk_at "mW"
    exact ⟨_, _, rfl⟩
  · rintro pre it post st₂ e ⟨U, U', rfl⟩
    refine ⟨_, (by (repeat (first | with_reducible apply SetV.here | with_reducible apply SetV.there)) <;> fail), ?_⟩
    have hlen : pre.length ≤ 9 := by have := congrArg List.length e; simp at this; omega
    have hok : TOk it := hT it (by rw [e]; simp)
    have hb := exFold_len n pre ⟨[], [], tab⟩
    rw [List.foldl_append, List.foldl_cons, List.foldl_nil]
    generalize pre.foldl (exAt n) ⟨[], [], tab⟩ = E at hb ⊢
    obtain ⟨P, Ad, T⟩ := E
    simp only [List.length_nil] at hb
    obtain ⟨b1, b2, b3⟩ := hb
    dsimp only
    cases it with
    | none =>
      walk_at "mW"
      rw [List.length_map]
      walk_at "mW"
      simp [exAt, tx]
    | some s =>
      have hok' : SeqAt.shaped (PyData.str s) = true := hok
      dsimp only [tx]
      cases hg : sdGet T s with
      | none =>
        walk_at "mW"
        refine of_false (by rw [hg]; rfl) ?_
        walk_at "mA"
        · simp [exAt, hg, hc, tx]
        · subst hc
          simp [exAt, hg, tx]
      | some k =>
        walk_at "mW"
        refine of_true (by rw [hg]; rfl) ?_
        walk_at "mW"
        refine ⟨_, _, _, rfl, (by (repeat (first | with_reducible apply At.here | with_reducible apply At.there)) <;> fail), hg, ?_⟩
        walk_at "mW"
        simp [exAt, hg]
  · rintro st₂ ⟨U, U', rfl⟩
    refine afterX_next (WS.cons ?_)
    refine WX.freezeL (x := "places") (by (repeat (first | with_reducible apply At.here | with_reducible apply At.there)) <;> fail) (by (repeat (first | with_reducible apply SetV.here | with_reducible apply SetV.there)) <;> fail) ?_
    refine WX.freezeL (x := "added") (by (repeat (first | with_reducible apply At.here | with_reducible apply At.there)) <;> fail) (by (repeat (first | with_reducible apply SetV.here | with_reducible apply SetV.there)) <;> fail) ?_
    walk_at "mW"
    rfl
end
end Mine
namespace Mine

/-! ## an index -/
inductive IxV where
  | missing | null | list
  | logical (xs : List (Option Int))
  | integer (xs : List (Option Int))
  | double (qs : List (Option (Int × Int)))
  | char (xs : List (Option Str))
  | sym (x : Str)
def IxV.ix : IxV → Ix
  | .missing => .missing
  | .null => .null
  | .list => .vec "list" []
  | .logical xs => .vec "logical" (xs.map ox)
  | .integer xs => .vec "integer" (xs.map ox)
  | .double qs => .vec "double" (qs.map qx)
  | .char xs => .vec "character" (xs.map tx)
  | .sym x => .sym x
def IxV.Ok : IxV → Prop
  | .logical xs => xs.length ≤ 9 ∧ ∀ x ∈ xs, x = none ∨ x = some 0 ∨ x = some 1
  | .integer xs => xs.length ≤ 9
  | .double qs => qs.length ≤ 9 ∧ ∀ q ∈ qs, qOk q
  | .char xs => xs.length ≤ 9 ∧ ∀ x ∈ xs, TOk x
  | .sym x => SeqAt.shaped (.str x) = true
  | _ => True

def Res.wrap : Res → Res
  | .ok d => .ok (.tuple [d, .none])
  | .err m => .err m
def posRes (o : IxV) (n : Nat) (names : Option (List (Option Str))) (ext : Bool) : Res := match o with
  | .missing => .ok (.tuple [.list ((List.range n).map fun k : Nat => PyData.int (k : Int)), .none])
  | .null => .ok (.tuple [.list [], .none])
  | .list => .err "invalid subscript type 'list'"
  | .logical xs => .ok (.tuple [.list ((logicalPlaces xs n).map ox), .none])
  | .integer xs => (wholePlaces xs n).wrap
  | .double qs => (wholePlaces (wsub qs) n).wrap
  | .char xs => if ext = true then .ok (.tuple [.list ((extPlaces xs n names).P.map .int), .list ((extPlaces xs n names).Ad.map tx)]) else .ok (.tuple [.list ((xs.map (npAt (firstPlaces names))).map ox), .none])
  | .sym _ => .err "invalid subscript type 'symbol'"

section
variable {w : World} {h₀ : Heap} {mg mb : Str → Option Value}
theorem fs_positions (hw : Wd w h₀ mg mb) (o : IxV) (ho : o.Ok) (n : Nat) (hn : n ≤ 9) (names : Option (List (Option Str))) (hN : NOk names) (ext : Bool) (r : List Int) :
    FS w h₀ 8 114 [.ix o.ix, .d (.int n), .d (nx names), .d (.bool ext)] r (RΦ r (posRes o n names ext)) (RΨ r (posRes o n names ext)) := by
  refine FS.of hw ⟨7, ["ix", "n", "names", "extend", "kind"], [], [], ["list", "range", "logical_places", "whole_places", "whole_subscripts", "extending_places", "name_places", "Refusal"]⟩ ["ix", "n", "names", "extend"] (by k_is) (by k_is) rfl rfl (bind4 fun _ _ _ _ => rfl) (by decide +kernel) (Nat.le_refl _) rfl
    (mu := [("ix", .ix o.ix), ("n", .d (.int n)), ("names", .d (nx names)), ("extend", .d (.bool ext)), ("kind", .un)]) rfl (by repeat (first | with_reducible exact Init2.nil | with_reducible refine Init2.un ?_ | (with_reducible refine Init2.arg (by repeat (first | with_reducible exact At2.here | with_reducible apply At2.there)) ?_))) ?_
  cases o with
  | missing =>
    dsimp only [IxV.ix]
    walk_at "mW"
    refine ⟨by omega, by omega, ?_⟩
    rw [Int.toNat_natCast]
    walk_at "mW"
    rfl
  | null =>
    dsimp only [IxV.ix]
    walk_at "mW"
    rfl
  | list =>
    dsimp only [IxV.ix]
    walk_at "mW"
    refine WE.fstr (by (repeat (first | with_reducible apply At.here | with_reducible apply At.there)) <;> fail) (by decide +kernel) ?_
    walk_at "mW"
    exact congrArg Res.err (by decide +kernel)
  | logical xs =>
    obtain ⟨hl, _⟩ := ho
    dsimp only [IxV.ix]
    walk_at "mW"
    refine WE.call (k := 2) hw (by decide +kernel) (hw.glob (by k_is)) (by k_is) (by decide) ?_
    walk_at "mW"
    refine (fs_logical_places hw xs n hl hn _).mono (Nat.le_refl _) ?_ (fun _ _ q => q.elim)
    rintro U r' ⟨rfl, rfl⟩
    walk_at "mW"
    rfl
  | integer xs =>
    have hl : xs.length ≤ 9 := ho
    dsimp only [IxV.ix]
    walk_at "mW"
    refine WE.call (k := 5) hw (by decide +kernel) (hw.glob (by k_is)) (by k_is) (by decide) ?_
    walk_at "mW"
    refine WE.call (k := 4) hw (by decide +kernel) (hw.glob (by k_is)) (by k_is) (by decide) ?_
    walk_at "mW"
    refine (fs_whole_integer hw xs _).mono (Nat.le_refl _) ?_ (fun _ _ q => q.elim)
    rintro U r' ⟨rfl, rfl⟩
    walk_at "mW"
    refine (fs_whole_places hw xs n hl hn _).mono (Nat.le_refl _) ?_ ?_
    · rintro U r'' ⟨rfl, d, rfl, hd⟩
      walk_at "mW"
      simp only [posRes, hd, Res.wrap]
    · rintro m r'' ⟨rfl, hd⟩
      exact ⟨rfl, by simp only [posRes, hd, Res.wrap]⟩
  | double qs =>
    obtain ⟨hl, hq⟩ := ho
    dsimp only [IxV.ix]
    walk_at "mW"
    refine WE.call (k := 5) hw (by decide +kernel) (hw.glob (by k_is)) (by k_is) (by decide) ?_
    walk_at "mW"
    refine WE.call (k := 4) hw (by decide +kernel) (hw.glob (by k_is)) (by k_is) (by decide) ?_
    walk_at "mW"
    refine (fs_whole_double hw qs hq hl _).mono (Nat.le_refl _) ?_ (fun _ _ q => q.elim)
    rintro U r' ⟨rfl, rfl⟩
    walk_at "mW"
    refine (fs_whole_places hw (wsub qs) n (by rw [wsub, List.length_map]; exact hl) hn _).mono (Nat.le_refl _) ?_ ?_
    · rintro U r'' ⟨rfl, d, rfl, hd⟩
      walk_at "mW"
      simp only [posRes, hd, Res.wrap]
    · rintro m r'' ⟨rfl, hd⟩
      exact ⟨rfl, by simp only [posRes, hd, Res.wrap]⟩
  | char xs =>
    obtain ⟨hl, hT⟩ := ho
    dsimp only [IxV.ix]
    walk_at "mW"
    refine of_both (fun hc => ?_) (fun hc => ?_)
    · walk_at "mW"
      refine WE.call (k := 4) hw (by decide +kernel) (hw.glob (by k_is)) (by k_is) (by decide) ?_
      walk_at "mW"
      refine (fs_extending_places hw xs n names hN hn hl hT _).mono (Nat.le_refl _) ?_ (fun _ _ q => q.elim)
      rintro U r' ⟨rfl, rfl⟩
      walk_at "mW"
      rw [posRes, if_pos hc]
    · walk_at "mW"
      refine WE.call (k := 4) hw (by decide +kernel) (hw.glob (by k_is)) (by k_is) (by decide) ?_
      walk_at "mW"
      refine (fs_name_places hw xs names hN hl hT _).mono (Nat.le_refl _) ?_ (fun _ _ q => q.elim)
      rintro U r' ⟨rfl, rfl⟩
      walk_at "mW"
      rw [posRes, if_neg (by rw [hc]; nofun)]
  | sym x =>
    dsimp only [IxV.ix]
    walk_at "mW"
    refine WE.fstr (by (repeat (first | with_reducible apply At.here | with_reducible apply At.there)) <;> fail) (by decide +kernel) ?_
    walk_at "mW"
    exact congrArg Res.err (by decide +kernel)
end
end Mine
namespace Mine

def begun (xs : List (Option Str)) (item : Str) (i : Nat) : Bool := match xs[i]? with
  | some (some s) => Txt.startswith s item
  | _ => false
def onlyOne : List Nat → Int
  | [k] => (k : Int)
  | _ => -1
def partialPlace (item : Str) (names : Option (List (Option Str))) : Int := match sdGet (firstPlaces names) item with
  | some k => k
  | none => match names with
    | none => -1
    | some xs => if item = "" then -1 else onlyOne ((List.range xs.length).filter (begun xs item))
def oneName (item : Option Str) (names : Option (List (Option Str))) (exact : Bool) : Int := match item with
  | none => -1
  | some s => if exact = true then (sdGet (firstPlaces names) s).getD (-1) else partialPlace s names
def oneWhole (item : Option Int) (n : Nat) : Res := match item with
  | none => .ok .none
  | some k => if k > 0 then .ok (.int (k - 1)) else if k = 0 then .err "attempt to select less than one element"
    else if (n : Int) = 2 ∧ k ≥ -2 then .ok (.int (if k = -1 then 2 + k else 0)) else if (n : Int) = 1 ∧ k = -1 then .err "attempt to select less than one element"
    else if (n : Int) = 1 then .ok (.int 0) else .err "invalid negative subscript in get1index <real>"
def single {α : Type} (xs : List α) (f : α → Res) : Res := match xs with
  | [] => .err "attempt to select less than one element"
  | [x] => f x
  | _ => .err "attempt to select more than one element"
def oneRes (o : IxV) (n : Nat) (names : Option (List (Option Str))) (exact : Bool) : Res := match o with
  | .sym x => .ok (.int (oneName (some x) names exact))
  | .null => .err "subscript of length 0"
  | .missing => .err "invalid subscript type 'missing'"
  | .list => .err "invalid subscript type 'list'"
  | .logical xs => single xs fun x => oneWhole x n
  | .integer xs => single xs fun x => oneWhole x n
  | .double qs => single qs fun q => oneWhole (toWhole q) n
  | .char xs => single xs fun x => .ok (.int (oneName x names exact))

section
variable {w : World} {h₀ : Heap} {mg mb : Str → Option Value}
theorem fs_partial_place (hw : Wd w h₀ mg mb) (item : Str) (hi : SeqAt.shaped (.str item) = true) (names : Option (List (Option Str))) (hN : NOk names) (r : List Int) :
    FS w h₀ 4 121 [.d (.str item), .d (nx names)] r (fun U r' => U = .d (.int (partialPlace item names)) ∧ r' = r) (fun _ _ => False) := by
  refine FS.of hw ⟨3, ["item", "names", "table", "found", "i"], [], [], ["first_places", "range", "len"]⟩ ["item", "names"] (by k_is) (by k_is) rfl rfl (bind2 fun _ _ => rfl) (by decide +kernel) (Nat.le_refl _) rfl
    (mu := [("item", .d (.str item)), ("names", .d (nx names)), ("table", .un), ("found", .un), ("i", .un)]) rfl (by repeat (first | with_reducible exact Init2.nil | with_reducible refine Init2.un ?_ | (with_reducible refine Init2.arg (by repeat (first | with_reducible exact At2.here | with_reducible apply At2.there)) ?_))) ?_
  walk_at "mW"
  refine WE.call (k := 2) hw (by decide +kernel) (hw.glob (by k_is)) (by k_is) (by decide) ?_
  walk_at "mW"
  refine (fs_first_places hw names hN _).mono (Nat.le_refl _) ?_ (fun _ _ q => q.elim)
  rintro U r' ⟨rfl, rfl⟩
  unfold partialPlace
  generalize firstPlaces names = tab
  cases hg : sdGet tab item with
  | some k =>
    walk_at "mW"
    refine of_true (by rw [hg]; rfl) ?_
    walk_at "mW"
    refine ⟨_, _, _, rfl, (by (repeat (first | with_reducible apply At.here | with_reducible apply At.there)) <;> fail), hg, ?_⟩
    walk_at "mW"
    rfl
  | none =>
    walk_at "mW"
    refine of_false (by rw [hg]; rfl) ?_
    walk_at "mW"
    cases names with
    | none =>
      refine of_true rfl ?_
      walk_at "mW"
      rfl
    | some xs =>
      obtain ⟨hl, hs⟩ := hN
      refine of_false rfl ?_
      walk_at "mW"
      refine of_both (fun hc => ?_) (fun hc => ?_) <;> simp only [decide_eq_true_eq, decide_eq_false_iff_not] at hc
      · walk_at "mW"
        exact ⟨by simp [hc], rfl⟩
      · walk_at "mW"
        refine WX.forMap (f := fun k : Nat => PyData.int (k : Int)) (items := List.range xs.length) (fun done st => ∃ U, st = ⟨[("item", .d (.str item)), ("names", .d (.list (xs.map tx))), ("table", .sd tab), ("found", .d (.int (onlyOne (done.filter (begun xs item))))), ("i", U)], r'⟩ ∧ (done.filter (begun xs item)).length ≤ 1) (by decide +kernel) (WI.ofRange hw (by decide +kernel) (by omega) ?_ (by intro _; with_unfolding_all rfl)) ?_ ?_
        · dsimp only [nx]
          walk_at "mW"
          refine ⟨by rw [List.length_map]; omega, ?_⟩
          rw [List.length_map]
          exact ⟨rfl, _, rfl, Nat.zero_le _⟩
        · rintro pre i post st₂ e ⟨U, rfl, hone⟩
          refine ⟨_, (by (repeat (first | with_reducible apply SetV.here | with_reducible apply SetV.there)) <;> fail), ?_⟩
          have hlen : pre.length ≤ 9 := by have := congrArg List.length e; simp at this; omega
          have hil : i < xs.length := by
            have : i ∈ List.range xs.length := by rw [e]; simp
            simpa using this
          obtain ⟨it, hit⟩ : ∃ it, xs[i]? = some it := ⟨_, List.getElem?_eq_getElem hil⟩
          have hsplit : (pre ++ [i]).filter (begun xs item) = pre.filter (begun xs item) ++ (if begun xs item i = true then [i] else []) := by rw [List.filter_append]; simp [List.filter_cons]
          have hfull : (List.range xs.length).filter (begun xs item) = pre.filter (begun xs item) ++ ((if begun xs item i = true then [i] else []) ++ post.filter (begun xs item)) := by
            rw [e, List.filter_append, List.filter_cons]; split <;> rfl
          rw [hsplit]
          obtain ⟨B, hB⟩ : ∃ B, pre.filter (begun xs item) = B := ⟨_, rfl⟩
          rw [hB] at hone hfull ⊢
          walk_at "mW"
          refine ⟨_, _, rfl, ItemR.list (d := tx it) (by omega) (by omega) (by rw [Int.toNat_natCast, List.getElem?_map, hit]; rfl), ?_⟩
          walk_at "mW"
          cases it with
          | none =>
            refine of_false rfl ?_
            walk_at "mW"
            have hb : begun xs item i = false := by rw [begun, hit]
            rw [hb]
            simp only [Bool.false_eq_true, if_false, List.append_nil]
            exact ⟨_, rfl, hone⟩
          | some s =>
            have hb : begun xs item i = Txt.startswith s item := by rw [begun, hit]
            rw [hb]
            refine of_true rfl ?_
            walk_at "mW"
            refine WE.startswith ?_ (by intro _; with_unfolding_all rfl) (by intro _; with_unfolding_all rfl) (by with_unfolding_all rfl)
            walk_at "mW"
            refine ⟨_, _, rfl, ItemR.list (d := tx (some s)) (by omega) (by omega) (by rw [Int.toNat_natCast, List.getElem?_map, hit]; rfl), ?_⟩
            dsimp only [tx]
            walk_at "mW"
            refine of_both (fun hs' => ?_) (fun hs' => ?_)
            · rw [hb, hs'] at hfull
              rw [hs']
              simp only [if_true] at hfull ⊢
              cases B with
              | nil =>
                walk_at "mW"
                exact Nat.le_refl _
              | cons b B =>
                have : B = [] := by simpa using hone
                subst this
                dsimp only [onlyOne, List.cons_append, List.nil_append]
                walk_at "mW"
                refine ⟨?_, rfl⟩
                rw [hfull]
                simp [hc, onlyOne]
            · rw [hs']
              simp only [Bool.false_eq_true, if_false, List.append_nil]
              walk_at "mW"
              exact hone
        · rintro st₂ ⟨U, rfl, _⟩
          walk_at "mW"
          exact ⟨by simp only [if_neg hc], rfl⟩
theorem fs_one_name (hw : Wd w h₀ mg mb) (item : Option Str) (hi : TOk item) (names : Option (List (Option Str))) (hN : NOk names) (exact : Bool) (r : List Int) :
    FS w h₀ 6 128 [.d (tx item), .d (nx names), .d (.bool exact)] r (fun U r' => U = .d (.int (oneName item names exact)) ∧ r' = r) (fun _ _ => False) := by
  refine FS.of hw ⟨5, ["item", "names", "exact"], [], [], ["partial_place", "first_places"]⟩ ["item", "names", "exact"] (by k_is) (by k_is) rfl rfl (bind3 fun _ _ _ => rfl) (by decide +kernel) (Nat.le_refl _) rfl
    (mu := [("item", .d (tx item)), ("names", .d (nx names)), ("exact", .d (.bool exact))]) rfl (by repeat (first | with_reducible exact Init2.nil | with_reducible refine Init2.un ?_ | (with_reducible refine Init2.arg (by repeat (first | with_reducible exact At2.here | with_reducible apply At2.there)) ?_))) ?_
  cases item with
  | none =>
    walk_at "mW"
    rfl
  | some s =>
    have hok : SeqAt.shaped (.str s) = true := hi
    dsimp only [tx]
    walk_at "mW"
    cases exact with
    | true =>
      refine of_false rfl ?_
      walk_at "mW"
      refine WE.getS hw ?_ (by intro _; with_unfolding_all rfl) (by intro _; with_unfolding_all rfl) (by with_unfolding_all rfl)
      refine WE.call (k := 2) hw (by decide +kernel) (hw.glob (by k_is)) (by k_is) (by decide) ?_
      walk_at "mW"
      refine (fs_first_places hw names hN _).mono (Nat.le_refl _) ?_ (fun _ _ q => q.elim)
      rintro U r' ⟨rfl, rfl⟩
      walk_at "mW"
      rfl
    | false =>
      refine of_true rfl ?_
      walk_at "mW"
      refine WE.call (k := 4) hw (by decide +kernel) (hw.glob (by k_is)) (by k_is) (by decide) ?_
      walk_at "mW"
      refine (fs_partial_place hw s hok names hN _).mono (Nat.le_refl _) ?_ (fun _ _ q => q.elim)
      rintro U r' ⟨rfl, rfl⟩
      walk_at "mW"
      rfl
theorem fs_one_whole (hw : Wd w h₀ mg mb) (item : Option Int) (n : Nat) (r : List Int) :
    FS w h₀ 4 135 [.d (ox item), .d (.int n)] r (RΦ r (oneWhole item n)) (RΨ r (oneWhole item n)) := by
  refine FS.of hw ⟨3, ["item", "n"], [], [], ["Refusal"]⟩ ["item", "n"] (by k_is) (by k_is) rfl rfl (bind2 fun _ _ => rfl) (by decide +kernel) (Nat.le_refl _) rfl
    (mu := [("item", .d (ox item)), ("n", .d (.int n))]) rfl (by repeat (first | with_reducible exact Init2.nil | with_reducible refine Init2.un ?_ | (with_reducible refine Init2.arg (by repeat (first | with_reducible exact At2.here | with_reducible apply At2.there)) ?_))) ?_
  cases item with
  | none =>
    walk_at "mW"
    rfl
  | some k =>
    dsimp only [ox]
    unfold oneWhole
    dsimp only
    walk_at "mA"
    all_goals ((repeat' split) <;> first | rfl | omega)

theorem fs_one_place (hw : Wd w h₀ mg mb) (o : IxV) (ho : o.Ok) (n : Nat) (names : Option (List (Option Str))) (hN : NOk names) (exact : Bool) (r : List Int) :
    FS w h₀ 8 142 [.ix o.ix, .d (.int n), .d (nx names), .d (.bool exact)] r (RΦ r (oneRes o n names exact)) (RΨ r (oneRes o n names exact)) := by
  refine FS.of hw ⟨7, ["ix", "n", "names", "exact", "kind"], [], [], ["one_name", "Refusal", "len", "one_whole", "whole_subscripts"]⟩ ["ix", "n", "names", "exact"] (by k_is) (by k_is) rfl rfl (bind4 fun _ _ _ _ => rfl) (by decide +kernel) (Nat.le_refl _) rfl
    (mu := [("ix", .ix o.ix), ("n", .d (.int n)), ("names", .d (nx names)), ("exact", .d (.bool exact)), ("kind", .un)]) rfl (by repeat (first | with_reducible exact Init2.nil | with_reducible refine Init2.un ?_ | (with_reducible refine Init2.arg (by repeat (first | with_reducible exact At2.here | with_reducible apply At2.there)) ?_))) ?_
  have num : (∃ (K : Str) (items : List PyData) (cs : List (Option Int)), o.ix = .vec K items ∧ (K = "integer" ∨ K = "double") ∧ cs.length ≤ 9 ∧ items.length = cs.length ∧ oneRes o n names exact = single cs (fun x => oneWhole x n) ∧
      ∀ r, FS w h₀ 4 74 [.ix (.vec K items)] r (fun U r' => U = .d (.list (cs.map ox)) ∧ r' = r) (fun _ _ => False)) ∨ (∀ xs, o ≠ .integer xs) ∧ ∀ qs, o ≠ .double qs := by
    cases o with
    | integer xs => exact .inl ⟨"integer", _, xs, rfl, .inl rfl, ho, List.length_map .., rfl, fun r => fs_whole_integer hw xs r⟩
    | double qs =>
      refine .inl ⟨"double", _, wsub qs, rfl, .inr rfl, by unfold wsub; rw [List.length_map]; exact ho.1, by unfold wsub; rw [List.length_map, List.length_map], ?_, fun r => fs_whole_double hw qs ho.2 ho.1 r⟩
      match qs with
      | [] => rfl
      | [_] => rfl
      | _ :: _ :: _ => rfl
    | _ => exact .inr ⟨by nofun, by nofun⟩
  rcases num with ⟨K, items, cs, hix, hK, hlen, hil, hdue, hcut⟩ | ⟨no1, no2⟩
  · have hKs : SeqAt.shaped (.str K) = true := by rcases hK with rfl | rfl <;> decide +kernel
    rw [hdue, hix]
    walk_at "mW"
    refine of_false (decide_eq_false (by rcases hK with rfl | rfl <;> decide +kernel)) ?_
    walk_at "mW"
    refine of_false (by rcases hK with rfl | rfl <;> decide +kernel) ?_
    walk_at "mW"
    refine ⟨by rw [hil]; omega, ?_⟩
    rw [hil]
    walk_at "mW"
    match cs, hlen, hil, hcut with
    | [], hlen, hil, _ =>
      refine of_true rfl ?_
      walk_at "mW"
      rfl
    | x :: rest, hlen, hil, hcut =>
      refine of_false (by simp; omega) ?_
      walk_at "mW"
      refine ⟨by rw [hil]; omega, ?_⟩
      rw [hil]
      walk_at "mW"
      match rest, hlen, hil, hcut with
      | [], hlen, hil, hcut =>
        refine of_false rfl ?_
        walk_at "mW"
        refine of_false (decide_eq_false (by rcases hK with rfl | rfl <;> decide +kernel)) ?_
        walk_at "mW"
        refine of_false (decide_eq_false (by rcases hK with rfl | rfl <;> decide +kernel)) ?_
        walk_at "mW"
        refine WE.call (k := 4) hw (by decide +kernel) (hw.glob (by k_is)) (by k_is) (by decide) ?_
        walk_at "mW"
        refine WE.call (k := 4) hw (by decide +kernel) (hw.glob (by k_is)) (by k_is) (by decide) ?_
        walk_at "mW"
        refine (hcut _).mono (Nat.le_refl _) ?_ (fun _ _ q => q.elim)
        rintro U r' ⟨rfl, rfl⟩
        try dsimp only [List.map_cons, List.map_nil]
        walk_at "mW"
        refine (fs_one_whole hw x n _).mono (Nat.le_refl _) ?_ (fun _ _ q => q)
        rintro U r'' ⟨rfl, d, rfl, hd⟩
        walk_at "mW"
        exact hd
      | y :: rest, hlen, hil, _ =>
        refine of_true (by simp; omega) ?_
        walk_at "mW"
        rfl
  · cases o with
    | integer xs => exact absurd rfl (no1 xs)
    | double xs => exact absurd rfl (no2 xs)
    | missing =>
      dsimp only [IxV.ix]
      walk_at "mW"
      refine WE.fstr (by (repeat (first | with_reducible apply At.here | with_reducible apply At.there)) <;> fail) (by decide +kernel) ?_
      walk_at "mW"
      exact congrArg Res.err (by decide +kernel)
    | null =>
      dsimp only [IxV.ix]
      walk_at "mW"
      rfl
    | list =>
      dsimp only [IxV.ix]
      walk_at "mW"
      refine WE.fstr (by (repeat (first | with_reducible apply At.here | with_reducible apply At.there)) <;> fail) (by decide +kernel) ?_
      walk_at "mW"
      exact congrArg Res.err (by decide +kernel)
    | sym x =>
      have hx : TOk (some x) := ho
      dsimp only [IxV.ix]
      walk_at "mW"
      refine WE.call (k := 6) hw (by decide +kernel) (hw.glob (by k_is)) (by k_is) (by decide) ?_
      walk_at "mW"
      refine (fs_one_name hw (some x) hx names hN exact _).mono (Nat.le_refl _) ?_ (fun _ _ q => q.elim)
      rintro U r' ⟨rfl, rfl⟩
      walk_at "mW"
      rfl
    | logical xs =>
      obtain ⟨hl, _⟩ := ho
      dsimp only [IxV.ix]
      walk_at "mW"
      refine ⟨by rw [List.length_map]; omega, ?_⟩
      walk_at "mW"
      cases xs with
      | nil =>
        refine of_true rfl ?_
        walk_at "mW"
        rfl
      | cons x rest =>
        refine of_false (by simp; omega) ?_
        walk_at "mW"
        refine ⟨by rw [List.length_map]; omega, ?_⟩
        walk_at "mW"
        cases rest with
        | nil =>
          refine of_false rfl ?_
          try dsimp only [List.map_cons, List.map_nil]
          walk_at "mW"
          refine WE.call (k := 4) hw (by decide +kernel) (hw.glob (by k_is)) (by k_is) (by decide) ?_
          walk_at "mW"
          refine (fs_one_whole hw x n _).mono (Nat.le_refl _) ?_ (fun _ _ q => q)
          rintro U r' ⟨rfl, d, rfl, hd⟩
          walk_at "mW"
          exact hd
        | cons y rest =>
          refine of_true (by simp; omega) ?_
          walk_at "mW"
          rfl
    | char xs =>
      obtain ⟨hl, hT⟩ := ho
      dsimp only [IxV.ix]
      walk_at "mW"
      refine ⟨by rw [List.length_map]; omega, ?_⟩
      walk_at "mW"
      cases xs with
      | nil =>
        refine of_true rfl ?_
        walk_at "mW"
        rfl
      | cons x rest =>
        refine of_false (by simp; omega) ?_
        walk_at "mW"
        refine ⟨by rw [List.length_map]; omega, ?_⟩
        walk_at "mW"
        cases rest with
        | nil =>
          refine of_false rfl ?_
          try dsimp only [List.map_cons, List.map_nil]
          walk_at "mW"
          refine WE.call (k := 6) hw (by decide +kernel) (hw.glob (by k_is)) (by k_is) (by decide) ?_
          walk_at "mW"
          refine (fs_one_name hw x (hT x (.head _)) names hN exact _).mono (Nat.le_refl _) ?_ (fun _ _ q => q.elim)
          rintro U r' ⟨rfl, rfl⟩
          walk_at "mW"
          rfl
        | cons y rest =>
          refine of_true (by simp; omega) ?_
          walk_at "mW"
          rfl
end
end Mine
namespace Mine

theorem pickR {α : Type} (f : α → PyData) (ys : List α) (k : Int) (h0 : 0 ≤ k) (h1 : k < ys.length) (hl : ys.length ≤ 1000) : ∃ y ∈ ys, ItemR (.list (ys.map f)) k (f y) := by
  have hk : k.toNat < ys.length := by omega
  exact ⟨ys[k.toNat], List.getElem_mem hk, ItemR.list h0 (by omega) (by rw [List.getElem?_map, List.getElem?_eq_getElem hk]; rfl)⟩
theorem fm0 (k : Int) {b : Int} (hb : 0 < b) : 0 ≤ k.fmod b := Int.fmod_nonneg_of_pos k hb
theorem fm1 (k : Int) {b : Int} (hb : 0 < b) : k.fmod b < b := Int.fmod_lt_of_pos k hb

theorem tok_of (x : Option Str) (h : SeqAt.shaped (tx x) = true) : TOk x := h
section
variable {w : World} {h₀ : Heap} {mg mb : Str → Option Value}
theorem fs_next (hw : Wd w h₀ mg mb) (r : List Int) (hr : r.length ≤ 160) : FS w h₀ 2 248 [.row] r (fun U r' => (∃ k, U = .d (.int k)) ∧ r'.length ≤ 160) (fun _ _ => False) := by
  refine FS.of hw ⟨1, ["row"], [], [], []⟩ ["row"] (by k_is) (by k_is) rfl rfl (bind1 fun _ => rfl) (by decide +kernel) (Nat.le_refl _) rfl (mu := [("row", .row)]) rfl (by repeat (first | with_reducible exact Init2.nil | with_reducible refine Init2.un ?_ | (with_reducible refine Init2.arg (by repeat (first | with_reducible exact At2.here | with_reducible apply At2.there)) ?_))) ?_
  walk_at "mW"
  rcases List.eq_nil_or_concat r with rfl | ⟨ini, k, rfl⟩
  · refine of_false rfl ?_
    walk_at "mW"
    exact ⟨⟨_, rfl⟩, Nat.zero_le _⟩
  · rw [List.concat_eq_append] at hr ⊢
    refine of_true (by simp) ?_
    refine WE.popRow (ini := ini) (k := k) (by (repeat (first | with_reducible apply At.here | with_reducible apply At.there)) <;> fail) rfl (by rw [sizeLine_eq]; dsimp only; omega) ?_ (by with_unfolding_all rfl)
    walk_at "mW"
    exact ⟨⟨_, rfl⟩, by simp at hr; dsimp only; omega⟩
theorem fs_text (hw : Wd w h₀ mg mb) (r : List Int) (hr : r.length ≤ 160) : FS w h₀ 4 255 [.row] r (fun U r' => (∃ x, U = .d (tx x) ∧ TOk x) ∧ r'.length ≤ 160) (fun _ _ => False) := by
  refine FS.of hw ⟨3, ["row", "choice"], [], [], ["_law_next", "chr"]⟩ ["row"] (by k_is) (by k_is) rfl rfl (bind1 fun _ => rfl) (by decide +kernel) (Nat.le_refl _) rfl (mu := [("row", .row), ("choice", .un)]) rfl (by repeat (first | with_reducible exact Init2.nil | with_reducible refine Init2.un ?_ | (with_reducible refine Init2.arg (by repeat (first | with_reducible exact At2.here | with_reducible apply At2.there)) ?_))) ?_
  walk_at "mW"
  refine WE.call (k := 2) hw (by decide +kernel) (hw.glob (by k_is)) (by k_is) (by decide) ?_
  walk_at "mW"
  refine (fs_next hw _ hr).mono (Nat.le_refl _) ?_ (fun _ _ q => q.elim)
  rintro U r1 ⟨⟨k, rfl⟩, hr1⟩
  dsimp only
  walk_at "mW"
  refine WE.call (k := 2) hw (by decide +kernel) (hw.glob (by k_is)) (by k_is) (by decide) ?_
  walk_at "mW"
  refine (fs_next hw _ hr1).mono (Nat.le_refl _) ?_ (fun _ _ q => q.elim)
  rintro U r2 ⟨⟨k2, rfl⟩, hr2⟩
  dsimp only
  walk_at "mW"
  have q0 := fm0 k2 (b := 26) (by decide)
  have q1 := fm1 k2 (b := 26) (by decide)
  refine ⟨by omega, by omega, ?_⟩
  walk_at "mW"
  refine ⟨([some "a", some "b", some "ab", some "abc", some "", none, some "c", some ⟨#[(97 + k2.fmod 26).toNat]⟩] : List (Option Str)).map tx, ⟨rfl, rfl, rfl, rfl, rfl, rfl, rfl, rfl, trivial⟩, by rw [sizeLine_eq]; simp, ?_⟩
  walk_at "mW"
  have hc : TOk (some ⟨#[(97 + k2.fmod 26).toNat]⟩) := by
    refine shaped_str ?_
    simp [PyData.strOk]
    omega
  obtain ⟨y, hy, hp⟩ := pickR tx [some "a", some "b", some "ab", some "abc", some "", none, some "c", some ⟨#[(97 + k2.fmod 26).toNat]⟩] (k.fmod 8) (fm0 k (by decide)) (fm1 k (by decide)) (by simp)
  refine ⟨_, _, rfl, hp, ?_⟩
  walk_at "mW"
  refine ⟨⟨y, rfl, ?_⟩, hr2⟩
  simp only [List.mem_cons, List.not_mem_nil, or_false] at hy
  rcases hy with rfl | rfl | rfl | rfl | rfl | rfl | rfl | rfl
  · exact tok_of (some "a") (by decide +kernel)
  · exact tok_of (some "b") (by decide +kernel)
  · exact tok_of (some "ab") (by decide +kernel)
  · exact tok_of (some "abc") (by decide +kernel)
  · exact tok_of (some "") (by decide +kernel)
  · exact tok_of none (by decide +kernel)
  · exact tok_of (some "c") (by decide +kernel)
  · exact hc
theorem fs_number (hw : Wd w h₀ mg mb) (r : List Int) (hr : r.length ≤ 160) : FS w h₀ 4 262 [.row] r (fun U r' => (∃ q, U = .d (qx q) ∧ qOk q) ∧ r'.length ≤ 160) (fun _ _ => False) := by
  refine FS.of hw ⟨3, ["row", "kind", "n"], [], [], ["_law_next"]⟩ ["row"] (by k_is) (by k_is) rfl rfl (bind1 fun _ => rfl) (by decide +kernel) (Nat.le_refl _) rfl (mu := [("row", .row), ("kind", .un), ("n", .un)]) rfl (by repeat (first | with_reducible exact Init2.nil | with_reducible refine Init2.un ?_ | (with_reducible refine Init2.arg (by repeat (first | with_reducible exact At2.here | with_reducible apply At2.there)) ?_))) ?_
  walk_at "mW"
  refine WE.call (k := 2) hw (by decide +kernel) (hw.glob (by k_is)) (by k_is) (by decide) ?_
  walk_at "mW"
  refine (fs_next hw _ hr).mono (Nat.le_refl _) ?_ (fun _ _ q => q.elim)
  rintro U r1 ⟨⟨k, rfl⟩, hr1⟩
  dsimp only
  walk_at "mW"
  refine of_both (fun hc => ?_) (fun hc => ?_)
  · walk_at "mW"
    exact ⟨⟨none, rfl, trivial⟩, hr1⟩
  · walk_at "mW"
    refine of_both (fun hc2 => ?_) (fun hc2 => ?_)
    · walk_at "mW"
      refine of_both (fun hc3 => ?_) (fun hc3 => ?_)
      · walk_at "mW"
        refine WE.call (k := 2) hw (by decide +kernel) (hw.glob (by k_is)) (by k_is) (by decide) ?_
        walk_at "mW"
        refine (fs_next hw _ hr1).mono (Nat.le_refl _) ?_ (fun _ _ q => q.elim)
        rintro U r2 ⟨⟨k2, rfl⟩, hr2⟩
        dsimp only
        walk_at "mW"
        have q0 := fm0 k2 (b := 14) (by decide)
        have q1 := fm1 k2 (b := 14) (by decide)
        exact ⟨⟨some (_, _), rfl, by decide, by decide, by omega, by omega⟩, hr2⟩
      · walk_at "mW"
        refine WE.call (k := 2) hw (by decide +kernel) (hw.glob (by k_is)) (by k_is) (by decide) ?_
        walk_at "mW"
        refine (fs_next hw _ hr1).mono (Nat.le_refl _) ?_ (fun _ _ q => q.elim)
        rintro U r2 ⟨⟨k2, rfl⟩, hr2⟩
        dsimp only
        walk_at "mW"
        have q0 := fm0 k2 (b := 12) (by decide)
        have q1 := fm1 k2 (b := 12) (by decide)
        exact ⟨⟨some (_, _), rfl, by decide, by decide, by omega, by omega⟩, hr2⟩
    · walk_at "mW"
      refine of_both (fun hc3 => ?_) (fun hc3 => ?_)
      · walk_at "mW"
        refine WE.call (k := 2) hw (by decide +kernel) (hw.glob (by k_is)) (by k_is) (by decide) ?_
        walk_at "mW"
        refine (fs_next hw _ hr1).mono (Nat.le_refl _) ?_ (fun _ _ q => q.elim)
        rintro U r2 ⟨⟨k2, rfl⟩, hr2⟩
        dsimp only
        walk_at "mW"
        obtain ⟨y, hy, hp⟩ := pickR qx [some (0, 0), some (1, 0), some (-1, 0)] (k2.fmod 3) (fm0 k2 (by decide)) (fm1 k2 (by decide)) (by decide)
        refine ⟨_, _, rfl, hp, ?_⟩
        walk_at "mW"
        refine ⟨⟨y, rfl, ?_⟩, hr2⟩
        simp only [List.mem_cons, List.not_mem_nil, or_false] at hy
        rcases hy with rfl | rfl | rfl <;> exact ⟨by decide, by decide, by decide, by decide⟩
      · walk_at "mW"
        refine WE.call (k := 2) hw (by decide +kernel) (hw.glob (by k_is)) (by k_is) (by decide) ?_
        walk_at "mW"
        refine (fs_next hw _ hr1).mono (Nat.le_refl _) ?_ (fun _ _ q => q.elim)
        rintro U r2 ⟨⟨k2, rfl⟩, hr2⟩
        dsimp only
        walk_at "mW"
        have q0 := fm0 k2 (b := 41) (by decide)
        have q1 := fm1 k2 (b := 41) (by decide)
        have q2 := fm0 (k2.fmod 41 - 10) (b := 2) (by decide)
        have q3 := fm1 (k2.fmod 41 - 10) (b := 2) (by decide)
        have q4 := Int.mul_fdiv_add_fmod (k2.fmod 41 - 10) 2
        refine of_both (fun hc4 => ?_) (fun hc4 => ?_)
        · walk_at "mW"
          exact ⟨⟨some (_, _), rfl, by decide, by decide, by omega, by omega⟩, hr2⟩
        · walk_at "mW"
          exact ⟨⟨some (_, _), rfl, by decide, by decide, by omega, by omega⟩, hr2⟩
end
end Mine
namespace Mine
def wholeOf : Option (Int × Int) → Option Int
  | none => none
  | some (a, b) => if b = 1 then some a else none
section
variable {w : World} {h₀ : Heap} {mg mb : Str → Option Value}
theorem WE.newVecNil {Γ : Cx} {st : St} {Φ : V → St → Prop} {Ψ : Str → List Int → Prop} (hw : Wd w h₀ mg mb) {e1 : Expr} {np p2 pos : Pos} (hg : (Str.ofString "Vector") ∈ Γ.globs) (hrk : 2 ≤ Γ.rank) (h : WE w h₀ Γ st e1 (fun U st₁ => ∃ y, U = .d (.str y) ∧ Φ (.ix (.vec y [])) st₁) Ψ)
    (he : ∀ env, starEach [e1, .List [] p2] env = (false, eval e1 env) :: starEach [.List [] p2] env) : WE w h₀ Γ st (.Call (.Name "Vector" np) [e1, .List [] p2] [] pos) Φ Ψ := by
  refine WE.newVector hw hg hrk (h.mono ?_ fun _ _ q => q) he (by intro _; rfl) (by intro _; rfl)
  rintro U st₁ ⟨y, e, q⟩
  exact ⟨y, e, WE.list (WA.nil ⟨[], trivial, Nat.zero_le _, [], rfl, q⟩)⟩
/-- a comprehension that draws from the row -/
theorem WComp.draw {Γ : Cx} {st : St} {Ψ : Str → List Int → Prop} {α : Type} {f : α → PyData} {P : α → Prop} {m : Nat} {elt iter : Expr} {scope : Scope} {Φ : List PyData → St → Prop} (globs : List Str)
    (hB : ccB Γ ⟨Γ.rank, ["lap"], [], ["row"], globs⟩ scope.names "lap") (hm : m ≤ 9) (hrow : At st.mu "row" .row) (hr : st.row.length ≤ 160)
    (hi : WI w h₀ Γ st iter (fun xs st₁ => xs = (List.range m).map (fun k : Nat => PyData.int (k : Int)) ∧ st₁ = st) Ψ)
    (he : ∀ U rr, rr.length ≤ 160 → WE w h₀ ⟨Γ.rank, ["lap"], [], ["row"], globs⟩ ⟨[("lap", U), ("row", .row)], rr⟩ elt (fun U' st' => ∃ y r', U' = .d (f y) ∧ P y ∧ st' = ⟨[("lap", U), ("row", .row)], r'⟩ ∧ r'.length ≤ 160) (fun _ _ => False))
    (h : ∀ (ys : List α) rr, ys.length = m → (∀ y ∈ ys, P y) → rr.length ≤ 160 → Φ (ys.map f) ⟨st.mu, rr⟩) : WComp w h₀ Γ st "lap" [] elt iter scope Φ Ψ := by
  refine WComp.map (f := fun k : Nat => PyData.int (k : Int)) (items := List.range m) ⟨Γ.rank, ["lap"], [], ["row"], globs⟩ [("row", .row)]
    (fun done ds st => (∃ ys : List α, ds = ys.map f ∧ ys.length = done.length ∧ ∀ y ∈ ys, P y) ∧ ∃ U rr, st = ⟨[("lap", U), ("row", .row)], rr⟩ ∧ rr.length ≤ 160) hB rfl rfl rfl rfl (by rw [List.length_range, sizeLine_eq]; omega) ?_ (.cons hrow rfl .nil) ?_ ?_
  · intro A env l hE Z₀ Z W s Q E hA hl hO hR hQ hX
    refine hi A env l hE Z₀ Z W s Q E hA hl hO hR (fun I xs st' Z' W' h' tk Sx q => hQ I xs st' Z' W' h' tk Sx ?_) hX
    obtain ⟨e1, rfl⟩ := q
    exact ⟨e1, rfl, ⟨[], rfl, rfl, by simp⟩, _, _, rfl, hr⟩
  · rintro pre a post ds st₂ e ⟨⟨ys, rfl, hl, hp⟩, U, rr, rfl, hrr⟩
    refine ⟨_, .here, ?_⟩
    show WE _ _ _ _ _ _ _
    refine (he _ rr hrr).mono ?_ fun _ _ q => q
    rintro U' st' ⟨y, r', rfl, py, rfl, hr'⟩
    refine ⟨_, rfl, ⟨ys ++ [y], by simp, by simp [hl], ?_⟩, _, _, rfl, hr'⟩
    intro z hz
    rcases List.mem_append.mp hz with hz | hz
    · exact hp z hz
    · simp at hz; exact hz ▸ py
  · rintro ds st₂ ⟨⟨ys, rfl, hl, hp⟩, U, rr, rfl, hrr⟩ _
    exact h ys rr (by rw [hl, List.length_range]) hp hrr

theorem fs_index (hw : Wd w h₀ mg mb) (r : List Int) (hr : r.length ≤ 160) : FS w h₀ 8 267 [.row] r (fun U r' => (∃ o : IxV, U = .ix o.ix ∧ o.Ok ∧ ∀ x, o ≠ .sym x) ∧ r'.length ≤ 160) (fun _ _ => False) := by
  refine FS.of hw ⟨7, ["kind", "many", "numbers_in"], ["row"], [], ["_law_next", "Missing", "Null", "Vector", "range"]⟩ ["row"] (by k_is) (by k_is) rfl rfl (bind1 fun _ => rfl) (by decide +kernel) (Nat.le_refl _) rfl (mu := [("kind", .un), ("many", .un), ("numbers_in", .un), ("row", .row)]) rfl (by repeat (first | with_reducible exact Init2.nil | with_reducible refine Init2.un ?_ | (with_reducible refine Init2.arg (by repeat (first | with_reducible exact At2.here | with_reducible apply At2.there)) ?_))) ?_
  walk_at "mW"
  refine WE.call (k := 2) hw (by decide +kernel) (hw.glob (by k_is)) (by k_is) (by decide) ?_
  walk_at "mW"
  refine (fs_next hw _ hr).mono (Nat.le_refl _) ?_ (fun _ _ q => q.elim)
  rintro U r1 ⟨⟨k, rfl⟩, hr1⟩
  dsimp only
  walk_at "mW"
  refine WE.call (k := 2) hw (by decide +kernel) (hw.glob (by k_is)) (by k_is) (by decide) ?_
  walk_at "mW"
  refine (fs_next hw _ hr1).mono (Nat.le_refl _) ?_ (fun _ _ q => q.elim)
  rintro U r2 ⟨⟨k2, rfl⟩, hr2⟩
  dsimp only
  have q0 := fm0 k2 (b := 10) (by decide)
  have q1 := fm1 k2 (b := 10) (by decide)
  walk_at "mW"
  obtain ⟨m, hm⟩ : ∃ m : Nat, k2.fmod 10 = m := ⟨(k2.fmod 10).toNat, by omega⟩
  rw [hm]
  have hm9 : m ≤ 9 := by omega
  generalize k.fmod 7 = kk
  refine of_both (fun hc => ?_) (fun hc => ?_)
  · walk_at "mW"
    refine WE.newMissing hw (by decide +kernel) (by decide) ?_
    walk_at "mW"
    exact ⟨⟨.missing, rfl, trivial, by nofun⟩, hr2⟩
  walk_at "mW"
  refine of_both (fun hc => ?_) (fun hc => ?_)
  · walk_at "mW"
    refine WE.newNull hw (by decide +kernel) (by decide) ?_
    walk_at "mW"
    exact ⟨⟨.null, rfl, trivial, by nofun⟩, hr2⟩
  walk_at "mW"
  refine of_both (fun hc => ?_) (fun hc => ?_)
  · walk_at "mW"
    refine WE.listComp ?_ rfl (by intro _ _; rfl)
    refine WComp.draw (f := ox) (P := fun x => x = none ∨ x = some 0 ∨ x = some 1) (m := m) ["_law_next"] (by decide +kernel) hm9 (by (repeat (first | with_reducible apply At.here | with_reducible apply At.there)) <;> fail) hr2 (WI.ofRange hw (by decide +kernel) (by omega) ?_ (by intro _; with_unfolding_all rfl)) ?_ ?_
    · walk_at "mW"
      rfl
    · intro U rr hrr
      walk_at "mW"
      refine WE.call (k := 2) hw (by decide +kernel) (hw.glob (by k_is)) (by k_is) (by decide) ?_
      walk_at "mW"
      refine (fs_next hw _ hrr).mono (Nat.le_refl _) ?_ (fun _ _ q => q.elim)
      rintro U r3 ⟨⟨k3, rfl⟩, hr3⟩
      dsimp only
      walk_at "mW"
      obtain ⟨y, hy, hp⟩ := pickR ox [some 1, some 0, none] (k3.fmod 3) (fm0 k3 (by decide)) (fm1 k3 (by decide)) (by simp)
      refine ⟨_, _, rfl, hp, ?_⟩
      refine ⟨y, _, rfl, ?_, rfl, hr3⟩
      simp only [List.mem_cons, List.not_mem_nil, or_false] at hy
      rcases hy with rfl | rfl | rfl <;> simp
    · intro ys rr hl hp hrr
      walk_at "mW"
      exact ⟨⟨.logical ys, rfl, ⟨by omega, hp⟩, by nofun⟩, hrr⟩
  walk_at "mW"
  refine of_both (fun hc => ?_) (fun hc => ?_)
  · refine WS.cons ?_
    refine WX.assignComp (by decide +kernel) ?_ (by decide +kernel) rfl (by with_unfolding_all rfl) (by intro _ _; rfl)
    refine WComp.draw (f := qx) (P := qOk) (m := m) ["_law_number"] (by decide +kernel) hm9 (by (repeat (first | with_reducible apply At.here | with_reducible apply At.there)) <;> fail) hr2 (WI.ofRange hw (by decide +kernel) (by omega) ?_ (by intro _; with_unfolding_all rfl)) ?_ ?_
    · walk_at "mW"
      rfl
    · intro U rr hrr
      refine WE.call (k := 4) hw (by decide +kernel) (hw.glob (by k_is)) (by k_is) (by decide) ?_
      walk_at "mW"
      refine (fs_number hw _ hrr).mono (Nat.le_refl _) ?_ (fun _ _ q => q.elim)
      rintro U r3 ⟨⟨q, rfl, hq⟩, hr3⟩
      exact ⟨q, _, rfl, hq, rfl, hr3⟩
    · intro ys rr hl hp hrr
      walk_at "mW"
      refine WE.listComp ?_ rfl (by intro _ _; rfl)
      refine WComp.map (f := qx) (items := ys) ⟨7, ["x"], [], [], []⟩ [] (fun done ds st => ds = (done.map wholeOf).map ox ∧ ∃ U, st = ⟨[("x", U)], rr⟩) (by decide +kernel) rfl rfl rfl rfl (by rw [sizeLine_eq]; omega) (WI.of ?_) .nil ?_ ?_
      · walk_at "mW"
        exact ⟨_, rfl⟩
      · rintro pre q post ds st₂ e ⟨rfl, U, rfl⟩
        refine ⟨_, (by (repeat (first | with_reducible apply SetV.here | with_reducible apply SetV.there)) <;> fail), ?_⟩
        show WE _ _ _ _ _ _ _
        have fin : ∀ t : Option Int, wholeOf q = t → (pre.map wholeOf).map ox ++ [ox t] = ((pre ++ [q]).map wholeOf).map ox := by rintro t rfl; simp
        cases q with
        | none =>
          walk_at "mW"
          exact ⟨fin none rfl, _, rfl⟩
        | some q =>
          obtain ⟨a, b⟩ := q
          dsimp only [qx]
          walk_at "mA"
          · exact ⟨fin none (by simp [wholeOf, hc]), _, rfl⟩
          · exact ⟨fin (some a) (by simp [wholeOf, hc]), _, rfl⟩
      · rintro ds st₂ ⟨rfl, U, rfl⟩ _
        walk_at "mW"
        exact ⟨⟨.integer (ys.map wholeOf), rfl, by show List.length _ ≤ 9; rw [List.length_map]; omega, by nofun⟩, hrr⟩
  walk_at "mW"
  refine of_both (fun hc => ?_) (fun hc => ?_)
  · walk_at "mW"
    refine WE.listComp ?_ rfl (by intro _ _; rfl)
    refine WComp.draw (f := qx) (P := qOk) (m := m) ["_law_number"] (by decide +kernel) hm9 (by (repeat (first | with_reducible apply At.here | with_reducible apply At.there)) <;> fail) hr2 (WI.ofRange hw (by decide +kernel) (by omega) ?_ (by intro _; with_unfolding_all rfl)) ?_ ?_
    · walk_at "mW"
      rfl
    · intro U rr hrr
      refine WE.call (k := 4) hw (by decide +kernel) (hw.glob (by k_is)) (by k_is) (by decide) ?_
      walk_at "mW"
      refine (fs_number hw _ hrr).mono (Nat.le_refl _) ?_ (fun _ _ q => q.elim)
      rintro U r3 ⟨⟨q, rfl, hq⟩, hr3⟩
      exact ⟨q, _, rfl, hq, rfl, hr3⟩
    · intro ys rr hl hp hrr
      walk_at "mW"
      exact ⟨⟨.double ys, rfl, ⟨by omega, hp⟩, by nofun⟩, hrr⟩
  walk_at "mW"
  refine of_both (fun hc => ?_) (fun hc => ?_)
  · walk_at "mW"
    refine WE.listComp ?_ rfl (by intro _ _; rfl)
    refine WComp.draw (f := tx) (P := TOk) (m := m) ["_law_text"] (by decide +kernel) hm9 (by (repeat (first | with_reducible apply At.here | with_reducible apply At.there)) <;> fail) hr2 (WI.ofRange hw (by decide +kernel) (by omega) ?_ (by intro _; with_unfolding_all rfl)) ?_ ?_
    · walk_at "mW"
      rfl
    · intro U rr hrr
      refine WE.call (k := 4) hw (by decide +kernel) (hw.glob (by k_is)) (by k_is) (by decide) ?_
      walk_at "mW"
      refine (fs_text hw _ hrr).mono (Nat.le_refl _) ?_ (fun _ _ q => q.elim)
      rintro U r3 ⟨⟨q, rfl, hq⟩, hr3⟩
      exact ⟨q, _, rfl, hq, rfl, hr3⟩
    · intro ys rr hl hp hrr
      walk_at "mW"
      exact ⟨⟨.char ys, rfl, ⟨by omega, hp⟩, by nofun⟩, hrr⟩
  walk_at "mW"
  exact ⟨⟨.list, rfl, trivial, by nofun⟩, hr2⟩

/-! ## the row -/
theorem fs_row (hw : Wd w h₀ mg mb) (ns : List Int) (hn : ns.length ≤ 63) (r : List Int) : FS w h₀ 2 241 [.scr ns] r (fun U r' => (∃ rs : List Int, U = .ol (rs.map .int) ∧ rs.length ≤ 160) ∧ r' = r) (fun _ _ => False) := by
  refine FS.of hw ⟨1, ["script", "row", "cell", "figure", "lap"], [], [], ["range"]⟩ ["script"] (by k_is) (by k_is) rfl rfl (bind1 fun _ => rfl) (by decide +kernel) (Nat.le_refl _) rfl (mu := [("script", .scr ns), ("row", .un), ("cell", .un), ("figure", .un), ("lap", .un)]) rfl (by repeat (first | with_reducible exact Init2.nil | with_reducible refine Init2.un ?_ | (with_reducible refine Init2.arg (by repeat (first | with_reducible exact At2.here | with_reducible apply At2.there)) ?_))) ?_
  walk_at "mW"
  refine WX.forMap0 (f := PyData.int) (items := ns.take 40) (fun done st => ∃ (rs : List Int) (U U' U'' : V), st = ⟨[("script", .scr ns), ("row", .ol (rs.map .int)), ("cell", U), ("figure", U'), ("lap", U'')], r⟩ ∧ rs.length ≤ 31 * done.length) (by decide +kernel) (WI.of ?_) ?_ ?_
  · refine WE.slice (k := 40) ?_
    walk_at "mW"
    refine ⟨_, .inr ⟨ns, rfl, rfl⟩, by rw [List.length_map, sizeLine_eq]; omega, by rw [List.map_take], ?_⟩
    exact ⟨[], _, _, _, rfl, Nat.zero_le _⟩
  · rintro pre a post st₂ e ⟨rs, U, U', U'', rfl, hl⟩
    refine ⟨_, (by (repeat (first | with_reducible apply SetV.here | with_reducible apply SetV.there)) <;> fail), ?_⟩
    have hpre : pre.length ≤ 40 := by have := congrArg List.length e; simp at this; omega
    have app : ∀ (ts : List Int) y, List.map PyData.int ts ++ [PyData.int y] = (ts ++ [y]).map PyData.int := by intro ts y; simp
    walk_at "mA"
    all_goals
      simp only [app]
      refine WX.forMap0 (f := fun k : Nat => PyData.int (k : Int)) (items := List.range 30) (fun done st => ∃ (rs' : List Int) (fig : Int) (U'' : V), st = ⟨[("script", .scr ns), ("row", .ol (rs'.map .int)), ("cell", .d (.int a)), ("figure", .d (.int fig)), ("lap", U'')], r⟩ ∧ rs'.length ≤ 31 * pre.length + 1 + done.length) (by decide +kernel) (WI.ofRange hw (by decide +kernel) (by decide) ?_ (by intro _; with_unfolding_all rfl)) ?_ ?_
      · walk_at "mW"
        exact ⟨_, _, _, rfl, by simp; omega⟩
      · rintro done k post' st₃ e' ⟨rs', fig, U3, rfl, hl'⟩
        refine ⟨_, (by (repeat (first | with_reducible apply SetV.here | with_reducible apply SetV.there)) <;> fail), ?_⟩
        have hdone : done.length ≤ 30 := by have := congrArg List.length e'; simp at this; omega
        walk_at "mA"
        · simp only [app]
          exact ⟨_, _, _, rfl, by simp; omega⟩
        · exact ⟨_, _, _, rfl, by simp; omega⟩
      · rintro st₃ ⟨rs', fig, U3, rfl, hl'⟩
        walk_at "mW"
        exact ⟨_, _, _, _, rfl, by simp at hl' ⊢; omega⟩
  · rintro st₂ ⟨rs, U, U', U'', rfl, hl⟩
    have hl2 : rs.length ≤ 1240 := by simp at hl; omega
    walk_at "mW"
    refine WE.sliceOwn (k := 160) (by (repeat (first | with_reducible apply At.here | with_reducible apply At.there)) <;> fail) (by rw [List.length_map, sizeLine_eq]; omega) ?_
    walk_at "mW"
    refine WX.reverse (by (repeat (first | with_reducible apply At.here | with_reducible apply At.there)) <;> fail) (by rw [List.length_take, sizeLine_eq]; omega) (by (repeat (first | with_reducible apply SetV.here | with_reducible apply SetV.there)) <;> fail) ?_ (by with_unfolding_all rfl)
    refine afterX_next (WS.cons ?_)
    refine WX.retOwn (by (repeat (first | with_reducible apply At.here | with_reducible apply At.there)) <;> fail) (.inl ⟨_, rfl⟩) (by (repeat (first | with_reducible apply SetV.here | with_reducible apply SetV.there)) <;> fail) ?_
    walk_at "mW"
    exact ⟨⟨(rs.take 160).reverse, by rw [List.map_reverse, List.map_take], by simp; omega⟩, rfl⟩
end
end Mine
namespace Mine

theorem lay_map {α : Type} {f : α → PyData} : ∀ {xs : List α}, (∀ x ∈ xs, (f x).canLay0 = true) → PyData.canLayAll0 (xs.map f) = true
  | [], _ => rfl
  | a :: r, h => by
    rw [List.map_cons, PyData.canLayAll0, h a (.head _), lay_map (xs := r) fun x hx => h x (.tail _ hx)]; rfl
theorem depth_map {α : Type} {f : α → PyData} : ∀ {xs : List α}, (∀ x ∈ xs, (f x).depth = 0) → PyData.depthAll (xs.map f) = 0
  | [], _ => rfl
  | a :: r, h => by
    rw [List.map_cons, PyData.depthAll, h a (.head _), depth_map (xs := r) fun x hx => h x (.tail _ hx)]; rfl
theorem shaped_list {α : Type} {f : α → PyData} {xs : List α} (h1 : ∀ x ∈ xs, (f x).canLay0 = true) (h2 : ∀ x ∈ xs, (f x).depth = 0) : SeqAt.shaped (.list (xs.map f)) = true := by
  unfold SeqAt.shaped
  rw [PyData.canLay0, lay_map h1, PyData.depth, depth_map h2]; rfl
theorem ox_lay (x : Option Int) : (ox x).canLay0 = true := by cases x <;> rfl
theorem ox_depth (x : Option Int) : (ox x).depth = 0 := by cases x <;> rfl
theorem tx_lay {x : Option Str} (h : TOk x) : (tx x).canLay0 = true := (Bool.and_eq_true_iff.mp h).1
theorem tx_depth (x : Option Str) : (tx x).depth = 0 := by cases x <;> rfl
theorem shaped_oxs (xs : List (Option Int)) : SeqAt.shaped (.list (xs.map ox)) = true := shaped_list (fun x _ => ox_lay x) fun x _ => ox_depth x
theorem lay_oxs (xs : List (Option Int)) : PyData.canLayAll0 (xs.map ox) = true := lay_map fun x _ => ox_lay x
theorem lay_txs {xs : List (Option Str)} (h : ∀ x ∈ xs, TOk x) : PyData.canLayAll0 (xs.map tx) = true := lay_map fun x hx => tx_lay (h x hx)
theorem shaped_txs {xs : List (Option Str)} (h : ∀ x ∈ xs, TOk x) : SeqAt.shaped (.list (xs.map tx)) = true := shaped_list (fun x hx => tx_lay (h x hx)) fun x _ => tx_depth x
theorem eqv_ox (x y : Option Int) : PyData.eqv (ox x) (ox y) = decide (x = y) := by
  cases x <;> cases y <;> simp [ox, PyData.eqv]
  rw [Bool.eq_iff_iff]; simp
theorem eqv_tx (x y : Option Str) : PyData.eqv (tx x) (tx y) = decide (x = y) := by
  cases x <;> cases y <;> simp [tx, PyData.eqv]
  rw [Bool.eq_iff_iff]; simp
theorem any_ox (xs : List (Option Int)) (y : Option Int) : ((xs.map ox).any fun z => PyData.eqv z (ox y)) = decide (y ∈ xs) := by
  induction xs with
  | nil => rfl
  | cons a r ih =>
    rw [List.map_cons, List.any_cons, ih, eqv_ox, Bool.eq_iff_iff]
    simp only [Bool.or_eq_true, decide_eq_true_eq, List.mem_cons]
    exact or_congr eq_comm Iff.rfl
theorem any_tx (xs : List (Option Str)) (y : Option Str) : ((xs.map tx).any fun z => PyData.eqv z (tx y)) = decide (y ∈ xs) := by
  induction xs with
  | nil => rfl
  | cons a r ih =>
    rw [List.map_cons, List.any_cons, ih, eqv_tx, Bool.eq_iff_iff]
    simp only [Bool.or_eq_true, decide_eq_true_eq, List.mem_cons]
    exact or_congr eq_comm Iff.rfl
theorem idx_tx (xs : List (Option Str)) (y : Option Str) : ((xs.map tx).findIdx fun z => PyData.eqv z (tx y)) = xs.findIdx (fun z => decide (z = y)) := by
  induction xs with
  | nil => rfl
  | cons a r ih => rw [List.map_cons, List.findIdx_cons, List.findIdx_cons, ih, eqv_tx]
theorem eqv_nil {α : Type} (f : α → PyData) (xs : List α) : PyData.eqv (.list (xs.map f)) (.list []) = decide (xs = []) := by
  cases xs <;> simp [PyData.eqv, PyData.eqvAll]

/-! ## _law_cut -/
def lawCut : Option (Int × Int) → Option Int
  | none => none
  | some (a, b) => if b = 0 then none else if a ≥ 0 then some (a.fdiv b) else some (-((-a).fdiv b))
section
variable {w : World} {h₀ : Heap} {mg mb : Str → Option Value}
theorem fs_cut_double (hw : Wd w h₀ mg mb) (qs : List (Option (Int × Int))) (hq : ∀ q ∈ qs, qOk q) (hlen : qs.length ≤ 9) (r : List Int) :
    FS w h₀ 2 274 [.d (.str "double"), .d (.list (qs.map qx))] r (fun U r' => U = .d (.list ((qs.map lawCut).map ox)) ∧ r' = r) (fun _ _ => False) := by
  refine FS.of hw ⟨1, ["kind", "items", "found", "item"], [], [], []⟩ ["kind", "items"] (by k_is) (by k_is) rfl rfl (bind2 fun _ _ => rfl) (by decide +kernel) (Nat.le_refl _) rfl (mu := [("kind", .d (.str "double")), ("items", .d (.list (qs.map qx))), ("found", .un), ("item", .un)]) rfl (by repeat (first | with_reducible exact Init2.nil | with_reducible refine Init2.un ?_ | (with_reducible refine Init2.arg (by repeat (first | with_reducible exact At2.here | with_reducible apply At2.there)) ?_))) ?_
  walk_at "mW"
  refine WX.forMap0 (f := qx) (items := qs) (fun done st => ∃ U, st = ⟨[("kind", .d (.str "double")), ("items", .d (.list (qs.map qx))), ("found", .ol ((done.map lawCut).map ox)), ("item", U)], r⟩) (by decide +kernel) (WI.of ?_) ?_ ?_
  · walk_at "mW"
    exact ⟨_, rfl⟩
  · rintro pre q post st₂ e ⟨U, rfl⟩
    refine ⟨_, (by (repeat (first | with_reducible apply SetV.here | with_reducible apply SetV.there)) <;> fail), ?_⟩
    have hq' : qOk q := hq q (by rw [e]; simp)
    have hl : pre.length ≤ 9 := by rw [e] at hlen; simp at hlen; omega
    have fin : ∀ t : Option Int, t = lawCut q → (pre.map lawCut).map ox ++ [ox t] = ((pre ++ [q]).map lawCut).map ox := by rintro t rfl; simp
    cases q with
    | none =>
      walk_at "mW"
      exact ⟨_, by rw [← fin none rfl]; rfl⟩
    | some q =>
      obtain ⟨a, b⟩ := q
      obtain ⟨q1, q2, q3, q4⟩ := hq'
      dsimp only [qx]
      walk_at "mA"
      · exact ⟨_, by rw [← fin none (by simp [lawCut, hc])]; rfl⟩
      · rename_i hb
        exact ⟨_, by rw [← fin (some (a.fdiv b)) (by simp [lawCut, hb, hc])]; rfl⟩
      · rename_i hb
        exact ⟨_, by rw [← fin (some (-((-a).fdiv b))) (by rw [lawCut, if_neg hb, if_neg hc])]; rfl⟩
  · rintro st₂ ⟨U, rfl⟩
    refine afterX_next (WS.cons ?_)
    refine WX.freezeL (x := "found") (by (repeat (first | with_reducible apply At.here | with_reducible apply At.there)) <;> fail) (by (repeat (first | with_reducible apply SetV.here | with_reducible apply SetV.there)) <;> fail) ?_
    walk_at "mW"
    rfl
theorem fs_cut_whole (hw : Wd w h₀ mg mb) (k : Str) (hk : SeqAt.shaped (.str k) = true) (hk2 : k ≠ "double") (xs : List (Option Int)) (hlen : xs.length ≤ 9) (r : List Int) :
    FS w h₀ 2 274 [.d (.str k), .d (.list (xs.map ox))] r (fun U r' => U = .d (.list (xs.map ox)) ∧ r' = r) (fun _ _ => False) := by
  refine FS.of hw ⟨1, ["kind", "items", "found", "item"], [], [], []⟩ ["kind", "items"] (by k_is) (by k_is) rfl rfl (bind2 fun _ _ => rfl) (by decide +kernel) (Nat.le_refl _) rfl (mu := [("kind", .d (.str k)), ("items", .d (.list (xs.map ox))), ("found", .un), ("item", .un)]) rfl (by repeat (first | with_reducible exact Init2.nil | with_reducible refine Init2.un ?_ | (with_reducible refine Init2.arg (by repeat (first | with_reducible exact At2.here | with_reducible apply At2.there)) ?_))) ?_
  walk_at "mW"
  refine WX.forMap0 (f := ox) (items := xs) (fun done st => ∃ U, st = ⟨[("kind", .d (.str k)), ("items", .d (.list (xs.map ox))), ("found", .ol (done.map ox)), ("item", U)], r⟩) (by decide +kernel) (WI.of ?_) ?_ ?_
  · walk_at "mW"
    exact ⟨_, rfl⟩
  · rintro pre q post st₂ e ⟨U, rfl⟩
    refine ⟨_, (by (repeat (first | with_reducible apply SetV.here | with_reducible apply SetV.there)) <;> fail), ?_⟩
    have hl : pre.length ≤ 9 := by rw [e] at hlen; simp at hlen; omega
    cases q with
    | none =>
      walk_at "mW"
      exact ⟨_, by simp [ox]; rfl⟩
    | some q =>
      dsimp only [ox]
      walk_at "mW"
      refine of_false (decide_eq_false hk2) ?_
      walk_at "mW"
      refine of_false (decide_eq_false hk2) ?_
      walk_at "mW"
      exact ⟨_, by simp [ox]; rfl⟩
  · rintro st₂ ⟨U, rfl⟩
    refine afterX_next (WS.cons ?_)
    refine WX.freezeL (x := "found") (by (repeat (first | with_reducible apply At.here | with_reducible apply At.there)) <;> fail) (by (repeat (first | with_reducible apply SetV.here | with_reducible apply SetV.there)) <;> fail) ?_
    walk_at "mW"
    rfl

/-! ## _law_named -/
def lawNamed (item : Option Str) (names : Option (List (Option Str))) (exact : Bool) : Int := match item, names with
  | some s, some ns => if s = "" then -1 else if some s ∈ ns then (ns.findIdx (fun z => decide (z = some s)) : Nat) else if exact = true then -1 else onlyOne ((List.range ns.length).filter (begun ns s))
  | _, _ => -1
theorem fs_named (hw : Wd w h₀ mg mb) (item : Option Str) (hi : TOk item) (names : Option (List (Option Str))) (hN : NOk names) (exact : Bool) (r : List Int) :
    FS w h₀ 2 284 [.d (tx item), .d (nx names), .d (.bool exact)] r (fun U r' => U = .d (.int (lawNamed item names exact)) ∧ r' = r) (fun _ _ => False) := by
  refine FS.of hw ⟨1, ["exact", "begun"], ["item", "names"], [], ["range", "len"]⟩ ["item", "names", "exact"] (by k_is) (by k_is) rfl rfl (bind3 fun _ _ _ => rfl) (by decide +kernel) (Nat.le_refl _) rfl
    (mu := [("exact", .d (.bool exact)), ("begun", .un), ("item", .d (tx item)), ("names", .d (nx names))]) rfl (by repeat (first | with_reducible exact Init2.nil | with_reducible refine Init2.un ?_ | (with_reducible refine Init2.arg (by repeat (first | with_reducible exact At2.here | with_reducible apply At2.there)) ?_))) ?_
  cases item with
  | none =>
    walk_at "mW"
    rfl
  | some s =>
    have hok : SeqAt.shaped (.str s) = true := hi
    dsimp only [tx]
    walk_at "mW"
    refine of_both (fun hc => ?_) (fun hc => ?_) <;> simp only [decide_eq_true_eq, decide_eq_false_iff_not] at hc
    · walk_at "mW"
      exact ⟨by cases names <;> simp [lawNamed, hc], rfl⟩
    · walk_at "mW"
      cases names with
      | none =>
        refine of_true rfl ?_
        walk_at "mW"
        rfl
      | some ns =>
        obtain ⟨hl, hT⟩ := hN
        refine of_false rfl ?_
        dsimp only [nx]
        walk_at "mW"
        refine ⟨_, _, rfl, CmpR.inL (.str s) _ (lay_txs hT) hok, ?_⟩
        have hany : ((ns.map tx).any fun z => PyData.eqv z (.str s)) = decide (some s ∈ ns) := any_tx ns (some s)
        have hidx : ((ns.map tx).findIdx fun z => PyData.eqv z (.str s)) = ns.findIdx (fun z => decide (z = some s)) := idx_tx ns (some s)
        rw [hany]
        refine of_both (fun hm => ?_) (fun hm => ?_) <;> simp only [decide_eq_true_eq, decide_eq_false_iff_not] at hm
        · walk_at "mW"
          refine WE.index ?_ (by intro _; with_unfolding_all rfl) (by intro _; with_unfolding_all rfl) (by with_unfolding_all rfl)
          walk_at "mW"
          refine ⟨lay_txs hT, hok, ?_, ?_, ?_⟩
          · rw [hany]; exact decide_eq_true hm
          · rw [List.length_map]; omega
          · rw [hidx]
            walk_at "mW"
            exact ⟨by simp [lawNamed, hc, hm], rfl⟩
        · walk_at "mW"
          refine of_both (fun hx => ?_) (fun hx => ?_)
          · walk_at "mW"
            exact ⟨by simp [lawNamed, hc, hm, hx], rfl⟩
          · refine WS.nil (afterX_next (WS.cons ?_))
            refine WX.assignComp (by decide +kernel) ?_ (by decide +kernel) rfl (by with_unfolding_all rfl) (by intro _ _; rfl)
            refine WComp.map (f := fun k : Nat => PyData.int (k : Int)) (items := List.range ns.length) ⟨1, ["spot"], [], ["item", "names"], []⟩ [("item", .d (.str s)), ("names", .d (.list (ns.map tx)))]
              (fun done ds st => ds = (done.filter (begun ns s)).map (fun k : Nat => PyData.int (k : Int)) ∧ ∃ U, st = ⟨[("spot", U), ("item", .d (.str s)), ("names", .d (.list (ns.map tx)))], r⟩) (by decide +kernel) rfl rfl rfl rfl (by rw [List.length_range, sizeLine_eq]; omega) (WI.ofRange hw (by decide +kernel) (by omega) ?_ (by intro _; with_unfolding_all rfl)) (by try dsimp only; repeat (first | with_reducible exact Caps.nil | (with_reducible refine Caps.cons (by (repeat (first | with_reducible apply At.here | with_reducible apply At.there)) <;> fail) (by with_unfolding_all rfl) ?_))) ?_ ?_
            · walk_at "mW"
              refine ⟨by rw [List.length_map]; omega, ?_⟩
              rw [List.length_map]
              walk_at "mW"
              exact ⟨_, rfl⟩
            · rintro pre i post ds st₂ e ⟨rfl, U, rfl⟩
              refine ⟨_, (by (repeat (first | with_reducible apply SetV.here | with_reducible apply SetV.there)) <;> fail), ?_⟩
              have hlen : pre.length ≤ 9 := by have := congrArg List.length e; simp at this; omega
              have hil : i < ns.length := by
                have : i ∈ List.range ns.length := by rw [e]; simp
                simpa using this
              obtain ⟨it, hit⟩ : ∃ it, ns[i]? = some it := ⟨_, List.getElem?_eq_getElem hil⟩
              show WT _ _ _ _ _ _ _
              walk_at "mW"
              refine ⟨_, _, rfl, ItemR.list (d := tx it) (by omega) (by omega) (by rw [Int.toNat_natCast, List.getElem?_map, hit]; rfl), ?_⟩
              walk_at "mW"
              cases it with
              | none =>
                refine of_false rfl ?_
                refine of_false rfl ?_
                have hb : begun ns s i = false := by rw [begun, hit]
                exact ⟨by simp [List.filter_append, hb], _, rfl⟩
              | some t =>
                have hb : begun ns s i = Txt.startswith t s := by rw [begun, hit]
                refine of_true rfl ?_
                walk_at "mW"
                refine WE.startswith ?_ (by intro _; with_unfolding_all rfl) (by intro _; with_unfolding_all rfl) (by with_unfolding_all rfl)
                walk_at "mW"
                refine ⟨_, _, rfl, ItemR.list (d := tx (some t)) (by omega) (by omega) (by rw [Int.toNat_natCast, List.getElem?_map, hit]; rfl), ?_⟩
                dsimp only [tx]
                walk_at "mW"
                refine of_both (fun hs' => ?_) (fun hs' => ?_)
                · walk_at "mW"
                  exact ⟨by simp [List.filter_append, hb, hs'], _, rfl⟩
                · walk_at "mW"
                  exact ⟨by simp [List.filter_append, hb, hs'], _, rfl⟩
            · rintro ds st₂ ⟨rfl, U, rfl⟩ hle
              rw [List.length_map] at hle
              have hfull : lawNamed (some s) (some ns) exact = onlyOne ((List.range ns.length).filter (begun ns s)) := by simp [lawNamed, hc, hm, hx]
              rw [hfull]
              generalize (List.range ns.length).filter (begun ns s) = B at hle ⊢
              have hB : B.length ≤ 9 := by simp at hle; omega
              walk_at "mW"
              refine ⟨by rw [List.length_map]; omega, ?_⟩
              rw [List.length_map]
              walk_at "mW"
              match B with
              | [] =>
                refine of_false rfl ?_
                walk_at "mW"
                rfl
              | [k] =>
                refine of_true rfl ?_
                walk_at "mW"
                rfl
              | k :: k' :: B =>
                refine of_false (by simp; omega) ?_
                walk_at "mW"
                rfl
end
end Mine
namespace Mine

def dlAt (xs : List (Option Int)) (spot : Nat) : List (Option Int) := match xs[spot % xs.length]? with
  | some none => [none]
  | some (some k) => if k = 0 then [] else if k = 1 then [some (spot : Int)] else [none]
  | none => []
theorem dlAt_len (xs : List (Option Int)) (i : Nat) : (dlAt xs i).length ≤ 1 := by
  unfold dlAt
  split
  · simp
  · split
    · simp
    · split <;> simp
  · simp
def dueLogical (xs : List (Option Int)) (n : Nat) : List (Option Int) := (List.range (if xs = [] then 0 else max n xs.length)).flatMap (dlAt xs)

structure DC where
  P : List (Option Int)
  Ad : List (Option Str)
def goodB : Option Str → Bool
  | none => false
  | some s => !decide (s = "")
def inNames (x : Option Str) : Option (List (Option Str)) → Bool
  | none => false
  | some ns => decide (x ∈ ns)
def idxIn (x : Option Str) (ns : List (Option Str)) : Int := (ns.findIdx (fun z => decide (z = x)) : Nat)
def dcAt (n : Nat) (names : Option (List (Option Str))) (ext : Bool) (E : DC) (x : Option Str) : DC :=
  if (goodB x && inNames x names) = true then ⟨E.P ++ [some (idxIn x (names.getD []))], E.Ad⟩
  else if ext = false then ⟨E.P ++ [none], E.Ad⟩
  else if (goodB x && decide (x ∈ E.Ad)) = true then ⟨E.P ++ [some ((n : Int) + idxIn x E.Ad)], E.Ad⟩
  else ⟨E.P ++ [some ((n : Int) + (E.Ad.length : Int))], E.Ad ++ [x]⟩
def dueChar (xs : List (Option Str)) (n : Nat) (names : Option (List (Option Str))) (ext : Bool) : DC := xs.foldl (dcAt n names ext) ⟨[], []⟩
theorem dcAt_len (n : Nat) (names : Option (List (Option Str))) (ext : Bool) (E : DC) (x : Option Str) : (dcAt n names ext E x).P.length ≤ E.P.length + 1 ∧ (dcAt n names ext E x).Ad.length ≤ E.Ad.length + 1 := by
  unfold dcAt
  split
  · simp
  · split
    · simp
    · split <;> simp
theorem dcFold_len (n : Nat) (names : Option (List (Option Str))) (ext : Bool) : ∀ (xs : List (Option Str)) (E : DC), (xs.foldl (dcAt n names ext) E).P.length ≤ E.P.length + xs.length ∧ (xs.foldl (dcAt n names ext) E).Ad.length ≤ E.Ad.length + xs.length
  | [], _ => ⟨Nat.le_refl _, Nat.le_refl _⟩
  | a :: r, E => by
    rw [List.foldl_cons, List.length_cons]
    have h1 := dcFold_len n names ext r (dcAt n names ext E a); have h2 := dcAt_len n names ext E a
    exact ⟨by omega, by omega⟩
theorem dcAt_sub (n : Nat) (names : Option (List (Option Str))) (ext : Bool) (E : DC) (x : Option Str) {y : Option Str} (h : y ∈ (dcAt n names ext E x).Ad) : y ∈ E.Ad ∨ y = x := by
  unfold dcAt at h
  split at h
  · exact .inl h
  · split at h
    · exact .inl h
    · split at h
      · exact .inl h
      · simpa using h
theorem dcFold_sub (n : Nat) (names : Option (List (Option Str))) (ext : Bool) : ∀ (xs : List (Option Str)) (E : DC) {y : Option Str}, y ∈ (xs.foldl (dcAt n names ext) E).Ad → y ∈ E.Ad ∨ y ∈ xs
  | [], _, _, h => .inl h
  | a :: r, E, y, h => by
    rw [List.foldl_cons] at h
    rcases dcFold_sub n names ext r _ h with h | h
    · rcases dcAt_sub n names ext E a h with h | h
      · exact .inl h
      · exact .inr (h ▸ .head _)
    · exact .inr (.tail _ h)

def isBelow : Option Int → Bool
  | none => false
  | some c => decide (c < 0)
def notZero : Option Int → Bool
  | none => true
  | some c => !decide (c = 0)
def decO : Option Int → Option Int
  | none => none
  | some c => some (c - 1)
def isPos : Option Int → Bool
  | none => false
  | some c => decide (c > 0)
theorem all_some : ∀ {cs : List (Option Int)}, none ∉ cs → ∃ ks : List Int, cs = ks.map some
  | [], _ => ⟨[], rfl⟩
  | none :: _, h => absurd (.head _) h
  | some a :: t, h => by
    obtain ⟨ks, e⟩ := all_some (cs := t) fun q => h (.tail _ q)
    exact ⟨a :: ks, by rw [e]; rfl⟩
def dueNum (cs : List (Option Int)) (n : Nat) : PyData :=
  if cs.filter isBelow = [] then .tuple [.list (((cs.filter notZero).map decO).map ox), .none]
  else if none ∈ cs then .str "can't mix NAs with negative subscripts"
  else if cs.any isPos = true then .str "can't mix positive and negative subscripts"
  else .tuple [.list (((List.range n).filter fun k : Nat => !decide (some (-(k : Int) - 1) ∈ cs)).map fun k : Nat => PyData.int (k : Int)), .none]
def dueD (o : IxV) (n : Nat) (names : Option (List (Option Str))) (ext : Bool) : PyData := match o with
  | .missing => .tuple [.list ((List.range n).map fun k : Nat => PyData.int (k : Int)), .none]
  | .null => .tuple [.list [], .none]
  | .list => .str "invalid subscript type 'list'"
  | .logical xs => .tuple [.list ((dueLogical xs n).map ox), .none]
  | .integer xs => dueNum xs n
  | .double qs => dueNum (qs.map lawCut) n
  | .char xs => .tuple [.list ((dueChar xs n names ext).P.map ox), if ext = true then .list ((dueChar xs n names ext).Ad.map tx) else .none]
  | .sym _ => .none

section
variable {w : World} {h₀ : Heap} {mg mb : Str → Option Value}
theorem fs_due (hw : Wd w h₀ mg mb) (o : IxV) (ho : o.Ok) (hns : ∀ x, o ≠ .sym x) (n : Nat) (hn : n ≤ 9) (names : Option (List (Option Str))) (hN : NOk names) (ext : Bool) (r : List Int) :
    FS w h₀ 4 279 [.ix o.ix, .d (.int n), .d (nx names), .d (.bool ext)] r (fun U r' => U = .d (dueD o n names ext) ∧ r' = r) (fun _ _ => False) := by
  refine FS.of hw ⟨3, ["ix", "n", "names", "extend", "kind", "found", "spot", "item", "added", "good", "below"], ["cuts"], [], ["list", "range", "max", "len", "_law_cut"]⟩ ["ix", "n", "names", "extend"] (by k_is) (by k_is) rfl rfl (bind4 fun _ _ _ _ => rfl) (by decide +kernel) (Nat.le_refl _) rfl
    (mu := [("ix", .ix o.ix), ("n", .d (.int n)), ("names", .d (nx names)), ("extend", .d (.bool ext)), ("kind", .un), ("found", .un), ("spot", .un), ("item", .un), ("added", .un), ("good", .un), ("below", .un), ("cuts", .un)]) rfl (by repeat (first | with_reducible exact Init2.nil | with_reducible refine Init2.un ?_ | (with_reducible refine Init2.arg (by repeat (first | with_reducible exact At2.here | with_reducible apply At2.there)) ?_))) ?_
  have num : (∃ (K : Str) (items : List PyData) (cs : List (Option Int)), o.ix = .vec K items ∧ SeqAt.shaped (.str K) = true ∧ K ≠ "missing" ∧ K ≠ "NULL" ∧ K ≠ "list" ∧ K ≠ "logical" ∧ K ≠ "character" ∧ cs.length ≤ 9 ∧ dueD o n names ext = dueNum cs n ∧
      ∀ r, FS w h₀ 2 274 [.d (.str K), .d (.list items)] r (fun U r' => U = .d (.list (cs.map ox)) ∧ r' = r) (fun _ _ => False)) ∨ (∀ xs, o ≠ .integer xs) ∧ ∀ qs, o ≠ .double qs := by
    cases o with
    | integer xs => exact .inl ⟨"integer", _, xs, rfl, by decide +kernel, by decide +kernel, by decide +kernel, by decide +kernel, by decide +kernel, by decide +kernel, ho, rfl, fun r => fs_cut_whole hw "integer" (by decide +kernel) (by decide +kernel) xs ho r⟩
    | double qs => exact .inl ⟨"double", _, qs.map lawCut, rfl, by decide +kernel, by decide +kernel, by decide +kernel, by decide +kernel, by decide +kernel, by decide +kernel, by rw [List.length_map]; exact ho.1, rfl, fun r => fs_cut_double hw qs ho.2 ho.1 r⟩
    | _ => exact .inr ⟨by nofun, by nofun⟩
  rcases num with ⟨K, items, cs, hix, hK, k1, k2, k3, k4, k5, hlen, hdue, hcut⟩ | ⟨no1, no2⟩
  · rw [hdue, hix]
    walk_at "mW"
    refine of_false (decide_eq_false k1) ?_
    walk_at "mW"
    refine of_false (decide_eq_false k2) ?_
    walk_at "mW"
    refine of_false (decide_eq_false k3) ?_
    walk_at "mW"
    refine of_false (decide_eq_false k4) ?_
    walk_at "mW"
    refine of_false (decide_eq_false k5) ?_
    walk_at "mW"
    refine WE.call (k := 2) hw (by decide +kernel) (hw.glob (by k_is)) (by k_is) (by decide) ?_
    walk_at "mW"
    refine (hcut _).mono (Nat.le_refl _) ?_ (fun _ _ q => q.elim)
    rintro U r' ⟨rfl, rfl⟩
    dsimp only
    refine ⟨_, (by (repeat (first | with_reducible apply SetV.here | with_reducible apply SetV.there)) <;> fail), ?_⟩
    refine afterX_next (WS.cons ?_)
    refine WX.assignComp (by decide +kernel) ?_ (by decide +kernel) rfl (by with_unfolding_all rfl) (by intro _ _; rfl)
    refine WComp.map (f := ox) (items := cs) ⟨3, ["cut"], [], [], []⟩ [] (fun done ds st => ds = (done.filter isBelow).map ox ∧ ∃ U, st = ⟨[("cut", U)], r'⟩) (by decide +kernel) rfl rfl rfl rfl (by rw [sizeLine_eq]; omega) (WI.of ?_) .nil ?_ ?_
    · walk_at "mW"
      exact ⟨_, rfl⟩
    · rintro pre c post ds st₂ e ⟨rfl, U, rfl⟩
      refine ⟨_, (by (repeat (first | with_reducible apply SetV.here | with_reducible apply SetV.there)) <;> fail), ?_⟩
      show WT _ _ _ _ _ _ _
      cases c with
      | none =>
        walk_at "mW"
        exact ⟨by simp [List.filter_append, isBelow], _, rfl⟩
      | some c =>
        dsimp only [ox]
        walk_at "mA"
        · exact ⟨by simp [List.filter_append, isBelow, hc, ox], _, rfl⟩
        · exact ⟨by simp [List.filter_append, isBelow, hc, ox], _, rfl⟩
    · rintro ds st₂ ⟨rfl, U, rfl⟩ _
      dsimp only
      walk_at "mW"
      refine ⟨_, _, rfl, CmpR.eq _ _ (shaped_oxs _) (by decide +kernel), ?_⟩
      rw [eqv_nil]
      refine of_both (fun hb => ?_) (fun hb => ?_) <;> simp only [decide_eq_true_eq, decide_eq_false_iff_not] at hb
      · walk_at "mW"
        refine WE.listComp ?_ rfl (by intro _ _; rfl)
        refine WComp.map (f := ox) (items := cs) ⟨3, ["cut"], [], [], []⟩ [] (fun done ds st => ds = ((done.filter notZero).map decO).map ox ∧ ∃ U, st = ⟨[("cut", U)], r'⟩) (by decide +kernel) rfl rfl rfl rfl (by rw [sizeLine_eq]; omega) (WI.of ?_) .nil ?_ ?_
        · walk_at "mW"
          exact ⟨_, rfl⟩
        · rintro pre c post ds st₂ e ⟨rfl, U, rfl⟩
          refine ⟨_, (by (repeat (first | with_reducible apply SetV.here | with_reducible apply SetV.there)) <;> fail), ?_⟩
          show WT _ _ _ _ _ _ _
          cases c with
          | none =>
            walk_at "mW"
            exact ⟨by simp [List.filter_append]; rfl, _, rfl⟩
          | some c =>
            dsimp only [ox]
            walk_at "mA"
            · exact ⟨by simp [List.filter_append, notZero, decO, ox, hc], _, rfl⟩
            · exact ⟨by simp [List.filter_append, notZero, decO, ox, hc], _, rfl⟩
        · rintro ds st₂ ⟨rfl, U, rfl⟩ _
          walk_at "mW"
          exact ⟨by rw [dueNum, if_pos hb], rfl⟩
      · walk_at "mW"
        have hany : ((cs.map ox).any fun z => PyData.eqv z .none) = decide (none ∈ cs) := any_ox cs none
        refine ⟨_, _, rfl, CmpR.inL .none _ (lay_oxs _) rfl, ?_⟩
        rw [hany]
        refine of_both (fun hm => ?_) (fun hm => ?_) <;> simp only [decide_eq_true_eq, decide_eq_false_iff_not] at hm
        · walk_at "mW"
          exact ⟨by rw [dueNum, if_neg hb, if_pos hm], rfl⟩
        · walk_at "mW"
          refine WE.maxL hw (by decide +kernel) ?_ (by intro _; with_unfolding_all rfl)
          obtain ⟨ks, hks⟩ := all_some hm
          have hcs : cs.map ox = ks.map PyData.int := by rw [hks, List.map_map]; rfl
          have hne : ks ≠ [] := by
            rintro rfl
            rw [hks] at hb
            exact hb rfl
          rw [hcs]
          walk_at "mW"
          refine ⟨hne, ?_⟩
          intro m hm1 hm2
          walk_at "mW"
          refine of_both (fun hp => ?_) (fun hp => ?_) <;> simp only [decide_eq_true_eq, decide_eq_false_iff_not] at hp
          · walk_at "mW"
            have : cs.any isPos = true := by
              rw [List.any_eq_true]
              exact ⟨some m, by rw [hks]; exact List.mem_map_of_mem hm1, by simp [isPos, hp]⟩
            exact ⟨by rw [dueNum, if_neg hb, if_neg hm, if_pos this], rfl⟩
          · have hnp : ¬ cs.any isPos = true := by
              rw [List.any_eq_true]
              rintro ⟨x, hx, hxp⟩
              rw [hks] at hx
              obtain ⟨k, hk, rfl⟩ := List.mem_map.mp hx
              have := hm2 k hk
              simp [isPos] at hxp
              omega
            refine WS.nil (afterX_next (WS.cons ?_))
            walk_at "mW"
            refine WE.listComp ?_ rfl (by intro _ _; rfl)
            refine WComp.map (f := fun k : Nat => PyData.int (k : Int)) (items := List.range n) ⟨3, ["spot"], [], ["cuts"], []⟩ [("cuts", .d (.list (ks.map PyData.int)))]
              (fun done ds st => ds = (done.filter fun k : Nat => !decide (some (-(k : Int) - 1) ∈ cs)).map (fun k : Nat => PyData.int (k : Int)) ∧ ∃ U, st = ⟨[("spot", U), ("cuts", .d (.list (ks.map PyData.int)))], r'⟩) (by decide +kernel) rfl rfl rfl rfl (by rw [List.length_range, sizeLine_eq]; omega) (WI.ofRange hw (by decide +kernel) (by omega) ?_ (by intro _; with_unfolding_all rfl)) (by try dsimp only; repeat (first | with_reducible exact Caps.nil | (with_reducible refine Caps.cons (by (repeat (first | with_reducible apply At.here | with_reducible apply At.there)) <;> fail) (by with_unfolding_all rfl) ?_))) ?_ ?_
            · walk_at "mW"
              exact ⟨_, rfl⟩
            · rintro pre k post ds st₂ e ⟨rfl, U, rfl⟩
              refine ⟨_, (by (repeat (first | with_reducible apply SetV.here | with_reducible apply SetV.there)) <;> fail), ?_⟩
              show WT _ _ _ _ _ _ _
              walk_at "mW"
              have hany2 : ((ks.map PyData.int).any fun z => PyData.eqv z (.int (-(k : Int) - 1))) = decide (some (-(k : Int) - 1) ∈ cs) := by rw [← hcs]; exact any_ox cs (some (-(k : Int) - 1))
              refine ⟨_, _, rfl, CmpR.notInL (.int _) _ (by rw [← hcs]; exact lay_oxs _) rfl, ?_⟩
              rw [hany2]
              refine of_both (fun hk => ?_) (fun hk => ?_)
              · walk_at "mW"
                exact ⟨by simp [List.filter_append, hk], _, rfl⟩
              · exact ⟨by simp [List.filter_append, hk], _, rfl⟩
            · rintro ds st₂ ⟨rfl, U, rfl⟩ _
              walk_at "mW"
              exact ⟨by rw [dueNum, if_neg hb, if_neg hm, if_neg hnp], rfl⟩
  · cases o with
    | sym x => exact absurd rfl (hns x)
    | integer xs => exact absurd rfl (no1 xs)
    | double xs => exact absurd rfl (no2 xs)
    | missing =>
      dsimp only [IxV.ix]
      walk_at "mW"
      refine ⟨by omega, by omega, ?_⟩
      rw [Int.toNat_natCast]
      walk_at "mW"
      rfl
    | null =>
      dsimp only [IxV.ix]
      walk_at "mW"
      rfl
    | list =>
      dsimp only [IxV.ix]
      walk_at "mW"
      rfl
    | logical xs =>
      obtain ⟨hl, _⟩ := ho
      dsimp only [IxV.ix]
      walk_at "mW"
      refine WX.forMap0 (f := fun k : Nat => PyData.int (k : Int)) (items := List.range (if xs = [] then 0 else max n xs.length)) (fun done st => ∃ U U', st = ⟨[("ix", .ix (.vec "logical" (xs.map ox))), ("n", .d (.int n)), ("names", .d (nx names)), ("extend", .d (.bool ext)), ("kind", .d (.str "logical")), ("found", .ol ((done.flatMap (dlAt xs)).map ox)), ("spot", U), ("item", U'), ("added", .un), ("good", .un), ("below", .un), ("cuts", .un)], r⟩) (by decide +kernel) (WI.ofRange hw (by decide +kernel) (by split <;> omega) ?_ (by intro _; with_unfolding_all rfl)) ?_ ?_
      · walk_at "mW"
        refine ⟨_, _, rfl, CmpR.ne _ _ (shaped_oxs _) (by decide +kernel), ?_⟩
        rw [eqv_nil]
        by_cases hx : xs = []
        · refine of_false (by simp [hx]) ?_
          walk_at "mW"
          exact ⟨by rw [if_pos hx]; rfl, _, _, rfl⟩
        · refine of_true (by simp [hx]) ?_
          walk_at "mW"
          refine ⟨by rw [List.length_map]; omega, ?_⟩
          rw [List.length_map]
          walk_at "mW"
          exact ⟨by rw [if_neg hx, show (max (n : Int) (xs.length : Int)) = ((max n xs.length : Nat) : Int) by omega], _, _, rfl⟩
      · rintro pre i post st₂ e ⟨U, U', rfl⟩
        refine ⟨_, (by (repeat (first | with_reducible apply SetV.here | with_reducible apply SetV.there)) <;> fail), ?_⟩
        have hne : xs ≠ [] := by rintro rfl; rw [if_pos rfl] at e; simp at e
        rw [if_neg hne] at e
        have hpos : 0 < xs.length := List.length_pos_iff.mpr hne
        have hlen : pre.length ≤ 9 := by have := congrArg List.length e; simp at this; omega
        have hpl : (pre.flatMap (dlAt xs)).length ≤ 9 := Nat.le_trans (flatMap_len (dlAt_len xs) pre) hlen
        have fin : ∀ t : List (Option Int), dlAt xs i = t → ((pre ++ [i]).flatMap (dlAt xs)).map ox = (pre.flatMap (dlAt xs)).map ox ++ t.map ox := by rintro t rfl; simp
        have hi : i % xs.length < xs.length := Nat.mod_lt _ hpos
        obtain ⟨it, hit⟩ : ∃ it, xs[i % xs.length]? = some it := ⟨_, List.getElem?_eq_getElem hi⟩
        walk_at "mW"
        refine ⟨by rw [List.length_map]; omega, ?_⟩
        rw [List.length_map]
        refine ⟨_, _, rfl, BinR.mod _ _ (by omega), ?_⟩
        rw [fmod_nat]
        refine ⟨_, _, rfl, ItemR.list (d := ox it) (by omega) (by omega) (by rw [Int.toNat_natCast, List.getElem?_map, hit]; rfl), ?_⟩
        walk_at "mW"
        cases it with
        | none =>
          dsimp only [ox]
          walk_at "mW"
          exact ⟨_, _, by rw [fin [none] (by simp [dlAt, hit])]; rfl⟩
        | some k =>
          dsimp only [ox]
          walk_at "mA"
          · rename_i h0
            exact ⟨_, _, by rw [fin [some i] (by simp [dlAt, hit, hc])]; rfl⟩
          · rename_i h0
            exact ⟨_, _, by rw [fin [none] (by simp [dlAt, hit, hc, h0])]; rfl⟩
          · exact ⟨_, _, by rw [fin [] (by simp [dlAt, hit, hc]), List.map_nil, List.append_nil]⟩
      · rintro st₂ ⟨U, U', rfl⟩
        refine afterX_next (WS.cons ?_)
        refine WX.freezeL (x := "found") (by (repeat (first | with_reducible apply At.here | with_reducible apply At.there)) <;> fail) (by (repeat (first | with_reducible apply SetV.here | with_reducible apply SetV.there)) <;> fail) ?_
        walk_at "mW"
        rfl
    | char xs =>
      obtain ⟨hl, hT⟩ := ho
      dsimp only [IxV.ix]
      walk_at "mW"
      refine WX.forMap0 (f := tx) (items := xs) (fun done st => ∃ U U', st = ⟨[("ix", .ix (.vec "character" (xs.map tx))), ("n", .d (.int n)), ("names", .d (nx names)), ("extend", .d (.bool ext)), ("kind", .d (.str "character")), ("found", .ol ((done.foldl (dcAt n names ext) ⟨[], []⟩).P.map ox)), ("spot", .un), ("item", U), ("added", .ol ((done.foldl (dcAt n names ext) ⟨[], []⟩).Ad.map tx)), ("good", U'), ("below", .un), ("cuts", .un)], r⟩) (by decide +kernel) (WI.of ?_) ?_ ?_
      · walk_at "mW"
        exact ⟨_, _, rfl⟩
      · rintro pre it post st₂ e ⟨U, U', rfl⟩
        refine ⟨_, (by (repeat (first | with_reducible apply SetV.here | with_reducible apply SetV.there)) <;> fail), ?_⟩
        have hlen : pre.length ≤ 9 := by have := congrArg List.length e; simp at this; omega
        have hok : TOk it := hT it (by rw [e]; simp)
        have hsub : ∀ y ∈ (pre.foldl (dcAt n names ext) ⟨[], []⟩).Ad, TOk y := fun y hy => by
          rcases dcFold_sub n names ext pre _ hy with h | h
          · cases h
          · exact hT y (by rw [e]; simp [h])
        have hb := dcFold_len n names ext pre ⟨[], []⟩
        rw [List.foldl_append, List.foldl_cons, List.foldl_nil]
        generalize pre.foldl (dcAt n names ext) ⟨[], []⟩ = E at hb hsub ⊢
        obtain ⟨P, Ad⟩ := E
        simp only [List.length_nil] at hb hsub
        obtain ⟨b1, b2⟩ := hb
        have rest1 : ∀ (y : Option Int) (d : PyData), d = ox y → dcAt n names ext ⟨P, Ad⟩ it = ⟨P ++ [y], Ad⟩ → ∀ (U U' : V), ∃ U₁ U₂, (⟨[("ix", .ix (.vec "character" (xs.map tx))), ("n", .d (.int n)), ("names", .d (nx names)), ("extend", .d (.bool ext)), ("kind", .d (.str "character")), ("found", .ol (P.map ox ++ [d])), ("spot", .un), ("item", U), ("added", .ol (Ad.map tx)), ("good", U'), ("below", .un), ("cuts", .un)], r⟩ : St) = (⟨[("ix", .ix (.vec "character" (xs.map tx))), ("n", .d (.int n)), ("names", .d (nx names)), ("extend", .d (.bool ext)), ("kind", .d (.str "character")), ("found", .ol ((dcAt n names ext ⟨P, Ad⟩ it).P.map ox)), ("spot", .un), ("item", U₁), ("added", .ol ((dcAt n names ext ⟨P, Ad⟩ it).Ad.map tx)), ("good", U₂), ("below", .un), ("cuts", .un)], r⟩ : St) := by
          rintro y d rfl h U U'; exact ⟨U, U', by rw [h]; simp⟩
        have rest2 : ∀ (y : Option Int) (d : PyData) (z : Option Str) (d' : PyData), d = ox y → d' = tx z → dcAt n names ext ⟨P, Ad⟩ it = ⟨P ++ [y], Ad ++ [z]⟩ → ∀ (U U' : V), ∃ U₁ U₂, (⟨[("ix", .ix (.vec "character" (xs.map tx))), ("n", .d (.int n)), ("names", .d (nx names)), ("extend", .d (.bool ext)), ("kind", .d (.str "character")), ("found", .ol (P.map ox ++ [d])), ("spot", .un), ("item", U), ("added", .ol (Ad.map tx ++ [d'])), ("good", U'), ("below", .un), ("cuts", .un)], r⟩ : St) = (⟨[("ix", .ix (.vec "character" (xs.map tx))), ("n", .d (.int n)), ("names", .d (nx names)), ("extend", .d (.bool ext)), ("kind", .d (.str "character")), ("found", .ol ((dcAt n names ext ⟨P, Ad⟩ it).P.map ox)), ("spot", .un), ("item", U₁), ("added", .ol ((dcAt n names ext ⟨P, Ad⟩ it).Ad.map tx)), ("good", U₂), ("below", .un), ("cuts", .un)], r⟩ : St) := by
          rintro y d z d' rfl rfl h U U'; exact ⟨U, U', by rw [h]; simp⟩
        refine WS.cons (WX.assign (WE.cut (.d (.bool (goodB it))) ?_ ⟨_, (by (repeat (first | with_reducible apply SetV.here | with_reducible apply SetV.there)) <;> fail), afterX_next (WS.cons ?_)⟩) (by decide +kernel) (by intro _; with_unfolding_all rfl))
        · cases it with
          | none =>
            dsimp only [tx]
            walk_at "mW"
            rfl
          | some s =>
            dsimp only [tx]
            walk_at "mW"
            rfl
        have isS : goodB it = true → ∃ s, it = some s := fun h => by
          cases it with
          | none => cases h
          | some s => exact ⟨s, rfl⟩
        refine WX.iteC (goodB it && inNames it names) ?_ (fun h1 => ?_) (fun h1 => ?_)
        · walk_at "mW"
          refine of_both (fun hg => ?_) (fun hg => ?_)
          · obtain ⟨s, rfl⟩ := isS hg
            cases names with
            | none =>
              dsimp only [nx]
              walk_at "mW"
              exact ⟨by rw [hg]; rfl, rfl⟩
            | some ns =>
              dsimp only [nx, tx]
              walk_at "mW"
              refine ⟨_, _, rfl, CmpR.inL (.str s) _ (lay_txs hN.2) hok, ?_⟩
              refine of_both (fun hm => ?_) (fun hm => ?_)
              · exact WAll.andNil ⟨by rw [hg]; exact hm.symm.trans (any_tx ns (some s)), rfl⟩
              · exact ⟨by rw [hg]; exact hm.symm.trans (any_tx ns (some s)), rfl⟩
          · exact ⟨by rw [hg]; rfl, rfl⟩
        · obtain ⟨hg, hm⟩ := Bool.and_eq_true_iff.mp h1
          obtain ⟨s, rfl⟩ := isS hg
          cases names with
          | none => cases hm
          | some ns =>
            have hnl := hN.1
            have hidxN : ((ns.map tx).findIdx fun z => PyData.eqv z (.str s)) = ns.findIdx (fun z => decide (z = some s)) := idx_tx ns (some s)
            dsimp only [nx, tx]
            walk_at "mW"
            refine WE.index ?_ (by intro _; with_unfolding_all rfl) (by intro _; with_unfolding_all rfl) (by with_unfolding_all rfl)
            walk_at "mW"
            refine ⟨lay_txs hN.2, hok, (any_tx ns (some s)).trans hm, by rw [List.length_map]; omega, ?_⟩
            rw [hidxN]
            walk_at "mW"
            exact rest1 (some _) _ rfl (by rw [dcAt, if_pos h1]; rfl) _ _
        · have h1' : ¬ (goodB it && inNames it names) = true := by rw [h1]; nofun
          walk_at "mW"
          refine of_both (fun hx => ?_) (fun hx => ?_)
          · walk_at "mW"
            exact rest1 none _ rfl (by rw [dcAt, if_neg h1', if_pos (by simpa using hx)]) _ _
          · have hx' : ¬ ext = false := by simpa using hx
            refine WS.cons (WX.iteC (goodB it && decide (it ∈ Ad)) ?_ (fun h2 => ?_) (fun h2 => ?_))
            · walk_at "mW"
              refine of_both (fun hg => ?_) (fun hg => ?_)
              · obtain ⟨s, rfl⟩ := isS hg
                dsimp only [tx]
                walk_at "mW"
                refine ⟨lay_txs hsub, hok, ?_⟩
                refine of_both (fun hm => ?_) (fun hm => ?_)
                · exact WAll.andNil ⟨by rw [hg]; exact hm.symm.trans (any_tx Ad (some s)), rfl⟩
                · exact ⟨by rw [hg]; exact hm.symm.trans (any_tx Ad (some s)), rfl⟩
              · exact ⟨by rw [hg]; rfl, rfl⟩
            · obtain ⟨hg, ha⟩ := Bool.and_eq_true_iff.mp h2
              obtain ⟨s, rfl⟩ := isS hg
              have hidxA : ((Ad.map tx).findIdx fun z => PyData.eqv z (.str s)) = Ad.findIdx (fun z => decide (z = some s)) := idx_tx Ad (some s)
              dsimp only [tx]
              walk_at "mW"
              refine WE.indexOwn (by (repeat (first | with_reducible apply At.here | with_reducible apply At.there)) <;> fail) ?_ (by intro _; with_unfolding_all rfl) (by with_unfolding_all rfl)
              walk_at "mW"
              refine ⟨lay_txs hsub, hok, (any_tx Ad (some s)).trans ha, by rw [List.length_map]; omega, ?_⟩
              rw [hidxA]
              walk_at "mW"
              exact rest1 (some _) _ rfl (by rw [dcAt, if_neg h1', if_neg hx', if_pos h2]; rfl) _ _
            · walk_at "mW"
              rw [List.length_map]
              exact rest2 (some _) _ it _ rfl rfl (by rw [dcAt, if_neg h1', if_neg hx', if_neg (by rw [h2]; nofun)]) _ _
      · rintro st₂ ⟨U, U', rfl⟩
        refine afterX_next (WS.cons ?_)
        refine WX.freezeL (x := "found") (by (repeat (first | with_reducible apply At.here | with_reducible apply At.there)) <;> fail) (by (repeat (first | with_reducible apply SetV.here | with_reducible apply SetV.there)) <;> fail) ?_
        refine WX.freezeL (x := "added") (by (repeat (first | with_reducible apply At.here | with_reducible apply At.there)) <;> fail) (by (repeat (first | with_reducible apply SetV.here | with_reducible apply SetV.there)) <;> fail) ?_
        walk_at "mW"
        refine of_both (fun hx => ?_) (fun hx => ?_)
        · walk_at "mW"
          exact ⟨by rw [dueD, if_pos hx]; rfl, rfl⟩
        · walk_at "mW"
          exact ⟨by rw [dueD, if_neg (by rw [hx]; nofun)]; rfl, rfl⟩
end
end Mine
namespace Mine

def cutOne : Option Int → PyData
  | none => .none
  | some c => if c = 0 then .str "attempt to select less than one element" else if c > 0 then .int (c - 1) else .str "below"
def dueSingle {α : Type} (xs : List α) (f : α → PyData) : PyData := match xs with
  | [] => .str "attempt to select less than one element"
  | [x] => f x
  | _ => .str "attempt to select more than one element"
def oneD (o : IxV) (names : Option (List (Option Str))) (exact : Bool) : PyData := match o with
  | .sym x => .int (lawNamed (some x) names exact)
  | .null => .str "subscript of length 0"
  | .missing => .str "invalid subscript type 'missing'"
  | .list => .str "invalid subscript type 'list'"
  | .logical xs => dueSingle xs cutOne
  | .integer xs => dueSingle xs cutOne
  | .double qs => dueSingle qs fun q => cutOne (lawCut q)
  | .char xs => dueSingle xs fun x => .int (lawNamed x names exact)

theorem qx_lay (q : Option (Int × Int)) : (qx q).canLay0 = true := by
  cases q with
  | none => rfl
  | some q => obtain ⟨a, b⟩ := q; rfl
theorem shaped_qxs (qs : List (Option (Int × Int))) : SeqAt.shaped (.list (qs.map qx)) = true := by
  have h1 : PyData.canLayAll0 (qs.map qx) = true := lay_map fun q _ => qx_lay q
  have h2 : PyData.depthAll (qs.map qx) ≤ 1 := by
    clear h1
    induction qs with
    | nil => exact Nat.zero_le _
    | cons q r ih =>
      rw [List.map_cons, PyData.depthAll]
      have : (qx q).depth ≤ 1 := by
        cases q with
        | none => exact Nat.zero_le _
        | some q => obtain ⟨a, b⟩ := q; exact Nat.le_refl _
      omega
  unfold SeqAt.shaped
  rw [PyData.canLay0, h1, PyData.depth, Bool.true_and]
  exact decide_eq_true (by omega)
section
variable {w : World} {h₀ : Heap} {mg mb : Str → Option Value}
theorem fs_one (hw : Wd w h₀ mg mb) (o : IxV) (ho : o.Ok) (names : Option (List (Option Str))) (hN : NOk names) (exact : Bool) (r : List Int) :
    FS w h₀ 4 291 [.ix o.ix, .d (nx names), .d (.bool exact)] r (fun U r' => U = .d (oneD o names exact) ∧ r' = r) (fun _ _ => False) := by
  refine FS.of hw ⟨3, ["ix", "names", "exact", "cut"], [], [], ["_law_named", "len", "_law_cut"]⟩ ["ix", "names", "exact"] (by k_is) (by k_is) rfl rfl (bind3 fun _ _ _ => rfl) (by decide +kernel) (Nat.le_refl _) rfl
    (mu := [("ix", .ix o.ix), ("names", .d (nx names)), ("exact", .d (.bool exact)), ("cut", .un)]) rfl (by repeat (first | with_reducible exact Init2.nil | with_reducible refine Init2.un ?_ | (with_reducible refine Init2.arg (by repeat (first | with_reducible exact At2.here | with_reducible apply At2.there)) ?_))) ?_
  have num : (∃ (K : Str) (items : List PyData) (cs : List (Option Int)), o.ix = .vec K items ∧ (K = "logical" ∨ K = "integer" ∨ K = "double") ∧ cs.length ≤ 9 ∧ items.length = cs.length ∧ SeqAt.shaped (.list items) = true ∧ oneD o names exact = dueSingle cs cutOne ∧
      ∀ r, FS w h₀ 2 274 [.d (.str K), .d (.list items)] r (fun U r' => U = .d (.list (cs.map ox)) ∧ r' = r) (fun _ _ => False)) ∨ (∀ xs, o ≠ .logical xs) ∧ (∀ xs, o ≠ .integer xs) ∧ ∀ qs, o ≠ .double qs := by
    cases o with
    | logical xs => exact .inl ⟨"logical", _, xs, rfl, .inl rfl, ho.1, List.length_map .., shaped_oxs _, rfl, fun r => fs_cut_whole hw "logical" (by decide +kernel) (by decide +kernel) xs ho.1 r⟩
    | integer xs => exact .inl ⟨"integer", _, xs, rfl, .inr (.inl rfl), ho, List.length_map .., shaped_oxs _, rfl, fun r => fs_cut_whole hw "integer" (by decide +kernel) (by decide +kernel) xs ho r⟩
    | double qs =>
      refine .inl ⟨"double", _, qs.map lawCut, rfl, .inr (.inr rfl), by rw [List.length_map]; exact ho.1, by rw [List.length_map, List.length_map], shaped_qxs _, ?_, fun r => fs_cut_double hw qs ho.2 ho.1 r⟩
      match qs with
      | [] => rfl
      | [_] => rfl
      | _ :: _ :: _ => rfl
    | _ => exact .inr ⟨by nofun, by nofun, by nofun⟩
  rcases num with ⟨K, items, cs, hix, hK, hlen, hil, hsh, hdue, hcut⟩ | ⟨no1, no2, no3⟩
  · have hKs : SeqAt.shaped (.str K) = true := by rcases hK with rfl | rfl | rfl <;> decide +kernel
    rw [hdue, hix]
    walk_at "mW"
    refine of_false (decide_eq_false (by rcases hK with rfl | rfl | rfl <;> decide +kernel)) ?_
    walk_at "mW"
    refine of_false (decide_eq_false (by rcases hK with rfl | rfl | rfl <;> decide +kernel)) ?_
    walk_at "mW"
    refine of_false (by rcases hK with rfl | rfl | rfl <;> decide +kernel) ?_
    walk_at "mW"
    refine ⟨by rw [hil]; omega, ?_⟩
    rw [hil]
    walk_at "mW"
    match cs, hlen, hil, hcut with
    | [], hlen, hil, _ =>
      obtain rfl : items = [] := List.length_eq_zero_iff.mp hil
      refine of_true rfl ?_
      walk_at "mW"
      refine ⟨_, _, rfl, CmpR.eq _ _ (by decide +kernel) (by decide +kernel), ?_⟩
      refine of_true (by decide +kernel) ?_
      walk_at "mW"
      refine ⟨_, _, rfl, BinR.cat _ _ (by decide +kernel), ?_⟩
      walk_at "mW"
      refine ⟨_, _, rfl, BinR.cat _ _ (by decide +kernel), ?_⟩
      walk_at "mW"
      rfl
    | x :: y :: rest, hlen, hil, _ =>
      refine of_true (by simp; omega) ?_
      walk_at "mW"
      refine ⟨_, _, rfl, CmpR.eq _ _ hsh (by decide +kernel), ?_⟩
      refine of_false (by cases items with | nil => cases hil | cons a b => simp [PyData.eqv, PyData.eqvAll]) ?_
      walk_at "mW"
      refine ⟨_, _, rfl, BinR.cat _ _ (by decide +kernel), ?_⟩
      walk_at "mW"
      refine ⟨_, _, rfl, BinR.cat _ _ (by decide +kernel), ?_⟩
      walk_at "mW"
      rfl
    | [c], hlen, hil, hcut =>
      refine of_false rfl ?_
      walk_at "mW"
      refine of_false (decide_eq_false (by rcases hK with rfl | rfl | rfl <;> decide +kernel)) ?_
      walk_at "mW"
      refine WE.call (k := 2) hw (by decide +kernel) (hw.glob (by k_is)) (by k_is) (by decide) ?_
      walk_at "mW"
      refine (hcut _).mono (Nat.le_refl _) ?_ (fun _ _ q => q.elim)
      rintro U r' ⟨rfl, rfl⟩
      try dsimp only [List.map_cons, List.map_nil]
      walk_at "mW"
      show _
      rw [show dueSingle [c] cutOne = cutOne c from rfl]
      cases c with
      | none =>
        walk_at "mW"
        rfl
      | some c =>
        dsimp only [ox]
        walk_at "mA"
        · exact ⟨by simp [cutOne, hc], rfl⟩
        · rename_i h0
          exact ⟨by simp [cutOne, hc, h0], rfl⟩
        · rename_i h0
          exact ⟨by simp [cutOne, hc, h0], rfl⟩
  · cases o with
    | logical xs => exact absurd rfl (no1 xs)
    | integer xs => exact absurd rfl (no2 xs)
    | double xs => exact absurd rfl (no3 xs)
    | missing =>
      dsimp only [IxV.ix]
      walk_at "mW"
      refine ⟨_, _, rfl, BinR.cat _ _ (by decide +kernel), ?_⟩
      walk_at "mW"
      refine ⟨_, _, rfl, BinR.cat _ _ (by decide +kernel), ?_⟩
      walk_at "mW"
      rfl
    | null =>
      dsimp only [IxV.ix]
      walk_at "mW"
      rfl
    | list =>
      dsimp only [IxV.ix]
      walk_at "mW"
      refine ⟨_, _, rfl, BinR.cat _ _ (by decide +kernel), ?_⟩
      walk_at "mW"
      refine ⟨_, _, rfl, BinR.cat _ _ (by decide +kernel), ?_⟩
      walk_at "mW"
      rfl
    | sym x =>
      have hx : TOk (some x) := ho
      dsimp only [IxV.ix]
      walk_at "mW"
      refine WE.call (k := 2) hw (by decide +kernel) (hw.glob (by k_is)) (by k_is) (by decide) ?_
      walk_at "mW"
      refine (fs_named hw (some x) hx names hN exact _).mono (Nat.le_refl _) ?_ (fun _ _ q => q.elim)
      rintro U r' ⟨rfl, rfl⟩
      walk_at "mW"
      rfl
    | char xs =>
      obtain ⟨hl, hT⟩ := ho
      dsimp only [IxV.ix]
      walk_at "mW"
      refine ⟨by rw [List.length_map]; omega, ?_⟩
      walk_at "mW"
      match xs, hl, hT with
      | [], hl, hT =>
        refine of_true rfl ?_
        walk_at "mW"
        refine ⟨_, _, rfl, CmpR.eq _ _ (shaped_txs hT) (by decide +kernel), ?_⟩
        rw [eqv_nil]
        refine of_true rfl ?_
        walk_at "mW"
        refine ⟨_, _, rfl, BinR.cat _ _ (by decide +kernel), ?_⟩
        walk_at "mW"
        refine ⟨_, _, rfl, BinR.cat _ _ (by decide +kernel), ?_⟩
        walk_at "mW"
        rfl
      | x :: y :: rest, hl, hT =>
        refine of_true (by simp; omega) ?_
        walk_at "mW"
        refine ⟨_, _, rfl, CmpR.eq _ _ (shaped_txs hT) (by decide +kernel), ?_⟩
        rw [eqv_nil]
        refine of_false (by simp) ?_
        walk_at "mW"
        refine ⟨_, _, rfl, BinR.cat _ _ (by decide +kernel), ?_⟩
        walk_at "mW"
        refine ⟨_, _, rfl, BinR.cat _ _ (by decide +kernel), ?_⟩
        walk_at "mW"
        rfl
      | [x], hl, hT =>
        refine of_false rfl ?_
        try dsimp only [List.map_cons, List.map_nil]
        walk_at "mW"
        refine WE.call (k := 2) hw (by decide +kernel) (hw.glob (by k_is)) (by k_is) (by decide) ?_
        walk_at "mW"
        refine (fs_named hw x (hT x (.head _)) names hN exact _).mono (Nat.le_refl _) ?_ (fun _ _ q => q.elim)
        rintro U r' ⟨rfl, rfl⟩
        walk_at "mW"
        rfl

end
end Mine
namespace Mine
section
variable {M : Model} {A : Around} {E : Value → Shared → Prop} {s : Shared}
theorem noted_nested {base : Heap} {env : Env} {outer : List Env} {L e : Addr} {oe : Obj} {vs : Array Value} {Q : Unit → Shared → Prop} {T₀ : Option Addr}
    (hfr : A.frames = some (env :: outer)) (hl : s.heap.FunFrames base (env :: outer)) (hf : env.frame = some L)
    (he : s.heap.get? e = some oe) (hd : oe.data = .fields vs)
    (h1 : (vs[1]? = some .none ∧ T₀ = none) ∨ ∃ T oT ts, T₀ = some T ∧ vs[1]? = some (.ref T) ∧ T ≠ e ∧ s.heap.get? T = some oT ∧ oT.data = .fields ts ∧ ts[3]? = some .none)
    (h : ∀ h', Noted (frsOf (env :: outer)) e oe vs T₀ s.heap h' → Q () { s with heap := h' }) : wpAny M A (noteFrame (.ref e) env) (fun _ s' => wpAny M A (setFlight (.ref e) none) Q E s') E s := by
  unfold noteFrame
  simp only [hf]
  rcases h1 with ⟨h1, rfl⟩ | ⟨T, oT, ts, rfl, h1, hTe, hT, hdT, h3⟩
  · refine wpAny_bind (wpAny_field he hd h1 ?_)
    rw [if_neg (by decide)]
    exact noted_entry hfr hl hf he hd (Array.getElem?_eq_some_iff.mp h1).1 h
  · refine wpAny_bind (wpAny_field he hd h1 ?_)
    rw [if_pos (show (Value.ref T != Value.none) = true from by simp)]
    refine wpAny_bind (wpAny_field hT hdT h3 ?_)
    rw [if_neg (show ¬ ((Value.none == rawInt L) = true) from by simp [rawInt])]
    refine wpAny_bind (wpAny_setField hT hdT (Array.getElem?_eq_some_iff.mp h3).1 ?_)
    have other : ∀ b, b ≠ T → (s.heap.update T (Obj.mapFields (·.setIfInBounds 3 Value.none))).get? b = s.heap.get? b := fun b hb => Heap.get?_update_other _ _ (Ne.symm hb)
    have noRecord : ∀ b o, s.heap.get? b = some o → (∀ vs, o.data ≠ .fields vs) → b ≠ T := fun b o hb hnf q => by
      rw [q, hT] at hb; injection hb with hb; subst hb; exact hnf ts hdT
    refine noted_entry hfr (hl.of_keeps fun b o hb hnf => ⟨o, (other b (noRecord b o hb hnf)).trans hb, rfl⟩) hf ((other e (Ne.symm hTe)).trans he) hd (Array.getElem?_eq_some_iff.mp h1).1 fun h' n => h h' ⟨?_, ?_, ?_, ?_⟩
    · intro b o hb hS hbe hbT
      exact n.keep b o ((other b fun q => hbT (by rw [q])).trans hb) hS hbe nofun
    · intro b o hb hS hbe hbT
      exact n.slot b o ((other b fun q => hbT (by rw [q])).trans hb) hS hbe nofun
    · obtain ⟨T', oT', ts', a1, a2, r⟩ := n.exc
      exact ⟨T', oT', ts', a1, by rwa [size_update] at a2, r⟩
    · have := n.grow; rwa [size_update] at this
theorem leave_exc_n {env : Env} {l : List Env} {hE : Heap} {W W' : WM} {msg : Str} {r : List Int} {e : Value} {Q : Unit → Shared → Prop} (hfr : A.frames = some (env :: l)) (hk : env.scope.kind ≠ .module) (hf : env.frame = some env.locals)
    (hl : FrOk l hE W) (hLn : hE.get? env.locals = none) (X : Exc (env :: l) hE W' env.locals msg r e s.heap) (hW : ∀ a, W' a = some .row ↔ W a = some .row) (hrE : ∀ a, W a = some .row → hE.get? a ≠ none)
    (hQ : ∀ h', Exc0 l hE W msg r e h' → (∀ o, s.heap.get? env.locals = some o → ∃ sl, h'.get? env.locals = some { o with slots := sl }) → (∀ a, e = .ref a → ExcObj (env :: l) hE msg a h') → Q () { s with heap := h' }) : wpAny M A (noteFrame e env) (fun _ s' => wpAny M A (setFlight e none) Q E s') E s := by
  obtain ⟨a, rfl, xo, hna⟩ := X.obj
  obtain ⟨dx, vs, sl, es, n, t, g1, g2, g3, g4, g5, g6⟩ := xo.obj
  have hS := frsOf_cons (l := l) hf
  have hWn : ∀ {b}, W b ≠ some .row → W' b ≠ some .row := fun q z => q ((hW _).mp z)
  have fun_ : s.heap.FunFrames frBase (env :: l) := funFrames_of fun fe hfe => by
    rcases List.mem_cons.mp hfe with rfl | hfe'
    · obtain ⟨o, ho, hd⟩ := X.own
      exact ⟨hk, _, hf, o, ho, hd⟩
    · obtain ⟨k, b, e, o, ho, hd, hr⟩ := hl fe hfe'
      obtain ⟨sl, q⟩ := X.slots b o ho (hWn hr) (mem_frsOf hfe e)
      exact ⟨k, b, e, _, q, hd⟩
  have hTd : ∃ T₀ : Option Addr, ((vs[1]? = some .none ∧ T₀ = none) ∨ ∃ T oT ts, T₀ = some T ∧ vs[1]? = some (.ref T) ∧ T ≠ a ∧ s.heap.get? T = some oT ∧ oT.data = .fields ts ∧ ts[3]? = some .none) ∧ (∀ T, T₀ = some T → hE.get? T = none ∧ T ≠ dx ∧ ∃ oT ts, s.heap.get? T = some oT ∧ oT.data = .fields ts) := by
    rcases g6 with q | ⟨T, oT, ts, q1, q2, q3, q4, q5, q6, q7⟩
    · exact ⟨none, .inl ⟨q, rfl⟩, nofun⟩
    · exact ⟨some T, .inr ⟨T, oT, ts, rfl, q1, q3, q5, q6, q7⟩, fun T' e => by cases e; exact ⟨q2, q4, oT, ts, q5, q6⟩⟩
  obtain ⟨T₀, hT, hT'⟩ := hTd
  refine noted_nested hfr fun_ hf g1 rfl hT fun h' N => ?_
  have key : ExcObj (env :: l) hE msg a h' := by
    refine ⟨xo.new, ?_⟩
    obtain ⟨T, oT, ts, q1, q2, q3, q4, q5, q6⟩ := N.exc
    have hdxa : dx ≠ a := by rintro rfl; rw [g1] at g4; cases g4
    have hfresh : ∀ {b : Addr} {o : Obj} {hh : Heap}, hh.get? b = some o → hh.objs.size ≤ s.heap.objs.size → b ≠ T := fun hb hs q => absurd (Heap.lt_size hb) (by rw [q]; exact Nat.not_lt.mpr (Nat.le_trans hs q2))
    refine ⟨dx, _, sl, es, n, t, q1, by simpa using g2, g3, N.keep dx _ g4 g3 hdxa (fun q => (hT' dx q.symm).2.1 rfl), g5, .inr ⟨T, oT, ts, by simp [g2], ?_, q3, Ne.symm (hfresh g4 (Nat.le_refl _)), q4, q5, q6⟩⟩
    cases hz : hE.get? T with
    | none => rfl
    | some o => exact absurd rfl (hfresh hz X.grow)
  refine hQ h' ?_ (fun o ho => ?_) (fun a' q => by cases q; exact key)
  rotate_left
  · obtain ⟨o', q1, q2⟩ := X.own
    rw [ho] at q1; cases q1
    refine N.slot _ o ho (by rw [hS]; exact .head _) (fun q => ?_) (fun q => ?_)
    · rw [q, g1] at ho; cases ho; exact q2 _ rfl
    · obtain ⟨_, _, oT, ts, z1, z2⟩ := hT' _ q.symm
      rw [ho] at z1; cases z1; exact q2 _ z2
  have hrow : ∀ b, W b = some .row → b ≠ tabA → ∃ vs n, s.heap.get? b = some (listOf vs.toArray n) ∧ IntsAre vs r := fun b q n => X.row b ((hW b).mpr q) n
  have alive : ∀ b ∈ frsOf (env :: l), ∃ o, s.heap.get? b = some o ∧ ∀ vs, o.data ≠ .fields vs := fun b hb => (fun_.mem hb).2
  refine ⟨⟨a, rfl, ⟨xo.new, ?_⟩, fun q => hna (by rw [hS]; exact .tail _ q)⟩, fun b o ho hr hb => ?_, fun b o ho hr hb => ?_, Nat.le_trans X.grow N.grow, fun b hb hbn => ?_⟩
  · obtain ⟨dx', vs', sl', es', n', t', p1, p2, p3, p4⟩ := key.obj
    exact ⟨dx', vs', sl', es', n', t', p1, p2, fun q => p3 (by rw [hS]; exact .tail _ q), p4⟩
  · by_cases hbL : b = env.locals
    · rw [hbL, hLn] at ho; cases ho
    · have hnS : b ∉ frsOf (env :: l) := fun q => by
        rw [hS] at q
        rcases List.mem_cons.mp q with q | q
        · exact hbL q
        · exact hb q
      refine N.keep b o (X.kept b o ho (hWn hr) hnS) hnS (fun q => by rw [q, xo.new] at ho; cases ho) fun q => ?_
      have := (hT' b q.symm).1; rw [this] at ho; cases ho
  · have hbS : b ∈ frsOf (env :: l) := by rw [hS]; exact .tail _ hb
    obtain ⟨sl₁, q⟩ := X.slots b o ho (hWn hr) hbS
    obtain ⟨sl₂, q⟩ := N.slot b _ q hbS (fun q => by rw [q, xo.new] at ho; cases ho) fun q => by have := (hT' b q.symm).1; rw [this] at ho; cases ho
    exact ⟨sl₂, q⟩
  · obtain ⟨us, k, q1, q2⟩ := hrow b hb hbn
    have nf : ∀ vs, (listOf us.toArray k).data ≠ .fields vs := nofun
    have hnS : b ∉ frsOf (env :: l) := fun q => by
      rw [hS] at q
      rcases List.mem_cons.mp q with q | q
      · exact hrE b hb (by rw [q]; exact hLn)
      · obtain ⟨fe, hfe, e⟩ := of_frsOf q
        obtain ⟨_, b', e', _, _, _, hr⟩ := hl fe hfe
        rw [e] at e'; cases e'; exact hr hb
    exact ⟨us, k, N.keep b _ q1 hnS (fun q => by rw [q, g1] at q1; cases q1) (fun q => by
      obtain ⟨_, _, oT, ts, q2, q3⟩ := hT' b q.symm
      rw [q2] at q1; cases q1; cases q3), q2⟩
end
end Mine
namespace Mine
section
variable {w : World} {h₀ : Heap} {mg mb : Str → Option Value} {Γ : Cx} {st : St}

/-- an exception's own message -/
theorem get_message {A : Around} {E : Value → Shared → Prop} {s : Shared} {e dx : Addr} {vs : Array Value} {sl : Array (Option Value)} {es : List DictEntry} {n : Nat} {msg : Str} {tm : Tok} {expr : Bool} {Q : Value → Shared → Prop} (X : (hd.heap_1 w.params).In s.heap)
    (he : s.heap.get? e = some { cls := .ref 51, dict := some dx, data := .fields vs, slots := sl }) (hdx : s.heap.get? dx = some (dictOf es n)) (hm : getL "message" es = some (some (.str msg tm)))
    (h : Q (.str msg tm) { s with toks := s.toks + 1 }) : wpAny (model pg w) A (getAttr (.ref e) "message" expr) Q E s := by
  obtain ⟨hh, g, d, t, os⟩ := s
  have I : InstAt hh e { cls := .ref 51, dict := some dx, data := .fields vs, slots := sl } 51 (some (dictOf es n)) := ⟨he, rfl, rfl, hdx⟩
  have L0 := I.type (M := model pg w)
  have f1 : findIn (hd.heap_1 w.params) (.ref 51) "__getattribute__" = some (some (.builtin "BaseException.__getattribute__")) := by k_is
  have f2 : findIn (hd.heap_1 w.params) (.ref 51) "__getattr__" = some none := by k_is
  have f3 : findIn (hd.heap_1 w.params) (.ref 51) "message" = some none := by k_is
  have f4 : hasDictIn (hd.heap_1 w.params) 51 = true := by k_is
  have f5 : mroIn (hd.heap_1 w.params) 51 (.type "BaseException") = some true := by k_is
  have L1 := looks_findIn (M := model pg w) X f1
  have L2 := looks_findIn (M := model pg w) X f2
  have hf : findObj (hd.heap_1 w.params) 51 (some (dictOf es n)) "message" = some (.value (.str msg tm)) := findObj_own f4 f3 rfl hm
  have LF := looks_find (M := model pg w) X I hf
  have sub : Looks (model pg w) hh (isInstance (.ref e) (.type "BaseException")) true := I.type.andThen (looks_mroIn X f5)
  have FX := PySem.F.excAttr_ValueError
  unfold getAttr getAttrBy
  refine wpAny_bind (wpAny_mkText (wpAny_holding (wpAny_bind (L0.at (wpAny_bind (L1.at ?_))))))
  show wpAny _ _ (getAttrByItsOwn _ _ _ _ _ _) _ _ _
  unfold getAttrByItsOwn hookBefore callGetattribute
  rw [show (expr && onTheHeap (.builtin "BaseException.__getattribute__")) = false by cases expr <;> rfl]
  refine wpAny_bind (L2.at ?_)
  show wpAny _ _ (do match ← (boundAndCalled _ _ _).attempt with | .ok v => handedOut v | .error e => getattributeRaised _ _ _ e _ _ _) _ _ _
  unfold boundAndCalled
  rw [FX.ga.bind]
  refine wpAny_bind (wpAny_attempt (wpAny_bind (wpAny_pure ?_)))
  show wpAny _ _ (call (.builtin "BaseException.__getattribute__") [.ref e, .str "message" t]) _ _ _
  refine wpAny_call ?_
  refine codeAny_call_builtin FX.ga.plain PySem.F.entry_bexc_ga ?_
  have kd : builtinKind "BaseException.__getattribute__" = some .slot := by with_unfolding_all rfl
  have sp : splitId "BaseException.__getattribute__" = some ("BaseException", "__getattribute__") := by decide +kernel
  have ar := PySem.F.args_bexc_ga (.ref e) (.str "message" t)
  refine @check_slot (model pg w) _ _ ⟨hh, g, d, t + 1, os⟩ "BaseException.__getattribute__" "BaseException" "__getattribute__" (.ref e) [.str "message" t] [] _ kd sp sub ar ?_
  refine wpAny_bind (wpAny_pure ?_)
  refine wpAny_bind (wpAny_pure ?_)
  refine wpAny_bind (Looks.here (s := ⟨hh, g, d, t + 1, os⟩) L0 ?_)
  refine wpAny_bind (Looks.here (s := ⟨hh, g, d, t + 1, os⟩) LF ?_)
  refine wpAny_pure ?_
  exact wpAny_pure h

/-- the class Refusal, matched -/
theorem match_refusal {A : Around} {E : Value → Shared → Prop} {s : Shared} {e dx : Addr} {vs : Array Value} {sl : Array (Option Value)} {Q : Bool → Shared → Prop} (X : (hd.heap_1 w.params).In s.heap)
    (he : s.heap.get? e = some { cls := .ref 51, dict := some dx, data := .fields vs, slots := sl }) (h : Q true s) : wpAny (model pg w) A (excMatches (.ref e) (.ref 51)) Q E s := by
  obtain ⟨hh, g, d, t, os⟩ := s
  exact wpAny_excMatches_sub_self (C := 51) (X 51 _ (by k_is)) he rfl rfl h

/-- the state for a call, the cells of the frame captured -/
theorem Rel.capCall {env : Env} {l : List Env} {hE h g : Heap} {Z₀ Z : ZM} {W : WM} (hR : Rel w h₀ Γ env l hE Z₀ Z W st h) (hk : ∀ b o, h.get? b = some o → g.get? b = some o) (hs : h.objs.size ≤ g.objs.size) :
    Core h₀ g (Mine.Zc Γ env Z h) (Mine.Zc Γ env Z h) (Wr W) st.row g := by
  have c := hR.core
  have ncap : ∀ {a}, (∀ y, W a ≠ some (.cell y)) → Mine.Zc Γ env Z h a = Z a := fun {a} n => by
    unfold Mine.Zc
    cases hc : Mine.capd Γ env a with
    | false => rfl
    | true => obtain ⟨y, _, e, _⟩ := hR.vars.capd hc; exact absurd e (n y)
  have zcZ : ∀ a o, Z a = some o → Mine.Zc Γ env Z h a = some o := fun a o e => (ncap (by rw [c.zw a o e]; nofun)).trans e
  have zcs : ∀ a o, Mine.Zc Γ env Z h a = some o → h.get? a = some o := fun a o e => by
    unfold Mine.Zc at e
    split at e
    · exact e
    · exact c.zin a o e
  exact {
    base := fun a o e => zcZ a o (c.zbase a o e)
    zE := fun a o e => hk a o (zcs a o e)
    z0 := fun _ _ e => e
    zin := fun a o e => hk a o (zcs a o e)
    zf := fun _ _ e => .inl e
    dj := fun a ρ e => by
      cases (Wr_only a ρ e).1
      have e' := (Wr_row.mp e).1
      obtain ⟨z, o, ho⟩ := c.dj a _ e'
      exact ⟨(ncap (by rw [e']; nofun)).trans z, o, hk _ _ ho⟩
    wf := fun a ρ e n => absurd (Wr_only a ρ e).1 n
    wfr := fun a e => absurd (Wr_only a _ e).1 nofun
    wf0 := fun a ρ e n => absurd (Wr_only a ρ e).1 n
    h0 := Nat.le_trans c.h0 (Nat.le_trans c.grow hs)
    kept := fun _ _ e _ => e
    grow := Nat.le_refl _
    row := fun a e n => by
      obtain ⟨us, k, g', i⟩ := c.row a (Wr_row.mp e).1 n
      exact ⟨us, k, hk _ _ g', i⟩
    row1 := fun a b e e' n n' => c.row1 a b (Wr_row.mp e).1 (Wr_row.mp e').1 n n'
    tab := fun e => absurd rfl (Wr_row.mp e).2 }

/-- what the lambda's body sees -/
structure LamOk (Γ Γl : Cx) (sc : Scope) : Prop where
  kind : sc.kind = .function
  co : sc.isCoroutine = false
  gen : sc.isGenerator = false
  nocell : ∀ y ∈ sc.names, y.2 ≠ .cell
  free : ∀ y ∈ sc.names, y.2 = .free → y.1 ∈ Γ.cells
  frees : ∀ y ∈ Γl.frees, sc.names.lookup y = some .free ∧ y ∈ Γ.cells
  globs : ∀ y ∈ Γl.globs, sc.names.lookup y = some .globalImplicit
  debug : ∀ x ∈ Γl.names ++ Γl.globs, (x == ("__debug__" : Str)) = false ∧ (x == ("__classdict__" : Str)) = false
  nodup : Γl.names.Nodup
  locs : Γl.locs = []
  cells : Γl.cells = []

def lamEnv (sc : Scope) (clos : List (Str × Addr)) (L f : Addr) (cv : Value) : Env := envX lamQual sc L f cv clos

/-- the state in the lambda's own frame -/
theorem Rel.inLam {Γl : Cx} {sc : Scope} (hB : LamOk Γ Γl sc) {capmu : List (Str × V)} (hcn : capmu.map (·.1) = Γl.frees) (hcaps : Caps st.mu capmu) {env : Env} {l l₂ : List Env} {hE h g h₂ : Heap} {Z₀ Z : ZM} {W : WM} {f : Addr} {cv : Value} (hO : EnvOk Γ env)
    (hR : Rel w h₀ Γ env l hE Z₀ Z W st h) (hk : ∀ b o, h.get? b = some o → g.get? b = some o) (hs : h.objs.size ≤ g.objs.size) (hns : ∃ m, h₂.Ns g.objs.size m) (hk₂ : ∀ b o, g.get? b = some o → h₂.get? b = some o) (hfr : FrOk l₂ g (Wr W)) :
    Rel w h₀ Γl (lamEnv sc (clFrom env sc.names []) g.objs.size f cv) (lamEnv sc (clFrom env sc.names []) g.objs.size f cv :: l₂) g (Mine.Zc Γ env Z h) (Mine.Zc Γ env Z h) (upd (Wr W) g.objs.size (some .fr)) ⟨capmu, st.row⟩ h₂ ∧
    EnvOk Γl (lamEnv sc (clFrom env sc.names []) g.objs.size f cv) := by
  have c₀ := hR.capCall hk hs
  have c := hR.core
  obtain ⟨m, hns⟩ := hns
  have Lz : Mine.Zc Γ env Z h g.objs.size = none := by
    cases q : Mine.Zc Γ env Z h g.objs.size with
    | none => rfl
    | some o => exact absurd (Heap.lt_size (c₀.zin _ _ q)) (Nat.lt_irrefl _)
  have Lw : Wr W g.objs.size = none := by
    cases q : Wr W g.objs.size with
    | none => rfl
    | some o => obtain ⟨_, o, ho⟩ := c₀.dj _ _ q; exact absurd (Heap.lt_size ho) (Nat.lt_irrefl _)
  have Lg : g.get? g.objs.size = none := by
    cases q : g.get? g.objs.size with
    | none => rfl
    | some o => exact absurd (Heap.lt_size q) (Nat.lt_irrefl _)
  have rowW : ∀ a, upd (Wr W) g.objs.size (some .fr) a = some .row ↔ Wr W a = some .row := fun a => by
    by_cases hb : a = g.objs.size
    · subst hb; rw [upd_same, Lw]; exact ⟨nofun, nofun⟩
    · rw [upd_ne hb]
  have cases_ : ∀ {a ρ}, upd (Wr W) g.objs.size (some .fr) a = some ρ → (a = g.objs.size ∧ ρ = .fr) ∨ (a ≠ g.objs.size ∧ Wr W a = some ρ) := fun {a ρ} e => by
    by_cases hb : a = g.objs.size
    · subst hb; rw [upd_same] at e; cases e; exact .inl ⟨rfl, rfl⟩
    · rw [upd_ne hb] at e; exact .inr ⟨hb, e⟩
  have sz : g.objs.size ≤ h₂.objs.size := by
    obtain ⟨o, _, _, q, _⟩ := hns; exact Nat.le_of_lt (Heap.lt_size q)
  have core : Core h₀ g (Mine.Zc Γ env Z h) (Mine.Zc Γ env Z h) (upd (Wr W) g.objs.size (some .fr)) st.row h₂ := {
    base := c₀.base
    zE := c₀.zE
    z0 := fun _ _ e => e
    zin := fun a o e => hk₂ a o (c₀.zin a o e)
    zf := fun _ _ e => .inl e
    dj := fun a ρ e => by
      rcases cases_ e with ⟨rfl, rfl⟩ | ⟨_, e⟩
      · obtain ⟨o, _, _, q, _⟩ := hns; exact ⟨Lz, o, q⟩
      · obtain ⟨z, o, ho⟩ := c₀.dj a _ e; exact ⟨z, o, hk₂ _ _ ho⟩
    wf := fun a ρ e n => by
      rcases cases_ e with ⟨rfl, rfl⟩ | ⟨_, e⟩
      · exact Lg
      · exact absurd (Wr_only a ρ e).1 n
    wfr := fun a e => by
      rcases cases_ e with ⟨rfl, _⟩ | ⟨_, e⟩
      · exact Nat.le_refl _
      · exact absurd (Wr_only a _ e).1 nofun
    wf0 := fun a ρ e n => by
      rcases cases_ e with ⟨rfl, rfl⟩ | ⟨_, e⟩
      · exact c₀.h0
      · exact absurd (Wr_only a ρ e).1 n
    h0 := c₀.h0
    kept := fun b o e _ => hk₂ b o e
    grow := sz
    row := fun a e n => by
      obtain ⟨us, k, q, i⟩ := c₀.row a ((rowW a).mp e) n
      exact ⟨us, k, hk₂ _ _ q, i⟩
    row1 := fun a b e e' n n' => c₀.row1 a b ((rowW a).mp e) ((rowW b).mp e') n n'
    tab := fun e => absurd rfl (Wr_row.mp ((rowW _).mp e)).2 }
  have old : ∀ b o, h.get? b = some o → h₂.get? b = some o := fun b o e => hk₂ _ _ (hk _ _ e)
  have zcZ : ∀ a o, Z a = some o → Mine.Zc Γ env Z h a = some o := fun a o e => by
    unfold Mine.Zc
    cases hc : Mine.capd Γ env a with
    | false => exact e
    | true => obtain ⟨y, _, e', _⟩ := hR.vars.capd hc; rw [c.zw a o e] at e'; cases e'
  have vars : Vars w Γl (lamEnv sc (clFrom env sc.names []) g.objs.size f cv) (Mine.Zc Γ env Z h) (upd (Wr W) g.objs.size (some .fr)) h₂ capmu := by
    refine ⟨?_, upd_same _ _ _, ⟨m, hns, fun p hp => ?_⟩, fun y hy => by rw [hB.cells] at hy; cases hy⟩
    · unfold Cx.names; rw [hB.locs, hB.cells]; simpa using hcn
    · have hpf : p.1 ∈ Γl.frees := by rw [← hcn]; exact List.mem_map_of_mem (f := (·.1)) hp
      obtain ⟨hp', hst⟩ := hcaps.of p hp
      obtain ⟨hf, hcl⟩ := hB.frees _ hpf
      obtain ⟨m', hm1, hm2⟩ := hR.vars.ns
      rcases hm2 p hp' with e | ⟨v, hh, hs'⟩
      · rw [e] at hst; cases hst
      · refine .inr ⟨v, ?_, hs'.stayMono hst zcZ (fun a e n => (rowW a).mpr (Wr_row.mpr ⟨e, n⟩)) (fun a _ o _ e => old a o e)⟩
        have kc := hO.cells _ hcl
        rcases hh with ⟨k, _⟩ | ⟨_, c', e1, e2, e3⟩
        · rw [kc] at k; cases k
        · refine .inr ⟨.inr hf, c', (clFrom_at _ _ (.inl hf) ⟨_, e1⟩).trans e1, e2.keeps old, .inr ?_⟩
          obtain ⟨o, ho, _⟩ := e2
          refine ⟨o, ?_⟩
          have hcp : Mine.capd Γ env c' = true := by unfold Mine.capd; exact List.any_eq_true.mpr ⟨p.1, hcl, decide_eq_true e1⟩
          unfold Mine.Zc
          rw [if_pos hcp]
          exact ho
  refine ⟨⟨core, vars, fun fe hfe => ?_, fun t => by unfold tabCx at t; rw [hB.cells] at t; cases t⟩, ⟨hB.kind, rfl, rfl, (fun x hx => by rw [hB.locs] at hx; cases hx), (fun x hx => by rw [hB.cells] at hx; cases hx), hB.globs, hB.debug, hB.nodup, fun t => by unfold tabCx at t; rw [hB.cells] at t; cases t⟩⟩
  rcases List.mem_cons.mp hfe with rfl | hfe
  · exact ⟨by rw [show (lamEnv sc (clFrom env sc.names []) g.objs.size f cv).scope.kind = .function from hB.kind]; nofun, _, rfl, .inl rfl⟩
  · obtain ⟨k, b, e, o, q, nf, nr⟩ := hfr fe hfe
    exact ⟨k, b, e, .inr ⟨o, q, nf, fun z => nr ((rowW b).mp z), fun z => (Wr_row.mp ((rowW _).mp z)).2 rfl⟩⟩
end
end Mine
namespace Mine
section
variable {w : World} {h₀ : Heap} {mg mb : Str → Option Value} {Γ : Cx} {st : St}

abbrev noArgs : Arguments := { posonlyargs := [], args := [], vararg := none, kwonlyargs := [], kw_defaults := [], kwarg := none, defaults := [] }
def lamFn (body : Expr) (sc : Scope) (clos : List (Str × Addr)) (pm cv ctv : Value) : FuncData := kla_fn "<lambda>" lamQual noArgs body sc clos pm cv ctv
def lamObj (body : Expr) (sc : Scope) (clos : List (Str × Addr)) (pm cv ctv : Value) : Obj := { cls := .type "function", data := .func (lamFn body sc clos pm cv ctv) }

/-- a call of the lambda -/
theorem lam_call (hw : Wd w h₀ mg mb) {Γl : Cx} {sc : Scope} (hB : LamOk Γ Γl sc) (h50 : Γl.rank < 50) {capmu : List (Str × V)} (hcn : capmu.map (·.1) = Γl.frees) (hcaps : Caps st.mu capmu) {body : Expr} {Φl : PyData → List Int → Prop} {Ψl : Str → List Int → Prop}
    (hbody : WE w h₀ Γl ⟨capmu, st.row⟩ body (fun U st₁ => ∃ d, U = .d d ∧ Φl d st₁.row) Ψl)
    {A : Around} {env : Env} {l l₂ : List Env} {hE h : Heap} {Z₀ Z : ZM} {W : WM} {s : Shared} {Q : Value → Shared → Prop} {E : Value → Shared → Prop} {f : Addr} {pm cv ctv : Value} (hO : EnvOk Γ env)
    (hR : Rel w h₀ Γ env l hE Z₀ Z W st h) (hA : AOk (Γl.rank + 1) A) (hl₂ : A.frames = some l₂) (hk : ∀ b o, h.get? b = some o → s.heap.get? b = some o) (hs : h.objs.size ≤ s.heap.objs.size) (hfr : FrOk l₂ s.heap (Wr W))
    (hf : s.heap.get? f = some (lamObj body sc (clFrom env sc.names []) pm cv ctv)) (hcv : s.heap.CodeRec cv lamQual)
    (hQ : ∀ v d r' h' tk Z' W', Φl d r' → Core h₀ h Z Z' W' r' h' → (∀ a, W' a = some .row ↔ Wr W a = some .row) → FD Z' v d → Q v { s with heap := h', toks := tk })
    (hX : ∀ e msg r' h' tk, Ψl msg r' → Exc0 l₂ s.heap (Wr W) msg r' e h' → E e { s with heap := h', toks := tk }) : wpAny (model pg w) A (call (.ref f) []) Q E s := by
  have stay : ∀ b o, h₀.get? b = some o → s.heap.get? b = some o := fun b o e => hk _ _ (hR.core.stay b o e)
  refine wpAny_call (kla_callFunE hA.room hf rfl hB.co hB.gen rfl hcv ?_)
  rw [show bindArgs (lamFn body sc (clFrom env sc.names []) pm cv ctv) ⟨[], []⟩ = pure [] from rfl]
  refine wpAny_pure (wpAny_newFunctionEnv hB.nocell (fun x hx => by cases hx) (fun h₂ hns hsb => ⟨(hw.nolimit.keeps stay).fresh _ hsb, ?_⟩) hB.kind)
  have hk₂ : ∀ b o, s.heap.get? b = some o → h₂.get? b = some o := fun b o e => hsb.extBut b o (Nat.ne_of_lt (Heap.lt_size e)) (Heap.get?_push_of_some _ e)
  obtain ⟨hRl, hOl⟩ := hR.inLam hB hcn hcaps (f := f) (cv := cv) hO hk hs ⟨_, hns⟩ hk₂ hfr
  have hAl : AOk Γl.rank (A.deeper (lamEnv sc (clFrom env sc.names []) s.heap.objs.size f cv)) := ⟨hA.handled, by show A.depth + 1 + _ ≤ _; have := hA.depth; omega, by show A.units + 3 + _ ≤ _; have := hA.units; omega, fun q => absurd h50 (by omega)⟩
  show codeAny _ _ (.expr body (lamEnv sc (clFrom env sc.names []) s.heap.objs.size f cv)) _ _
  have Lg : s.heap.get? s.heap.objs.size = none := by
    cases q : s.heap.get? s.heap.objs.size with
    | none => rfl
    | some o => exact absurd (Heap.lt_size q) (Nat.lt_irrefl _)
  have c := hR.core
  have ncap : ∀ {a}, (∀ y, W a ≠ some (.cell y)) → Mine.Zc Γ env Z h a = Z a := fun {a} n => by
    unfold Mine.Zc
    cases hc : Mine.capd Γ env a with
    | false => rfl
    | true => obtain ⟨y, _, e, _⟩ := hR.vars.capd hc; exact absurd e (n y)
  have zcZ : ∀ a o, Z a = some o → Mine.Zc Γ env Z h a = some o := fun a o e => (ncap (by rw [c.zw a o e]; nofun)).trans e
  have rowW : ∀ a, upd (Wr W) s.heap.objs.size (some .fr) a = some .row ↔ Wr W a = some .row := fun a => by
    by_cases hb : a = s.heap.objs.size
    · subst hb
      rw [upd_same]
      refine ⟨nofun, fun q => ?_⟩
      obtain ⟨_, o, ho⟩ := c.dj _ _ (Wr_row.mp q).1
      exact absurd (Heap.lt_size (hk _ _ ho)) (Nat.lt_irrefl _)
    · rw [upd_ne hb]
  refine kla_codeExpr (hbody _ _ _ _ _ _ _ { s with heap := h₂, toks := s.toks + ([] : List (Str × Value)).length } _ _ hAl (Around.frames_deeper hl₂) hOl hRl ?_ ?_)
  · rintro v U st' Z' W' h' tk ⟨d, rfl, hΦ⟩ hR' hL' hv
    have c₃ := hR'.core
    have hrow : ∀ a, W' a = some .row ↔ Wr W a = some .row := fun a => ⟨fun q => (rowW a).mp (hL'.rb a q), fun q => hL'.w a _ ((rowW a).mpr q)⟩
    have c₄ : Core h₀ h Z (fun a => if Mine.capd Γ env a then none else Z' a) W' st'.row h' := {
      base := c.zbase
      zE := c.zin
      z0 := fun a o e => by
        have h1 := c₃.z0 a o (zcZ a o e)
        have h2 : Mine.capd Γ env a = false := by
          cases hc : Mine.capd Γ env a with
          | false => rfl
          | true => obtain ⟨y, _, e', _⟩ := hR.vars.capd hc; rw [c.zw a o e] at e'; cases e'
        rw [h2]; exact h1
      zin := fun a o e => by
        split at e
        · cases e
        · exact c₃.zin a o e
      zf := fun a o e => by
        split at e
        · cases e
        · rename_i hc
          rcases c₃.zf a o e with q | q
          · unfold Mine.Zc at q; rw [if_neg hc] at q; exact .inl q
          · refine .inr ?_
            cases z : h.get? a with
            | none => rfl
            | some o' => rw [hk _ _ z] at q; cases q
      dj := fun a ρ e => by
        obtain ⟨z, r⟩ := c₃.dj a ρ e
        exact ⟨by rw [z]; simp, r⟩
      wf := fun a ρ e n => by
        have q := c₃.wf a ρ e n
        cases z : h.get? a with
        | none => rfl
        | some o' => rw [hk _ _ z] at q; cases q
      wfr := fun a e => Nat.le_trans hs (c₃.wfr a e)
      wf0 := c₃.wf0
      h0 := Nat.le_trans c.h0 c.grow
      kept := fun b o e n => c₃.kept b o (hk _ _ e) n
      grow := Nat.le_trans hs c₃.grow
      row := c₃.row
      row1 := c₃.row1
      tab := fun e => absurd rfl (Wr_row.mp ((hrow _).mp e)).2 }
    refine hQ v d st'.row h' tk _ W' hΦ c₄ hrow (FD.cut (fun a o us k e ed => ?_) hv)
    cases hc : Mine.capd Γ env a with
    | false => simpa [hc] using e
    | true =>
      obtain ⟨y, v', e1, oc, e2, e3⟩ := hR.vars.capd hc
      have hzc : Mine.Zc Γ env Z h a = some oc := by unfold Mine.Zc; rw [if_pos hc]; exact e2
      have := hL'.z _ _ hzc
      rw [e] at this; cases this
      rw [ed] at e3; cases e3
  · intro e' msg r' h' tk hΨ hX'
    exact leave_exc (s := { s with heap := h', toks := tk }) (Around.frames_deeper hl₂) (by rw [show (lamEnv sc (clFrom env sc.names []) s.heap.objs.size f cv).scope.kind = .function from hB.kind]; nofun) rfl hfr Lg hX' rowW (fun a q z => by
      obtain ⟨_, o, ho⟩ := c.dj a _ (Wr_row.mp q).1; rw [hk _ _ ho] at z; cases z) fun h'' hX'' => hX _ _ _ _ _ hΨ hX''
end
end Mine
namespace Mine
section
variable {w : World} {h₀ : Heap} {mg mb : Str → Option Value} {Γ : Cx} {st : St}

theorem Rel.frsL {env : Env} {l : List Env} {hE h : Heap} {Z₀ Z : ZM} {W : WM} (hR : Rel w h₀ Γ env l hE Z₀ Z W st h) (ht : tabCx Γ) : ∀ b ∈ frsOf l, b = env.locals := fun b hb => by
  obtain ⟨fe, hfe, e⟩ := of_frsOf hb
  obtain ⟨_, b', e', q⟩ := hR.frs.1 fe hfe
  rw [e] at e'; cases e'
  rcases q with q | ⟨_, _, _, _, q⟩
  · exact q
  · exact absurd (hR.frs.2 ht) q

theorem ns_slots {h h' : Heap} {L : Addr} {m : Str → Option Value} (x : h.Ns L m) (hs : ∀ o, h.get? L = some o → ∃ sl, h'.get? L = some { o with slots := sl }) : h'.Ns L m := by
  obtain ⟨o, es, ep, e1, e2, r⟩ := x
  obtain ⟨sl, q⟩ := hs o e1
  exact ⟨_, es, ep, q, e2, r⟩

/-- the frame's state when an exception has been caught -/
theorem Rel.caught {env : Env} {l : List Env} {hE h h' : Heap} {Z₀ Z : ZM} {W : WM} {r : List Int} (hO : EnvOk Γ env) (hR : Rel w h₀ Γ env l hE Z₀ Z W st h) (ht : tabCx Γ) (hk : ∀ b o, h.get? b = some o → Wr W b ≠ some .row → b ≠ env.locals → h'.get? b = some o)
    (hsl : ∀ o, h.get? env.locals = some o → ∃ sl, h'.get? env.locals = some { o with slots := sl }) (hg : h.objs.size ≤ h'.objs.size) (hrow : ∀ a, W a = some .row → a ≠ tabA → ∃ vs n, h'.get? a = some (listOf vs.toArray n) ∧ IntsAre vs r) :
    Rel w h₀ Γ env l hE Z₀ Z W ⟨st.mu, r⟩ h' ∧ Le Z W h Z W h' := by
  have c := hR.core
  have hf := hR.vars.fr
  have nW : ∀ {b ρ}, W b = some ρ → ρ ≠ .row → Wr W b ≠ some .row := fun {b ρ} e n q => by have := (Wr_row.mp q).1; rw [e] at this; cases this; exact n rfl
  have nL : ∀ {b ρ}, W b = some ρ → ρ ≠ .fr → b ≠ env.locals := fun {b ρ} e n q => by rw [q, hf] at e; cases e; exact n rfl
  have kz : ∀ a o, Z a = some o → h'.get? a = some o := fun a o e => hk a o (c.zin a o e) (fun q => by have := (Wr_row.mp q).1; rw [c.zw a o e] at this; cases this) (fun q => by have := c.zw a o e; rw [q, hf] at this; cases this)
  have kt : ∀ o, h.get? tabA = some o → h'.get? tabA = some o := fun o e => hk _ o e (fun q => (Wr_row.mp q).2 rfl) (fun q => by have := hR.frs.2 ht; rw [q, hf] at this; cases this)
  have kw : ∀ {b o ρ}, h.get? b = some o → W b = some ρ → ρ ≠ .row → ρ ≠ .fr → h'.get? b = some o := fun {b o ρ} g e n1 n2 => hk b o g (nW e n1) (nL e n2)
  have core : Core h₀ hE Z₀ Z W r h' := {
    base := c.base
    zE := c.zE
    z0 := c.z0
    zin := kz
    zf := c.zf
    dj := fun a ρ e => ⟨(c.dj a ρ e).1, by
      obtain ⟨o, ho⟩ := (c.dj a ρ e).2
      by_cases h1 : ρ = .row
      · subst h1
        by_cases h2 : a = tabA
        · subst h2; exact ⟨o, kt o ho⟩
        · obtain ⟨vs, n, g, _⟩ := hrow a e h2; exact ⟨_, g⟩
      · by_cases h2 : a = env.locals
        · subst h2; obtain ⟨sl, q⟩ := hsl o ho; exact ⟨_, q⟩
        · exact ⟨o, hk a o ho (nW e h1) h2⟩⟩
    wf := c.wf
    wfr := c.wfr
    wf0 := c.wf0
    h0 := c.h0
    kept := fun b o e n => hk b o (c.kept b o e n) (fun q => n (Wr_row.mp q).1) (fun q => by rw [q, c.wf _ _ hf (by nofun)] at e; cases e)
    grow := Nat.le_trans c.grow hg
    row := hrow
    row1 := c.row1
    tab := fun e => (c.tab e).keep (fun _ _ z => z) kt }
  obtain ⟨m, hns, hvs⟩ := hR.vars.ns
  have ki : ∀ {c v}, h.IsCell c v → (∃ x, W c = some (.cell x)) ∨ (∃ o, Z c = some o) → h'.IsCell c v := fun {c' v} ⟨o, a, b⟩ q => ⟨o, by
    rcases q with ⟨x, q⟩ | ⟨oz, q⟩
    · exact kw a q nofun nofun
    · rw [c.zin _ _ q] at a; cases a; exact kz _ _ q, b⟩
  have vars : Vars w Γ env Z W h' st.mu := by
    refine ⟨hR.vars.names, hf, ⟨m, ns_slots hns hsl, fun p hp => ?_⟩, fun y hy => ?_⟩
    · rcases hvs p hp with e | ⟨v, hh, hs⟩
      · exact .inl e
      · refine .inr ⟨v, ?_, ?_⟩
        · rcases hh with q | ⟨q1, c', q2, q3, q4⟩
          · exact .inl q
          · exact .inr ⟨q1, c', q2, ki q3 (q4.imp (fun e => ⟨_, e⟩) id), q4⟩
        · generalize p.2 = U at hs ⊢
          cases U with
          | ol xs => obtain ⟨a, vs, n, e1, e2, e3, e4⟩ := hs; exact ⟨a, vs, n, e1, e2, kw e3 e2 nofun nofun, e4⟩
          | sd kvs => obtain ⟨a, ws, e1, e2, ⟨ob, es, ep, g, r⟩, e4⟩ := hs; exact ⟨a, ws, e1, e2, ⟨ob, es, ep, kw g e2 nofun nofun, r⟩, e4⟩
          | it ks => obtain ⟨a, ws, e1, e2, ⟨ob, es, ep, g, r⟩, e4⟩ := hs; exact ⟨a, ws, e1, e2, ⟨ob, es, ep, kw g e2 nofun nofun, r⟩, e4⟩
          | itf ks => obtain ⟨a, oz, ws, e1, e2, ⟨ob, es, ep, g, r⟩, e4⟩ := hs; exact ⟨a, oz, ws, e1, e2, ⟨ob, es, ep, by rw [c.zin _ _ e2] at g; cases g; exact kz _ _ e2, r⟩, e4⟩
          | _ => exact hs
    · obtain ⟨c', e1, e2, v, e3⟩ := hR.vars.cel y hy
      exact ⟨c', e1, e2, v, ki e3 (.inl ⟨_, e2⟩)⟩
  exact ⟨⟨core, vars, hR.frs⟩, ⟨fun _ _ e => e, fun _ _ e _ => e, fun a e => by
    obtain ⟨o, ho⟩ := (c.dj a _ e).2
    rw [ho, kw ho e nofun nofun], fun _ e => e⟩⟩

theorem flight_none {M : Model} {A : Around} {E : Value → Shared → Prop} {s : Shared} {e : Addr} {oe : Obj} {vs : Array Value} {Q : Unit → Shared → Prop} (he : s.heap.get? e = some oe) (hd : oe.data = .fields vs)
    (h1 : vs[1]? = some .none ∨ ∃ T oT ts, vs[1]? = some (.ref T) ∧ s.heap.get? T = some oT ∧ oT.data = .fields ts ∧ ts[3]? = some .none)
    (h : ∀ h', (∀ b o, s.heap.get? b = some o → (∀ T, vs[1]? = some (.ref T) → b ≠ T) → h'.get? b = some o) → h'.objs.size = s.heap.objs.size → Q () { s with heap := h' }) : wpAny M A (setFlight (.ref e) none) Q E s := by
  rcases h1 with h1 | ⟨T, oT, ts, h1, hT, hdT, h3⟩
  · unfold setFlight
    refine wpAny_bind (wpAny_field he hd h1 ?_)
    rw [if_neg (by decide)]
    exact wpAny_pure (h s.heap (fun _ _ e _ => e) rfl)
  · refine wpAny_setFlight_none he hd h1 hT hdT (Array.getElem?_eq_some_iff.mp h3).1 (h _ (fun b o g n => ?_) (size_update ..))
    exact (Heap.get?_update_other _ _ (Ne.symm (n T h1))).trans g

/-- the call of _law_kept -/
theorem kept_run (hw : Wd w h₀ mg mb) {Γl : Cx} {sc : Scope} (hB : LamOk Γ Γl sc) (ht : tabCx Γ) (hrk : Γl.rank + 4 ≤ Γ.rank) (h50 : Γl.rank < 40) {capmu : List (Str × V)} (hcn : capmu.map (·.1) = Γl.frees) (hcaps : Caps st.mu capmu) {body : Expr} {Φ : V → St → Prop}
    (hbody : WE w h₀ Γl ⟨capmu, st.row⟩ body (fun U st₁ => ∃ d, U = .d d ∧ Φ (.d d) ⟨st.mu, st₁.row⟩) (fun m r => Φ (.d (.str m)) ⟨st.mu, r⟩))
    {A : Around} {env : Env} {l : List Env} {hE : Heap} {Z₀ Z : ZM} {W : WM} {s : Shared} {Q : Value → Shared → Prop} {E : Value → Shared → Prop} {f : Addr} {pm cv ctv : Value} (hA : AOk Γ.rank A) (hl : A.frames = some l) (hO : EnvOk Γ env)
    (hR : Rel w h₀ Γ env l hE Z₀ Z W st s.heap)
    (hf : s.heap.get? f = some (lamObj body sc (clFrom env sc.names []) pm cv ctv)) (hcv : s.heap.CodeRec cv lamQual)
    (hQ : ∀ v U st' Z' W' h' tk, Φ U st' → Rel w h₀ Γ env l hE Z₀ Z' W' st' h' → Le Z W s.heap Z' W' h' → SRel w Z' W' h' none v U → Q v { s with heap := h', toks := tk }) : wpAny (model pg w) A (call (.ref 298) [.ref f]) Q E s := by
  have c := hR.core
  have X := hw.XK c
  refine wpAny_call (codeAny_call_def hA.room (X 298 _ (by k_is)) rfl (hw.nolimit.keeps c.stay) (codeRec_of X (by k_is)) rfl (binds := [("ask", .ref f)]) (.of_eq rfl) (by decide) (locs rfl) (fun hk₁ nsk hkeep => ?_))
  have hle : s.heap.objs.size ≤ hk₁.objs.size := by
    obtain ⟨o, _, _, q, _⟩ := nsk; exact Nat.le_of_lt (Heap.lt_size q)
  have Lg : s.heap.get? s.heap.objs.size = none := by
    cases q : s.heap.get? s.heap.objs.size with
    | none => rfl
    | some o => exact absurd (Heap.lt_size q) (Nat.lt_irrefl _)
  generalize hek : (callEnv _ s.heap.objs.size 298) = ek
  have ekl : ek.locals = s.heap.objs.size := by rw [← hek]; rfl
  have ekf : ek.frame = some ek.locals := by rw [← hek]; rfl
  have ekk : ek.scope.kind = .function := by rw [← hek]; rfl
  have eka : ek.kindOf "ask" = some .local := by rw [← hek]; rfl
  have eke : ek.kindOf "error" = some .local := by rw [← hek]; rfl
  have ekr : ek.kindOf "Refusal" = some .globalImplicit := by rw [← hek]; rfl
  have ekg : ek.globals = mainGlobals := by rw [← hek]; rfl
  have hAk : AOk (Γl.rank + 1) (A.deeper ek) := ⟨hA.handled, by show A.depth + 1 + _ ≤ _; have := hA.depth; omega, by show A.units + 3 + _ ≤ _; have := hA.units; omega, fun q => absurd h50 (by omega)⟩
  have frok : FrOk (ek :: l) hk₁ (Wr W) := fun fe hfe => by
    rcases List.mem_cons.mp hfe with rfl | hfe
    · obtain ⟨o, es, ep, g, gd, _⟩ := nsk
      refine ⟨by rw [ekk]; nofun, _, ekf, o, by rw [ekl]; exact g, (fun vs q => by rw [gd] at q; cases q), fun q => ?_⟩
      obtain ⟨_, o', ho'⟩ := c.dj _ _ (Wr_row.mp q).1
      rw [ekl, Lg] at ho'; cases ho'
    · obtain ⟨k, b, e, o, g, nf, nr⟩ := FrSt.ok hR fe hfe
      exact ⟨k, b, e, o, hkeep _ _ g, nf, fun q => nr (Wr_row.mp q).1⟩
  refine wpAny_execs_cons (wpAny_Try_except (wpAny_execs_cons (wpAny_Return_some (wpAny_Call_ofName (load_local ekk eka (by rw [ekl]; exact nsk) rfl ?_)))))
  refine callWith_of (P := fun hh => hh.get? f = some (lamObj body sc (clFrom env sc.names []) pm cv ctv)) rfl (fun hh q => ⟨.frame, .inl rfl, (Looks.ld q).andThen .now⟩) (evalArgs_nil3 ⟨hkeep _ _ hf, ?_⟩)
  obtain ⟨cc, oc, vsc, tc, q1, q2, q3, q4⟩ := hcv
  refine lam_call (st := st) hw hB (by omega) hcn hcaps (Φl := fun d r => Φ (.d d) ⟨st.mu, r⟩) (Ψl := fun m r => Φ (.d (.str m)) ⟨st.mu, r⟩) hbody (s := { s with heap := hk₁, toks := s.toks + [(("ask" : Str), Value.ref f)].length }) hO hR hAk (Around.frames_deeper hl) hkeep hle frok (hkeep _ _ hf) ⟨cc, oc, vsc, tc, q1, hkeep _ _ q2, q3, q4⟩ ?_ ?_
  · intro v d r' h' tk Z' W' hΦ c' hrow hv
    obtain ⟨hzI, hwI⟩ := hR.dom (Nat.le_refl _)
    obtain ⟨hR', hL', _⟩ := hR.called c' hrow (c.out (Nat.le_refl _)) hwI hzI (fun _ _ e _ => e) (Nat.le_refl _)
    exact hQ v (.d d) _ Z' _ h' tk hΦ hR' hL'.le hv
  · intro e msg r' h₂ tk₂ hΨ X₂
    obtain ⟨ea, rfl, xo, hna⟩ := X₂.obj
    have X₃ : Exc (ek :: l) s.heap (Wr W) ek.locals msg r' (.ref ea) h₂ := {
      obj := by
        obtain ⟨xn, dx, vs, sl, es, n, t, g1, g2, g3, g4, g5, g6⟩ := xo
        have dead : ∀ {b}, hk₁.get? b = none → s.heap.get? b = none := fun {b} q => by
          cases z : s.heap.get? b with
          | none => rfl
          | some o => rw [hkeep _ _ z] at q; cases q
        refine ⟨ea, rfl, ⟨dead xn, dx, vs, sl, es, n, t, g1, g2, g3, g4, g5, ?_⟩, hna⟩
        rcases g6 with q | ⟨T, oT, ts, p1, p2, p3⟩
        · exact .inl q
        · exact .inr ⟨T, oT, ts, p1, dead p2, p3⟩
      kept := fun b o e n m => X₂.kept b o (hkeep _ _ e) n m
      slots := fun b o e n m => X₂.slots b o (hkeep _ _ e) n m
      own := by
        obtain ⟨o, es, ep, g, gd, _⟩ := id nsk
        have hin : s.heap.objs.size ∈ frsOf (ek :: l) := by rw [frsOf_cons ekf, ekl]; exact .head _
        obtain ⟨sl, q⟩ := X₂.slots _ o g (fun q => by
          obtain ⟨_, o', ho'⟩ := c.dj _ _ (Wr_row.mp q).1
          rw [Lg] at ho'; cases ho') hin
        exact ⟨_, by rw [ekl]; exact q, fun vs z => by rw [show ({ o with slots := sl } : Obj).data = o.data from rfl, gd] at z; cases z⟩
      grow := Nat.le_trans hle X₂.grow
      row := X₂.row }
    have nsk₂ : h₂.Ns s.heap.objs.size (fun x => [(("ask" : Str), Value.ref f)].reverse.lookup x) := ns_slots nsk fun o ho => X₂.slots _ o ho (fun q => by
      obtain ⟨_, o', ho'⟩ := c.dj _ _ (Wr_row.mp q).1
      rw [Lg] at ho'; cases ho') (by rw [frsOf_cons ekf, ekl]; exact .head _)
    refine leave_exc_n (s := { s with heap := h₂, toks := tk₂ }) (Around.frames_deeper hl) (by rw [ekk]; nofun) ekf (fun fe hfe => ?_) (by rw [ekl]; exact Lg) X₃ (fun _ => Iff.rfl) (fun a q z => by
      obtain ⟨_, o, ho⟩ := c.dj a _ (Wr_row.mp q).1; rw [ho] at z; cases z) fun h₃ X₄ hsl₃ hobj₃ => ?_
    · obtain ⟨k, b, e, o, g, nf, nr⟩ := FrSt.ok hR fe hfe
      exact ⟨k, b, e, o, g, nf, fun q => nr (Wr_row.mp q).1⟩
    have nsk₃ : h₃.Ns ek.locals (fun x => [(("ask" : Str), Value.ref f)].reverse.lookup x) := by
      refine ns_slots (h := h₂) (by rw [ekl]; exact nsk₂) hsl₃
    have fr := hR.frsL ht
    have stay₃ : ∀ b o, h₀.get? b = some o → h₃.get? b = some o := fun b o e => X₄.kept b o (c.stay b o e) (fun q => by have := (Wr_row.mp q).1; rw [c.zw b o (c.zbase b o e)] at this; cases this) (fun q => by
      have h2 := c.zw b o (c.zbase b o e)
      rw [fr b q, hR.vars.fr] at h2; cases h2)
    have X3 := hw.X.keeps stay₃
    have xo₄ := hobj₃ ea rfl
    obtain ⟨dx, vs, sl, es, n, t, g1, g2, g3, g4, g5, g6⟩ := xo₄.obj
    have dead : ∀ {b}, s.heap.get? b = none → ∀ {b' o}, s.heap.get? b' = some o → b' ≠ b := fun {b} q {b' o} z y => by rw [y, q] at z; cases z
    have hTs : ∀ T, vs[1]? = some (.ref T) → s.heap.get? T = none ∧ T ≠ ea ∧ T ≠ dx ∧ ∃ oT ts, h₃.get? T = some oT ∧ oT.data = .fields ts := fun T q => by
      rcases g6 with z | ⟨T', oT, ts, p1, p2, p3, p4, p5, p6, _⟩
      · rw [z] at q; cases q
      · rw [p1] at q; cases q; exact ⟨p2, p3, p4, oT, ts, p5, p6⟩
    refine wpAny_handleBy_cons (codeAny_handlers_test (Name_function_global ekk ekr (loadGlobal_global (by rw [ekg]; exact hw.g.keeps stay₃) (g_Refusal hw) (match_refusal (s := { s with heap := h₃, toks := tk₂ }) X3 g1 ?_)) (by decide))) (by intro q; cases q)
    refine codeAny_handlers_suite_as (flight_none (s := { s with heap := h₃, toks := tk₂ }) g1 rfl (g6.imp id fun ⟨T, oT, ts, p1, _, _, _, p5, p6, p7⟩ => ⟨T, oT, ts, p1, p5, p6, p7⟩) fun h₄ k₄ sz₄ => ?_)
    have ns₄ : h₄.Ns ek.locals (fun x => [(("ask" : Str), Value.ref f)].reverse.lookup x) := by
      obtain ⟨o, es', ep, q1, q2, r⟩ := nsk₃
      refine ⟨o, es', ep, k₄ _ _ q1 fun T z y => ?_, q2, r⟩
      obtain ⟨_, _, _, oT, ts, p1, p2⟩ := hTs T z
      rw [y, p1] at q1; cases q1; rw [p2] at q2; cases q2
    have e₄ := k₄ _ _ g1 fun T z y => (hTs T z).2.1 y.symm
    have d₄ := k₄ _ _ g4 fun T z y => (hTs T z).2.2.1 y.symm
    have eaL : ea ≠ ek.locals := fun y => by
      obtain ⟨o', es', ep, q1, q2, _⟩ := ns₄
      rw [← y, e₄] at q1; cases q1; cases q2
    have dxL : dx ≠ ek.locals := fun y => g3 (by rw [frsOf_cons ekf, y]; exact .head _)
    refine wpAny_storeName_local (s := { s with heap := h₄, toks := tk₂ }) eke ns₄ (fun h₅ ns₅ sb₅ => ?_) (by rw [ekk]; rfl)
    have e₅ := (sb₅.2 _ eaL).trans e₄
    have d₅ := (sb₅.2 _ dxL).trans d₄
    have X5 := hw.X.keeps (h' := h₅) fun b o e => by
      have hb : s.heap.get? b = some o := c.stay b o e
      exact (sb₅.2 _ (by rw [ekl]; exact dead Lg hb)).trans (k₄ _ _ (stay₃ b o e) fun T z => dead (hTs T z).1 hb)
    refine wpAny_execs_cons (wpAny_Return_some (Attribute_Name_ (load_local (s := { s with heap := h₅, toks := tk₂ + 1 }) ekk eke ns₅ (by simp) (get_message (s := { s with heap := h₅, toks := tk₂ + 1 }) X5 e₅ d₅ g5 ?_))))
    refine wpAny_nameGoes (s := { s with heap := h₅, toks := tk₂ + 1 + 1 }) eke ns₅ (by rw [ekk]; rfl) fun h₆ m₆ ns₆ sb₆ => ?_
    have up : ∀ b o, h₃.get? b = some o → b ≠ ek.locals → (∀ T, vs[1]? = some (.ref T) → b ≠ T) → h₆.get? b = some o := fun b o q n1 n2 => (sb₆.2 _ n1).trans ((sb₅.2 _ n1).trans (k₄ _ _ q n2))
    have upS : ∀ b o o', s.heap.get? b = some o' → h₃.get? b = some o → h₆.get? b = some o := fun b o o' z q => up b o q (by rw [ekl]; exact dead Lg z) fun T z' => dead (hTs T z').1 z
    have sz₆ : h₆.objs.size = h₃.objs.size := sb₆.1.trans (sb₅.1.trans sz₄)
    obtain ⟨hR₆, hL₆⟩ := hR.caught (r := r') hO ht (h' := h₆) (fun b o e n1 n2 => upS b o o e (X₄.kept b o e n1 fun q => n2 (fr b q))) (fun o e => by
        have nW : Wr W env.locals ≠ some .row := fun q => by have := (Wr_row.mp q).1; rw [hR.vars.fr] at this; cases this
        by_cases hin : env.locals ∈ frsOf l
        · obtain ⟨sl', q⟩ := X₄.slots _ o e nW hin
          exact ⟨sl', upS _ _ _ e q⟩
        · exact ⟨o.slots, upS _ _ _ e (X₄.kept _ o e nW hin)⟩) (by rw [sz₆]; exact X₄.grow) (fun a e n => by
        obtain ⟨us, k, q, i⟩ := X₄.row a (Wr_row.mpr ⟨e, n⟩) n
        obtain ⟨_, o', ho'⟩ := c.dj a _ e
        exact ⟨us, k, upS _ _ _ ho' q, i⟩)
    exact hQ _ (.d (.str msg)) _ Z W h₆ _ hΨ hR₆ hL₆ (.str _ _)
end
end Mine
namespace Mine
structure Tb (h₀ : Heap) (mg : Str → Option Value) : Prop where
  C : CodeHd h₀ 302 tabA
  B : h₀.BuiltinsAt mg tabA
section
variable {w : World} {h₀ : Heap} {mg mb : Str → Option Value} {Γ : Cx} {st : St}

theorem Rel.tabStep {env : Env} {l : List Env} {hE h h' : Heap} {Z₀ Z : ZM} {W : WM} (hR : Rel w h₀ Γ env l hE Z₀ Z W st h) (ht : tabCx Γ) (hx : ∀ b o, b ≠ tabA → h.get? b = some o → h'.get? b = some o) (hs : h.objs.size ≤ h'.objs.size) {c' : Addr} {oc : Obj} (hge : h.objs.size ≤ c')
    (hoc : h'.get? c' = some oc) (htab : TabI (upd Z c' (some oc)) h') : Rel w h₀ Γ env l hE Z₀ (upd Z c' (some oc)) W st h' ∧ LeE Z W h (upd Z c' (some oc)) W h' := by
  have c := hR.core
  have hW := hR.frs.2 ht
  obtain ⟨hzc, hwc⟩ := hR.dom hge
  have zm : ∀ a o, Z a = some o → upd Z c' (some oc) a = some o := fun a o e => by rw [upd_ne (by rintro rfl; rw [hzc] at e; cases e)]; exact e
  have nz : ∀ {a o}, Z a = some o → a ≠ tabA := fun {a o} e q => by have := (c.dj _ _ hW).1; rw [← q, e] at this; cases this
  have nw : ∀ {a ρ}, W a = some ρ → ρ ≠ .row → a ≠ tabA := fun {a ρ} e n q => by rw [q, hW] at e; cases e; exact n rfl
  have core : Core h₀ hE Z₀ (upd Z c' (some oc)) W st.row h' := {
    base := c.base
    zE := c.zE
    z0 := fun a o e => zm a o (c.z0 a o e)
    zin := fun a o e => by
      by_cases hb : a = c'
      · subst hb; rw [upd_same] at e; cases e; exact hoc
      · rw [upd_ne hb] at e; exact hx _ _ (nz e) (c.zin a o e)
    zf := fun a o e => by
      by_cases hb : a = c'
      · subst hb; exact .inr (c.out hge)
      · rw [upd_ne hb] at e; exact c.zf a o e
    dj := fun a ρ e => by
      obtain ⟨z, o, ho⟩ := c.dj a ρ e
      refine ⟨by rw [upd_ne (by rintro rfl; rw [hwc] at e; cases e)]; exact z, ?_⟩
      by_cases hb : a = tabA
      · subst hb; obtain ⟨ps, q, _⟩ := htab; exact ⟨_, q⟩
      · exact ⟨o, hx _ _ hb ho⟩
    wf := c.wf
    wfr := c.wfr
    wf0 := c.wf0
    h0 := c.h0
    kept := fun b o e n => hx _ _ (fun q => n (q ▸ hW)) (c.kept b o e n)
    grow := Nat.le_trans c.grow hs
    row := fun a e n => by
      obtain ⟨us, k, q, i⟩ := c.row a e n
      exact ⟨us, k, hx _ _ n q, i⟩
    row1 := c.row1
    tab := fun _ => htab }
  have vars : Vars w Γ env (upd Z c' (some oc)) W h' st.mu := (hR.vars.back (fun b o e n _ => hx _ _ (fun q => n (q ▸ hW)) e) c.zw).zk zm
  exact ⟨⟨core, vars, hR.frs⟩, ⟨zm, fun _ _ e => e, fun a ρ e n => by
    obtain ⟨_, o, ho⟩ := c.dj a ρ e
    rw [ho, hx _ _ (nw e n) ho], fun _ e => e⟩⟩

theorem lam_made (hw : Wd w h₀ mg mb) (T : Tb h₀ mg) (ht : tabCx Γ) {sc : Scope} {body : Expr} {lpos : Pos} {A : Around} {env : Env} {l : List Env} {hE : Heap} {Z₀ Z : ZM} {W : WM} {s : Shared} {Q : Value → Shared → Prop} {E : Value → Shared → Prop} (hO : EnvOk Γ env)
    (hR : Rel w h₀ Γ env l hE Z₀ Z W st s.heap) (hfree : ∀ y ∈ sc.names, y.2 = .free → y.1 ∈ Γ.cells)
    (hQ : ∀ f pm cv ctv h' tk Z', Rel w h₀ Γ env l hE Z₀ Z' W st h' → LeE Z W s.heap Z' W h' → h'.get? f = some (lamObj body sc (clFrom env sc.names []) pm cv ctv) → h'.CodeRec cv lamQual → Q (.ref f) { s with heap := h', toks := tk }) :
    wpAny (model pg w) A (eval (.Lambda noArgs body sc lpos) env) Q E s := by
  have c := hR.core
  have hcl := closureFor_is (scope := sc) (env := env) fun p hp hk => by
    obtain ⟨c, q, _⟩ := hR.vars.cel _ (hfree p hp hk)
    exact ⟨c, q⟩
  obtain ⟨hcode, hqual⟩ := hO.top ht
  obtain ⟨bm, ob, b1, b2, b3, b4, b5, b6⟩ := T.B
  have hB : s.heap.BuiltinsAt mg tabA := ⟨bm, ob, b1, b2, b3, b4, c.stay _ _ b5, b6⟩
  obtain ⟨ps, hps, htr, hcz⟩ := c.tab (hR.frs.2 ht)
  have hlq : env.qual ++ "<lambda>" = lamQual := by rw [hqual]; decide +kernel
  refine kla_eval rfl ?_
  rw [hlq]
  cases hca : codeAmong lpos ps.toList with
  | some cv =>
    refine kla_makeFunctionHit hcl hO.glob (hw.g.keeps c.stay) hcode (T.C.keeps c.stay) hps htr hca hB fun ctv h' tk hk hs => ?_
    have hR₁ := hR.keeps hk
    have hL₁ := LeE.keeps c hk
    obtain ⟨hR₂, hL₂⟩ := hR₁.alloc (lamObj body sc (clFrom env sc.names []) ((mg "__name__").getD .none) cv ctv) rfl
    refine hQ h'.objs.size _ cv ctv _ tk _ hR₂ (hL₁.trans hL₂) (Heap.get?_push_size _ rfl) ?_
    obtain ⟨cc, o, vs, t, q1, q2, q3, q4⟩ := hcz _ _ hca
    exact ⟨cc, o, vs, t, q1, hR₂.core.zin _ _ (hL₂.z _ _ q2), q3, q4⟩
  | none =>
    refine kla_makeFunction hcl hO.glob (hw.g.keeps c.stay) hcode (T.C.keeps c.stay) hps htr hca (by decide) hB fun c' ctv h' tk hx hge hlt hrec htb => ?_
    obtain ⟨cc, oc, vs, t, q1, q2, q3, q4⟩ := id hrec
    cases q1
    have htab : TabI (upd Z c' (some oc)) h' := by
      refine ⟨_, htb, ?_, fun pos cv e => ?_⟩
      · have := TriplesOk_snoc lpos.line lpos.col (.ref c') ps.toList htr
        simpa using this
      · have zm : ∀ a o, Z a = some o → upd Z c' (some oc) a = some o := fun a o z => by rw [upd_ne (by intro q; rw [q, (hR.dom hge).1] at z; cases z)]; exact z
        have key : ∀ (l : List Value), TriplesOk l → ∀ x, codeAmong pos (l ++ [rawInt lpos.line, rawInt lpos.col, .ref c']) = some x → codeAmong pos l = some x ∨ x = .ref c' := by
          intro l hl
          fun_induction TriplesOk l with
          | case1 =>
            intro x hx
            simp only [List.nil_append, codeAmong, rawInt] at hx
            split at hx
            · cases hx; exact .inr rfl
            · cases hx
          | case2 a' t' b' u' x' rest ih =>
            intro x hx
            simp only [List.cons_append, codeAmong] at hx ⊢
            split at hx
            · rename_i q; rw [if_pos q]; exact .inl hx
            · rename_i q; rw [if_neg q]; exact ih hl x hx
          | case3 l h1 h2 => exact hl.elim
        rcases key ps.toList htr cv (by simpa using e) with q | q
        · obtain ⟨cc, o, vs', t', p1, p2, p3⟩ := hcz pos cv q
          exact ⟨cc, o, vs', t', p1, zm _ _ p2, p3⟩
        · exact ⟨c', oc, vs, t, q, upd_same _ _ _, q3, q4⟩
    obtain ⟨hR₁, hL₁⟩ := hR.tabStep ht (fun b o n e => hx b o n e) (Nat.le_of_lt (Nat.lt_of_le_of_lt hge hlt)) hge q2 htab
    obtain ⟨hR₂, hL₂⟩ := hR₁.alloc (lamObj body sc (clFrom env sc.names []) ((mg "__name__").getD .none) (.ref c') ctv) rfl
    exact hQ h'.objs.size _ (.ref c') ctv _ tk _ hR₂ (hL₁.trans hL₂) (Heap.get?_push_size _ rfl) ⟨c', oc, vs, t, rfl, Heap.get?_push_of_some _ q2, q3, q4⟩

/-- an expression that may catch -/
def WK (w : World) (h₀ : Heap) (Γ : Cx) (st : St) (e : Expr) (Φ : V → St → Prop) : Prop :=
  ∀ (A : Around) (env : Env) (l : List Env) (hE : Heap) (Z₀ Z : ZM) (W : WM) (s : Shared) (Q : Value → Shared → Prop) (E : Value → Shared → Prop),
    AOk Γ.rank A → A.frames = some l → EnvOk Γ env → Rel w h₀ Γ env l hE Z₀ Z W st s.heap →
    (∀ v U st' Z' W' h' tk, Φ U st' → Rel w h₀ Γ env l hE Z₀ Z' W' st' h' → Le Z W s.heap Z' W' h' → SRel w Z' W' h' none v U → Q v { s with heap := h', toks := tk }) →
    wpAny (model pg w) A (eval e env) Q E s

theorem WK.kept (hw : Wd w h₀ mg mb) (T : Tb h₀ mg) {Γl : Cx} {sc : Scope} (hB : LamOk Γ Γl sc) (ht : tabCx Γ) (hg : (Str.ofString "_law_kept") ∈ Γ.globs) (hrk : Γl.rank + 4 ≤ Γ.rank) (h50 : Γl.rank < 40) {capmu : List (Str × V)} (hcn : capmu.map (·.1) = Γl.frees) (hcaps : Caps st.mu capmu)
    {body : Expr} {lpos p pos : Pos} {Φ : V → St → Prop}
    (hbody : WE w h₀ Γl ⟨capmu, st.row⟩ body (fun U st₁ => ∃ d, U = .d d ∧ Φ (.d d) ⟨st.mu, st₁.row⟩) (fun m r => Φ (.d (.str m)) ⟨st.mu, r⟩)) :
    WK w h₀ Γ st (.Call (.Name "_law_kept" p) [.Lambda noArgs body sc lpos] [] pos) Φ := by
  intro A env l hE Z₀ Z W s Q E hA hl hO hR hQ
  refine wpAny_Call_ofName (eval_gl hw hO hR.core hg (v := .ref 298) (hw.glob (by k_is)) ?_)
  refine callWith_K (hw.XK hR.core) (by k_is) ?_ (by rfl) (by rfl)
  refine wpAny_items_cons (lam_made hw T ht hO hR hB.free fun f pm cv ctv h' tk Z' hR' hL' hf hcv => ?_) (by rfl)
  refine wpAny_items_nil ⟨hw.XK hR'.core, ?_⟩
  refine kept_run hw hB ht hrk h50 hcn hcaps hbody (s := { s with heap := h', toks := tk }) hA hl hO hR' hf hcv ?_
  intro v U st' Z₂ W₂ h₂ tk₂ hΦ hR₂ hL₂ hv
  exact hQ v U st' Z₂ W₂ h₂ tk₂ hΦ hR₂ (hL'.le.trans hL₂) hv

variable {Ψ : Str → List Int → Prop}
theorem cmpK {A : Around} {env : Env} {l : List Env} {hE : Heap} {Z₀ Z : ZM} {W : WM} {s : Shared} {Q : Bool → Shared → Prop} {E : Value → Shared → Prop} {op : CmpOp} {a b : Expr} {pos : Pos} {Φ : Bool → St → Prop}
    (h : WK w h₀ Γ st a (fun U st₁ => ∃ x, U = .d x ∧ WE w h₀ Γ st₁ b (fun U' st₂ => ∃ y c, U' = .d y ∧ CmpR op x y c ∧ Φ c st₂) Ψ)) (hm : behindInMarks op b = false)
    (hA : AOk Γ.rank A) (hl : A.frames = some l) (hO : EnvOk Γ env) (hR : Rel w h₀ Γ env l hE Z₀ Z W st s.heap)
    (hQ : ∀ c st' Z' W' h' tk, Φ c st' → Rel w h₀ Γ env l hE Z₀ Z' W' st' h' → Le Z W s.heap Z' W' h' → Q c { s with heap := h', toks := tk })
    (hX : ∀ e' msg r h' tk, Ψ msg r → Exc l hE W env.locals msg r e' h' → E e' { s with heap := h', toks := tk }) : wpAny (model pg w) A (isTrue (.Compare a [op] [b] pos) env (eval (.Compare a [op] [b] pos) env)) Q E s := by
  refine wpAny_isTrue_Compare1 (h A env l hE Z₀ Z W s _ E hA hl hO hR ?_) hm
  rintro v U st₁ Z₁ W₁ h₁ tk₁ ⟨x, rfl, h2⟩ hR₁ hL₁ hv
  refine h2 A env l hE Z₀ Z₁ W₁ _ _ E hA hl hO hR₁ ?_ (fun e' msg r h' tk p q => hX e' msg r h' tk p (q.le hL₁))
  rintro v' U' st₂ Z₂ W₂ h₂ tk₂ ⟨y, z, rfl, hb, hΦ⟩ hR₂ hL₂ hv'
  exact hb.run (FD.mono hL₂.z hv) hv' hA hR₂.core.zin (wpAny_truthy_bool (hQ _ st₂ Z₂ W₂ h₂ tk₂ hΦ hR₂ (hL₁.trans hL₂.le)))

theorem WX.ifKept {op : CmpOp} {a b : Expr} {body orelse : List Stmt} {pos pos' : Pos} {Φ : Fl → St → Prop}
    (h : WK w h₀ Γ st a (fun U st₁ => ∃ x, U = .d x ∧ WE w h₀ Γ st₁ b (fun U' st₂ => ∃ y c, U' = .d y ∧ CmpR op x y c ∧ if c then WS w h₀ Γ st₂ body Φ Ψ else WS w h₀ Γ st₂ orelse Φ Ψ) Ψ)) (hm : behindInMarks op b = false) :
    WX w h₀ Γ st (.If (.Compare a [op] [b] pos) body orelse pos') Φ Ψ := by
  intro A env l hE Z₀ Z W s Q E hA hl hO hR hQ hX
  refine wpAny_If (cmpK (Φ := fun c st₂ => if c then WS w h₀ Γ st₂ body Φ Ψ else WS w h₀ Γ st₂ orelse Φ Ψ) h hm hA hl hO hR ?_ hX)
  intro c st₁ Z₁ W₁ h₁ tk₁ h2 hR₁ hL₁
  cases c with
  | true => exact h2 A env l hE Z₀ Z₁ W₁ _ _ E hA hl hO hR₁ (fun f F st₂ Z₂ W₂ h₂ tk₂ p r le fr => hQ f F st₂ Z₂ W₂ h₂ tk₂ p r (hL₁.trans le) fr) (fun e' msg r h' tk p q => hX e' msg r h' tk p (q.le hL₁))
  | false => exact h2 A env l hE Z₀ Z₁ W₁ _ _ E hA hl hO hR₁ (fun f F st₂ Z₂ W₂ h₂ tk₂ p r le fr => hQ f F st₂ Z₂ W₂ h₂ tk₂ p r (hL₁.trans le) fr) (fun e' msg r h' tk p q => hX e' msg r h' tk p (q.le hL₁))

theorem WX.ifAndKept {t : Expr} {op : CmpOp} {a b : Expr} {body orelse : List Stmt} {pos pos2 pos' : Pos} {Φ : Fl → St → Prop}
    (h : WT w h₀ Γ st t (fun c st₁ => if c then WK w h₀ Γ st₁ a (fun U st₁ => ∃ x, U = .d x ∧ WE w h₀ Γ st₁ b (fun U' st₂ => ∃ y c, U' = .d y ∧ CmpR op x y c ∧ if c then WS w h₀ Γ st₂ body Φ Ψ else WS w h₀ Γ st₂ orelse Φ Ψ) Ψ) else WS w h₀ Γ st₁ orelse Φ Ψ) Ψ) (hm : behindInMarks op b = false) :
    WX w h₀ Γ st (.If (.BoolOp .And [t, .Compare a [op] [b] pos] pos2) body orelse pos') Φ Ψ := by
  intro A env l hE Z₀ Z W s Q E hA hl hO hR hQ hX
  refine wpAny_If (wpAny_isTrue_BoolOp (wpAny_allTrue_And_cons (h A env l hE Z₀ Z W s _ E hA hl hO hR ?_ hX)))
  intro c st₁ Z₁ W₁ h₁ tk₁ h2 hR₁ hL₁
  cases c with
  | false => exact h2 A env l hE Z₀ Z₁ W₁ _ _ E hA hl hO hR₁ (fun f F st₂ Z₂ W₂ h₂ tk₂ p r le fr => hQ f F st₂ Z₂ W₂ h₂ tk₂ p r (hL₁.le.trans le) fr) (fun e' msg r h' tk p q => hX e' msg r h' tk p (q.leE hL₁))
  | true =>
    refine wpAny_allTrue_And_cons (cmpK (s := { s with heap := h₁, toks := tk₁ }) (Φ := fun c st₂ => if c then WS w h₀ Γ st₂ body Φ Ψ else WS w h₀ Γ st₂ orelse Φ Ψ) h2 hm hA hl hO hR₁ ?_ (fun e' msg r h' tk p q => hX e' msg r h' tk p (q.leE hL₁)))
    intro c st₂ Z₂ W₂ h₂ tk₂ h3 hR₂ hL₂
    have hL := hL₁.le.trans hL₂
    cases c with
    | true =>
      refine wpAny_allTrue_And_nil ?_
      exact h3 A env l hE Z₀ Z₂ W₂ _ _ E hA hl hO hR₂ (fun f F st₃ Z₃ W₃ h₃ tk₃ p r le fr => hQ f F st₃ Z₃ W₃ h₃ tk₃ p r (hL.trans le) fr) (fun e' msg r h' tk p q => hX e' msg r h' tk p (q.le hL))
    | false =>
      exact h3 A env l hE Z₀ Z₂ W₂ _ _ E hA hl hO hR₂ (fun f F st₃ Z₃ W₃ h₃ tk₃ p r le fr => hQ f F st₃ Z₃ W₃ h₃ tk₃ p r (hL.trans le) fr) (fun e' msg r h' tk p q => hX e' msg r h' tk p (q.le hL))

/-- a comprehension into a cell's name -/
theorem WX.assignCompC {y x : Str} {py px : Pos} {ifs : List Expr} {elt iter : Expr} {scope : Scope} {pos spos : Pos} {Φ : Fl → St → Prop} (hy : y ∈ Γ.cells)
    (h : WE w h₀ Γ st (.ListComp elt [⟨.Name x px, iter, ifs, 0⟩] scope pos) (fun U st' => ∃ mu', SetV st'.mu y U mu' ∧ Φ .next ⟨mu', st'.row⟩) Ψ) :
    WX w h₀ Γ st (.Assign [.Name y py] (.ListComp elt [⟨.Name x px, iter, ifs, 0⟩] scope pos) spos) Φ Ψ := by
  intro A env l hE Z₀ Z W s Q E hA hl hO hR hQ hX
  have hs : swapsWith (.ListComp elt [⟨.Name x px, iter, ifs, 0⟩] scope pos) (some (.Name y py)) spos.line env = pure false := by
    unfold swapsWith
    have hk := hO.cells y hy
    have hn : (NameKind.cell == NameKind.local) = false := by decide
    simp [hk, hn]
  refine wpAny_Assign_Name (h A env l hE Z₀ Z W s _ E hA hl hO hR ?_ hX) hs
  rintro v U st₁ Z₁ W₁ h₁ tk₁ ⟨mu', hS, hΦ⟩ hR₁ hL₁ hv
  exact store_name hO hR₁ hS (.inr hy) hv fun h' tk hR' hL' => hQ .next .next _ _ _ _ _ hΦ hR' (hL₁.le.trans hL') trivial

end
end Mine
namespace Mine
section
variable {w : World} {h₀ : Heap} {mg mb : Str → Option Value} {Γ : Cx} {st : St}
/-- the frame's own list of ints becomes the row -/
theorem Rel.toRow {env : Env} {l : List Env} {hE h : Heap} {Z₀ Z : ZM} {W : WM} (hO : EnvOk Γ env) (hR : Rel w h₀ Γ env l hE Z₀ Z W st h) (ht : tabCx Γ) (hnr : ∀ a, W a = some .row → a = tabA) {x : Str} {rs : List Int} {mu' : List (Str × V)}
    (hm : At st.mu x (.ol (rs.map .int))) (hS : SetV st.mu x .row mu') : ∃ W', Rel w h₀ Γ env l hE Z₀ Z W' ⟨mu', rs⟩ h := by
  obtain ⟨mx, vx, hmx, hhx, a, vs, n, rfl, ha, hla, hfd⟩ := hR.vars.hold hm (by nofun)
  obtain ⟨c, ⟨hn, hf, ⟨m, hmm, hvs⟩, hc⟩, hfr⟩ := hR
  have hWt := hfr.2 ht
  have nd : (st.mu.map (·.1)).Nodup := by rw [hn]; exact hO.nodup
  have hat : a ≠ tabA := by rintro rfl; rw [hWt] at ha; cases ha
  have wne : ∀ {b ρ}, W b = some ρ → ρ ≠ .own (some x) → upd W a (some .row) b = some ρ := fun {b ρ} e n => by
    rw [upd_ne (by rintro rfl; rw [ha] at e; cases e; exact n rfl)]; exact e
  have of_ : ∀ {b ρ}, upd W a (some .row) b = some ρ → (b = a ∧ ρ = .row) ∨ (b ≠ a ∧ W b = some ρ) := fun {b ρ} e => by
    by_cases hb : b = a
    · subst hb; rw [upd_same] at e; cases e; exact .inl ⟨rfl, rfl⟩
    · rw [upd_ne hb] at e; exact .inr ⟨hb, e⟩
  have rowa : ∀ b, upd W a (some .row) b = some .row → b ≠ tabA → b = a := fun b e n => by
    rcases of_ e with ⟨q, _⟩ | ⟨_, q⟩
    · exact q
    · exact absurd (hnr b q) n
  have core : Core h₀ hE Z₀ Z (upd W a (some .row)) rs h := {
    base := c.base
    zE := c.zE
    z0 := c.z0
    zin := c.zin
    zf := c.zf
    dj := fun b ρ e => by
      rcases of_ e with ⟨rfl, _⟩ | ⟨_, e⟩
      · exact c.dj _ _ ha
      · exact c.dj b ρ e
    wf := fun b ρ e n => by
      rcases of_ e with ⟨rfl, q⟩ | ⟨_, e⟩
      · exact absurd q n
      · exact c.wf b ρ e n
    wfr := fun b e => by
      rcases of_ e with ⟨_, q⟩ | ⟨_, e⟩
      · cases q
      · exact c.wfr b e
    wf0 := fun b ρ e n => by
      rcases of_ e with ⟨rfl, q⟩ | ⟨_, e⟩
      · exact absurd q n
      · exact c.wf0 b ρ e n
    h0 := c.h0
    kept := fun b o e hw => c.kept b o e fun q => hw (wne q nofun)
    grow := c.grow
    row := fun b e hnb => by
      rw [rowa b e hnb]
      exact ⟨vs, n, hla, FDs.toInts hfd⟩
    row1 := fun b b' e e' hb hb' => (rowa b e hb).trans (rowa b' e' hb').symm
    tab := fun _ => c.tab hWt }
  have hh : ∀ {y v}, Holds env Z W h m y v → Holds env Z (upd W a (some .row)) h m y v := fun {y v} q => by
    rcases q with q | ⟨q1, c, q2, q3, q4⟩
    · exact .inl q
    · exact .inr ⟨q1, c, q2, q3, q4.imp (fun e => wne e (by nofun)) id⟩
  refine ⟨upd W a (some .row), core, ⟨hS.names.trans hn, wne hf (by nofun), ⟨m, hmm, fun p hp => ?_⟩, fun y hy => ?_⟩, ⟨fun fe hfe => ?_, fun t => wne (hfr.2 t) (by nofun)⟩⟩
  · rcases hS.cases nd p hp with rfl | ⟨hne, hp'⟩
    · rw [ns_unique hmx hmm] at hhx
      exact .inr ⟨_, hh hhx, a, rfl, upd_same _ _ _, hat⟩
    · rcases hvs p hp' with e | ⟨v, q, r⟩
      · exact .inl e
      · refine .inr ⟨v, hh q, ?_⟩
        generalize p.2 = U9 at r ⊢
        have lab : ∀ {b}, W b = some (.own (some p.1)) → upd W a (some .row) b = some (.own (some p.1)) := fun {b} e => wne e (by intro q; cases q; exact hne rfl)
        cases U9 with
        | row => obtain ⟨b, e1, e2, e3⟩ := r; exact ⟨b, e1, wne e2 (by nofun), e3⟩
        | ol xs => obtain ⟨b, vs, n, e1, e2, e3, e4⟩ := r; exact ⟨b, vs, n, e1, lab e2, e3, e4⟩
        | sd kvs => obtain ⟨b, ws, e1, e2, r'⟩ := r; exact ⟨b, ws, e1, lab e2, r'⟩
        | it ks => obtain ⟨b, ws, e1, e2, r'⟩ := r; exact ⟨b, ws, e1, lab e2, r'⟩
        | _ => exact r
  · obtain ⟨c', e1, e2, r⟩ := hc y hy
    exact ⟨c', e1, wne e2 (by nofun), r⟩
  · obtain ⟨k, b, e, q⟩ := hfr.1 fe hfe
    exact ⟨k, b, e, q.imp id fun ⟨o, q1, q2, q3, q4⟩ => absurd hWt q4⟩
end
end Mine
namespace Mine
def Res.data : Res → PyData
  | .ok d => d
  | .err m => .str m

/-! ## truths -/
theorem logical_same (xs : List (Option Int)) (n : Nat) (h : ∀ x ∈ xs, x = none ∨ x = some 0 ∨ x = some 1) : logicalPlaces xs n = dueLogical xs n := by
  unfold logicalPlaces dueLogical
  by_cases hx : xs = []
  · rw [if_pos hx, if_pos hx]; rfl
  · rw [if_neg hx, if_neg hx]
    have : lgStep xs = dlAt xs := by
      funext i
      unfold lgStep dlAt
      cases hi : xs[i % xs.length]? with
      | none => rfl
      | some x =>
        cases x with
        | none => rfl
        | some k =>
          rcases h _ (List.mem_of_getElem? hi) with q | q | q
          · cases q
          · cases q; rfl
          · cases q; rfl
    rw [this]

/-! ## numbers -/
theorem cut_same (q : Option (Int × Int)) (h : qOk q) : toWhole q = lawCut q := by
  cases q with
  | none => rfl
  | some q =>
    obtain ⟨a, b⟩ := q
    obtain ⟨h1, h2, h3, h4⟩ := h
    unfold toWhole lawCut
    dsimp only
    by_cases hb : b = 0
    · subst hb; simp
    · have hb' : b > 0 := by omega
      rw [if_pos hb', if_neg hb]
      by_cases ha : a ≥ 0
      · rw [if_pos ha, if_pos ha, if_neg (by omega)]
      · rw [if_neg ha, if_neg ha, if_pos (by omega)]
        congr 1
        omega
theorem wsub_same (qs : List (Option (Int × Int))) (h : ∀ q ∈ qs, qOk q) : wsub qs = qs.map lawCut := by
  unfold wsub
  exact List.map_congr_left fun q hq => cut_same q (h q hq)
theorem mem_outFold : ∀ (xs : List (Option Int)) (ks : List Int) (k : Int), k ∈ xs.foldl outStep ks ↔ k ∈ ks ∨ ∃ i, some i ∈ xs ∧ i < 0 ∧ k = -i - 1
  | [], ks, k => by simp
  | x :: r, ks, k => by
    rw [List.foldl_cons, mem_outFold r]
    have step : k ∈ outStep ks x ↔ k ∈ ks ∨ ∃ i, x = some i ∧ i < 0 ∧ k = -i - 1 := by
      cases x with
      | none => simp [outStep]
      | some i =>
        unfold outStep
        dsimp only
        by_cases h1 : i > 0
        · rw [if_pos h1]
          constructor
          · exact .inl
          · rintro (h | ⟨j, e, hj, _⟩)
            · exact h
            · cases e; omega
        · rw [if_neg h1]
          by_cases h2 : i < 0
          · rw [if_pos h2]
            by_cases h3 : -i - 1 ∈ ks
            · rw [if_pos h3]
              constructor
              · exact .inl
              · rintro (h | ⟨j, e, hj, rfl⟩)
                · exact h
                · cases e; exact h3
            · rw [if_neg h3, List.mem_append, List.mem_singleton]
              constructor
              · rintro (h | h)
                · exact .inl h
                · exact .inr ⟨i, rfl, h2, h⟩
              · rintro (h | ⟨j, e, hj, h⟩)
                · exact .inl h
                · cases e; exact .inr h
          · rw [if_neg h2]
            constructor
            · exact .inl
            · rintro (h | ⟨j, e, hj, _⟩)
              · exact h
              · cases e; exact absurd hj h2
    rw [step]
    constructor
    · rintro ((h | ⟨i, rfl, h⟩) | ⟨i, h1, h2⟩)
      · exact .inl h
      · exact .inr ⟨i, .head _, h⟩
      · exact .inr ⟨i, .tail _ h1, h2⟩
    · rintro (h | ⟨i, h1, h2⟩)
      · exact .inl (.inl h)
      · rcases List.mem_cons.mp h1 with e | h1
        · exact .inl (.inr ⟨i, e.symm, h2⟩)
        · exact .inr ⟨i, h1, h2⟩
theorem mem_outKeys (xs : List (Option Int)) (k : Int) : k ∈ outKeys xs ↔ ∃ i, some i ∈ xs ∧ i < 0 ∧ k = -i - 1 := by
  unfold outKeys; rw [mem_outFold]; simp
theorem below_iff (xs : List (Option Int)) : (outKeys xs).length = 0 ↔ xs.filter isBelow = [] := by
  rw [List.length_eq_zero_iff, List.filter_eq_nil_iff]
  constructor
  · intro h x hx hb
    cases x with
    | none => cases hb
    | some i =>
      have hi : i < 0 := by simpa [isBelow] using hb
      have : -i - 1 ∈ outKeys xs := (mem_outKeys xs _).mpr ⟨i, hx, hi, rfl⟩
      rw [h] at this; cases this
  · intro h
    apply List.eq_nil_iff_forall_not_mem.mpr
    intro k hk
    obtain ⟨i, h1, h2, _⟩ := (mem_outKeys xs k).mp hk
    exact h _ h1 (by simpa [isBelow] using h2)
theorem places_same : ∀ (xs : List (Option Int)), xs.filter isBelow = [] → xs.flatMap posOf = (xs.filter notZero).map decO
  | [], _ => rfl
  | x :: r, h => by
    rw [List.filter_cons] at h
    cases x with
    | none =>
      have ih := places_same r (by simpa [isBelow] using h)
      rw [List.flatMap_cons, ih]; rfl
    | some i =>
      have hi : ¬ i < 0 := by
        intro q
        rw [if_pos (by simpa [isBelow] using q)] at h
        cases h
      have ih := places_same r (by
        rw [if_neg (by simpa [isBelow] using hi)] at h; exact h)
      rw [List.flatMap_cons, ih, List.filter_cons]
      by_cases h0 : i = 0
      · subst h0; simp [posOf, notZero]
      · have : i > 0 := by omega
        simp [posOf, notZero, decO, this, h0]
theorem lacks_iff (xs : List (Option Int)) : lacksB xs = true ↔ none ∈ xs := by
  unfold lacksB
  rw [List.any_eq_true]
  constructor
  · rintro ⟨x, hx, h⟩
    cases x with
    | none => exact hx
    | some i => cases h
  · intro h; exact ⟨none, h, rfl⟩
theorem pos_iff (xs : List (Option Int)) (hn : none ∉ xs) : (xs.flatMap posOf).length > 0 ↔ xs.any isPos = true := by
  rw [List.any_eq_true]
  constructor
  · intro h
    obtain ⟨y, hy⟩ := List.exists_mem_of_length_pos h
    obtain ⟨x, hx, hxy⟩ := List.mem_flatMap.mp hy
    cases x with
    | none => exact absurd hx hn
    | some i =>
      refine ⟨_, hx, ?_⟩
      unfold posOf at hxy
      dsimp only at hxy
      split at hxy
      · simpa [isPos]
      · cases hxy
  · rintro ⟨x, hx, h⟩
    cases x with
    | none => cases h
    | some i =>
      have hi : i > 0 := by simpa [isPos] using h
      exact List.length_pos_of_mem (List.mem_flatMap.mpr ⟨_, hx, by unfold posOf; dsimp only; rw [if_pos hi]; exact .head _⟩)
theorem num_same (xs : List (Option Int)) (n : Nat) : (wholePlaces xs n).wrap.data = dueNum xs n := by
  unfold wholePlaces dueNum
  by_cases hb : xs.filter isBelow = []
  · rw [if_pos ((below_iff xs).mpr hb), if_pos hb, places_same xs hb]; rfl
  · rw [if_neg (fun q => hb ((below_iff xs).mp q)), if_neg hb]
    by_cases hn : none ∈ xs
    · rw [if_pos ((lacks_iff xs).mpr hn), if_pos hn]; rfl
    · rw [if_neg (fun q => hn ((lacks_iff xs).mp q)), if_neg hn]
      by_cases hp : xs.any isPos = true
      · rw [if_pos ((pos_iff xs hn).mpr hp), if_pos hp]; rfl
      · rw [if_neg (fun q => hp ((pos_iff xs hn).mp q)), if_neg hp]
        have : (fun k : Nat => !decide ((k : Int) ∈ outKeys xs)) = fun k : Nat => !decide (some (-(k : Int) - 1) ∈ xs) := by
          funext k
          congr 1
          rw [Bool.eq_iff_iff]
          simp only [decide_eq_true_eq]
          rw [mem_outKeys]
          constructor
          · rintro ⟨i, h1, h2, h3⟩
            have : -(k : Int) - 1 = i := by omega
            rw [this]; exact h1
          · intro h; exact ⟨_, h, by omega, by omega⟩
        rw [this]; rfl

/-! ## names -/
theorem sdGet_append (T : List (Str × Int)) (t s : Str) (k : Int) : sdGet (T ++ [(t, k)]) s = match sdGet T s with
    | some j => some j
    | none => if t = s then some k else none := by
  unfold sdGet
  rw [List.find?_append]
  cases h : T.find? (fun p => decide (p.1 = s)) with
  | some p => simp
  | none =>
    by_cases e : t = s
    · simp [e]
    · simp [e]
theorem findIdx_snoc (xs : List (Option Str)) (x y : Option Str) : (xs ++ [x]).findIdx (fun z => decide (z = y)) = if y ∈ xs then xs.findIdx (fun z => decide (z = y)) else if x = y then xs.length else xs.length + 1 := by
  rw [List.findIdx_append]
  by_cases h : y ∈ xs
  · rw [if_pos h, if_pos]
    exact List.findIdx_lt_length_of_exists ⟨y, h, by simp⟩
  · rw [if_neg h, if_neg]
    · by_cases e : x = y
      · simp [e]
      · simp [e, List.findIdx_cons]; omega
    · intro q
      have hq := List.findIdx_getElem (w := q)
      have : xs[xs.findIdx fun z => decide (z = y)] = y := by simpa using hq
      exact h (by have hm := List.getElem_mem q; rw [this] at hm; exact hm)
theorem fp_get (ns : List (Option Str)) (s : Str) : ∀ k, k ≤ ns.length → sdGet ((List.range k).foldl (fpAt ns) []) s = if s = "" then none else if some s ∈ ns.take k then some (((ns.take k).findIdx (fun z => decide (z = some s)) : Nat) : Int) else none
  | 0, _ => by simp [sdGet]
  | k + 1, h => by
    have ih := fp_get ns s k (by omega)
    have hk : k < ns.length := by omega
    rw [List.range_succ, List.foldl_append, List.foldl_cons, List.foldl_nil, List.take_succ_eq_append_getElem hk]
    have hlen : (ns.take k).length = k := by rw [List.length_take]; omega
    have hit : ns[k]? = some ns[k] := List.getElem?_eq_getElem hk
    generalize hT : (List.range k).foldl (fpAt ns) [] = T at ih ⊢
    generalize hx : ns[k] = x at hit ⊢
    have hmem : some s ∈ ns.take k ++ [x] ↔ some s ∈ ns.take k ∨ x = some s := by
      rw [List.mem_append, List.mem_singleton]; exact or_congr Iff.rfl eq_comm
    have hT' : ∀ t, sdGet T t = if t = "" then none else if some t ∈ ns.take k then some (((ns.take k).findIdx (fun z => decide (z = some t)) : Nat) : Int) else none := fun t => by rw [← hT]; exact fp_get ns t k (by omega)
    rw [findIdx_snoc, hlen]
    cases x with
    | none =>
      have e : fpAt ns T k = T := by rw [fpAt, hit]
      rw [e, ih]
      have : (some s ∈ ns.take k ++ [none]) ↔ some s ∈ ns.take k := by rw [hmem]; simp
      by_cases h1 : s = ""
      · rw [if_pos h1, if_pos h1]
      · rw [if_neg h1, if_neg h1]
        by_cases h2 : some s ∈ ns.take k
        · rw [if_pos h2, if_pos (this.mpr h2), if_pos h2]
        · rw [if_neg h2, if_neg (fun q => h2 (this.mp q))]
    | some t =>
      rw [fpAt_some hit]
      by_cases h0 : t = ""
      · rw [if_pos h0, ih]
        by_cases h1 : s = ""
        · rw [if_pos h1, if_pos h1]
        · have hts : some t ≠ some s := fun q => h1 (by cases q; exact h0)
          rw [if_neg h1, if_neg h1]
          by_cases h2 : some s ∈ ns.take k
          · rw [if_pos h2, if_pos (hmem.mpr (.inl h2)), if_pos h2]
          · rw [if_neg h2, if_neg (fun q => (hmem.mp q).elim h2 hts)]
      · rw [if_neg h0]
        by_cases h3 : (sdGet T t).isSome = true
        · rw [if_pos h3, ih]
          by_cases h1 : s = ""
          · rw [if_pos h1, if_pos h1]
          · rw [if_neg h1, if_neg h1]
            have hin : some t ∈ ns.take k := by
              rw [hT' t, if_neg h0] at h3
              by_cases q : some t ∈ ns.take k
              · exact q
              · rw [if_neg q] at h3; cases h3
            by_cases h2 : some s ∈ ns.take k
            · rw [if_pos h2, if_pos (hmem.mpr (.inl h2)), if_pos h2]
            · rw [if_neg h2, if_neg (fun q => (hmem.mp q).elim h2 fun e => h2 (e ▸ hin))]
        · rw [if_neg h3, sdGet_append, ih]
          have hnin : some t ∉ ns.take k := fun q => h3 (by rw [hT' t, if_neg h0, if_pos q]; rfl)
          by_cases h1 : s = ""
          · rw [if_pos h1, if_pos h1]
            dsimp only
            rw [if_neg (fun q => h0 (q.trans h1))]
          · rw [if_neg h1, if_neg h1]
            by_cases h2 : some s ∈ ns.take k
            · rw [if_pos h2, if_pos (hmem.mpr (.inl h2)), if_pos h2]
            · rw [if_neg h2]
              dsimp only
              by_cases h4 : t = s
              · rw [if_pos h4, if_pos (hmem.mpr (.inr (by rw [h4]))), if_neg h2, if_pos (by rw [h4])]
              · rw [if_neg h4, if_neg (fun q => (hmem.mp q).elim h2 fun e => h4 (by cases e; rfl))]
theorem first_get (names : Option (List (Option Str))) (s : Str) : sdGet (firstPlaces names) s = if (goodB (some s) && inNames (some s) names) = true then some (idxIn (some s) (names.getD [])) else none := by
  cases names with
  | none => simp [firstPlaces, sdGet, inNames]
  | some ns =>
    unfold firstPlaces
    rw [fp_get ns s ns.length (Nat.le_refl _), List.take_length]
    by_cases h1 : s = ""
    · rw [if_pos h1, if_neg (by simp [goodB, h1])]
    · rw [if_neg h1]
      by_cases h2 : some s ∈ ns
      · rw [if_pos h2, if_pos (by simp [goodB, inNames, h1, h2])]; rfl
      · rw [if_neg h2, if_neg (by simp [inNames, h2])]

theorem char_plain (n : Nat) (names : Option (List (Option Str))) : ∀ (xs : List (Option Str)) (E : DC), (xs.foldl (dcAt n names false) E).P = E.P ++ xs.map (npAt (firstPlaces names))
  | [], E => by simp
  | x :: r, E => by
    rw [List.foldl_cons, char_plain n names r, List.map_cons]
    have : (dcAt n names false E x).P = E.P ++ [npAt (firstPlaces names) x] := by
      unfold dcAt
      cases x with
      | none => simp [goodB, npAt]
      | some s =>
        rw [npAt, first_get]
        by_cases h : (goodB (some s) && inNames (some s) names) = true
        · rw [if_pos h, if_pos h]
        · rw [if_neg h, if_neg h, if_pos rfl]
    rw [this, List.append_assoc]; rfl

structure ExR (n : Nat) (names : Option (List (Option Str))) (E : Ext) (D : DC) : Prop where
  p : D.P = E.P.map some
  a : D.Ad = E.Ad
  t : ∀ s, sdGet E.T s = if s = "" then none else if inNames (some s) names = true then some (idxIn (some s) (names.getD [])) else if some s ∈ E.Ad then some ((n : Int) + idxIn (some s) E.Ad) else none
theorem idx_snoc {xs : List (Option Str)} {y x : Option Str} (h : y ∈ xs) : idxIn y (xs ++ [x]) = idxIn y xs := by
  unfold idxIn; rw [findIdx_snoc, if_pos h]
theorem idx_new {xs : List (Option Str)} {y : Option Str} (h : y ∉ xs) : idxIn y (xs ++ [y]) = (xs.length : Int) := by
  unfold idxIn; rw [findIdx_snoc, if_neg h, if_pos rfl]
theorem ExR.step {n : Nat} {names : Option (List (Option Str))} {E : Ext} {D : DC} (R : ExR n names E D) (x : Option Str) : ExR n names (exAt n E x) (dcAt n names true D x) := by
  obtain ⟨P, Ad, T⟩ := E
  obtain ⟨P', Ad'⟩ := D
  obtain ⟨hp, ha, ht⟩ := R
  dsimp only at hp ha ht
  subst hp ha
  unfold exAt dcAt
  cases x with
  | none =>
    rw [if_neg (by simp [goodB]), if_neg (by simp), if_neg (by simp [goodB])]
    refine ⟨by simp, rfl, fun s => ?_⟩
    dsimp only
    rw [ht s]
    have hm : (some s ∈ Ad' ++ [none]) ↔ some s ∈ Ad' := by simp
    by_cases h1 : s = ""
    · rw [if_pos h1, if_pos h1]
    · rw [if_neg h1, if_neg h1]
      by_cases h2 : inNames (some s) names = true
      · rw [if_pos h2, if_pos h2]
      · rw [if_neg h2, if_neg h2]
        by_cases h3 : some s ∈ Ad'
        · rw [if_pos h3, if_pos (hm.mpr h3), idx_snoc h3]
        · rw [if_neg h3, if_neg (fun q => h3 (hm.mp q))]
  | some s =>
    dsimp only
    have hs := ht s
    by_cases h1 : s = ""
    · rw [if_pos h1] at hs
      have hg : goodB (some s) = false := by simp [goodB, h1]
      have hc : ¬ (goodB (some s) && inNames (some s) names) = true := by rw [hg]; simp
      have hd : ¬ (goodB (some s) && decide (some s ∈ Ad')) = true := by rw [hg]; simp
      rw [hs, if_neg hc, if_neg (show ¬ true = false by simp), if_neg hd]
      dsimp only
      rw [if_pos h1]
      refine ⟨by simp, rfl, fun u => ?_⟩
      dsimp only
      rw [ht u]
      by_cases h4 : u = ""
      · rw [if_pos h4, if_pos h4]
      · have hm : (some u ∈ Ad' ++ [some s]) ↔ some u ∈ Ad' := by
          rw [List.mem_append, List.mem_singleton]
          exact ⟨fun q => q.elim id fun e => absurd (by cases e; exact h1) h4, .inl⟩
        rw [if_neg h4, if_neg h4]
        by_cases h2 : inNames (some u) names = true
        · rw [if_pos h2, if_pos h2]
        · rw [if_neg h2, if_neg h2]
          by_cases h3 : some u ∈ Ad'
          · rw [if_pos h3, if_pos (hm.mpr h3), idx_snoc h3]
          · rw [if_neg h3, if_neg (fun q => h3 (hm.mp q))]
    · rw [if_neg h1] at hs
      have hg : goodB (some s) = true := by simp [goodB, h1]
      by_cases h2 : inNames (some s) names = true
      · rw [if_pos h2] at hs
        have hc : (goodB (some s) && inNames (some s) names) = true := by rw [hg, h2]; rfl
        rw [hs, if_pos hc]
        exact ⟨by simp, rfl, ht⟩
      · rw [if_neg h2] at hs
        have hc : ¬ (goodB (some s) && inNames (some s) names) = true := by rw [hg]; simpa using h2
        rw [if_neg hc, if_neg (show ¬ true = false by simp)]
        by_cases h3 : some s ∈ Ad'
        · rw [if_pos h3] at hs
          have hd : (goodB (some s) && decide (some s ∈ Ad')) = true := by rw [hg]; simpa using h3
          rw [hs, if_pos hd]
          exact ⟨by simp, rfl, ht⟩
        · rw [if_neg h3] at hs
          have hd : ¬ (goodB (some s) && decide (some s ∈ Ad')) = true := by rw [hg]; simpa using h3
          rw [hs, if_neg hd]
          dsimp only
          rw [if_neg h1]
          refine ⟨by simp, rfl, fun u => ?_⟩
          dsimp only
          rw [sdGet_append, ht u]
          by_cases h4 : u = ""
          · rw [if_pos h4, if_pos h4]
            dsimp only
            rw [if_neg (fun q => h1 (q.trans h4))]
          · rw [if_neg h4, if_neg h4]
            by_cases h5 : inNames (some u) names = true
            · rw [if_pos h5, if_pos h5]
            · rw [if_neg h5, if_neg h5]
              by_cases h6 : some u ∈ Ad'
              · rw [if_pos h6, if_pos (List.mem_append_left _ h6), idx_snoc h6]
              · rw [if_neg h6]
                dsimp only
                by_cases h7 : s = u
                · subst h7
                  rw [if_pos rfl, if_pos (List.mem_append_right _ (.head _)), idx_new h6]
                · rw [if_neg h7, if_neg]
                  rw [List.mem_append, List.mem_singleton]
                  rintro (q | q)
                  · exact h6 q
                  · cases q; exact h7 rfl
theorem ExR.fold {n : Nat} {names : Option (List (Option Str))} : ∀ (xs : List (Option Str)) {E : Ext} {D : DC}, ExR n names E D → ExR n names (xs.foldl (exAt n) E) (xs.foldl (dcAt n names true) D)
  | [], _, _, R => R
  | x :: r, _, _, R => ExR.fold r (R.step x)
theorem ext_same (xs : List (Option Str)) (n : Nat) (names : Option (List (Option Str))) : ExR n names (extPlaces xs n names) (dueChar xs n names true) := by
  refine ExR.fold xs ⟨rfl, rfl, fun s => ?_⟩
  dsimp only
  rw [first_get]
  by_cases h1 : s = ""
  · rw [if_pos h1, if_neg (by simp [goodB, h1])]
  · rw [if_neg h1]
    by_cases h2 : inNames (some s) names = true
    · rw [if_pos h2, if_pos (by simp [goodB, h1, h2])]
    · rw [if_neg h2, if_neg (by simpa using fun _ => by simpa using h2)]
      simp

theorem pos_same (o : IxV) (ho : o.Ok) (hs : ∀ x, o ≠ .sym x) (n : Nat) (names : Option (List (Option Str))) (ext : Bool) : (posRes o n names ext).data = dueD o n names ext := by
  cases o with
  | missing => rfl
  | null => rfl
  | list => rfl
  | sym x => exact absurd rfl (hs x)
  | logical xs => show PyData.tuple _ = PyData.tuple _; rw [logical_same xs n ho.2]
  | integer xs => exact num_same xs n
  | double qs => show (wholePlaces (wsub qs) n).wrap.data = dueNum (qs.map lawCut) n; rw [wsub_same qs ho.2]; exact num_same _ n
  | char xs =>
    cases ext with
    | false =>
      show PyData.tuple _ = PyData.tuple _
      have : (dueChar xs n names false).P = xs.map (npAt (firstPlaces names)) := by unfold dueChar; rw [char_plain]; rfl
      rw [this]; rfl
    | true =>
      have R := ext_same xs n names
      show PyData.tuple _ = PyData.tuple _
      rw [R.p, R.a, List.map_map]; rfl

/-! ## a single place -/
theorem name_same (item : Option Str) (names : Option (List (Option Str))) (exact : Bool) : oneName item names exact = lawNamed item names exact := by
  cases item with
  | none => cases names <;> rfl
  | some s =>
    unfold oneName
    dsimp only
    cases names with
    | none =>
      cases exact with
      | true => rfl
      | false => rfl
    | some ns =>
      have h := first_get (some ns) s
      unfold lawNamed
      dsimp only
      by_cases h1 : s = ""
      · rw [if_neg (by simp [goodB, h1])] at h
        rw [if_pos h1]
        unfold partialPlace
        rw [h]
        cases exact with
        | true => rfl
        | false => dsimp only; rw [if_pos h1]; rfl
      · rw [if_neg h1]
        by_cases h2 : some s ∈ ns
        · rw [if_pos (by simp [goodB, inNames, h1, h2])] at h
          rw [if_pos h2]
          unfold partialPlace
          rw [h]
          cases exact <;> rfl
        · rw [if_neg (by simp [inNames, h2])] at h
          rw [if_neg h2]
          unfold partialPlace
          rw [h]
          cases exact with
          | true => rfl
          | false => dsimp only; rw [if_neg h1]; rfl
theorem whole_same (c : Option Int) (n : Nat) (h : cutOne c ≠ .str "below") : (oneWhole c n).data = cutOne c := by
  cases c with
  | none => rfl
  | some c =>
    unfold cutOne oneWhole at *
    dsimp only at *
    by_cases h1 : c = 0
    · subst h1; rfl
    · rw [if_neg h1] at h ⊢
      by_cases h2 : c > 0
      · rw [if_pos h2, if_pos h2, if_neg h1]; rfl
      · rw [if_neg h2] at h; exact absurd rfl h
theorem one_same (o : IxV) (ho : o.Ok) (n : Nat) (names : Option (List (Option Str))) (exact : Bool) (h : oneD o names exact ≠ .str "below") : (oneRes o n names exact).data = oneD o names exact := by
  cases o with
  | missing => rfl
  | null => rfl
  | list => rfl
  | sym x => show PyData.int _ = PyData.int _; rw [name_same]
  | logical xs =>
    match xs, h with
    | [], _ => rfl
    | [x], h => exact whole_same x n h
    | _ :: _ :: _, _ => rfl
  | integer xs =>
    match xs, h with
    | [], _ => rfl
    | [x], h => exact whole_same x n h
    | _ :: _ :: _, _ => rfl
  | double qs =>
    match qs, h, ho with
    | [], _, _ => rfl
    | [q], h, ho => show (oneWhole (toWhole q) n).data = cutOne (lawCut q); rw [cut_same q (ho.2 q (.head _))]; exact whole_same _ n h
    | _ :: _ :: _, _, _ => rfl
  | char xs =>
    match xs with
    | [] => rfl
    | [x] => show PyData.int _ = PyData.int _; rw [name_same]
    | _ :: _ :: _ => rfl
end Mine
namespace Mine
def flatD (d : PyData) : Prop := d.canLay0 = true ∧ d.depth ≤ 1
theorem flat_map {α : Type} {f : α → PyData} {xs : List α} (h1 : ∀ x ∈ xs, (f x).canLay0 = true) (h2 : ∀ x ∈ xs, (f x).depth = 0) : flatD (.list (xs.map f)) := by
  refine ⟨by rw [PyData.canLay0]; exact lay_map h1, ?_⟩
  rw [PyData.depth, depth_map h2]; exact Nat.le_refl _
theorem shaped_pair {a b : PyData} (ha : flatD a) (hb : flatD b) : SeqAt.shaped (.tuple [a, b]) = true := by
  obtain ⟨a1, a2⟩ := ha
  obtain ⟨b1, b2⟩ := hb
  unfold SeqAt.shaped
  rw [PyData.canLay0, PyData.canLayAll0, PyData.canLayAll0, PyData.canLayAll0, a1, b1, PyData.depth, PyData.depthAll, PyData.depthAll, PyData.depthAll]
  exact decide_eq_true (by omega)
theorem flat_none : flatD .none := ⟨rfl, Nat.zero_le _⟩
theorem flat_oxs (xs : List (Option Int)) : flatD (.list (xs.map ox)) := flat_map (fun x _ => ox_lay x) fun x _ => ox_depth x
theorem flat_txs {xs : List (Option Str)} (h : ∀ x ∈ xs, TOk x) : flatD (.list (xs.map tx)) := flat_map (fun x hx => tx_lay (h x hx)) fun x _ => tx_depth x
theorem flat_ints (xs : List Nat) : flatD (.list (xs.map fun k : Nat => PyData.int (k : Int))) := flat_map (fun x _ => rfl) fun x _ => rfl
theorem shaped_dueNum (cs : List (Option Int)) (n : Nat) : SeqAt.shaped (dueNum cs n) = true := by
  unfold dueNum
  by_cases h1 : cs.filter isBelow = []
  · rw [if_pos h1]; exact shaped_pair (flat_oxs _) flat_none
  · rw [if_neg h1]
    by_cases h2 : none ∈ cs
    · rw [if_pos h2]; decide +kernel
    · rw [if_neg h2]
      by_cases h3 : cs.any isPos = true
      · rw [if_pos h3]; decide +kernel
      · rw [if_neg h3]; exact shaped_pair (flat_ints _) flat_none
theorem shaped_dueD (o : IxV) (ho : o.Ok) (n : Nat) (names : Option (List (Option Str))) (ext : Bool) : SeqAt.shaped (dueD o n names ext) = true := by
  cases o with
  | missing => exact shaped_pair (flat_ints _) flat_none
  | null => show SeqAt.shaped (.tuple [.list [], .none]) = true; decide +kernel
  | list => show SeqAt.shaped (.str "invalid subscript type 'list'") = true; decide +kernel
  | logical xs => exact shaped_pair (flat_oxs _) flat_none
  | integer xs => exact shaped_dueNum xs n
  | double qs => exact shaped_dueNum _ n
  | char xs =>
    refine shaped_pair (flat_oxs _) ?_
    cases ext with
    | false => exact flat_none
    | true =>
      refine flat_txs fun y hy => ?_
      rcases dcFold_sub n names true xs ⟨[], []⟩ hy with q | q
      · cases q
      · exact ho.2 y q
  | sym x => rfl
theorem shaped_cutOne (c : Option Int) : SeqAt.shaped (cutOne c) = true := by
  cases c with
  | none => rfl
  | some c =>
    unfold cutOne
    by_cases h : c = 0
    · simp only [h]; decide +kernel
    · by_cases h2 : c > 0
      · simp only [h, h2, if_true, if_false]; rfl
      · simp only [h, h2, if_false]; decide +kernel
theorem shaped_single {α : Type} (xs : List α) (f : α → PyData) (h : ∀ x, SeqAt.shaped (f x) = true) : SeqAt.shaped (dueSingle xs f) = true := by
  match xs with
  | [] => show SeqAt.shaped (.str "attempt to select less than one element") = true; decide +kernel
  | [x] => exact h x
  | _ :: _ :: _ => show SeqAt.shaped (.str "attempt to select more than one element") = true; decide +kernel
theorem shaped_oneD (o : IxV) (names : Option (List (Option Str))) (exact : Bool) : SeqAt.shaped (oneD o names exact) = true := by
  cases o with
  | missing => show SeqAt.shaped (.str _) = true; decide +kernel
  | null => show SeqAt.shaped (.str _) = true; decide +kernel
  | list => show SeqAt.shaped (.str _) = true; decide +kernel
  | sym x => rfl
  | logical xs => exact shaped_single xs _ shaped_cutOne
  | integer xs => exact shaped_single xs _ shaped_cutOne
  | double qs => exact shaped_single qs _ fun q => shaped_cutOne _
  | char xs => exact shaped_single xs _ fun q => rfl
theorem ne_same {d : PyData} (h : SeqAt.shaped d = true) : CmpR .NotEq d d false := by
  have := CmpR.ne d d h h
  rw [PySem.SeqAt.eqv_refl d (SeqAt.canLay_of_shaped h)] at this
  exact this
theorem ne_below {d : PyData} (h : SeqAt.shaped d = true) : ∃ c, CmpR .NotEq d (.str "below") c ∧ (c = true → d ≠ .str "below") := by
  refine ⟨_, CmpR.ne d (.str "below") h (by decide +kernel), ?_⟩
  rintro h1 rfl
  rw [PySem.SeqAt.eqv_refl _ (by decide +kernel)] at h1
  cases h1

/-! ## the index as an object -/
def IxV.cut : IxV → IxV
  | .logical xs => .logical (xs.take 1)
  | .integer xs => .integer (xs.take 1)
  | .double qs => .double (qs.take 1)
  | .char xs => .char (xs.take 1)
  | o => o
theorem IxV.cut_ok {o : IxV} (h : o.Ok) : o.cut.Ok := by
  cases o with
  | logical xs => exact ⟨by have := h.1; rw [List.length_take]; omega, fun x hx => h.2 x (List.mem_of_mem_take hx)⟩
  | integer xs => show (List.length _) ≤ 9; have h : xs.length ≤ 9 := h; rw [List.length_take]; omega
  | double xs => exact ⟨by have := h.1; rw [List.length_take]; omega, fun x hx => h.2 x (List.mem_of_mem_take hx)⟩
  | char xs => exact ⟨by have := h.1; rw [List.length_take]; omega, fun x hx => h.2 x (List.mem_of_mem_take hx)⟩
  | _ => exact h
theorem IxV.vec_or {o : IxV} (h : o.Ok) (hs : ∀ x, o ≠ .sym x) : (∃ K items, o.ix = .vec K items ∧ SeqAt.shaped (.str K) = true ∧ items.length ≤ 9 ∧ SeqAt.shaped (.list items) = true ∧ o.cut.ix = .vec K (items.take 1)) ∨ ixVec o.ix = false := by
  cases o with
  | missing => exact .inr rfl
  | null => exact .inr rfl
  | list => exact .inl ⟨_, _, rfl, by decide +kernel, by decide, by decide +kernel, rfl⟩
  | logical xs => exact .inl ⟨_, _, rfl, by decide +kernel, by rw [List.length_map]; exact h.1, shaped_oxs _, by simp [IxV.cut, IxV.ix]⟩
  | integer xs => exact .inl ⟨_, _, rfl, by decide +kernel, by rw [List.length_map]; exact h, shaped_oxs _, by simp [IxV.cut, IxV.ix]⟩
  | double xs => exact .inl ⟨_, _, rfl, by decide +kernel, by rw [List.length_map]; exact h.1, shaped_qxs _, by simp [IxV.cut, IxV.ix]⟩
  | char xs => exact .inl ⟨_, _, rfl, by decide +kernel, by rw [List.length_map]; exact h.1, shaped_txs h.2, by simp [IxV.cut, IxV.ix]⟩
  | sym x => exact absurd rfl (hs x)
end Mine
namespace Mine
def W9 (L : Nat) : WM := fun (a : Nat) => if a = L then some .fr else if a = 300 then some .row else if a = L + 1 then some (.cell "row") else if a = L + 2 then some (.cell "exact") else if a = L + 3 then some (.cell "extend")
  else if a = L + 4 then some (.cell "ix") else if a = L + 5 then some (.cell "n") else if a = L + 6 then some (.cell "names") else if a = L + 7 then some (.cell "single") else none
theorem W9_cases {L a : Nat} {ρ : Role} (h : W9 L a = some ρ) : (a = L ∧ ρ = .fr) ∨ (a = 300 ∧ ρ = .row) ∨ ((∃ x, ρ = .cell x) ∧ L < a ∧ a ≤ L + 7) := by
  unfold W9 at h
  split at h
  · cases h; exact .inl ⟨by assumption, rfl⟩
  split at h
  · cases h; exact .inr (.inl ⟨by assumption, rfl⟩)
  iterate 7
    split at h
    · cases h; exact .inr (.inr ⟨⟨_, rfl⟩, by omega, by omega⟩)
  cases h
abbrev ΓLaw : Cx := ⟨20, ["script", "lap", "held", "due"], ["row", "exact", "extend", "ix", "n", "names", "single"], [], ["_law_row", "_law_next", "range", "_law_index", "isinstance", "Vector", "list", "_law_kept", "_law_due", "Symbol", "_law_one"]⟩
section
variable {w : World} {g : Heap} {mg mb : Str → Option Value}
theorem law_entry (hw : Wd w g mg mb) (T : Tb g mg) {a0 : Addr} {vs : List Value} {ns : List Int} (hl : g.IsList a0 vs.toArray) (hI : IntsAre vs ns) {h₁ : Heap} {L : Nat} {m : Str → Option Value} (F : Fr g L h₁ m) (hm : m "script" = some (.ref a0)) {o7 o6 o5 o4 o3 o2 o1 : Obj}
    (N : News g L h₁ [(L + 1 + 1 + 1 + 1 + 1 + 1 + 1, o7), (L + 1 + 1 + 1 + 1 + 1 + 1, o6), (L + 1 + 1 + 1 + 1 + 1, o5), (L + 1 + 1 + 1 + 1, o4), (L + 1 + 1 + 1, o3), (L + 1 + 1, o2), (L + 1, o1), (300, tabObj #[])])
    (d7 : ∃ v, o7.data = .cell v) (d6 : ∃ v, o6.data = .cell v) (d5 : ∃ v, o5.data = .cell v) (d4 : ∃ v, o4.data = .cell v) (d3 : ∃ v, o3.data = .cell v) (d2 : ∃ v, o2.data = .cell v) (d1 : ∃ v, o1.data = .cell v) (l0 : 300 < L)
    {env : Env} (hO : EnvOk ΓLaw env) (hcs : env.cells = ([("single", L + 7), ("names", L + 6), ("n", L + 5), ("ix", L + 4), ("extend", L + 3), ("exact", L + 2), ("row", L + 1)] : List (Str × Addr))) (hloc : env.locals = L) (hfrm : env.frame = some L)
    {t : Stmt} {rest : List Stmt} (h1 : WX w g ΓLaw ⟨[("script", .scr ns), ("lap", .un), ("held", .un), ("due", .un), ("row", .un), ("exact", .un), ("extend", .un), ("ix", .un), ("n", .un), ("names", .un), ("single", .un)], []⟩ t
      (fun F st => F = .next ∧ ∃ rs : List Int, rs.length ≤ 160 ∧ st = ⟨[("script", .scr ns), ("lap", .un), ("held", .un), ("due", .un), ("row", .ol (rs.map .int)), ("exact", .un), ("extend", .un), ("ix", .un), ("n", .un), ("names", .un), ("single", .un)], []⟩) (fun _ _ => False))
    (h2 : ∀ rs : List Int, rs.length ≤ 160 → WS w g ΓLaw ⟨[("script", .scr ns), ("lap", .un), ("held", .un), ("due", .un), ("row", .row), ("exact", .un), ("extend", .un), ("ix", .un), ("n", .un), ("names", .un), ("single", .un)], rs⟩ rest
      (fun F _ => F = .ret (.d (.bool true))) (fun _ _ => False))
    {s : Shared} (hs : s.heap = h₁) {Q : Flow → Shared → Prop} {E : Value → Shared → Prop}
    (hQ : ∀ h' tk, (∀ b o, g.get? b = some o → h'.get? b = some o) → (∃ m', h'.Ns L m') → (∃ ps, h'.get? 300 = some (tabObj ps)) → Q (.ret (.bool true)) { s with heap := h', toks := tk }) :
    wpAny (model pg w) (callerA.deeper env) (execs (t :: rest) env) Q E s := by
  have ht : tabCx ΓLaw := by decide +kernel
  have gL : g.get? L = none := Heap.get?_none_of_le F.above
  have hcell : ∀ a : Nat, L < a → a ≤ L + 7 → (∃ v, h₁.IsCell a v) ∧ g.get? a = none := fun a q1 q2 => by
    have : a = L + 1 ∨ a = L + 1 + 1 ∨ a = L + 1 + 1 + 1 ∨ a = L + 1 + 1 + 1 + 1 ∨ a = L + 1 + 1 + 1 + 1 + 1 ∨ a = L + 1 + 1 + 1 + 1 + 1 + 1 ∨ a = L + 1 + 1 + 1 + 1 + 1 + 1 + 1 := by omega
    rcases this with rfl | rfl | rfl | rfl | rfl | rfl | rfl
    · obtain ⟨v, e⟩ := d1; exact ⟨⟨v, _, N.get (o := o1) (by simp), e⟩, N.fresh (o := o1) (by simp)⟩
    · obtain ⟨v, e⟩ := d2; exact ⟨⟨v, _, N.get (o := o2) (by simp), e⟩, N.fresh (o := o2) (by simp)⟩
    · obtain ⟨v, e⟩ := d3; exact ⟨⟨v, _, N.get (o := o3) (by simp), e⟩, N.fresh (o := o3) (by simp)⟩
    · obtain ⟨v, e⟩ := d4; exact ⟨⟨v, _, N.get (o := o4) (by simp), e⟩, N.fresh (o := o4) (by simp)⟩
    · obtain ⟨v, e⟩ := d5; exact ⟨⟨v, _, N.get (o := o5) (by simp), e⟩, N.fresh (o := o5) (by simp)⟩
    · obtain ⟨v, e⟩ := d6; exact ⟨⟨v, _, N.get (o := o6) (by simp), e⟩, N.fresh (o := o6) (by simp)⟩
    · obtain ⟨v, e⟩ := d7; exact ⟨⟨v, _, N.get (o := o7) (by simp), e⟩, N.fresh (o := o7) (by simp)⟩
  have t1 : h₁.get? 300 = some (tabObj #[]) := N.get (by simp)
  have t2 : g.get? 300 = none := N.fresh (o := tabObj #[]) (by simp)
  obtain ⟨oL, nL1, nL2, hLo, nL3⟩ := id F.ns
  have ex : ∀ a ρ, W9 L a = some ρ → g.get? a = none ∧ ∃ o, h₁.get? a = some o := fun a ρ e => by
    rcases W9_cases e with ⟨rfl, _⟩ | ⟨rfl, _⟩ | ⟨_, q1, q2⟩
    · exact ⟨gL, _, hLo⟩
    · exact ⟨t2, _, t1⟩
    · obtain ⟨⟨v, o, e1, _⟩, e2⟩ := hcell a q1 q2
      exact ⟨e2, o, e1⟩
  have rowa : ∀ a, W9 L a = some .row → a = tabA := fun a e => by
    rcases W9_cases e with ⟨_, q⟩ | ⟨q, _⟩ | ⟨⟨x, q⟩, _⟩
    · cases q
    · exact q
    · cases q
  have ge : ∀ (a : Nat) ρ, W9 L a = some ρ → ρ ≠ .row → L ≤ a := fun a ρ e n => by
    rcases W9_cases e with ⟨rfl, q⟩ | ⟨_, q⟩ | ⟨_, q1, _⟩
    · exact Nat.le_refl _
    · exact absurd q n
    · exact Nat.le_of_lt q1
  have core : Core g g (fun a => g.get? a) (fun a => g.get? a) (W9 L) [] h₁ := {
    base := fun _ _ e => e
    zE := fun _ _ e => e
    z0 := fun _ _ e => e
    zin := F.keep
    zf := fun _ _ e => .inl e
    dj := fun a ρ e => ex a ρ e
    wf := fun a ρ e _ => (ex a ρ e).1
    wfr := fun a e => Nat.le_trans F.above (ge a _ e nofun)
    wf0 := fun a ρ e n => Nat.le_trans F.above (ge a ρ e n)
    h0 := Nat.le_refl _
    kept := fun b o e _ => F.keep b o e
    grow := Nat.le_trans F.above (Nat.le_of_lt (Heap.lt_size hLo))
    row := fun a e n => absurd (rowa a e) n
    row1 := fun a b e _ n _ => absurd (rowa a e) n
    tab := fun _ => ⟨#[], t1, trivial, fun pos cv e => by cases e⟩ }
  obtain ⟨ol, i1, i2, i3, i4⟩ := id hl
  have w0 : W9 L L = some .fr := by unfold W9; rw [if_pos rfl]
  have w300 : W9 L 300 = some .row := by unfold W9; rw [if_neg (by omega), if_pos rfl]
  have hR : Rel w g ΓLaw env [env] g (fun a => g.get? a) (fun a => g.get? a) (W9 L) ⟨[("script", .scr ns), ("lap", .un), ("held", .un), ("due", .un), ("row", .un), ("exact", .un), ("extend", .un), ("ix", .un), ("n", .un), ("names", .un), ("single", .un)], []⟩ s.heap := by
    rw [hs]
    refine ⟨core, ⟨rfl, by rw [hloc]; exact w0, ⟨m, by rw [hloc]; exact F.ns, fun p hp => ?_⟩, fun x hx => ?_⟩, fun fe hfe => ?_, fun _ => w300⟩
    · simp only [List.mem_cons, List.not_mem_nil, or_false] at hp
      rcases hp with rfl | rfl | rfl | rfl | rfl | rfl | rfl | rfl | rfl | rfl | rfl
      · exact .inr ⟨.ref a0, .inl ⟨hO.locs _ (.head _), hm⟩, a0, ol, vs.toArray, _, rfl, i1, i2, i4, hI⟩
      all_goals exact .inl rfl
    · simp only [List.mem_cons, List.not_mem_nil, or_false] at hx
      rw [hcs]
      rcases hx with rfl | rfl | rfl | rfl | rfl | rfl | rfl
      · exact ⟨L + 1, rfl, by unfold W9; rw [if_neg (by omega), if_neg (by omega), if_pos rfl], (hcell _ (by omega) (by omega)).1⟩
      · exact ⟨L + 2, rfl, by unfold W9; iterate 3 rw [if_neg (by omega)]
                              rw [if_pos rfl], (hcell _ (by omega) (by omega)).1⟩
      · exact ⟨L + 3, rfl, by unfold W9; iterate 4 rw [if_neg (by omega)]
                              rw [if_pos rfl], (hcell _ (by omega) (by omega)).1⟩
      · exact ⟨L + 4, rfl, by unfold W9; iterate 5 rw [if_neg (by omega)]
                              rw [if_pos rfl], (hcell _ (by omega) (by omega)).1⟩
      · exact ⟨L + 5, rfl, by unfold W9; iterate 6 rw [if_neg (by omega)]
                              rw [if_pos rfl], (hcell _ (by omega) (by omega)).1⟩
      · exact ⟨L + 6, rfl, by unfold W9; iterate 7 rw [if_neg (by omega)]
                              rw [if_pos rfl], (hcell _ (by omega) (by omega)).1⟩
      · exact ⟨L + 7, rfl, by unfold W9; iterate 8 rw [if_neg (by omega)]
                              rw [if_pos rfl], (hcell _ (by omega) (by omega)).1⟩
    · rcases List.mem_cons.mp hfe with rfl | hfe
      · exact ⟨by rw [hO.kind]; nofun, L, hfrm, .inl hloc.symm⟩
      · cases hfe
  have hA : AOk ΓLaw.rank (callerA.deeper env) := ⟨rfl, (by decide : 1 + 300 + 1 + 4 * 20 ≤ 700), (by decide : 4 + 3 + 40 * 20 ≤ 5000), fun q => absurd q (by decide)⟩
  refine wpAny_execs_cons (h1 _ env [env] g _ _ _ s _ E hA rfl hO hR ?_ (fun _ _ _ _ _ q _ => q.elim))
  rintro f F₁ st₁ Z₁ W₁ h' tk' ⟨rfl, rs, hrs, rfl⟩ hR₁ hL₁ hf
  cases f with
  | next =>
    obtain ⟨W', hR₂⟩ := hR₁.toRow hO ht (fun a e => rowa a (hL₁.rb a e)) (x := "row") (rs := rs) (.there (.there (.there (.there .here)))) (.there (.there (.there (.there .here))))
    refine h2 rs hrs _ env [env] g _ _ _ { s with heap := h', toks := tk' } _ E hA rfl hO hR₂ ?_ (fun _ _ _ _ _ q _ => q.elim)
    rintro f F₁ st₂ Z₂ W₂ h₂ tk₂ rfl hR₃ hL₃ hf
    cases f with
    | ret v =>
      cases hf with
      | bool b =>
        obtain ⟨ps, e, _⟩ := hR₃.core.tab (hR₃.frs.2 ht)
        obtain ⟨m', e2, _⟩ := hR₃.vars.ns
        rw [hloc] at e2
        exact hQ h₂ tk₂ hR₃.core.stay ⟨m', e2⟩ ⟨ps, e⟩
    | _ => exact hf.elim
  | _ => exact hf.elim
end
end Mine
namespace Mine
abbrev ΓL : Cx := ⟨20, ["script", "lap", "held", "due"], ["row", "exact", "extend", "ix", "n", "names", "single"], [], ["_law_row", "_law_next", "range", "_law_index", "isinstance", "Vector", "list", "_law_kept", "_law_due", "Symbol", "_law_one"]⟩
def heldD (o : IxV) : PyData := match o.ix with
  | .vec _ items => .list items
  | _ => .list []
theorem heldD_of {o : IxV} (h : ixVec o.ix = false) : heldD o = .list [] := by
  unfold heldD
  cases e : o.ix with
  | vec K items => rw [e] at h; cases h
  | _ => rfl
theorem WS.hide1 {w : World} {h₀ : Heap} {Γ : Cx} {st : St} {a : Stmt} {rest : List Stmt} {Φ : Fl → St → Prop} {Ψ : Str → List Int → Prop} (h : ∀ R, R = rest → WS w h₀ Γ st (a :: R) Φ Ψ) : WS w h₀ Γ st (a :: rest) Φ Ψ := h _ rfl
theorem WS.hide2 {w : World} {h₀ : Heap} {Γ : Cx} {st : St} {a b : Stmt} {rest : List Stmt} {Φ : Fl → St → Prop} {Ψ : Str → List Int → Prop} (h : ∀ R, R = rest → WS w h₀ Γ st (a :: b :: R) Φ Ψ) : WS w h₀ Γ st (a :: b :: rest) Φ Ψ := h _ rfl
theorem WX.forJ {w : World} {h₀ : Heap} {Γ : Cx} {st : St} {Ψ : Str → List Int → Prop} {x : Str} {p pos : Pos} {iter : Expr} {body : List Stmt} {Φ : Fl → St → Prop} (J : St → Prop) (hx : x ∈ Γ.locs ∨ x ∈ Γ.cells)
    (h : WI w h₀ Γ st iter (fun _ st₁ => J st₁) Ψ) (hstep : ∀ d st₂, J st₂ → ∃ mu', SetV st₂.mu x (.d d) mu' ∧ WS w h₀ Γ ⟨mu', st₂.row⟩ body (forEnd J Φ) (fun _ _ => False))
    (hend : ∀ st₂, J st₂ → Φ .next st₂) (hs : ∀ env x, foldedSetIterable iter env x = pure x := by intro _ _; rfl) : WX w h₀ Γ st (.For (.Name x p) iter body [] pos) Φ Ψ := by
  refine WX.for hx ?_ hs
  intro A env l hE Z₀ Z W s Q E hA hl hO hR hQ hX
  exact h A env l hE Z₀ Z W s Q E hA hl hO hR (fun I xs st' Z' W' h' tk Sx q => hQ I xs st' Z' W' h' tk Sx ⟨fun _ => J, q, fun pre d post st₂ _ j => hstep d st₂ j, hend⟩) hX
section
variable {w : World} {h₀ : Heap} {mg mb : Str → Option Value}
theorem ws_law (hw : Wd w h₀ mg mb) (T : Tb h₀ mg) (ns : List Int) (hn : ns.length ≤ 63) (r0 : List Int) : ∃ oc od fd osl t rest, (hd.heap_1 w.params).lookup 303 = some ⟨oc, od, .func fd, osl⟩ ∧ fd.body = .stmts (t :: rest) ∧
    WX w h₀ ΓL ⟨[("script", .scr ns), ("lap", .un), ("held", .un), ("due", .un), ("row", .un), ("exact", .un), ("extend", .un), ("ix", .un), ("n", .un), ("names", .un), ("single", .un)], r0⟩ t
      (fun F st => F = .next ∧ ∃ rs : List Int, rs.length ≤ 160 ∧ st = ⟨[("script", .scr ns), ("lap", .un), ("held", .un), ("due", .un), ("row", .ol (rs.map .int)), ("exact", .un), ("extend", .un), ("ix", .un), ("n", .un), ("names", .un), ("single", .un)], r0⟩) (fun _ _ => False) ∧
    ∀ rs : List Int, rs.length ≤ 160 → WS w h₀ ΓL ⟨[("script", .scr ns), ("lap", .un), ("held", .un), ("due", .un), ("row", .row), ("exact", .un), ("extend", .un), ("ix", .un), ("n", .un), ("names", .un), ("single", .un)], rs⟩ rest
      (fun F _ => F = .ret (.d (.bool true))) (fun _ _ => False) := by
  refine ⟨_, _, _, _, _, _, by k_is, rfl, ?_, ?_⟩
  · walk_at "mW"
    refine WE.call (k := 2) hw (by decide +kernel) (hw.glob (by k_is)) (by k_is) (by decide) ?_
    walk_at "mW"
    refine (fs_row hw ns hn _).mono (Nat.le_refl _) ?_ (fun _ _ q => q.elim)
    rintro U r' ⟨⟨rs, rfl, hrs⟩, rfl⟩
    refine ⟨_, (by (repeat (first | with_reducible apply SetV.here | with_reducible apply SetV.there)) <;> fail), rfl, rs, hrs, rfl⟩
  intro rs hrs
  refine WS.hide2 fun R hR => ?_
  walk_at "mW"
  refine WE.call (k := 2) hw (by decide +kernel) (hw.glob (by k_is)) (by k_is) (by decide) ?_
  walk_at "mW"
  refine (fs_next hw _ hrs).mono (Nat.le_refl _) ?_ (fun _ _ q => q.elim)
  rintro U r1 ⟨⟨k, rfl⟩, hr1⟩
  dsimp only
  walk_at "mW"
  subst hR
  refine WS.cons ?_
  have q0 := fm0 k (b := 10) (by decide)
  have q1 := fm1 k (b := 10) (by decide)
  obtain ⟨n, hm⟩ : ∃ n : Nat, k.fmod 10 = n := ⟨(k.fmod 10).toNat, by omega⟩
  rw [hm]
  have hn9 : n ≤ 9 := by omega
  clear q0 q1 hm
  refine WX.mono (Φ := fun F st => F = .next ∧ ∃ (names : Option (List (Option Str))) (rr : List Int), NOk names ∧ rr.length ≤ 160 ∧ st = ⟨[("script", .scr ns), ("lap", .un), ("held", .un), ("due", .un), ("row", .row), ("exact", .un), ("extend", .un), ("ix", .un), ("n", .d (.int n)), ("names", .d (nx names)), ("single", .un)], rr⟩) (Ψ := fun _ _ => False) ?_ ?_ (fun _ _ q => q)
  · walk_at "mW"
    refine WE.call (k := 2) hw (by decide +kernel) (hw.glob (by k_is)) (by k_is) (by decide) ?_
    walk_at "mW"
    refine (fs_next hw _ hr1).mono (Nat.le_refl _) ?_ (fun _ _ q => q.elim)
    rintro U r2 ⟨⟨k2, rfl⟩, hr2⟩
    dsimp only
    walk_at "mW"
    refine of_both (fun hc => ?_) (fun hc => ?_)
    · refine WS.cons ?_
      refine WX.assignCompC (by decide +kernel) ?_
      refine WE.listComp ?_ rfl (by intro _ _; rfl)
      refine WComp.draw (f := tx) (P := TOk) (m := n) ["_law_text"] (by decide +kernel) hn9 (by (repeat (first | with_reducible apply At.here | with_reducible apply At.there)) <;> fail) hr2 (WI.ofRange hw (by decide +kernel) (by omega) ?_ (by intro _; with_unfolding_all rfl)) ?_ ?_
      · walk_at "mW"
        rfl
      · intro U rr hrr
        refine WE.call (k := 4) hw (by decide +kernel) (hw.glob (by k_is)) (by k_is) (by decide) ?_
        walk_at "mW"
        refine (fs_text hw _ hrr).mono (Nat.le_refl _) ?_ (fun _ _ q => q.elim)
        rintro U r3 ⟨⟨x, rfl, hx⟩, hr3⟩
        exact ⟨x, _, rfl, hx, rfl, hr3⟩
      · intro ys rr hl hp hrr
        refine ⟨_, (by (repeat (first | with_reducible apply SetV.here | with_reducible apply SetV.there)) <;> fail), ?_⟩
        walk_at "mW"
        exact ⟨some ys, rr, ⟨by omega, hp⟩, hrr, rfl⟩
    · walk_at "mW"
      exact ⟨none, _, trivial, hr2, rfl⟩
  clear hr1 hrs
  rintro F st ⟨rfl, names, r2, hN, hr2, rfl⟩
  refine afterX_next (WS.cons ?_)
  refine WX.forJ (fun st => ∃ U1 U2 U3 U4 U5 U6 U7 rr, rr.length ≤ 160 ∧ st = ⟨[("script", .scr ns), ("lap", U1), ("held", U2), ("due", U3), ("row", .row), ("exact", U4), ("extend", U5), ("ix", U6), ("n", .d (.int n)), ("names", .d (nx names)), ("single", U7)], rr⟩) (by decide +kernel) ?_ ?_ ?_
  · refine WI.range hw (by decide +kernel) ?_ (by intro _; with_unfolding_all rfl)
    walk_at "mW"
    refine WE.call (k := 2) hw (by decide +kernel) (hw.glob (by k_is)) (by k_is) (by decide) ?_
    walk_at "mW"
    refine (fs_next hw _ hr2).mono (Nat.le_refl _) ?_ (fun _ _ q => q.elim)
    rintro U r3 ⟨⟨k3, rfl⟩, hr3⟩
    dsimp only
    walk_at "mW"
    have q0 := fm0 k3 (b := 3) (by decide)
    have q1 := fm1 k3 (b := 3) (by decide)
    exact ⟨by omega, by omega, _, _, _, _, _, _, _, _, hr3, rfl⟩
  · rintro d st₂ ⟨U1, U2, U3, U4, U5, U6, U7, r3, hr3, rfl⟩
    refine ⟨_, (by (repeat (first | with_reducible apply SetV.here | with_reducible apply SetV.there)) <;> fail), ?_⟩
    refine WS.cons ?_
    refine WX.assign ?_ (by decide +kernel) (by intro _; with_unfolding_all rfl)
    refine WE.call (k := 8) hw (by decide +kernel) (hw.glob (by k_is)) (by k_is) (by decide) ?_
    walk_at "mW"
    refine (fs_index hw _ hr3).mono (Nat.le_refl _) ?_ (fun _ _ q => q.elim)
    rintro U r4 ⟨⟨o, rfl, ho, hs⟩, hr4⟩
    refine ⟨_, (by (repeat (first | with_reducible apply SetV.here | with_reducible apply SetV.there)) <;> fail), ?_⟩
    refine afterX_next (WS.cons ?_)
    clear hr3 hr2
    refine WX.mono (Φ := fun F st => F = .next ∧ st = ⟨[("script", .scr ns), ("lap", .d d), ("held", .d (heldD o)), ("due", U3), ("row", .row), ("exact", U4), ("extend", U5), ("ix", .ix o.ix), ("n", .d (.int n)), ("names", .d (nx names)), ("single", U7)], r4⟩) (Ψ := fun _ _ => False) ?_ ?_ (fun _ _ q => q)
    · walk_at "mW"
      refine WE.isVec hw (by decide +kernel) (by decide +kernel) (by (repeat (first | with_reducible apply At.here | with_reducible apply At.there)) <;> fail) ?_
      rcases o.vec_or ho hs with ⟨K, items, e, hK, hl, hS, hcut⟩ | e
      · have hh : heldD o = .list items := by unfold heldD; rw [e]
        rw [hh, e]
        walk_at "mW"
        refine WE.listCopy hw (by decide +kernel) ?_ (by intro _; with_unfolding_all rfl)
        walk_at "mW"
        refine ⟨by rw [sizeLine_eq]; omega, ?_⟩
        walk_at "mW"
        rfl
      · rw [heldD_of e]
        walk_at "mW"
        refine of_false e ?_
        walk_at "mW"
        rfl
    rintro F st ⟨rfl, rfl⟩
    refine afterX_next (WS.cons ?_)
    refine WX.forMap0 (f := PyData.bool) (items := [false, true]) (fun _ st => ∃ U5, st = ⟨[("script", .scr ns), ("lap", .d d), ("held", .d (heldD o)), ("due", U3), ("row", .row), ("exact", U4), ("extend", U5), ("ix", .ix o.ix), ("n", .d (.int n)), ("names", .d (nx names)), ("single", U7)], r4⟩) (by decide +kernel) (WI.of ?_) ?_ ?_
    · walk_at "mW"
      exact ⟨_, rfl⟩
    · rintro pre b post st₂ - ⟨U5, rfl⟩
      refine ⟨_, (by (repeat (first | with_reducible apply SetV.here | with_reducible apply SetV.there)) <;> fail), ?_⟩
      have hD := shaped_dueD o ho n names b
      refine WS.cons ?_
      refine WX.ifKept ?_ rfl
      refine WK.kept hw T (Γl := ⟨8, [], [], ["extend", "ix", "n", "names"], ["positions"]⟩) ⟨rfl, rfl, rfl, by decide +kernel, by decide +kernel, by decide +kernel, by decide +kernel, by decide +kernel, by decide +kernel, rfl, rfl⟩ (by decide +kernel) (by decide +kernel) (by decide) (by decide) (capmu := [("extend", .d (.bool b)), ("ix", .ix o.ix), ("n", .d (.int n)), ("names", .d (nx names))]) rfl (by try dsimp only; repeat (first | with_reducible exact Caps.nil | (with_reducible refine Caps.cons (by (repeat (first | with_reducible apply At.here | with_reducible apply At.there)) <;> fail) (by with_unfolding_all rfl) ?_))) ?_
      refine WE.call (k := 8) hw (by decide +kernel) (hw.glob (by k_is)) (by k_is) (by decide) ?_
      walk_at "mW"
      refine (fs_positions hw o ho n hn9 names hN b _).mono (Nat.le_refl _) ?_ ?_
      · rintro U r' ⟨rfl, d1, rfl, hd⟩
        obtain rfl : d1 = dueD o n names b := by rw [← pos_same o ho hs n names b, hd]; rfl
        refine ⟨_, rfl, _, rfl, ?_⟩
        refine WE.call (k := 4) hw (by decide +kernel) (hw.glob (by k_is)) (by k_is) (by decide) ?_
        walk_at "mW"
        refine (fs_due hw o ho hs n hn9 names hN b _).mono (Nat.le_refl _) ?_ (fun _ _ q => q.elim)
        rintro U r' ⟨rfl, rfl⟩
        refine ⟨_, _, rfl, ne_same hD, ?_⟩
        refine of_false rfl ?_
        walk_at "mW"
        exact ⟨_, rfl⟩
      · rintro m r' ⟨rfl, hd⟩
        have hd' : PyData.str m = dueD o n names b := by rw [← pos_same o ho hs n names b, hd]; rfl
        refine ⟨_, rfl, ?_⟩
        rw [hd']
        refine WE.call (k := 4) hw (by decide +kernel) (hw.glob (by k_is)) (by k_is) (by decide) ?_
        walk_at "mW"
        refine (fs_due hw o ho hs n hn9 names hN b _).mono (Nat.le_refl _) ?_ (fun _ _ q => q.elim)
        rintro U r' ⟨rfl, rfl⟩
        refine ⟨_, _, rfl, ne_same hD, ?_⟩
        refine of_false rfl ?_
        walk_at "mW"
        exact ⟨_, rfl⟩
    rintro st₂ ⟨U5, rfl⟩
    try dsimp only
    refine afterX_next (WS.hide1 fun R hR => ?_)
    walk_at "mW"
    subst hR
    refine WS.cons ?_
    refine WX.mono (Φ := fun F st => F = .next ∧ ∃ (o' : IxV) (rr : List Int), o'.Ok ∧ rr.length ≤ 160 ∧ st = ⟨[("script", .scr ns), ("lap", .d d), ("held", .d (heldD o)), ("due", U3), ("row", .row), ("exact", U4), ("extend", U5), ("ix", .ix o.ix), ("n", .d (.int n)), ("names", .d (nx names)), ("single", V.ix o'.ix)], rr⟩) (Ψ := fun _ _ => False) ?_ ?_ (fun _ _ q => q)
    · walk_at "mW"
      refine WE.isVec hw (by decide +kernel) (by decide +kernel) (by (repeat (first | with_reducible apply At.here | with_reducible apply At.there)) <;> fail) ?_
      rcases o.vec_or ho hs with ⟨K, items, e, hK, hl, hS, hcut⟩ | e
      · have hv : ixVec o.ix = true := by rw [e]; rfl
        refine ⟨_, rfl, ?_⟩
        refine of_true hv ?_
        walk_at "mW"
        refine WE.call (k := 2) hw (by decide +kernel) (hw.glob (by k_is)) (by k_is) (by decide) ?_
        walk_at "mW"
        refine (fs_next hw _ hr4).mono (Nat.le_refl _) ?_ (fun _ _ q => q.elim)
        rintro U r3 ⟨⟨k3, rfl⟩, hr3⟩
        dsimp only
        walk_at "mW"
        refine of_both (fun hc => ?_) (fun hc => ?_)
        · rw [e]
          walk_at "mW"
          refine WE.slice (k := 1) ?_
          walk_at "mW"
          refine ⟨_, .inl rfl, by rw [sizeLine_eq]; omega, ?_⟩
          walk_at "mW"
          exact ⟨o.cut, _, IxV.cut_ok ho, hr3, by rw [hcut]⟩
        · 
          walk_at "mW"
          refine WE.call (k := 2) hw (by decide +kernel) (hw.glob (by k_is)) (by k_is) (by decide) ?_
          walk_at "mW"
          refine (fs_next hw _ hr3).mono (Nat.le_refl _) ?_ (fun _ _ q => q.elim)
          rintro U r5 ⟨⟨k4, rfl⟩, hr5⟩
          dsimp only
          walk_at "mW"
          refine of_both (fun hc => ?_) (fun hc => ?_)
          · refine WS.cons ?_
            refine WX.assign ?_ (by decide +kernel) (by intro _; with_unfolding_all rfl)
            refine WE.newSymbol hw (by decide +kernel) (by decide) ?_ (by intro _; with_unfolding_all rfl)
            walk_at "mW"
            refine WE.call (k := 2) hw (by decide +kernel) (hw.glob (by k_is)) (by k_is) (by decide) ?_
            walk_at "mW"
            refine (fs_next hw _ hr5).mono (Nat.le_refl _) ?_ (fun _ _ q => q.elim)
            rintro U r6 ⟨⟨k6, rfl⟩, hr6⟩
            dsimp only
            walk_at "mW"
            obtain ⟨y, hy, hp⟩ := pickR PyData.str ["a", "ab", "z"] (k6.fmod 3) (fm0 k6 (by decide)) (fm1 k6 (by decide)) (by simp)
            refine ⟨_, _, rfl, hp, ?_⟩
            refine ⟨_, rfl, ?_⟩
            walk_at "mW"
            refine ⟨.sym y, r6, ?_, hr6, rfl⟩
            simp only [List.mem_cons, List.not_mem_nil, or_false] at hy
            rcases hy with rfl | rfl | rfl
            · exact (by decide +kernel : SeqAt.shaped (.str "a") = true)
            · exact (by decide +kernel : SeqAt.shaped (.str "ab") = true)
            · exact (by decide +kernel : SeqAt.shaped (.str "z") = true)
          · walk_at "mW"
            exact ⟨o, _, ho, hr5, rfl⟩
      · refine ⟨_, rfl, ?_⟩
        refine of_false e ?_
        walk_at "mW"
        refine WE.call (k := 2) hw (by decide +kernel) (hw.glob (by k_is)) (by k_is) (by decide) ?_
        walk_at "mW"
        refine (fs_next hw _ hr4).mono (Nat.le_refl _) ?_ (fun _ _ q => q.elim)
        rintro U r5 ⟨⟨k4, rfl⟩, hr5⟩
        dsimp only
        walk_at "mW"
        refine of_both (fun hc => ?_) (fun hc => ?_)
        · refine WS.cons ?_
          refine WX.assign ?_ (by decide +kernel) (by intro _; with_unfolding_all rfl)
          refine WE.newSymbol hw (by decide +kernel) (by decide) ?_ (by intro _; with_unfolding_all rfl)
          walk_at "mW"
          refine WE.call (k := 2) hw (by decide +kernel) (hw.glob (by k_is)) (by k_is) (by decide) ?_
          walk_at "mW"
          refine (fs_next hw _ hr5).mono (Nat.le_refl _) ?_ (fun _ _ q => q.elim)
          rintro U r6 ⟨⟨k6, rfl⟩, hr6⟩
          dsimp only
          walk_at "mW"
          obtain ⟨y, hy, hp⟩ := pickR PyData.str ["a", "ab", "z"] (k6.fmod 3) (fm0 k6 (by decide)) (fm1 k6 (by decide)) (by simp)
          refine ⟨_, _, rfl, hp, ?_⟩
          refine ⟨_, rfl, ?_⟩
          walk_at "mW"
          refine ⟨.sym y, r6, ?_, hr6, rfl⟩
          simp only [List.mem_cons, List.not_mem_nil, or_false] at hy
          rcases hy with rfl | rfl | rfl
          · exact (by decide +kernel : SeqAt.shaped (.str "a") = true)
          · exact (by decide +kernel : SeqAt.shaped (.str "ab") = true)
          · exact (by decide +kernel : SeqAt.shaped (.str "z") = true)
        · walk_at "mW"
          exact ⟨o, _, ho, hr5, rfl⟩
    rintro F st ⟨rfl, o', r5, ho', hr5, rfl⟩
    clear hr4
    refine afterX_next (WS.cons ?_)
    refine WX.forMap0 (f := PyData.bool) (items := [true, false]) (fun _ st => ∃ U3' U4', st = ⟨[("script", .scr ns), ("lap", .d d), ("held", .d (heldD o)), ("due", U3'), ("row", .row), ("exact", U4'), ("extend", U5), ("ix", .ix o.ix), ("n", .d (.int n)), ("names", .d (nx names)), ("single", V.ix o'.ix)], r5⟩) (by decide +kernel) (WI.of ?_) ?_ ?_
    · walk_at "mW"
      exact ⟨_, _, rfl⟩
    · rintro pre b post st₂ - ⟨U3', U4', rfl⟩
      refine ⟨_, (by (repeat (first | with_reducible apply SetV.here | with_reducible apply SetV.there)) <;> fail), ?_⟩
      have hD := shaped_oneD o' names b
      refine WS.cons ?_
      refine WX.assign ?_ (by decide +kernel) (by intro _; with_unfolding_all rfl)
      refine WE.call (k := 4) hw (by decide +kernel) (hw.glob (by k_is)) (by k_is) (by decide) ?_
      walk_at "mW"
      refine (fs_one hw o' ho' names hN b _).mono (Nat.le_refl _) ?_ (fun _ _ q => q.elim)
      rintro U r' ⟨rfl, rfl⟩
      refine ⟨_, (by (repeat (first | with_reducible apply SetV.here | with_reducible apply SetV.there)) <;> fail), ?_⟩
      refine afterX_next (WS.cons ?_)
      refine WX.ifAndKept ?_ rfl
      walk_at "mW"
      obtain ⟨c, hc, hcb⟩ := ne_below hD
      refine ⟨_, _, rfl, hc, ?_⟩
      cases c with
      | false =>
        refine of_false rfl ?_
        walk_at "mW"
        exact ⟨_, _, rfl⟩
      | true =>
        have hsame := one_same o' ho' n names b (hcb rfl)
        refine of_true rfl ?_
        refine WK.kept hw T (Γl := ⟨8, [], [], ["exact", "n", "names", "single"], ["one_place"]⟩) ⟨rfl, rfl, rfl, by decide +kernel, by decide +kernel, by decide +kernel, by decide +kernel, by decide +kernel, by decide +kernel, rfl, rfl⟩ (by decide +kernel) (by decide +kernel) (by decide) (by decide) (capmu := [("exact", .d (.bool b)), ("n", .d (.int n)), ("names", .d (nx names)), ("single", .ix o'.ix)]) rfl (by try dsimp only; repeat (first | with_reducible exact Caps.nil | (with_reducible refine Caps.cons (by (repeat (first | with_reducible apply At.here | with_reducible apply At.there)) <;> fail) (by with_unfolding_all rfl) ?_))) ?_
        refine WE.call (k := 8) hw (by decide +kernel) (hw.glob (by k_is)) (by k_is) (by decide) ?_
        walk_at "mW"
        refine (fs_one_place hw o' ho' n names hN b _).mono (Nat.le_refl _) ?_ ?_
        · rintro U r' ⟨rfl, d1, rfl, hd⟩
          obtain rfl : d1 = oneD o' names b := by rw [← hsame, hd]; rfl
          refine ⟨_, rfl, _, rfl, ?_⟩
          walk_at "mW"
          refine ⟨_, _, rfl, ne_same hD, ?_⟩
          refine of_false rfl ?_
          walk_at "mW"
          exact ⟨_, _, rfl⟩
        · rintro m r' ⟨rfl, hd⟩
          have hd' : PyData.str m = oneD o' names b := by rw [← hsame, hd]; rfl
          refine ⟨_, rfl, ?_⟩
          rw [hd']
          walk_at "mW"
          refine ⟨_, _, rfl, ne_same hD, ?_⟩
          refine of_false rfl ?_
          walk_at "mW"
          exact ⟨_, _, rfl⟩
    rintro st₂ ⟨U3', U4', rfl⟩
    refine afterX_next (WS.cons ?_)
    refine WX.ite ?_
    walk_at "mW"
    refine WE.isVec hw (by decide +kernel) (by decide +kernel) (by (repeat (first | with_reducible apply At.here | with_reducible apply At.there)) <;> fail) ?_
    rcases o.vec_or ho hs with ⟨K, items, e, hK, hl, hS, hcut⟩ | e
    · have hh : heldD o = .list items := by unfold heldD; rw [e]
      rw [hh, e]
      walk_at "mW"
      refine ⟨_, _, rfl, ne_same hS, ?_⟩
      refine of_false rfl ?_
      walk_at "mW"
      exact ⟨_, _, _, _, _, _, _, _, hr5, rfl⟩
    · refine ⟨_, rfl, ?_⟩
      refine of_false e ?_
      walk_at "mW"
      exact ⟨_, _, _, _, _, _, _, _, hr5, rfl⟩
  · rintro st₂ ⟨U1, U2, U3, U4, U5, U6, U7, r3, hr3, rfl⟩
    walk_at "mW"
    rfl
end
end Mine
namespace Mine
def lawBody : List Stmt := match pg.main.body.getLast? with
  | some (.FunctionDef _ _ b _ _ _ _ _ _ _) => b
  | _ => []
theorem law_at {w : World} {h₀ : Heap} {mg mb : Str → Option Value} (hw : Wd w h₀ mg mb) : ∃ oc od fd osl, (hd.heap_1 w.params).lookup 303 = some ⟨oc, od, .func fd, osl⟩ ∧ fd.body = .stmts lawBody :=
  ⟨_, _, _, _, by k_is, rfl⟩
theorem law_ws {w : World} {h₀ : Heap} {mg mb : Str → Option Value} (hw : Wd w h₀ mg mb) (T : Tb h₀ mg) {vs : List Value} {ns : List Int} (hI : IntsAre vs ns) (hn : ns.length ≤ 63) : ∃ t rest, lawBody = t :: rest ∧
    WX w h₀ ΓLaw ⟨[("script", .scr ns), ("lap", .un), ("held", .un), ("due", .un), ("row", .un), ("exact", .un), ("extend", .un), ("ix", .un), ("n", .un), ("names", .un), ("single", .un)], []⟩ t
      (fun F st => F = .next ∧ ∃ rs : List Int, rs.length ≤ 160 ∧ st = ⟨[("script", .scr ns), ("lap", .un), ("held", .un), ("due", .un), ("row", .ol (rs.map .int)), ("exact", .un), ("extend", .un), ("ix", .un), ("n", .un), ("names", .un), ("single", .un)], []⟩) (fun _ _ => False) ∧
    ∀ rs : List Int, rs.length ≤ 160 → WS w h₀ ΓLaw ⟨[("script", .scr ns), ("lap", .un), ("held", .un), ("due", .un), ("row", .row), ("exact", .un), ("extend", .un), ("ix", .un), ("n", .un), ("names", .un), ("single", .un)], rs⟩ rest
      (fun F _ => F = .ret (.d (.bool true))) (fun _ _ => False) := by
  obtain ⟨oc, od, fd, osl, t, rest, e1, e2, h1, h2⟩ := ws_law hw T ns hn []
  obtain ⟨oc', od', fd', osl', e3, e4⟩ := law_at hw
  rw [e1] at e3
  cases e3
  exact ⟨t, rest, by rw [e2] at e4; injection e4 with e5; exact e5.symm, h1, h2⟩
theorem wpAny_execs_of {M : Model} {A : Around} {env : Env} {Q : Flow → Shared → Prop} {E : Value → Shared → Prop} {s : Shared} {b : List Stmt} (e : lawBody = b) (h : wpAny M A (execs b env) Q E s) : wpAny M A (execs lawBody env) Q E s := by rw [e]; exact h
theorem law_builtins {g : Heap} {mg : Str → Option Value} (hg : g.Ns mainGlobals mg) (h : ∃ bm ob, mg "__builtins__" = some (.ref bm) ∧ bm ≠ builtinsNs ∧ g.get? bm = some ob ∧ ob.cls = .type "module" ∧ ob.dict = some builtinsNs ∧ ob.data = .plain) (h3 : g.get? 300 = none) : g.BuiltinsAt mg tabA := by
  obtain ⟨bm, ob, h1, h2, h4, h5, h6, h7⟩ := h
  refine ⟨bm, ob, h1, h2, ?_, ?_, h4, h5, h6, h7⟩
  · rintro rfl
    obtain ⟨o, es, ep, e1, e2, _⟩ := hg
    rw [h4] at e1; cases e1
    rw [h7] at e2; cases e2
  · rintro rfl
    have h3 : g.get? tabA = none := h3
    rw [h3] at h4; cases h4
theorem main : PySem.Challenge.rw_nz0476_01.Holds := hd (by
  k_go0
  rename_i d7 d6 d5 d4 d3 d2 d1 X0 X' T' K' F' N' l0
  have hI := (by assumption : IntsAre _ _)
  have hc := (by assumption : ¬ ((63 : Nat) : Int) < _)
  have hgens := (by assumption : _ = (#[] : Array _))
  have h300 := N'.fresh (List.mem_append_right _ (.head _) : (300, tabObj #[]) ∈ [_, _, _, _, _, _, _] ++ [_])
  have hw : Wd _ _ _ _ := ⟨X', T'.g, T'.b, T'.nolimit, T'.builtins⟩
  have T : Tb _ _ := ⟨codeHd, law_builtins T'.g T'.bmain h300⟩
  obtain ⟨t, rest, e, h1, h2⟩ := law_ws hw T hI (by omega)
  refine wpAny_execs_of e ?_
  refine law_entry hw T lifted hI F' (by rfl) N' ⟨_, d7⟩ ⟨_, d6⟩ ⟨_, d5⟩ ⟨_, d4⟩ ⟨_, d3⟩ ⟨_, d2⟩ ⟨_, d1⟩ l0 ?_ rfl rfl rfl h1 h2 rfl (fun h' tk hk hns htab => ?_)
  · refine ⟨rfl, rfl, rfl, ?_, ?_, ?_, by decide +kernel, by decide +kernel, fun _ => ⟨rfl, (show (("law" : Str) ++ (".<locals>." : Str) : Str) = topQual by decide +kernel)⟩⟩
    all_goals
      intro x hx
      simp only [List.mem_cons, List.not_mem_nil, or_false] at hx
      rcases hx with rfl | hx <;> (repeat (first | rfl | (rcases hx with rfl | hx) | (subst hx; rfl)))
  · obtain ⟨m', hns⟩ := hns
    obtain ⟨ps, hps⟩ := htab
    refine ⟨goodW_bool (F := ⟨hns, hk, F'.above⟩) (by assumption) (raisesW_false (by wrow_none_raised)) (by refine' postW_of ?s9 ?v9 ?e9; (case s9 => o_shape); (case v9 => wtm_val); (case e9 => w_fin)) rfl, ⟨ps, hps⟩, trivial⟩)
end Mine
theorem PySem.Challenge.cw_nz0476_01_holds : PySem.Challenge.rw_nz0476_01.Holds :=
  Mine.main
