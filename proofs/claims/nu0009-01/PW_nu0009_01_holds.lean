import PyProof.Rows.All
import Wide.All
import OpenK.AllK
import KE.KEqDat
import KE.KSortTup
import KE.KLam
import KE.IntBitsLaws
import Wide.FinOn
import Lean
import PySem.Challenge.RW_nu0009_01
open PySem PySem.W PyProof.Rows PySem.Calls
set_option Elab.async false
set_option linter.unusedVariables false
set_option linter.unusedSimpArgs false
namespace Mine

def vw : Program := { PySem.Challenge.pw_nu0009_01 with main := { PySem.Challenge.pw_nu0009_01.main with body := (PySem.Challenge.pw_nu0009_01.main.body.eraseIdx 23).eraseIdx 0 } }
local macro_rules
  | `(tactic| o_head $H) => do
    let hl := Lean.mkIdent `hl
    let hw := Lean.mkIdent `hw
    let hc := Lean.mkIdent `hc
    `(tactic| (
    refine PySem.W.holds_open (q := vw) (loose := []) (Xt := fun s => xlAt vw [] s && recOk (RowW.records (OpenRow.toRowW (OpenLaw.row PySem.Challenge.rw_nu0009_01))) s) (XP := XL vw []) (Yf := Hook.obs $H) (Ya := Hook.val $H) (YP := Hook.says $H) (N := 2536) ?$hl (Hook.of $H) (Hook.keeps $H) (fun s e => xl_of s (Bool.and_eq_true_iff.mp e).1) XL.keeps (by rfl) (by rfl) (by rfl) (fun s e => recFacts_of (Bool.and_eq_true_iff.mp e).2) (by rfl) (by first | assumption | decide +kernel) (by decide +kernel) ⟨rfl, rfl, rfl, rfl, rfl, by decide +kernel⟩ ?$hw ?$hc
    (case $hl:ident => intro w; unfold openEnds fencedOpening topFrom; (first | rw [PySem.W.Fast.te10274390034422433532, PySem.W.Fast.te14082659384304107361, PySem.W.Fast.te14289696077712309145, PySem.W.Fast.te14364793385576792824, PySem.W.Fast.te4187177175401517315] | skip); kernel_rfl)))
set_option maxRecDepth 100000 in
set_option maxHeartbeats 8000000 in
open_top hd for PySem.Challenge.rw_nu0009_01

/-! abstract values, abstract objects -/
inductive PV where
  | none
  | bool (b : Bool)
  | int (i : Int)
  | tup (vs : List PV)
  | obj (i : Nat)
  | con (v : Value)
  | rng (a b : Int)
deriving Inhabited

/-- a lambda: what its object holds -/
structure LD where
  qual : Str
  params : Arguments
  body : Expr
  scope : Scope

inductive AO where
  | lst (vs : List PV)
  | ins (c : Addr) (d : Nat)
  | dct (fs : List (Str × PV))
  | lam (l : LD)
deriving Inhabited

abbrev tupO (vs : List Value) (n : Nat) : Obj := { cls := .type "tuple", data := .seq vs.toArray n }

mutual
inductive VR (h : Heap) (ρ : List Addr) : Value → PV → Prop
  | none : VR h ρ .none .none
  | bool (b : Bool) : VR h ρ (.bool b) (.bool b)
  | int (i : Int) (t : Tok) : VR h ρ (.int i t) (.int i)
  | tup {a : Addr} {vs : List Value} {n : Nat} {ps : List PV} : h.get? a = some (tupO vs n) → VRs h ρ vs ps → VR h ρ (.ref a) (.tup ps)
  | obj {i : Nat} {a : Addr} : ρ[i]? = some a → VR h ρ (.ref a) (.obj i)
  | con (v : Value) : VR h ρ v (.con v)
  | rng {a : Addr} {x y : Int} {t u v : Tok} : IsRange h a x y 1 t u v → VR h ρ (.ref a) (.rng x y)
inductive VRs (h : Heap) (ρ : List Addr) : List Value → List PV → Prop
  | nil : VRs h ρ [] []
  | cons {v : Value} {vs : List Value} {p : PV} {ps : List PV} : VR h ρ v p → VRs h ρ vs ps → VRs h ρ (v :: vs) (p :: ps)
end

def Imm (o : Obj) : Prop :=
  (∃ vs n, o.data = .seq vs n ∧ o.cls = .type "tuple") ∨ (∃ vs, o.data = .fields vs ∧ (o.cls = .type "range" ∨ ∃ q t, vs[1]? = some (.str q t)))

/-- what a step keeps: X the addresses (besides the store's) that may turn -/
structure Step (X : List Addr) (h : Heap) (ρ : List Addr) (h' : Heap) (ρ' : List Addr) : Prop where
  ext : ∃ τ, ρ' = ρ ++ τ ∧ ∀ a ∈ τ, a ∈ X ∨ h.get? a = none
  keep : ∀ b o, h.get? b = some o → b ∉ ρ → b ∉ X → h'.get? b = some o
  imm : ∀ b o, h.get? b = some o → Imm o → h'.get? b = some o
  dom : ∀ b o, h.get? b = some o → b ∉ X → ∃ o', h'.get? b = some o'

theorem Step.refl (X : List Addr) (h : Heap) (ρ : List Addr) : Step X h ρ h ρ :=
  ⟨⟨[], by simp, by simp⟩, fun _ _ e _ _ => e, fun _ _ e _ => e, fun _ o e _ => ⟨o, e⟩⟩

theorem Step.trans {X h ρ h' ρ' h'' ρ''} (s : Step X h ρ h' ρ') (t : Step X h' ρ' h'' ρ'') : Step X h ρ h'' ρ'' := by
  obtain ⟨⟨τ, rfl, hτ⟩, k, i, d⟩ := s
  obtain ⟨⟨τ', rfl, hτ'⟩, k', i', d'⟩ := t
  refine ⟨⟨τ ++ τ', by simp, fun a ha => ?_⟩, fun b o e hb hx => ?_, fun b o e hi => i' b o (i b o e hi) hi, fun b o e hx => ?_⟩
  · rcases List.mem_append.mp ha with ha | ha
    · exact hτ a ha
    · by_cases hx : a ∈ X
      · exact .inl hx
      · refine .inr ?_
        cases q : h.get? a with
        | none => rfl
        | some o =>
          obtain ⟨o', e⟩ := d a o q hx
          rw [(hτ' a ha).resolve_left hx] at e; cases e
  · refine k' b o (k b o e hb hx) (fun hm => ?_) hx
    rcases List.mem_append.mp hm with hm | hm
    · exact hb hm
    · rw [(hτ b hm).resolve_left hx] at e; cases e
  · obtain ⟨o', e'⟩ := d b o e hx
    exact d' b o' e' hx

theorem Step.mono {X Y h ρ h' ρ'} (s : Step X h ρ h' ρ') (k : ∀ a ∈ X, a ∈ Y) : Step Y h ρ h' ρ' :=
  ⟨let ⟨τ, e, hτ⟩ := s.ext; ⟨τ, e, fun a ha => (hτ a ha).imp (k a) id⟩, fun b o e hb hy => s.keep b o e hb fun q => hy (k b q), s.imm, fun b o e hy => s.dom b o e fun q => hy (k b q)⟩

abbrev Kp (h h' : Heap) : Prop := ∀ b o, h.get? b = some o → h'.get? b = some o

theorem Step.ofKp {X h ρ h'} (k : Kp h h') : Step X h ρ h' ρ := ⟨⟨[], by simp, by simp⟩, fun b o e _ _ => k b o e, fun b o e _ => k b o e, fun b o e _ => ⟨o, k b o e⟩⟩

theorem Step.rho {X h ρ h' ρ'} (s : Step X h ρ h' ρ') {i : Nat} {a : Addr} (e : ρ[i]? = some a) : ρ'[i]? = some a := by
  obtain ⟨⟨τ, rfl, _⟩, _⟩ := s
  rw [List.getElem?_append_left (List.getElem?_eq_some_iff.mp e).1]; exact e

theorem imm_tup (vs : List Value) (n : Nat) : Imm (tupO vs n) := .inl ⟨_, _, rfl, rfl⟩

mutual
theorem VR.step {X h ρ h' ρ'} (s : Step X h ρ h' ρ') : ∀ {v p}, VR h ρ v p → VR h' ρ' v p
  | _, _, .none => .none
  | _, _, .bool b => .bool b
  | _, _, .int i t => .int i t
  | _, _, .tup e r => .tup (s.imm _ _ e (imm_tup _ _)) (VRs.step s r)
  | _, _, .obj e => .obj (s.rho e)
  | _, _, .con v => .con v
  | _, _, .rng e => .rng (s.imm _ _ e (.inr ⟨_, rfl, .inl rfl⟩))
theorem VRs.step {X h ρ h' ρ'} (s : Step X h ρ h' ρ') : ∀ {vs ps}, VRs h ρ vs ps → VRs h' ρ' vs ps
  | _, _, .nil => .nil
  | _, _, .cons a b => .cons (VR.step s a) (VRs.step s b)
end

theorem VRs.length {h ρ} : ∀ {vs ps}, VRs h ρ vs ps → vs.length = ps.length
  | _, _, .nil => rfl
  | _, _, .cons _ b => by simp [VRs.length b]
theorem VRs.append {h ρ} : ∀ {vs ps us qs}, VRs h ρ vs ps → VRs h ρ us qs → VRs h ρ (vs ++ us) (ps ++ qs)
  | _, _, _, _, .nil, k => k
  | _, _, _, _, .cons a b, k => .cons a (VRs.append b k)
theorem VRs.one {h ρ v p} (x : VR h ρ v p) : VRs h ρ [v] [p] := .cons x .nil
theorem VRs.get {h ρ} : ∀ {vs ps}, VRs h ρ vs ps → ∀ {k : Nat} {p : PV}, ps[k]? = some p → ∃ v, vs[k]? = some v ∧ VR h ρ v p
  | _, _, .nil, k, p, e => by simp at e
  | _, _, .cons (v := v) a b, 0, p, e => by simp at e; subst e; exact ⟨v, rfl, a⟩
  | _, _, .cons a b, k + 1, p, e => by
    obtain ⟨v, e', x⟩ := VRs.get b (k := k) (p := p) (by simpa using e)
    exact ⟨v, by simpa using e', x⟩
theorem VRs.set {h ρ} : ∀ {vs ps}, VRs h ρ vs ps → ∀ (k : Nat) {v p}, VR h ρ v p → VRs h ρ (vs.set k v) (ps.set k p)
  | _, _, .nil, _, _, _, _ => .nil
  | _, _, .cons _ b, 0, _, _, x => .cons x b
  | _, _, .cons a b, k + 1, _, _, x => .cons a (VRs.set b k x)
theorem VRs.get' {h ρ} : ∀ {vs ps}, VRs h ρ vs ps → ∀ {k : Nat} {v : Value}, vs[k]? = some v → ∃ p, ps[k]? = some p ∧ VR h ρ v p
  | _, _, .nil, k, p, e => by simp at e
  | _, _, .cons (p := p) a b, 0, v, e => by simp at e; subst e; exact ⟨p, rfl, a⟩
  | _, _, .cons a b, k + 1, p, e => by
    obtain ⟨v, e', x⟩ := VRs.get' b (k := k) (v := p) (by simpa using e)
    exact ⟨v, by simpa using e', x⟩

/-! the fixed world of the walk -/
structure Tab where
  c : Addr
  p : Addr
  pos : Pos
  qual : Str

structure Cx where
  prog : Program
  w : World
  K : Frag
  h₀ : Heap
  tabs : List Tab

structure Cx.Ok (C : Cx) : Prop where
  k : C.K.In C.h₀
  top : ∃ p loose mean mg mb, Top p loose mean mg mb C.h₀
  codes : ∀ q ∈ C.tabs, CodeHd C.h₀ q.c q.p
  pnew : ∀ q ∈ C.tabs, C.h₀.get? q.p = none
  pnd : (C.tabs.map (·.p)).Nodup

abbrev Cx.X (C : Cx) : List Addr := C.tabs.map (·.p)

noncomputable def FsR (w : World) (h : Heap) (ρ : List Addr) : List DictEntry → List (Str × PV) → Prop
  | [], [] => True
  | e :: es, f :: fs => (∃ t, e.key = .str f.1 t) ∧ VR h ρ e.val f.2 ∧ FsR w h ρ es fs
  | _, _ => False
theorem FsR.step {w X h ρ h' ρ'} (s : Step X h ρ h' ρ') : ∀ {es fs}, FsR w h ρ es fs → FsR w h' ρ' es fs
  | [], [], _ => trivial
  | _ :: _, _ :: _, ⟨a, b, c⟩ => ⟨a, b.step s, FsR.step s c⟩
  | [], _ :: _, x => x.elim
  | _ :: _, [], x => x.elim

def OR (w : World) (h : Heap) (ρ : List Addr) (a : Addr) : AO → Prop
  | .lst ps => ∃ vs n, h.get? a = some (listOf vs.toArray n) ∧ VRs h ρ vs ps
  | .ins c d => ∃ dx, ρ[d]? = some dx ∧ h.get? a = some (instObj c dx)
  | .dct fs => ∃ es n, h.get? a = some (dictOf es n) ∧ FsR w h ρ es fs
  | .lam l => ∃ pm c' ctv, h.get? a = some (kla_obj "<lambda>" l.qual l.params l.body l.scope [] pm c' ctv) ∧ h.CodeRec (.ref c') l.qual

theorem codeRec_step {X h ρ h' ρ'} (s : Step X h ρ h' ρ') {cv : Value} {q : Str} (x : h.CodeRec cv q) : h'.CodeRec cv q := by
  obtain ⟨c, o, vs, t, e1, e2, e3, e4⟩ := x
  exact ⟨c, o, vs, t, e1, s.imm _ _ e2 (.inr ⟨vs, e3, .inr ⟨q, t, e4⟩⟩), e3, e4⟩

theorem OR.step {w X h ρ h' ρ' a o} (s : Step X h ρ h' ρ') (k : ∀ ob, h.get? a = some ob → h'.get? a = some ob) (x : OR w h ρ a o) : OR w h' ρ' a o := by
  cases o with
  | lst ps => obtain ⟨vs, n, e, r⟩ := x; exact ⟨vs, n, k _ e, r.step s⟩
  | ins c d => obtain ⟨dx, e, r⟩ := x; exact ⟨dx, s.rho e, k _ r⟩
  | dct fs => obtain ⟨es, n, e, r⟩ := x; exact ⟨es, n, k _ e, r.step s⟩
  | lam l => obtain ⟨pm, c', ctv, e, r⟩ := x; exact ⟨pm, c', ctv, k _ e, codeRec_step s r⟩

theorem OR.some {w h ρ a o} (x : OR w h ρ a o) : ∃ ob, h.get? a = some ob := by
  cases o with
  | lst ps => obtain ⟨vs, n, e, r⟩ := x; exact ⟨_, e⟩
  | ins c d => obtain ⟨dx, e, r⟩ := x; exact ⟨_, r⟩
  | dct fs => obtain ⟨es, n, e, r⟩ := x; exact ⟨_, e⟩
  | lam l => obtain ⟨pm, c', ctv, e, r⟩ := x; exact ⟨_, e⟩

def TabOk (h : Heap) (q : Tab) : Prop := ∃ ps, h.get? q.p = some (tabObj ps) ∧ (ps = #[] ∨ ∃ c', ps = #[rawInt q.pos.line, rawInt q.pos.col, .ref c'] ∧ h.CodeRec (.ref c') q.qual)

/-- the store -/
structure SR (C : Cx) (h : Heap) (ρ : List Addr) (σ : List AO) : Prop where
  len : ρ.length = σ.length
  nod : ρ.Nodup
  obj : ∀ (i : Nat) (a : Addr) (o : AO), ρ[i]? = some a → σ[i]? = some o → OR C.w h ρ a o
  base : Kp C.h₀ h
  new : ∀ a ∈ ρ, C.h₀.get? a = none
  tab : ∀ q ∈ C.tabs, TabOk h q ∧ q.p ∉ ρ

section
variable {C : Cx} {h h' : Heap} {ρ ρ' : List Addr} {σ σ' : List AO}

theorem SR.at (S : SR C h ρ σ) {i : Nat} {o : AO} (e : σ[i]? = some o) : ∃ a, ρ[i]? = some a ∧ OR C.w h ρ a o := by
  have hi : i < ρ.length := by rw [S.len]; exact (List.getElem?_eq_some_iff.mp e).1
  exact ⟨ρ[i], List.getElem?_eq_getElem hi, S.obj i _ o (List.getElem?_eq_getElem hi) e⟩

theorem SR.in (S : SR C h ρ σ) {a : Addr} (ha : a ∈ ρ) : ∃ ob, h.get? a = some ob := by
  obtain ⟨i, hi, rfl⟩ := List.mem_iff_getElem.mp ha
  have hs : i < σ.length := by rw [← S.len]; exact hi
  exact (S.obj i _ _ (List.getElem?_eq_getElem hi) (List.getElem?_eq_getElem hs)).some

theorem none_of_size (h : Heap) (a : Addr) (ha : h.objs.size ≤ a) : h.get? a = none := Heap.get?_none_of_le ha

theorem TabOk.step {X : List Addr} {q : Tab} (s : Step X h ρ h' ρ') (x : TabOk h q) (k : ∀ ob, h.get? q.p = some ob → h'.get? q.p = some ob) : TabOk h' q := by
  obtain ⟨ps, e, r⟩ := x
  refine ⟨ps, k _ e, r.imp id fun ⟨c', e', r'⟩ => ⟨c', e', codeRec_step s r'⟩⟩

theorem SR.kp (S : SR C h ρ σ) (k : Kp h h') : SR C h' ρ σ :=
  have s : Step [] h ρ h' ρ := .ofKp k
  ⟨S.len, S.nod, fun i a o e1 e2 => (S.obj i a o e1 e2).step s (fun _ e => k _ _ e), fun b o e => k _ _ (S.base b o e), S.new, fun q hq => ⟨(S.tab q hq).1.step s (fun _ e => k _ _ e), (S.tab q hq).2⟩⟩

/-- an address outside store, base and tables turns -/
theorem SR.but (S : SR C h ρ σ) {X : List Addr} (s : Step X h ρ h' ρ) (hx : ∀ a ∈ X, a ∉ ρ ∧ C.h₀.get? a = none ∧ a ∉ C.X) (kr : ∀ a ∈ ρ, ∀ ob, h.get? a = some ob → h'.get? a = some ob) : SR C h' ρ σ := by
  refine ⟨S.len, S.nod, fun i a o e1 e2 => (S.obj i a o e1 e2).step s (kr a (List.mem_of_getElem? e1)), fun b o e => ?_, S.new, fun q hq => ⟨(S.tab q hq).1.step s fun ob e => ?_, (S.tab q hq).2⟩⟩
  · refine s.keep b o (S.base b o e) (fun hb => ?_) (fun hb => ?_)
    · rw [S.new b hb] at e; cases e
    · rw [(hx b hb).2.1] at e; cases e
  · refine s.keep _ _ e (S.tab q hq).2 fun hb => ?_
    exact (hx _ hb).2.2 (List.mem_map_of_mem hq)

/-- one more object -/
theorem SR.alloc (S : SR C h ρ σ) {a : Addr} {o : AO} (ha : h.get? a = none) (k : Kp h h') (ho : OR C.w h' (ρ ++ [a]) a o) (ht : a ∉ C.X) :
    SR C h' (ρ ++ [a]) (σ ++ [o]) ∧ Step [] h ρ h' (ρ ++ [a]) := by
  have s : Step [] h ρ h' (ρ ++ [a]) := ⟨⟨[a], rfl, by simpa using ha⟩, fun b o e _ _ => k b o e, fun b o e _ => k b o e, fun b o e _ => ⟨o, k b o e⟩⟩
  have nm : a ∉ ρ := fun hm => by obtain ⟨ob, e⟩ := S.in hm; rw [ha] at e; cases e
  refine ⟨⟨by simp [S.len], ?_, fun i b o' e1 e2 => ?_, fun b o e => k _ _ (S.base b o e), fun b hb => ?_, fun q hq => ⟨(S.tab q hq).1.step s (fun _ e => k _ _ e), fun hm => ?_⟩⟩, s⟩
  · refine List.nodup_append.mpr ⟨S.nod, by simp, fun x hx y hy => ?_⟩
    rw [List.mem_singleton] at hy; subst hy
    rintro rfl; exact nm hx
  · by_cases hi : i < ρ.length
    · rw [List.getElem?_append_left hi] at e1
      rw [List.getElem?_append_left (by rw [← S.len]; exact hi)] at e2
      exact (S.obj i b o' e1 e2).step s (fun _ e => k _ _ e)
    · have hi' : i = ρ.length := by
        have := (List.getElem?_eq_some_iff.mp e1).1
        simp at this; omega
      subst hi'
      rw [S.len] at e2
      simp at e1 e2
      subst e1; subst e2
      exact ho
  · rcases List.mem_append.mp hb with hb | hb
    · exact S.new b hb
    · rw [List.mem_singleton] at hb; subst hb
      cases q : C.h₀.get? b with
      | none => rfl
      | some o => have := S.base b o q; rw [ha] at this; cases this
  · rcases List.mem_append.mp hm with hm | hm
    · exact (S.tab q hq).2 hm
    · rw [List.mem_singleton] at hm
      exact ht (hm ▸ List.mem_map_of_mem hq)

theorem nodup_idx : ∀ {l : List Addr}, l.Nodup → ∀ {i j : Nat} {a : Addr}, l[i]? = some a → l[j]? = some a → i = j
  | [], _, i, j, a, e, _ => by simp at e
  | x :: r, n, 0, 0, a, _, _ => rfl
  | x :: r, n, 0, j + 1, a, e, e' => by
    simp at e e'; subst e
    exact absurd (List.mem_of_getElem? e') (List.nodup_cons.mp n).1
  | x :: r, n, i + 1, 0, a, e, e' => by
    simp at e e'; subst e'
    exact absurd (List.mem_of_getElem? e) (List.nodup_cons.mp n).1
  | x :: r, n, i + 1, j + 1, a, e, e' => by
    simp at e e'
    rw [nodup_idx (List.nodup_cons.mp n).2 e e']

/-- an object of the store turns -/
theorem SR.set (S : SR C h ρ σ) {i : Nat} {a : Addr} {o : AO} (ha : ρ[i]? = some a) (hi : ∀ ob, h.get? a = some ob → ¬ Imm ob) (hs : Heap.SameBut a h h') (hd : ∃ ob, h'.get? a = some ob)
    (ho : Step [a] h ρ h' ρ → OR C.w h' ρ a o) : SR C h' ρ (σ.set i o) ∧ Step [] h ρ h' ρ := by
  have ham : a ∈ ρ := List.mem_of_getElem? ha
  have k : ∀ b ob, b ≠ a → h.get? b = some ob → h'.get? b = some ob := fun b ob hb e => (hs.2 b hb).trans e
  have s : Step [] h ρ h' ρ := by
    refine ⟨⟨[], by simp, by simp⟩, fun b ob e hb _ => k b ob (fun q => hb (q ▸ ham)) e, fun b ob e im => k b ob (fun q => hi ob (q ▸ e) im) e, fun b ob e _ => ?_⟩
    by_cases q : b = a
    · subst q; exact hd
    · exact ⟨ob, k b ob q e⟩
  refine ⟨⟨by simp [S.len], S.nod, fun j b o' e1 e2 => ?_, fun b ob e => ?_, S.new, fun q hq => ⟨(S.tab q hq).1.step s fun ob e => k _ _ (fun x => (S.tab q hq).2 (x ▸ ham)) e, (S.tab q hq).2⟩⟩, s⟩
  · by_cases hj : j = i
    · subst hj
      rw [ha] at e1; cases e1
      rw [List.getElem?_set_self (by rw [← S.len]; exact (List.getElem?_eq_some_iff.mp ha).1)] at e2
      cases e2
      exact ho (s.mono (by simp))
    · rw [List.getElem?_set_ne (Ne.symm hj)] at e2
      refine (S.obj j b o' e1 e2).step s fun ob e => k b ob (fun q => ?_) e
      subst q
      exact hj (nodup_idx S.nod e1 ha)
  · refine k b ob (fun q => ?_) (S.base b ob e)
    subst q
    rw [S.new b ham] at e; cases e

end

structure SE where
  sc : Scope
  cd : Value
  qual : Str

structure EnvOk (e : SE) (env : Env) : Prop where
  sc : env.scope = e.sc
  fn : e.sc.kind = .function
  gl : env.globals = mainGlobals
  bi : env.builtins = builtinsNs
  cd : env.code = e.cd
  qual : env.qual = e.qual

structure AOk (n : Nat) (A : Around) : Prop where
  hd : A.handled = none
  dp : A.depth + 2 * n + 3 < recursionLimit
  un : A.units + 32 * n + 300 < cLine

theorem AOk.mono {n m : Nat} {A : Around} (h : AOk n A) (k : m ≤ n) : AOk m A := ⟨h.hd, by have := h.dp; omega, by have := h.un; omega⟩

abbrev Loc := Str → Option PV
def up (l : Loc) (x : Str) (v : PV) : Loc := fun y => if y = x then some v else l y

structure Rep (C : Cx) (se : SE) (env : Env) (loc : Loc) (h : Heap) (ρ : List Addr) : Prop where
  ok : EnvOk se env
  ns : ∃ m, h.Ns env.locals m ∧ ∀ x v, se.sc.names.lookup x = some .local → loc x = some v → ∃ V, m x = some V ∧ VR h ρ V v
  cells : ∀ x, (se.sc.names.lookup x = some .cell ∨ se.sc.names.lookup x = some .free) → ∃ c ov, env.cells.lookup x = some c ∧ h.IsCell c ov ∧ ∀ v, loc x = some v → ∃ V, ov = some V ∧ VR h ρ V v
  lnew : env.locals ∉ ρ ∧ C.h₀.get? env.locals = none ∧ env.locals ∉ C.X
  cnew : ∀ x c, (x, c) ∈ env.cells → (∃ ov, h.IsCell c ov) ∧ c ∉ ρ ∧ C.h₀.get? c = none ∧ c ∉ C.X ∧ c ≠ env.locals
  capart : ∀ x y c, env.cells.lookup x = some c → env.cells.lookup y = some c → x = y

section
variable {C : Cx} {se : SE} {env : Env} {loc : Loc} {h h' : Heap} {ρ ρ' : List Addr} {σ σ' : List AO}

theorem Rep.kept (R : Rep C se env loc h ρ) {X : List Addr} (s : Step X h ρ h' ρ') (nl : env.locals ∉ ρ') (nc : ∀ x c, (x, c) ∈ env.cells → c ∉ ρ') (kl : ∀ o, h.get? env.locals = some o → h'.get? env.locals = some o) (kc : ∀ x c, (x, c) ∈ env.cells → ∀ o, h.get? c = some o → h'.get? c = some o) : Rep C se env loc h' ρ' := by
  obtain ⟨m, hn, hm⟩ := R.ns
  have cell : ∀ x c, (x, c) ∈ env.cells → ∀ ov, h.IsCell c ov → h'.IsCell c ov := fun x c hc ov ⟨o, e, d⟩ => ⟨o, kc x c hc o e, d⟩
  refine ⟨R.ok, ⟨m, hn.at' kl, fun x v hx hv => ?_⟩, fun x hx => ?_, ⟨nl, R.lnew.2⟩, fun x c hc => ?_, R.capart⟩
  · obtain ⟨V, e, r⟩ := hm x v hx hv
    exact ⟨V, e, r.step s⟩
  · obtain ⟨c, ov, e1, e2, e3⟩ := R.cells x hx
    exact ⟨c, ov, e1, cell x c (mem_of_lookup e1) ov e2, fun v hv => let ⟨V, a, b⟩ := e3 v hv; ⟨V, a, b.step s⟩⟩
  · obtain ⟨⟨ov, hv⟩, c1, c2, c3, c4⟩ := R.cnew x c hc
    exact ⟨⟨ov, cell x c hc ov hv⟩, nc x c hc, c2, c3, c4⟩

theorem not_tau {X τ : List Addr} (hτ : ∀ a ∈ τ, a ∈ X ∨ h.get? a = none) {b : Addr} {o : Obj} (e : h.get? b = some o) (hx : b ∉ X) : b ∉ τ := fun q => by rw [(hτ b q).resolve_left hx] at e; cases e
theorem Step.off {X : List Addr} (s : Step X h ρ h' ρ') {b : Addr} {o : Obj} (e : h.get? b = some o) (hx : b ∉ X) (hb : b ∉ ρ) : b ∉ ρ' := by
  obtain ⟨τ, rfl, hτ⟩ := s.ext
  exact fun q => (List.mem_append.mp q).elim hb (not_tau hτ e hx)

theorem Rep.cells_some (hr : Rep C se env loc h ρ) : (∃ o, h.get? env.locals = some o) ∧ ∀ x c, (x, c) ∈ env.cells → ∃ o, h.get? c = some o := by
  obtain ⟨m, ⟨o, _, _, e, _⟩, _⟩ := hr.ns
  refine ⟨⟨o, e⟩, fun x c hx => ?_⟩
  obtain ⟨⟨ov, o, e, _⟩, _⟩ := hr.cnew x c hx
  exact ⟨o, e⟩

theorem Rep.step (R : Rep C se env loc h ρ) (s : Step C.X h ρ h' ρ') : Rep C se env loc h' ρ' := by
  obtain ⟨⟨oL, eL⟩, eC⟩ := R.cells_some
  refine R.kept s (s.off eL R.lnew.2.2 R.lnew.1) (fun x c hc => ?_) (fun o e => s.keep _ o e R.lnew.1 R.lnew.2.2) fun x c hc o e => s.keep _ o e (R.cnew x c hc).2.1 (R.cnew x c hc).2.2.2.1
  obtain ⟨o, e⟩ := eC x c hc
  exact s.off e (R.cnew x c hc).2.2.2.1 (R.cnew x c hc).2.1
end

/-! the words -/
def AW (C : Cx) (n : Nat) (se : SE) (e : Expr) (loc : Loc) (σ : List AO) (Φ : PV → List AO → Prop) : Prop :=
  ∀ (A : Around) (env : Env) (s : Shared) (ρ : List Addr) (Q E : Value → Shared → Prop), AOk n A → Rep C se env loc s.heap ρ → SR C s.heap ρ σ →
    (∀ V v h' tk ρ' σ', Step C.X s.heap ρ h' ρ' → SR C h' ρ' σ' → VR h' ρ' V v → Φ v σ' → Q V { s with heap := h', toks := tk }) →
    wpAny (model C.prog C.w) A (eval e env) Q E s

def AT (C : Cx) (n : Nat) (se : SE) (e : Expr) (loc : Loc) (σ : List AO) (Φ : Bool → List AO → Prop) : Prop :=
  ∀ (A : Around) (env : Env) (s : Shared) (ρ : List Addr) (Q : Bool → Shared → Prop) (E : Value → Shared → Prop), AOk n A → Rep C se env loc s.heap ρ → SR C s.heap ρ σ →
    (∀ b h' tk ρ' σ', Step C.X s.heap ρ h' ρ' → SR C h' ρ' σ' → Φ b σ' → Q b { s with heap := h', toks := tk }) →
    wpAny (model C.prog C.w) A (isTrue e env (eval e env)) Q E s

/-- a list of expressions -/
def AWs (C : Cx) (n : Nat) (se : SE) (es : List Expr) (loc : Loc) (σ : List AO) (Φ : List PV → List AO → Prop) : Prop :=
  ∀ (A : Around) (env : Env) (pos : Pos) (s : Shared) (ρ : List Addr) (Q : List Value → Shared → Prop) (E : Value → Shared → Prop), AOk n A → Rep C se env loc s.heap ρ → SR C s.heap ρ σ →
    (∀ Vs vs h' tk ρ' σ', Step C.X s.heap ρ h' ρ' → SR C h' ρ' σ' → VRs h' ρ' Vs vs → Φ vs σ' → Q Vs { s with heap := h', toks := tk }) →
    wpAny (model C.prog C.w) A (spliced (backTo pos (starEach es env))) Q E s

/-- an operation on values: no frame is looked at -/
def Op1 (C : Cx) (n : Nat) (t : Value → Sem Value) (a : PV) (σ : List AO) (Φ : PV → List AO → Prop) : Prop :=
  ∀ (A : Around) (s : Shared) (ρ : List Addr) (V₁ : Value) (Q E : Value → Shared → Prop), AOk n A → SR C s.heap ρ σ → VR s.heap ρ V₁ a →
    (∀ V v h' tk ρ' σ', Step C.X s.heap ρ h' ρ' → SR C h' ρ' σ' → VR h' ρ' V v → Φ v σ' → Q V { s with heap := h', toks := tk }) →
    wpAny (model C.prog C.w) A (t V₁) Q E s
def Op2 (C : Cx) (n : Nat) (t : Value → Value → Sem Value) (a b : PV) (σ : List AO) (Φ : PV → List AO → Prop) : Prop :=
  ∀ (A : Around) (s : Shared) (ρ : List Addr) (V₁ V₂ : Value) (Q E : Value → Shared → Prop), AOk n A → SR C s.heap ρ σ → VR s.heap ρ V₁ a → VR s.heap ρ V₂ b →
    (∀ V v h' tk ρ' σ', Step C.X s.heap ρ h' ρ' → SR C h' ρ' σ' → VR h' ρ' V v → Φ v σ' → Q V { s with heap := h', toks := tk }) →
    wpAny (model C.prog C.w) A (t V₁ V₂) Q E s
def Op3 (C : Cx) (n : Nat) (t : Value → Value → Value → Sem Unit) (a b c : PV) (σ : List AO) (Φ : List AO → Prop) : Prop :=
  ∀ (A : Around) (s : Shared) (ρ : List Addr) (V₁ V₂ V₃ : Value) (Q : Unit → Shared → Prop) (E : Value → Shared → Prop), AOk n A → SR C s.heap ρ σ → VR s.heap ρ V₁ a → VR s.heap ρ V₂ b → VR s.heap ρ V₃ c →
    (∀ h' tk ρ' σ', Step C.X s.heap ρ h' ρ' → SR C h' ρ' σ' → Φ σ' → Q () { s with heap := h', toks := tk }) →
    wpAny (model C.prog C.w) A (t V₁ V₂ V₃) Q E s
def OpT (C : Cx) (n : Nat) (a : PV) (σ : List AO) (Φ : Bool → List AO → Prop) : Prop :=
  ∀ (A : Around) (s : Shared) (ρ : List Addr) (V₁ : Value) (Q : Bool → Shared → Prop) (E : Value → Shared → Prop), AOk n A → SR C s.heap ρ σ → VR s.heap ρ V₁ a →
    (∀ b h' tk ρ' σ', Step C.X s.heap ρ h' ρ' → SR C h' ρ' σ' → Φ b σ' → Q b { s with heap := h', toks := tk }) →
    wpAny (model C.prog C.w) A (truthy V₁) Q E s
/-- a call -/
def AC (C : Cx) (n : Nat) (f : PV) (args : List PV) (σ : List AO) (Φ : PV → List AO → Prop) : Prop :=
  ∀ (A : Around) (s : Shared) (ρ : List Addr) (F : Value) (Vs : List Value) (Q E : Value → Shared → Prop), AOk n A → SR C s.heap ρ σ → VR s.heap ρ F f → VRs s.heap ρ Vs args →
    (∀ V v h' tk ρ' σ', Step C.X s.heap ρ h' ρ' → SR C h' ρ' σ' → VR h' ρ' V v → Φ v σ' → Q V { s with heap := h', toks := tk }) →
    wpAny (model C.prog C.w) A (call F Vs) Q E s

section
variable {C : Cx} {n : Nat} {se : SE} {loc : Loc} {σ : List AO} {Φ : PV → List AO → Prop} {ΦB : Bool → List AO → Prop}

theorem AW.mono {e : Expr} {Ψ : PV → List AO → Prop} (h : AW C n se e loc σ Φ) (k : ∀ v σ', Φ v σ' → Ψ v σ') : AW C n se e loc σ Ψ :=
  fun A env s ρ Q E ha hr hs hQ => h A env s ρ Q E ha hr hs fun V v h' tk ρ' σ' a b c d => hQ V v h' tk ρ' σ' a b c (k v σ' d)
theorem AT.mono {e : Expr} {Ψ : Bool → List AO → Prop} (h : AT C n se e loc σ ΦB) (k : ∀ v σ', ΦB v σ' → Ψ v σ') : AT C n se e loc σ Ψ :=
  fun A env s ρ Q E ha hr hs hQ => h A env s ρ Q E ha hr hs fun v h' tk ρ' σ' a b d => hQ v h' tk ρ' σ' a b (k v σ' d)
theorem AC.mono {f : PV} {args : List PV} {Ψ : PV → List AO → Prop} (h : AC C n f args σ Φ) (k : ∀ v σ', Φ v σ' → Ψ v σ') : AC C n f args σ Ψ :=
  fun A s ρ F Vs Q E ha hs hf hv hQ => h A s ρ F Vs Q E ha hs hf hv fun V v h' tk ρ' σ' a b c d => hQ V v h' tk ρ' σ' a b c (k v σ' d)
theorem AC.le {f : PV} {args : List PV} {m : Nat} (h : AC C n f args σ Φ) (k : n ≤ m) : AC C m f args σ Φ :=
  fun A s ρ F Vs Q E ha => h A s ρ F Vs Q E (ha.mono k)
theorem Op2.mono {t : Value → Value → Sem Value} {a b : PV} {Ψ : PV → List AO → Prop} (h : Op2 C n t a b σ Φ) (k : ∀ v σ', Φ v σ' → Ψ v σ') : Op2 C n t a b σ Ψ :=
  fun A s ρ V₁ V₂ Q E ha hs h1 h2 hQ => h A s ρ V₁ V₂ Q E ha hs h1 h2 fun V v h' tk ρ' σ' a b c d => hQ V v h' tk ρ' σ' a b c (k v σ' d)

theorem aw_int {i : Int} {k : Nat} {pos : Pos} (h : Φ (.int i) σ) : AW C n se (.Constant (.int i) k pos) loc σ Φ :=
  fun _ _ s ρ Q _ _ _ hs hQ => wpAny_Constant_int (hQ _ _ s.heap _ ρ σ (.refl _ _ _) hs (.int _ _) h)
theorem aw_none {k : Nat} {pos : Pos} (h : Φ .none σ) : AW C n se (.Constant .none k pos) loc σ Φ :=
  fun _ _ s ρ Q _ _ _ hs hQ => Constant_none (hQ _ _ s.heap _ ρ σ (.refl _ _ _) hs .none h)
theorem aw_bool {b : Bool} {k : Nat} {pos : Pos} (h : Φ (.bool b) σ) : AW C n se (.Constant (.bool b) k pos) loc σ Φ :=
  fun _ _ s ρ Q _ _ _ hs hQ => Constant_bool (hQ _ _ s.heap _ ρ σ (.refl _ _ _) hs (.bool b) h)

theorem aw_bin {l r : Expr} {op : Operator} {pos : Pos} (h : AW C n se l loc σ fun a σ₁ => AW C n se r loc σ₁ fun b σ₂ => Op2 C n (binaryOp op) a b σ₂ Φ) : AW C n se (.BinOp l op r pos) loc σ Φ := by
  intro A env s ρ Q E ha hr hs hQ
  refine wpAny_BinOp (h A env s ρ _ E ha hr hs fun V v h1 tk1 ρ1 σ1 s1 S1 x1 φ1 => ?_)
  refine φ1 A env _ ρ1 _ E ha (hr.step s1) S1 fun V2 v2 h2 tk2 ρ2 σ2 s2 S2 x2 φ2 => ?_
  exact φ2 A _ ρ2 V V2 _ E ha S2 (x1.step s2) x2 fun V3 v3 h3 tk3 ρ3 σ3 s3 S3 x3 φ3 => hQ V3 v3 h3 tk3 ρ3 σ3 ((s1.trans s2).trans s3) S3 x3 φ3

theorem aw_cmp {l r : Expr} {op : CmpOp} {pos : Pos} (h : AW C n se l loc σ fun a σ₁ => AW C n se r loc σ₁ fun b σ₂ => Op2 C n (compareOp op) a b σ₂ Φ) (hm : behindInMarks op r = false) : AW C n se (.Compare l [op] [r] pos) loc σ Φ := by
  intro A env s ρ Q E ha hr hs hQ
  refine wpAny_Compare1 (h A env s ρ _ E ha hr hs fun V v h1 tk1 ρ1 σ1 s1 S1 x1 φ1 => ?_) hm
  refine φ1 A env _ ρ1 _ E ha (hr.step s1) S1 fun V2 v2 h2 tk2 ρ2 σ2 s2 S2 x2 φ2 => ?_
  exact φ2 A _ ρ2 V V2 _ E ha S2 (x1.step s2) x2 fun V3 v3 h3 tk3 ρ3 σ3 s3 S3 x3 φ3 => hQ V3 v3 h3 tk3 ρ3 σ3 ((s1.trans s2).trans s3) S3 x3 φ3

theorem at_cmp {l r : Expr} {op : CmpOp} {pos : Pos} (h : AW C n se l loc σ fun a σ₁ => AW C n se r loc σ₁ fun b σ₂ => Op2 C n (compareOp op) a b σ₂ fun c σ₃ => OpT C n c σ₃ ΦB) (hm : behindInMarks op r = false) : AT C n se (.Compare l [op] [r] pos) loc σ ΦB := by
  intro A env s ρ Q E ha hr hs hQ
  refine wpAny_isTrue_Compare1 (h A env s ρ _ E ha hr hs fun V v h1 tk1 ρ1 σ1 s1 S1 x1 φ1 => ?_) hm
  refine φ1 A env _ ρ1 _ E ha (hr.step s1) S1 fun V2 v2 h2 tk2 ρ2 σ2 s2 S2 x2 φ2 => ?_
  refine φ2 A _ ρ2 V V2 _ E ha S2 (x1.step s2) x2 fun V3 v3 h3 tk3 ρ3 σ3 s3 S3 x3 φ3 => ?_
  exact φ3 A _ ρ3 V3 _ E ha S3 x3 fun b h4 tk4 ρ4 σ4 s4 S4 φ4 => hQ b h4 tk4 ρ4 σ4 (((s1.trans s2).trans s3).trans s4) S4 φ4

theorem at_cmp2 {l r r' : Expr} {op op' : CmpOp} {pos : Pos} (h : AW C n se l loc σ fun a σ₁ => AW C n se r loc σ₁ fun b σ₂ => Op2 C n (compareOp op) a b σ₂ fun c σ₃ => OpT C n c σ₃ fun t σ₄ =>
      if t = true then AW C n se r' loc σ₄ fun d σ₅ => Op2 C n (compareOp op') b d σ₅ fun c' σ₆ => OpT C n c' σ₆ ΦB else ΦB false σ₄) (hm : lastMarks [op, op'] [r, r'] = false) :
    AT C n se (.Compare l [op, op'] [r, r'] pos) loc σ ΦB := by
  intro A env s ρ Q E ha hr hs hQ
  refine isTrue_chain (h A env s ρ _ E ha hr hs fun V v h1 tk1 ρ1 σ1 s1 S1 x1 φ1 => ?_) hm
  refine test_link (φ1 A env _ ρ1 _ E ha (hr.step s1) S1 fun V2 v2 h2 tk2 ρ2 σ2 s2 S2 x2 φ2 => ?_)
  refine φ2 A _ ρ2 V V2 _ E ha S2 (x1.step s2) x2 fun V3 v3 h3 tk3 ρ3 σ3 s3 S3 x3 φ3 => ?_
  refine φ3 A _ ρ3 V3 _ E ha S3 x3 fun b h4 tk4 ρ4 σ4 s4 S4 φ4 => ?_
  have s14 := ((s1.trans s2).trans s3).trans s4
  cases b with
  | false =>
    rw [if_neg Bool.false_ne_true] at φ4 ⊢
    exact hQ _ _ _ _ _ s14 S4 φ4
  | true =>
    rw [if_pos rfl] at φ4 ⊢
    refine test_last (φ4 A env _ ρ4 _ E ha (hr.step s14) S4 fun V5 v5 h5 tk5 ρ5 σ5 s5 S5 x5 φ5 => ?_)
    refine φ5 A _ ρ5 V2 V5 _ E ha S5 (x2.step ((s3.trans s4).trans s5)) x5 fun V6 v6 h6 tk6 ρ6 σ6 s6 S6 x6 φ6 => ?_
    exact φ6 A _ ρ6 V6 _ E ha S6 x6 fun b h7 tk7 ρ7 σ7 s7 S7 φ7 => hQ b h7 tk7 ρ7 σ7 (((s14.trans s5).trans s6).trans s7) S7 φ7

theorem aw_not {x : Expr} {pos : Pos} {op : UnaryOp} (h : AW C n se x loc σ fun a σ₁ => Op1 C n (unaryOp op) a σ₁ Φ) : AW C n se (.UnaryOp op x pos) loc σ Φ := by
  intro A env s ρ Q E ha hr hs hQ
  refine UnaryOp_ (h A env s ρ _ E ha hr hs fun V v h1 tk1 ρ1 σ1 s1 S1 x1 φ1 => ?_)
  exact φ1 A _ ρ1 V _ E ha S1 x1 fun V3 v3 h3 tk3 ρ3 σ3 s3 S3 x3 φ3 => hQ V3 v3 h3 tk3 ρ3 σ3 (s1.trans s3) S3 x3 φ3

theorem at_not {x : Expr} {pos : Pos} (h : AT C n se x loc σ fun b σ₁ => ΦB (!b) σ₁) : AT C n se (.UnaryOp .Not x pos) loc σ ΦB := by
  intro A env s ρ Q E ha hr hs hQ
  exact isTrue_not (h A env s ρ _ E ha hr hs fun b h1 tk1 ρ1 σ1 s1 S1 φ1 => hQ _ h1 tk1 ρ1 σ1 s1 S1 φ1)

theorem at_and {x : Expr} {rest : List Expr} {pos : Pos} (h : AT C n se x loc σ fun b σ₁ => if b = true then AT C n se (.BoolOp .And rest pos) loc σ₁ ΦB else ΦB false σ₁) : AT C n se (.BoolOp .And (x :: rest) pos) loc σ ΦB := by
  intro A env s ρ Q E ha hr hs hQ
  refine isTrue_and (h A env s ρ _ E ha hr hs fun b h1 tk1 ρ1 σ1 s1 S1 φ1 => ?_)
  cases b with
  | false => exact hQ _ h1 tk1 ρ1 σ1 s1 S1 φ1
  | true => exact φ1 A env _ ρ1 _ E ha (hr.step s1) S1 fun b h2 tk2 ρ2 σ2 s2 S2 φ2 => hQ b h2 tk2 ρ2 σ2 (s1.trans s2) S2 φ2
theorem at_and0 {pos : Pos} (h : ΦB true σ) : AT C n se (.BoolOp .And [] pos) loc σ ΦB :=
  fun A env s ρ Q E ha hr hs hQ => isTrue_and_nil (hQ _ s.heap s.toks ρ σ (.refl _ _ _) hs h)
theorem at_or {x : Expr} {rest : List Expr} {pos : Pos} (h : AT C n se x loc σ fun b σ₁ => if b = true then ΦB true σ₁ else AT C n se (.BoolOp .Or rest pos) loc σ₁ ΦB) : AT C n se (.BoolOp .Or (x :: rest) pos) loc σ ΦB := by
  intro A env s ρ Q E ha hr hs hQ
  refine isTrue_or (h A env s ρ _ E ha hr hs fun b h1 tk1 ρ1 σ1 s1 S1 φ1 => ?_)
  cases b with
  | true => exact hQ _ h1 tk1 ρ1 σ1 s1 S1 φ1
  | false => exact φ1 A env _ ρ1 _ E ha (hr.step s1) S1 fun b h2 tk2 ρ2 σ2 s2 S2 φ2 => hQ b h2 tk2 ρ2 σ2 (s1.trans s2) S2 φ2
theorem at_or0 {pos : Pos} (h : ΦB false σ) : AT C n se (.BoolOp .Or [] pos) loc σ ΦB :=
  fun A env s ρ Q E ha hr hs hQ => isTrue_or_nil (hQ _ s.heap s.toks ρ σ (.refl _ _ _) hs h)

theorem at_plain {e : Expr} (h : AW C n se e loc σ fun v σ₁ => OpT C n v σ₁ ΦB) (he : ∀ env whole, isTrue e env whole = (do let v ← whole; standAt e.pos; holding [v] (truthy v))) : AT C n se e loc σ ΦB := by
  intro A env s ρ Q E ha hr hs hQ
  refine isTrue_plain (h A env s ρ _ E ha hr hs fun V v h1 tk1 ρ1 σ1 s1 S1 x1 φ1 => ?_) (he _ _)
  exact φ1 A _ ρ1 V _ E ha S1 x1 fun b h2 tk2 ρ2 σ2 s2 S2 φ2 => hQ b h2 tk2 ρ2 σ2 (s1.trans s2) S2 φ2

/-- and, or as values -/
theorem aw_and {x y : Expr} {rest : List Expr} {pos : Pos} (h : AW C n se x loc σ fun v σ₁ => OpT C n v σ₁ fun b σ₂ => if b = true then AW C n se (.BoolOp .And (y :: rest) pos) loc σ₂ Φ else Φ v σ₂) : AW C n se (.BoolOp .And (x :: y :: rest) pos) loc σ Φ := by
  intro A env s ρ Q E ha hr hs hQ
  refine BoolOp_and (h A env s ρ _ E ha hr hs fun V v h1 tk1 ρ1 σ1 s1 S1 x1 φ1 => ?_)
  refine φ1 A _ ρ1 V _ E ha S1 x1 fun b h2 tk2 ρ2 σ2 s2 S2 φ2 => ?_
  cases b with
  | false => exact hQ V v h2 tk2 ρ2 σ2 (s1.trans s2) S2 (x1.step s2) φ2
  | true => exact φ2 A env _ ρ2 _ E ha (hr.step (s1.trans s2)) S2 fun V3 v3 h3 tk3 ρ3 σ3 s3 S3 x3 φ3 => hQ V3 v3 h3 tk3 ρ3 σ3 ((s1.trans s2).trans s3) S3 x3 φ3
theorem aw_or {x y : Expr} {rest : List Expr} {pos : Pos} (h : AW C n se x loc σ fun v σ₁ => OpT C n v σ₁ fun b σ₂ => if b = true then Φ v σ₂ else AW C n se (.BoolOp .Or (y :: rest) pos) loc σ₂ Φ) : AW C n se (.BoolOp .Or (x :: y :: rest) pos) loc σ Φ := by
  intro A env s ρ Q E ha hr hs hQ
  refine BoolOp_or (h A env s ρ _ E ha hr hs fun V v h1 tk1 ρ1 σ1 s1 S1 x1 φ1 => ?_)
  refine φ1 A _ ρ1 V _ E ha S1 x1 fun b h2 tk2 ρ2 σ2 s2 S2 φ2 => ?_
  cases b with
  | true => exact hQ V v h2 tk2 ρ2 σ2 (s1.trans s2) S2 (x1.step s2) φ2
  | false => exact φ2 A env _ ρ2 _ E ha (hr.step (s1.trans s2)) S2 fun V3 v3 h3 tk3 ρ3 σ3 s3 S3 x3 φ3 => hQ V3 v3 h3 tk3 ρ3 σ3 ((s1.trans s2).trans s3) S3 x3 φ3
theorem aw_one {op : BoolOp} {x : Expr} {pos : Pos} (h : AW C n se x loc σ Φ) : AW C n se (.BoolOp op [x] pos) loc σ Φ :=
  fun A env s ρ Q E ha hr hs hQ => BoolOp_one (h A env s ρ Q E ha hr hs hQ)
theorem aw_ifexp {t x y : Expr} {pos : Pos} (h : AT C n se t loc σ fun b σ₁ => if b = true then AW C n se x loc σ₁ Φ else AW C n se y loc σ₁ Φ) : AW C n se (.IfExp t x y pos) loc σ Φ := by
  intro A env s ρ Q E ha hr hs hQ
  refine IfExp_ (h A env s ρ _ E ha hr hs fun b h1 tk1 ρ1 σ1 s1 S1 φ1 => ?_)
  cases b with
  | true => exact φ1 A env _ ρ1 _ E ha (hr.step s1) S1 fun V3 v3 h3 tk3 ρ3 σ3 s3 S3 x3 φ3 => hQ V3 v3 h3 tk3 ρ3 σ3 (s1.trans s3) S3 x3 φ3
  | false => exact φ1 A env _ ρ1 _ E ha (hr.step s1) S1 fun V3 v3 h3 tk3 ρ3 σ3 s3 S3 x3 φ3 => hQ V3 v3 h3 tk3 ρ3 σ3 (s1.trans s3) S3 x3 φ3

theorem aws_nil {Φ : List PV → List AO → Prop} (h : Φ [] σ) : AWs C n se [] loc σ Φ :=
  fun A env pos s ρ Q E ha hr hs hQ => spliced_none (hQ _ _ s.heap s.toks ρ σ (.refl _ _ _) hs .nil h)
theorem aws_cons {Φ : List PV → List AO → Prop} {e : Expr} {es : List Expr} (h : AW C n se e loc σ fun v σ₁ => AWs C n se es loc σ₁ fun vs σ₂ => Φ (v :: vs) σ₂)
    (hs : ∀ env, starEach (e :: es) env = (false, eval e env) :: starEach es env) : AWs C n se (e :: es) loc σ Φ := by
  intro A env pos s ρ Q E ha hr hS hQ
  refine spliced_more (h A env s ρ _ E ha hr hS fun V v h1 tk1 ρ1 σ1 s1 S1 x1 φ1 => ?_) (hs env)
  exact φ1 A env pos _ ρ1 _ E ha (hr.step s1) S1 fun Vs vs h2 tk2 ρ2 σ2 s2 S2 x2 φ2 => hQ _ _ h2 tk2 ρ2 σ2 (s1.trans s2) S2 (.cons (x1.step s2) x2) φ2

theorem aw_sub {v i : Expr} {pos : Pos} (h : AW C n se v loc σ fun a σ₁ => AW C n se i loc σ₁ fun b σ₂ => Op2 C n (subscriptTail v i) a b σ₂ Φ) : AW C n se (.Subscript v i pos) loc σ Φ := by
  intro A env s ρ Q E ha hr hs hQ
  refine Subscript_ (h A env s ρ _ E ha hr hs fun V v h1 tk1 ρ1 σ1 s1 S1 x1 φ1 => ?_)
  refine φ1 A env _ ρ1 _ E ha (hr.step s1) S1 fun V2 v2 h2 tk2 ρ2 σ2 s2 S2 x2 φ2 => ?_
  exact φ2 A _ ρ2 V V2 _ E ha S2 (x1.step s2) x2 fun V3 v3 h3 tk3 ρ3 σ3 s3 S3 x3 φ3 => hQ V3 v3 h3 tk3 ρ3 σ3 ((s1.trans s2).trans s3) S3 x3 φ3

theorem aw_attr {v : Expr} {x : Str} {pos : Pos} (h : AW C n se v loc σ fun a σ₁ => Op1 C n (fun V => getAttr V x true) a σ₁ Φ)
    (he : ∀ env, eval (.Attribute v x pos) env = (do let o ← eval v env; standAt (Pos.atName pos); let r ← holding [o] (getAttr o x true); letTemporaryGo v o r; pure r)) : AW C n se (.Attribute v x pos) loc σ Φ := by
  intro A env s ρ Q E ha hr hs hQ
  refine Attribute_any_ (h A env s ρ _ E ha hr hs fun V v h1 tk1 ρ1 σ1 s1 S1 x1 φ1 => ?_) (he env)
  exact φ1 A _ ρ1 V _ E ha S1 x1 fun V3 v3 h3 tk3 ρ3 σ3 s3 S3 x3 φ3 => hQ V3 v3 h3 tk3 ρ3 σ3 (s1.trans s3) S3 x3 φ3

/-! truth -/
theorem opt_bool {b : Bool} (h : ΦB b σ) : OpT C n (.bool b) σ ΦB := by
  intro A s ρ V Q E ha hs hv hQ
  cases hv
  exact wpAny_truthy_bool (hQ b s.heap s.toks ρ σ (.refl _ _ _) hs h)

/-! ints -/
theorem opB_add {a b : Int} (h : Φ (.int (a + b)) σ) : Op2 C n (binaryOp .Add) (.int a) (.int b) σ Φ := by
  intro A s ρ V₁ V₂ Q E ha hs h1 h2 hQ
  cases h1; cases h2
  exact add_int (hQ _ _ s.heap _ ρ σ (.refl _ _ _) hs (.int _ _) h)
theorem opB_sub {a b : Int} (h : Φ (.int (a - b)) σ) : Op2 C n (binaryOp .Sub) (.int a) (.int b) σ Φ := by
  intro A s ρ V₁ V₂ Q E ha hs h1 h2 hQ
  cases h1; cases h2
  exact sub_int (hQ _ _ s.heap _ ρ σ (.refl _ _ _) hs (.int _ _) h)
theorem opB_mul {a b : Int} (h : Φ (.int (a * b)) σ) (hm : IntMulOk a b) : Op2 C n (binaryOp .Mult) (.int a) (.int b) σ Φ := by
  intro A s ρ V₁ V₂ Q E ha hs h1 h2 hQ
  cases h1; cases h2
  exact mul_int (hQ _ _ s.heap _ ρ σ (.refl _ _ _) hs (.int _ _) h) hm
theorem opB_div {a b : Int} (hb : b ≠ 0) (h : Φ (.int (Int.fdiv a b)) σ) (hd : Builtin.divisionGoesByPylong a b = false) : Op2 C n (binaryOp .FloorDiv) (.int a) (.int b) σ Φ := by
  intro A s ρ V₁ V₂ Q E ha hs h1 h2 hQ
  cases h1; cases h2
  exact floordiv_int hb (hQ _ _ s.heap _ ρ σ (.refl _ _ _) hs (.int _ _) h) (.inl hd)
theorem opB_mod {a b : Int} (hb : b ≠ 0) (h : Φ (.int (Int.fmod a b)) σ) : Op2 C n (binaryOp .Mod) (.int a) (.int b) σ Φ := by
  intro A s ρ V₁ V₂ Q E ha hs h1 h2 hQ
  cases h1; cases h2
  exact mod_int hb (hQ _ _ s.heap _ ρ σ (.refl _ _ _) hs (.int _ _) h)
theorem opB_pow {a b : Int} (h0 : 0 ≤ b) (h1' : b ≤ 1000000) (h2' : a.natAbs < 2 ^ 64) (h : Φ (.int (a ^ b.toNat)) σ) : Op2 C n (binaryOp .Pow) (.int a) (.int b) σ Φ := by
  intro A s ρ V₁ V₂ Q E ha hs h1 h2 hQ
  cases h1; cases h2
  exact pow_int_small h0 h1' h2' (hQ _ _ s.heap _ ρ σ (.refl _ _ _) hs (.int _ _) h)
theorem opI_add {a b : Int} (h : Φ (.int (a + b)) σ) : Op2 C n (inplaceOp .Add) (.int a) (.int b) σ Φ := by
  intro A s ρ V₁ V₂ Q E ha hs h1 h2 hQ
  cases h1; cases h2
  exact wpAny_iadd_int (hQ _ _ s.heap _ ρ σ (.refl _ _ _) hs (.int _ _) h)
theorem opU_neg {a : Int} (h : Φ (.int (-a)) σ) : Op1 C n (unaryOp .USub) (.int a) σ Φ := by
  intro A s ρ V₁ Q E ha hs h1 hQ
  cases h1
  exact neg_int (hQ _ _ s.heap _ ρ σ (.refl _ _ _) hs (.int _ _) h)
theorem opU_not {a : PV} (h : OpT C n a σ fun b σ' => Φ (.bool (!b)) σ') : Op1 C n (unaryOp .Not) a σ Φ := by
  intro A s ρ V₁ Q E ha hs h1 hQ
  exact not_of (h A s ρ V₁ _ E ha hs h1 fun b h2 tk2 ρ2 σ2 s2 S2 φ2 => hQ _ _ h2 tk2 ρ2 σ2 s2 S2 (.bool _) φ2)
theorem opC_lt {a b : Int} (h : Φ (.bool (decide (a < b))) σ) : Op2 C n (compareOp .Lt) (.int a) (.int b) σ Φ := by
  intro A s ρ V₁ V₂ Q E ha hs h1 h2 hQ
  cases h1; cases h2
  exact lt_int (hQ _ _ s.heap s.toks ρ σ (.refl _ _ _) hs (.bool _) h)
theorem opC_le {a b : Int} (h : Φ (.bool (decide (a ≤ b))) σ) : Op2 C n (compareOp .LtE) (.int a) (.int b) σ Φ := by
  intro A s ρ V₁ V₂ Q E ha hs h1 h2 hQ
  cases h1; cases h2
  exact le_int (hQ _ _ s.heap s.toks ρ σ (.refl _ _ _) hs (.bool _) h)
theorem opC_gt {a b : Int} (h : Φ (.bool (decide (b < a))) σ) : Op2 C n (compareOp .Gt) (.int a) (.int b) σ Φ := by
  intro A s ρ V₁ V₂ Q E ha hs h1 h2 hQ
  cases h1; cases h2
  exact gt_int (hQ _ _ s.heap s.toks ρ σ (.refl _ _ _) hs (.bool _) h)
theorem opC_ge {a b : Int} (h : Φ (.bool (decide (b ≤ a))) σ) : Op2 C n (compareOp .GtE) (.int a) (.int b) σ Φ := by
  intro A s ρ V₁ V₂ Q E ha hs h1 h2 hQ
  cases h1; cases h2
  exact ge_int (hQ _ _ s.heap s.toks ρ σ (.refl _ _ _) hs (.bool _) h)
theorem opC_eq {a b : Int} (h : Φ (.bool (a == b)) σ) : Op2 C n (compareOp .Eq) (.int a) (.int b) σ Φ := by
  intro A s ρ V₁ V₂ Q E ha hs h1 h2 hQ
  cases h1; cases h2
  exact eq_int (hQ _ _ s.heap s.toks ρ σ (.refl _ _ _) hs (.bool _) h)
theorem opC_ne {a b : Int} (h : Φ (.bool (a != b)) σ) : Op2 C n (compareOp .NotEq) (.int a) (.int b) σ Φ := by
  intro A s ρ V₁ V₂ Q E ha hs h1 h2 hQ
  cases h1; cases h2
  exact ne_int (hQ _ _ s.heap s.toks ρ σ (.refl _ _ _) hs (.bool _) h)
end

theorem kp_extBut {h h' : Heap} (x : Heap.ExtBut h.objs.size h h') : Kp h h' := fun b o e => x b o (Nat.ne_of_lt (Heap.lt_size e)) e
theorem kp_push (h : Heap) (o : Obj) : Kp h (h.push o) := fun _ _ e => Heap.get?_push_of_some _ e

abbrev mkEnv (se : SE) (L : Addr) (cl : List (Str × Addr)) (f fr : Option Addr) : Env :=
  { scope := se.sc, locals := L, globals := mainGlobals, cells := cl, qual := se.qual, func := f, code := se.cd, frame := fr, builtins := builtinsNs }

theorem EnvOk.eq {se : SE} {env : Env} (h : EnvOk se env) : env = mkEnv se env.locals env.cells env.func env.frame := by
  obtain ⟨a, b, c, d, e, f⟩ := h
  cases env
  simp only at a c d e f
  subst a; subst c; subst d; subst e; subst f
  rfl

theorem EnvOk.kind {se : SE} {env : Env} (h : EnvOk se env) (x : Str) : env.kindOf x = se.sc.names.lookup x := by
  unfold Env.kindOf; rw [h.sc]
theorem EnvOk.fun {se : SE} {env : Env} (h : EnvOk se env) : env.scope.kind = .function := by rw [h.sc]; exact h.fn
theorem EnvOk.hp {se : SE} {env : Env} (h : EnvOk se env) : (env.scope.kind == .class || (env.scope.kind == .module && env.locals != env.globals)) = false := by rw [h.fun]; rfl

/-- the addresses that stores to the names xs turn -/
def XT (env : Env) (xs : List Str) : List Addr := env.locals :: xs.filterMap (fun x => env.cells.lookup x)
def XS (C : Cx) (env : Env) : List Addr := env.locals :: (env.cells.map (·.2) ++ C.X)

theorem XT_sub {C : Cx} {env : Env} {xs : List Str} : ∀ a ∈ XT env xs, a ∈ XS C env := by
  intro a ha
  rcases List.mem_cons.mp ha with rfl | ha
  · exact List.mem_cons_self
  · obtain ⟨x, _, e⟩ := List.mem_filterMap.mp ha
    exact List.mem_cons_of_mem _ (List.mem_append_left _ (List.mem_map_of_mem (f := fun q : Str × Addr => q.2) (mem_of_lookup e)))
theorem X_sub {C : Cx} {env : Env} : ∀ a ∈ C.X, a ∈ XS C env := fun a ha => List.mem_cons_of_mem _ (List.mem_append_right _ ha)

theorem Step.same {h h' : Heap} {ρ : List Addr} {a : Addr} (hs : Heap.SameBut a h h') (hi : ∀ ob, h.get? a = some ob → ¬ Imm ob) : Step [a] h ρ h' ρ := by
  have k : ∀ b ob, b ≠ a → h.get? b = some ob → h'.get? b = some ob := fun b ob hb e => (hs.2 b hb).trans e
  refine ⟨⟨[], by simp, by simp⟩, fun b ob e _ hx => k b ob (by simpa using hx) e, fun b ob e im => k b ob (fun q => hi ob (q ▸ e) im) e, fun b ob e hx => ⟨ob, k b ob (by simpa using hx) e⟩⟩

theorem imm_dict {o : Obj} {es ep} (h : o.data = .dict es ep) : ¬ Imm o := by
  rintro (⟨vs, n, e, _⟩ | ⟨vs, e, _⟩) <;> rw [h] at e <;> cases e
theorem imm_cell {o : Obj} {v} (h : o.data = .cell v) : ¬ Imm o := by
  rintro (⟨vs, n, e, _⟩ | ⟨vs, e, _⟩) <;> rw [h] at e <;> cases e
theorem imm_list {o : Obj} (h : o.cls = .type "list") (h2 : ∃ a n, o.data = .seq a n) : ¬ Imm o := by
  obtain ⟨a, n, h2⟩ := h2
  rintro (⟨vs, n, e, c⟩ | ⟨vs, e, _⟩)
  · rw [h] at c; exact absurd c (by decide)
  · rw [h2] at e; cases e

section
variable {C : Cx} {n : Nat} {se : SE} {env : Env} {loc : Loc} {σ : List AO} {ρ : List Addr} {Φ : PV → List AO → Prop}

/-! names -/
theorem aw_local {x : Str} {v : PV} {pos : Pos} (hk : se.sc.names.lookup x = some .local) (hv : loc x = some v) (h : Φ v σ) (hd : (x == ("__debug__" : Str)) = false) : AW C n se (.Name x pos) loc σ Φ := by
  intro A env s ρ Q E ha hr hs hQ
  obtain ⟨m, hn, hm⟩ := hr.ns
  obtain ⟨V, e, r⟩ := hm x v hk hv
  exact wpAny_Name (wpAny_loadName_local hr.ok.fun (by rw [hr.ok.kind]; exact hk) hn e (hQ V v s.heap s.toks ρ σ (.refl _ _ _) hs r h)) hd

theorem aw_cell {x : Str} {v : PV} {pos : Pos} (hk : se.sc.names.lookup x = some .cell ∨ se.sc.names.lookup x = some .free) (hv : loc x = some v) (h : Φ v σ) (hd : (x == ("__debug__" : Str)) = false) (hc : (x == ("__classdict__" : Str)) = false) : AW C n se (.Name x pos) loc σ Φ := by
  intro A env s ρ Q E ha hr hs hQ
  obtain ⟨c, ov, e1, e2, e3⟩ := hr.cells x hk
  obtain ⟨V, rfl, r⟩ := e3 v hv
  have hq := hQ V v s.heap s.toks ρ σ (.refl _ _ _) hs r h
  rcases hk with hk | hk
  · exact wpAny_Name (wpAny_loadName_cell hr.ok.fun (by rw [hr.ok.kind]; exact hk) e1 e2 hq) hd
  · exact wpAny_Name (wpAny_loadName_free hr.ok.fun (by rw [hr.ok.kind]; exact hk) e1 e2 hq hc) hd

theorem aw_glob (G : C.Ok) {x : Str} {v : Value} {pos : Pos} (hk : se.sc.names.lookup x = some .globalImplicit) (e : nsIn C.K mainGlobals x = some (some v)) (h : Φ (.con v) σ) (hd : (x == ("__debug__" : Str)) = false) : AW C n se (.Name x pos) loc σ Φ := by
  intro A env s ρ Q E ha hr hs hQ
  obtain ⟨p, loose, mean, mg, mb, T⟩ := G.top
  refine Name_function_global hr.ok.fun (by rw [hr.ok.kind]; exact hk) (loadGlobal_global (mg := mg) ?_ (mg_of G.k T.g e) (hQ v _ s.heap s.toks ρ σ (.refl _ _ _) hs (.con v) h)) hd
  rw [hr.ok.gl]; exact T.g.keeps hs.base

theorem aw_built (G : C.Ok) {x : Str} {v : Value} {pos : Pos} (hk : se.sc.names.lookup x = some .globalImplicit) (e : nsIn C.K mainGlobals x = some none) (hv : bootBuiltins x = some v) (hn : x ≠ "__name__") (h : Φ (.con v) σ) (hd : (x == ("__debug__" : Str)) = false) : AW C n se (.Name x pos) loc σ Φ := by
  intro A env s ρ Q E ha hr hs hQ
  obtain ⟨p, loose, mean, mg, mb, T⟩ := G.top
  refine Name_function_global hr.ok.fun (by rw [hr.ok.kind]; exact hk) (loadGlobal_builtin (mg := mg) (mb := mb) ?_ (mg_none_of G.k T.g e) ?_ ((T.builtins x hn).trans hv) (hQ v _ s.heap s.toks ρ σ (.refl _ _ _) hs (.con v) h)) hd
  · rw [hr.ok.gl]; exact T.g.keeps hs.base
  · rw [hr.ok.bi]; exact T.b.keeps hs.base

/-! stores -/
theorem store_name {M : Model} {A : Around} {E : Value → Shared → Prop} {s : Shared} {x : Str} {V : Value} {v : PV} {Q : Unit → Shared → Prop} (hr : Rep C se env loc s.heap ρ) (hs : SR C s.heap ρ σ) (hV : VR s.heap ρ V v)
    (hk : se.sc.names.lookup x = some .local ∨ se.sc.names.lookup x = some .cell)
    (h : ∀ h' tk, Step (XT env [x]) s.heap ρ h' ρ → Rep C se env (up loc x v) h' ρ → SR C h' ρ σ → Q () { s with heap := h', toks := tk }) : wpAny M A (storeName env x V) Q E s := by
  obtain ⟨m, hn, hm⟩ := hr.ns
  rcases hk with hk | hk
  · refine wpAny_storeName_local (by rw [hr.ok.kind]; exact hk) hn (fun h' hn' hs' => ?_) hr.ok.hp
    obtain ⟨oL, es, ep, eL, dL, _⟩ := id hn
    have s1 : Step [env.locals] s.heap ρ h' ρ := Step.same hs' (fun ob e => by rw [eL] at e; cases e; exact imm_dict dL)
    have kc : ∀ y c, (y, c) ∈ env.cells → ∀ o, s.heap.get? c = some o → h'.get? c = some o := fun y c hc o e => (hs'.2 c (hr.cnew y c hc).2.2.2.2).trans e
    refine h h' _ (s1.mono fun a ha => by rw [List.mem_singleton.mp ha]; exact List.mem_cons_self) ⟨hr.ok, ⟨_, hn', fun y u hy hu => ?_⟩, fun y hy => ?_, hr.lnew, fun y c hc => ?_, hr.capart⟩ ?_
    · unfold up at hu
      by_cases q : y = x
      · rw [if_pos q] at hu; cases hu
        exact ⟨V, by simp [q], hV.step s1⟩
      · rw [if_neg q] at hu
        obtain ⟨V', e', r'⟩ := hm y u hy hu
        exact ⟨V', by simp [q, e'], r'.step s1⟩
    · have q : y ≠ x := by rintro rfl; rw [hk] at hy; rcases hy with hy | hy <;> cases hy
      obtain ⟨c, ov, e1, ⟨o, e2, e2'⟩, e3⟩ := hr.cells y hy
      refine ⟨c, ov, e1, ⟨o, kc y c (mem_of_lookup e1) o e2, e2'⟩, fun u hu => ?_⟩
      unfold up at hu; rw [if_neg q] at hu
      obtain ⟨V', a, b⟩ := e3 u hu
      exact ⟨V', a, b.step s1⟩
    · obtain ⟨⟨ov, o, e, d⟩, r⟩ := hr.cnew y c hc
      exact ⟨⟨ov, o, kc y c hc o e, d⟩, r⟩
    · exact hs.but s1 (by intro a ha; rw [List.mem_singleton.mp ha]; exact hr.lnew) fun a ha ob e => (hs'.2 a (fun q => hr.lnew.1 (q ▸ ha))).trans e
  · obtain ⟨c, ov, e1, e2, e3⟩ := hr.cells x (.inl hk)
    have hcm := mem_of_lookup e1
    refine wpAny_storeName_cell hr.ok.fun (by rw [hr.ok.kind]; exact hk) e1 e2 fun h' hc' hs' => ?_
    obtain ⟨oc, ec, dc⟩ := id e2
    have s1 : Step [c] s.heap ρ h' ρ := Step.same hs' (fun ob e => by rw [ec] at e; cases e; exact imm_cell dc)
    have hcL := (hr.cnew x c hcm).2.2.2.2
    refine h h' _ (s1.mono fun a ha => by rw [List.mem_singleton.mp ha]; exact List.mem_cons_of_mem _ (by simp [e1])) ⟨hr.ok, ⟨m, hn.sameBut hs' (Ne.symm hcL), fun y u hy hu => ?_⟩, fun y hy => ?_, hr.lnew, fun y c' hc => ?_, hr.capart⟩ ?_
    · have q : y ≠ x := by rintro rfl; rw [hk] at hy; cases hy
      unfold up at hu; rw [if_neg q] at hu
      obtain ⟨V', e', r'⟩ := hm y u hy hu
      exact ⟨V', e', r'.step s1⟩
    · obtain ⟨c', ov', f1, f2, f3⟩ := hr.cells y hy
      by_cases q : y = x
      · subst q
        rw [e1] at f1; cases f1
        refine ⟨c, some V, e1, hc', fun u hu => ?_⟩
        unfold up at hu; rw [if_pos rfl] at hu; cases hu
        exact ⟨V, rfl, hV.step s1⟩
      · have hne : c' ≠ c := fun w => q (hr.capart y x c (w ▸ f1) e1)
        refine ⟨c', ov', f1, f2.sameBut hs' hne, fun u hu => ?_⟩
        unfold up at hu; rw [if_neg q] at hu
        obtain ⟨V', a, b⟩ := f3 u hu
        exact ⟨V', a, b.step s1⟩
    · obtain ⟨⟨ov', hv'⟩, r⟩ := hr.cnew y c' hc
      by_cases q : c' = c
      · subst q; exact ⟨⟨_, hc'⟩, r⟩
      · exact ⟨⟨ov', hv'.sameBut hs' q⟩, r⟩
    · have := hr.cnew x c hcm
      exact hs.but s1 (by intro a ha; rw [List.mem_singleton.mp ha]; exact ⟨this.2.1, this.2.2.1, this.2.2.2.1⟩) fun a ha ob e => (hs'.2 a (fun q => this.2.1 (q ▸ ha))).trans e

theorem XT_mono {env : Env} {xs ys : List Str} (h : ∀ x ∈ xs, x ∈ ys) : ∀ a ∈ XT env xs, a ∈ XT env ys := by
  intro a ha
  rcases List.mem_cons.mp ha with rfl | ha
  · exact List.mem_cons_self
  · obtain ⟨x, hx, e⟩ := List.mem_filterMap.mp ha
    exact List.mem_cons_of_mem _ (List.mem_filterMap.mpr ⟨x, h x hx, e⟩)

/-- a target takes a value: the names xs turn -/
def Tg (C : Cx) (n : Nat) (se : SE) (t : Expr) (xs : List Str) (u : PV) (loc loc' : Loc) : Prop :=
  ∀ (A : Around) (env : Env) (s : Shared) (ρ : List Addr) (σ : List AO) (V : Value) (Q : Unit → Shared → Prop) (E : Value → Shared → Prop), AOk n A → Rep C se env loc s.heap ρ → SR C s.heap ρ σ → VR s.heap ρ V u →
    (∀ h' tk, Step (XT env xs) s.heap ρ h' ρ → Rep C se env loc' h' ρ → SR C h' ρ σ → Q () { s with heap := h', toks := tk }) →
    wpAny (model C.prog C.w) A (assign t env V) Q E s

theorem tg_name {x : Str} {pos : Pos} {u : PV} (hk : se.sc.names.lookup x = some .local ∨ se.sc.names.lookup x = some .cell) : Tg C n se (.Name x pos) [x] u loc (up loc x u) :=
  fun A env s ρ σ V Q E ha hr hs hV hQ => wpAny_assign_Name (store_name hr hs hV hk hQ)

noncomputable def upAll (loc : Loc) : List (Str × PV) → Loc
  | [] => loc
  | p :: r => upAll (up loc p.1 p.2) r

/-- names in order -/
theorem assign_names {A : Around} (ha : AOk n A) : ∀ (ts : List (Str × Pos)) (Vs : List Value) (us : List PV) (loc : Loc) (s : Shared) (Q : Unit → Shared → Prop) (E : Value → Shared → Prop) (xs : List Str), (∀ t ∈ ts, t.1 ∈ xs) → ts.length = us.length →
    (∀ t ∈ ts, se.sc.names.lookup t.1 = some .local ∨ se.sc.names.lookup t.1 = some .cell) → Rep C se env loc s.heap ρ → SR C s.heap ρ σ → VRs s.heap ρ Vs us →
    (∀ h' tk, Step (XT env xs) s.heap ρ h' ρ → Rep C se env (upAll loc ((ts.map (·.1)).zip us)) h' ρ → SR C h' ρ σ → Q () { s with heap := h', toks := tk }) →
    wpAny (model C.prog C.w) A (assignInOrder (ts.map fun t => assign (.Name t.1 t.2) env) Vs) Q E s
  | [], Vs, us, loc, s, Q, E, xs, _, hl, _, hr, hs, hv, hQ => by
    cases us with
    | nil => cases hv; exact assignInOrder_nil (hQ s.heap s.toks (.refl _ _ _) hr hs)
    | cons _ _ => simp at hl
  | t :: ts, Vs, us, loc, s, Q, E, xs, hx, hl, hk, hr, hs, hv, hQ => by
    cases us with
    | nil => simp at hl
    | cons u us =>
      cases hv with
      | cons hv1 hv2 =>
        refine assignInOrder_cons (wpAny_assign_Name (store_name hr hs hv1 (hk t List.mem_cons_self) fun h' tk s1 hr1 hs1 => ?_))
        refine assign_names ha ts _ us _ _ Q E xs (fun t ht => hx t (List.mem_cons_of_mem _ ht)) (by simpa using hl) (fun t ht => hk t (List.mem_cons_of_mem _ ht)) hr1 hs1 (hv2.step s1) fun h2 tk2 s2 hr2 hs2 => ?_
        exact hQ h2 tk2 ((s1.mono (XT_mono (by simpa using hx t List.mem_cons_self))).trans s2) hr2 hs2

theorem store_names {A : Around} (ha : AOk n A) : ∀ (ts : List Str) (Vs : List Value) (us : List PV) (loc : Loc) (s : Shared) (Q : Unit → Shared → Prop) (E : Value → Shared → Prop) (xs : List Str), (∀ t ∈ ts, t ∈ xs) → ts.length = us.length →
    (∀ t ∈ ts, se.sc.names.lookup t = some .local ∨ se.sc.names.lookup t = some .cell) → Rep C se env loc s.heap ρ → SR C s.heap ρ σ → VRs s.heap ρ Vs us →
    (∀ h' tk, Step (XT env xs) s.heap ρ h' ρ → Rep C se env (upAll loc (ts.zip us)) h' ρ → SR C h' ρ σ → Q () { s with heap := h', toks := tk }) →
    wpAny (model C.prog C.w) A (assignInOrder (ts.map fun t => bindName env t) Vs) Q E s
  | [], Vs, us, loc, s, Q, E, xs, _, hl, _, hr, hs, hv, hQ => by
    cases us with
    | nil => cases hv; exact assignInOrder_nil (hQ s.heap s.toks (.refl _ _ _) hr hs)
    | cons _ _ => simp at hl
  | t :: ts, Vs, us, loc, s, Q, E, xs, hx, hl, hk, hr, hs, hv, hQ => by
    cases us with
    | nil => simp at hl
    | cons u us =>
      cases hv with
      | cons hv1 hv2 =>
        refine assignInOrder_cons (wpAny_bindName (store_name hr hs hv1 (hk t List.mem_cons_self) fun h' tk s1 hr1 hs1 => ?_))
        refine store_names ha ts _ us _ _ Q E xs (fun t ht => hx t (List.mem_cons_of_mem _ ht)) (by simpa using hl) (fun t ht => hk t (List.mem_cons_of_mem _ ht)) hr1 hs1 (hv2.step s1) fun h2 tk2 s2 hr2 hs2 => ?_
        exact hQ h2 tk2 ((s1.mono (XT_mono (by simpa using hx t List.mem_cons_self))).trans s2) hr2 hs2

theorem VR.tup_inv {h : Heap} {ρ : List Addr} {V : Value} {ps : List PV} (x : VR h ρ V (.tup ps)) : ∃ a vs n, V = .ref a ∧ h.get? a = some (tupO vs n) ∧ VRs h ρ vs ps := by
  cases x with
  | tup e r => exact ⟨_, _, _, rfl, e, r⟩

theorem assignEach_names (env : Env) : ∀ ts : List (Str × Pos), assignEach (ts.map fun t => Expr.Name t.1 t.2) env = ts.map fun t => (false, assign (.Name t.1 t.2) env)
  | [] => rfl
  | t :: ts => by
    show (false, assign (.Name t.1 t.2) env) :: assignEach (ts.map fun t => Expr.Name t.1 t.2) env = _
    rw [assignEach_names env ts]; rfl

theorem tg_names (ts : List (Str × Pos)) {k : Nat} {pos : Pos} {us : List PV} (hl : ts.length = us.length) (hk : ∀ t ∈ ts, se.sc.names.lookup t.1 = some .local ∨ se.sc.names.lookup t.1 = some .cell) :
    Tg C n se (.Tuple (ts.map fun t => Expr.Name t.1 t.2) k pos) (ts.map (·.1)) (.tup us) loc (upAll loc ((ts.map (·.1)).zip us)) := by
  intro A env s ρ σ V Q E ha hr hs hV hQ
  obtain ⟨a, vs, m, rfl, e, r⟩ := hV.tup_inv
  have hvl : vs.length = us.length := r.length
  refine wpAny_assign_Tuple ha.hd ⟨_, e, rfl, m, rfl⟩ (by rw [assignEach_names]; simp [hl, hvl]) (by rw [assignEach_names]; simp) fun h' hx => ?_
  have k : Kp s.heap h' := kp_extBut hx
  have s0 : Step (XT env (ts.map (·.1))) s.heap ρ h' ρ := .ofKp k
  have e2 : (assignEach (ts.map fun t => Expr.Name t.1 t.2) env).map (·.2) = ts.map fun t => assign (.Name t.1 t.2) env := by rw [assignEach_names]; simp
  rw [e2]
  refine assign_names ha ts _ us loc _ Q E (ts.map (·.1)) (fun t ht => List.mem_map_of_mem ht) hl hk (hr.step (.ofKp k)) (hs.kp k) (by simpa using r.step s0) fun h2 tk2 s2 hr2 hs2 => ?_
  exact hQ h2 tk2 (s0.trans s2) hr2 hs2

theorem tg_two {x y : Str} {px py pos : Pos} {k : Nat} {u v : PV} (hx : se.sc.names.lookup x = some .local ∨ se.sc.names.lookup x = some .cell) (hy : se.sc.names.lookup y = some .local ∨ se.sc.names.lookup y = some .cell) :
    Tg C n se (.Tuple [.Name x px, .Name y py] k pos) [x, y] (.tup [u, v]) loc (up (up loc x u) y v) :=
  tg_names [(x, px), (y, py)] rfl (by simpa using ⟨hx, hy⟩)
end

section
variable {C : Cx} {n : Nat} {se : SE} {env : Env} {loc : Loc} {σ : List AO} {ρ : List Addr} {Φ : PV → List AO → Prop}

theorem VR.obj_inv {h : Heap} {V : Value} {i : Nat} (x : VR h ρ V (.obj i)) : ∃ a, V = .ref a ∧ ρ[i]? = some a := by
  cases x with
  | obj e => exact ⟨_, rfl, e⟩
theorem VR.int_inv {h : Heap} {V : Value} {i : Int} (x : VR h ρ V (.int i)) : ∃ t, V = .int i t := by
  cases x with
  | int i t => exact ⟨t, rfl⟩
theorem VR.con_inv {h : Heap} {V v : Value} (x : VR h ρ V (.con v)) : V = v := by
  cases x with
  | con v => rfl
theorem VR.none_inv {h : Heap} {V : Value} (x : VR h ρ V .none) : V = .none := by
  cases x with
  | none => rfl
theorem VR.bool_inv {h : Heap} {V : Value} {b : Bool} (x : VR h ρ V (.bool b)) : V = .bool b := by
  cases x with
  | bool b => rfl

theorem size_none (h : Heap) : h.get? h.objs.size = none := Heap.get?_none_of_le (Nat.le_refl _)

theorem fresh_X {h : Heap} (S : SR C h ρ σ) : h.objs.size ∉ C.X := fun hm => by
  obtain ⟨q, hq, e⟩ := List.mem_map.mp hm
  obtain ⟨⟨ps, e2, _⟩, _⟩ := S.tab q hq
  rw [e, size_none] at e2; cases e2

/-- a new object at the end of the heap -/
theorem SR.push {h h' : Heap} (S : SR C h ρ σ) {o : AO} (k : Kp h h') (ho : Step [] h ρ h' (ρ ++ [h.objs.size]) → OR C.w h' (ρ ++ [h.objs.size]) h.objs.size o) :
    SR C h' (ρ ++ [h.objs.size]) (σ ++ [o]) ∧ Step C.X h ρ h' (ρ ++ [h.objs.size]) ∧ (ρ ++ [h.objs.size])[σ.length]? = some h.objs.size := by
  have s : Step [] h ρ h' (ρ ++ [h.objs.size]) := ⟨⟨[_], rfl, by simpa using size_none h⟩, fun b o e _ _ => k b o e, fun b o e _ => k b o e, fun b o e _ => ⟨o, k b o e⟩⟩
  obtain ⟨a, b⟩ := S.alloc (size_none h) k (ho s) (fresh_X S)
  exact ⟨a, b.mono (by simp), by rw [← S.len]; simp⟩

theorem aw_list {es : List Expr} {pos : Pos} (h : AWs C n se es loc σ fun vs σ₁ => vs.length ≤ sizeLine ∧ Φ (.obj σ₁.length) (σ₁ ++ [.lst vs])) : AW C n se (.List es pos) loc σ Φ := by
  intro A env s ρ Q E ha hr hs hQ
  refine List_ (h A env pos s ρ _ E ha hr hs fun Vs vs h1 tk1 ρ1 σ1 s1 S1 x1 φ1 => ?_)
  have hl : Vs.length ≤ sizeLine := by rw [x1.length]; exact φ1.1
  refine wpAny_newObj_type ?_ (by show Vs.toArray.size ≤ sizeLine; rw [List.size_toArray]; exact hl)
  obtain ⟨S2, s2, e2⟩ := S1.push (h' := h1.push { cls := .type "list", data := .seq Vs.toArray }) (o := .lst vs) (kp_push _ _) fun s => ⟨Vs, 0, Heap.get?_push_size _ rfl, x1.step s⟩
  exact hQ _ _ _ tk1 _ _ (s1.trans s2) S2 (.obj e2) φ1.2

theorem aw_tuple {es : List Expr} {k : Nat} {pos : Pos} (h : AWs C n se es loc σ fun vs σ₁ => vs.length ≤ sizeLine ∧ Φ (.tup vs) σ₁) : AW C n se (.Tuple es k pos) loc σ Φ := by
  intro A env s ρ Q E ha hr hs hQ
  refine Tuple_ (h A env pos s ρ _ E ha hr hs fun Vs vs h1 tk1 ρ1 σ1 s1 S1 x1 φ1 => ?_)
  have hl : Vs.length ≤ sizeLine := by rw [x1.length]; exact φ1.1
  refine wpAny_newObj_type ?_ (by show Vs.toArray.size ≤ sizeLine; rw [List.size_toArray]; exact hl)
  have k : Kp h1 (h1.push { cls := .type "tuple", data := .seq Vs.toArray }) := kp_push _ _
  exact hQ _ _ _ tk1 _ _ (s1.trans (.ofKp k)) (S1.kp k) (.tup (Heap.get?_push_size _ rfl) (x1.step (.ofKp (X := []) k))) φ1.2

/-! lists -/
theorem SR.list {h : Heap} (S : SR C h ρ σ) {V : Value} {i : Nat} {ps : List PV} (x : VR h ρ V (.obj i)) (e : σ[i]? = some (.lst ps)) :
    ∃ a vs m, V = .ref a ∧ ρ[i]? = some a ∧ h.get? a = some (listOf vs.toArray m) ∧ VRs h ρ vs ps := by
  obtain ⟨a, rfl, ea⟩ := x.obj_inv
  obtain ⟨vs, m, e1, r⟩ := S.obj i a _ ea e
  exact ⟨a, vs, m, rfl, ea, e1, r⟩

theorem isList_of {h : Heap} {a : Addr} {vs : List Value} {m : Nat} (e : h.get? a = some (listOf vs.toArray m)) : h.IsList a vs.toArray := ⟨_, e, rfl, m, rfl⟩

def Plain (i : Expr) : Prop := ∀ V I, subscripted i false V I = operate [V, I] (getItem V I)

theorem op_item {v i : Expr} {k : Nat} {j : Int} {ps : List PV} {p : PV} (e : σ[k]? = some (.lst ps)) (h0 : 0 ≤ j) (hp : ps[j.toNat]? = some p) (hl : ps.length < 2 ^ 62) (h : Φ p σ) (hi : Plain i) :
    Op2 C n (subscriptTail v i) (.obj k) (.int j) σ Φ := by
  intro A s ρ V₁ V₂ Q E ha hs h1 h2 hQ
  obtain ⟨a, vs, m, rfl, ea, e1, r⟩ := hs.list h1 e
  obtain ⟨t, rfl⟩ := h2.int_inv
  obtain ⟨V, ev, rv⟩ := r.get hp
  have hj : j.toNat < ps.length := (List.getElem?_eq_some_iff.mp hp).1
  have hL := isList_of e1
  exact tail_any hL.typeIs slot_list_getitem.lookup (wpAny_getItem_list hL h0 (by omega) (by simpa using ev) (hQ V p s.heap s.toks ρ σ (.refl _ _ _) hs rv h)) (hi _ _)

theorem op_item_neg {v i : Expr} {k : Nat} {j : Int} {ps : List PV} {p : PV} (e : σ[k]? = some (.lst ps)) (h0 : j < 0) (h1' : -(ps.length : Int) ≤ j) (hp : ps[(j + ps.length).toNat]? = some p) (hl : ps.length < 2 ^ 62) (h : Φ p σ) (hi : Plain i) :
    Op2 C n (subscriptTail v i) (.obj k) (.int j) σ Φ := by
  intro A s ρ V₁ V₂ Q E ha hs h1 h2 hQ
  obtain ⟨a, vs, m, rfl, ea, e1, r⟩ := hs.list h1 e
  obtain ⟨t, rfl⟩ := h2.int_inv
  obtain ⟨V, ev, rv⟩ := r.get hp
  have hL := isList_of e1
  have hsz : vs.toArray.size = ps.length := by simp [r.length]
  exact tail_any hL.typeIs slot_list_getitem.lookup (wpAny_getItem_list_neg hL h0 (by rw [hsz]; exact h1') (by omega) (by rw [hsz]; simpa using ev) (hQ V p s.heap s.toks ρ σ (.refl _ _ _) hs rv h)) (hi _ _)

theorem op_tupitem {v i : Expr} {j : Int} {ps : List PV} {p : PV} {q : Nat} (hq : seqIndex? j ps.length = some q) (hp : ps[q]? = some p) (hlo : -(2 ^ 63) ≤ j) (hhi : j < 2 ^ 63) (h : Φ p σ) (hi : Plain i) :
    Op2 C n (subscriptTail v i) (.tup ps) (.int j) σ Φ := by
  intro A s ρ V₁ V₂ Q E ha hs h1 h2 hQ
  obtain ⟨a, vs, m, rfl, e1, r⟩ := h1.tup_inv
  obtain ⟨t, rfl⟩ := h2.int_inv
  obtain ⟨V, ev, rv⟩ := r.get hp
  exact item_tupleT ⟨_, e1, rfl, m, rfl⟩ hlo hhi (by rw [r.length]; exact hq) ev (hQ V p s.heap s.toks ρ σ (.refl _ _ _) hs rv h) (hi _ _)

theorem setItem_at {prog : Program} {w : World} {A : Around} {E : Value → Shared → Prop} {s : Shared} {l : Addr} {items : Array Value} {m : Nat} {k : Int} {t : Tok} {v : Value} {q : Nat} {Q : Unit → Shared → Prop} (ho : s.heap.get? l = some (listOf items m))
    (hq : k < 0 ∧ -(items.size : Int) ≤ k ∧ (k + items.size).toNat = q ∨ 0 ≤ k ∧ k.toNat = q) (hlt : q < items.size) (hsz : items.size < 2 ^ 62)
    (hQ : ∀ h' m', h'.get? l = some (listOf (items.setIfInBounds q v) m') → Heap.SameBut l s.heap h' → Q () { s with heap := h' }) :
    wpAny (model prog w) A (setItem (.ref l) (.int k t) v) Q E s := by
  have hl : s.heap.IsList l items := ⟨_, ho, rfl, m, rfl⟩
  have hd : (listOf items m).data = .seq items m := rfl
  have hQ' : Q () { s with heap := s.heap.update l (Obj.mapSeq (·.setIfInBounds q v)) } := by
    exact hQ _ (if (items.setIfInBounds q v).size == items.size then m else m + 1) (Heap.get?_update_self _ ho (by rfl)) (Heap.SameBut.update ..)
  have hfit : Builtin.List.listFitsIndex k = true := by
    rcases hq with ⟨h0, h1, _⟩ | ⟨h0, h1⟩
    · exact fitsIndex_neg h0 (by omega)
    · exact fitsIndex_of h0 (by omega)
  unfold setItem
  try with_reducible refine wpAny_holding ?_
  first | refine wpAny_bind (wpAny_pure ?_) | skip
  refine wpAny_bind (wpAny_sequenceKey hl.typeIs (by decide) ?_)
  refine wpAny_bind (wpAny_callSpecial?_slot (name := Str.ofString "__setitem__") hl.typeIs slot_list_setitem
    (wpAny_call_entry slot_list_setitem hl.typeIs entry_list_setitem ?_ (args_list_setitem _ _ _)))
  show wpAny _ _ (Builtin.List.listSubscript? (.int k t) >>= _) _ _ s
  refine wpAny_bind (wpAny_listSubscript_int hfit ?_)
  rcases hq with ⟨h0, h1, rfl⟩ | ⟨h0, rfl⟩
  · have hidx := seqIndex_neg h0 h1
    obtain ⟨j, rfl⟩ : ∃ j : Nat, k = Int.negSucc j := by
      cases k with
      | ofNat n => exact absurd h0 (Int.not_lt.mpr (Int.natCast_nonneg n))
      | negSucc n => exact ⟨n, rfl⟩
    show wpAny _ _ ((Builtin.List.listItems (.ref l) >>= fun xs => pure ((seqIndex? (Int.negSucc j) xs.size).bind fun i => xs[i]?.map (i, ·))) >>= _) _ _ s
    refine wpAny_bind (wpAny_bind ?_)
    show wpAny _ _ (seqItems? (.ref l) >>= _) _ _ s
    refine wpAny_bind (wpAny_seqItems ho hd (wpAny_pure (wpAny_pure ?_)))
    rw [hidx]
    simp only [Option.bind_some, Array.getElem?_eq_getElem hlt, Option.map_some]
    show wpAny _ _ (setSeqItemAt l _ v >>= _) _ _ s
    refine wpAny_bind (wpAny_setSeqItemAt ho hd ?_)
    first
      | exact wpAny_bind (wpAny_pure (wpAny_pure ⟨.none, rfl, wpAny_pure hQ'⟩))
      | exact wpAny_pure ⟨.none, rfl, wpAny_pure hQ'⟩
  · obtain ⟨j, rfl⟩ := Int.eq_ofNat_of_zero_le h0
    have hx' : items[j]? = some items[j] := Array.getElem?_eq_getElem hlt
    show wpAny _ _ ((seqItemAt l j >>= fun r => pure (r.map (j, ·))) >>= _) _ _ s
    refine wpAny_bind (wpAny_bind (wpAny_seqItemAt ho hd (wpAny_pure ?_)))
    rw [hx']
    show wpAny _ _ (setSeqItemAt l j v >>= _) _ _ s
    refine wpAny_bind (wpAny_setSeqItemAt ho hd ?_)
    first
      | exact wpAny_bind (wpAny_pure (wpAny_pure ⟨.none, rfl, wpAny_pure hQ'⟩))
      | exact wpAny_pure ⟨.none, rfl, wpAny_pure hQ'⟩

theorem imm_listOf {a : Array Value} {m : Nat} : ¬ Imm (listOf a m) := imm_list rfl ⟨a, m, rfl⟩

/-- a list of the store turns to other items -/
theorem SR.setList {h h' : Heap} (S : SR C h ρ σ) {i : Nat} {a : Addr} {vs : List Value} {m : Nat} {ws : List Value} {qs : List PV} (ea : ρ[i]? = some a) (e1 : h.get? a = some (listOf vs.toArray m)) (hs : Heap.SameBut a h h')
    (e2 : ∃ m', h'.get? a = some (listOf ws.toArray m')) (r : VRs h ρ ws qs) : SR C h' ρ (σ.set i (.lst qs)) ∧ Step C.X h ρ h' ρ := by
  obtain ⟨m', e2⟩ := e2
  obtain ⟨x, y⟩ := S.set (o := .lst qs) ea (fun ob e => by rw [e1] at e; cases e; exact imm_listOf) hs ⟨_, e2⟩ fun s => ⟨ws, m', e2, r.step s⟩
  exact ⟨x, y.mono (by simp)⟩

theorem op_setItem {k : Nat} {j : Int} {ps : List PV} {p : PV} {q : Nat} {ΦU : List AO → Prop} (e : σ[k]? = some (.lst ps)) (hq : j < 0 ∧ -(ps.length : Int) ≤ j ∧ (j + ps.length).toNat = q ∨ 0 ≤ j ∧ j.toNat = q) (hlt : q < ps.length) (hl : ps.length < 2 ^ 62)
    (h : ΦU (σ.set k (.lst (ps.set q p)))) : Op3 C n setItem (.obj k) (.int j) p σ ΦU := by
  intro A s ρ V₁ V₂ V₃ Q E ha hs h1 h2 h3 hQ
  obtain ⟨a, vs, m, rfl, ea, e1, r⟩ := hs.list h1 e
  obtain ⟨t, rfl⟩ := h2.int_inv
  have hsz : vs.toArray.size = ps.length := by simp [r.length]
  refine setItem_at (q := q) e1 (by rw [hsz]; exact hq) (by rw [hsz]; exact hlt) (by rw [hsz]; exact hl) fun h' m' hL hsb => ?_
  have hd' : ∃ m', h'.get? a = some (listOf (vs.set q V₃).toArray m') := ⟨m', by rw [hL]; simp⟩
  obtain ⟨S2, s2⟩ := hs.setList ea e1 hsb hd' (r.set q h3)
  exact hQ h' _ ρ _ s2 S2 h

end

section
variable {C : Cx} {n : Nat} {se : SE} {env : Env} {loc : Loc} {σ : List AO} {ρ : List Addr} {Φ : PV → List AO → Prop}

theorem VRs.one_inv {h : Heap} {Vs : List Value} {p : PV} (x : VRs h ρ Vs [p]) : ∃ V, Vs = [V] ∧ VR h ρ V p := by
  cases x with
  | cons a b => cases b; exact ⟨_, rfl, a⟩
theorem VRs.two_inv {h : Heap} {Vs : List Value} {p q : PV} (x : VRs h ρ Vs [p, q]) : ∃ V W, Vs = [V, W] ∧ VR h ρ V p ∧ VR h ρ W q := by
  cases x with
  | cons a b => obtain ⟨W, rfl, r⟩ := b.one_inv; exact ⟨_, W, rfl, a, r⟩
theorem VRs.nil_inv {h : Heap} {Vs : List Value} (x : VRs h ρ Vs []) : Vs = [] := by
  cases x; rfl

def Callee (C : Cx) (σ : List AO) (f : PV) : Prop :=
  ∀ (h : Heap) (ρ : List Addr) (F : Value), SR C h ρ σ → VR h ρ F f → ∃ k, (k = Keeper.frame ∨ k = Keeper.machine ∨ k = Keeper.boundFrame) ∧ Looks (model C.prog C.w) h (keeperOf F) k

theorem callee_builtin {id : String} : Callee C σ (.con (.builtin id)) := fun h ρ F hs hv => by
  rw [hv.con_inv]; exact ⟨_, .inr (.inl rfl), Looks.of_pure rfl⟩
theorem callee_type {T : String} : Callee C σ (.con (.type T)) := fun h ρ F hs hv => by
  rw [hv.con_inv]; exact ⟨_, .inr (.inl rfl), Looks.of_pure rfl⟩
theorem callee_K (G : C.Ok) {a : Addr} (e : keepIn C.K (.ref a) = true) : Callee C σ (.con (.ref a)) := fun h ρ F hs hv => by
  rw [hv.con_inv]
  obtain ⟨k, hk, L⟩ := looks_keep (M := model C.prog C.w) e (G.k.keeps hs.base)
  exact ⟨k, hk.elim .inl fun x => .inr (.inl x), L⟩
theorem callee_lam {i : Nat} {l : LD} (e : σ[i]? = some (.lam l)) : Callee C σ (.obj i) := fun h ρ F hs hv => by
  obtain ⟨a, rfl, ea⟩ := hv.obj_inv
  obtain ⟨pm, c', ctv, e1, _⟩ := hs.obj i a _ ea e
  exact ⟨.frame, .inl rfl, (Looks.ld (part := none) e1).andThen .now⟩

theorem evalArgs_all {A : Around} {M : Model} {s : Shared} {E : Value → Shared → Prop} {f : Value} {l : List (Bool × Sem Value)} {Q : Args → Shared → Prop} (hl : l.any (·.1) = false) (h : wpAny M A (spliced l) (fun vs s' => Q ⟨vs, []⟩ s') E s) : wpAny M A (evalArgs f true l []) Q E s := by
  match l, hl, h with
  | [], _, h =>
    unfold evalArgs
    show wpAny M A (spliced [] >>= _) Q E s
    refine wpAny_bind (wpAny_mono h (fun vs s' h' => ?_) fun _ _ x => x)
    refine wpAny_bind (wpAny_pure ?_)
    refine wpAny_holding ?_
    exact wpAny_bind (wpAny_pure (wpAny_bind (wpAny_pure (wpAny_pure h'))))
  | (b, x) :: rest, hl, h =>
    have hb : b = false := by simp at hl; exact hl.1
    subst hb
    exact evalArgs_plain h

theorem backTo_any (pos : Pos) (l : List (Bool × Sem Value)) : (backTo pos l).any (·.1) = l.any (·.1) := by
  unfold backTo
  rw [List.any_map]
  rfl

/-- the arguments, the call -/
theorem callWith_aw {A : Around} {s : Shared} {pos : Pos} {F : Value} {f : PV} {Fst : List Value} {fst : List PV} {args : List Expr} {Q E : Value → Shared → Prop} (ha : AOk n A) (hr : Rep C se env loc s.heap ρ) (hs : SR C s.heap ρ σ)
    (hF : VR s.heap ρ F f) (hf : VRs s.heap ρ Fst fst) (hp : (starEach args env).any (·.1) = false)
    (h : AWs C n se args loc σ fun vs σ₂ => Callee C σ₂ f ∧ AC C n f (fst ++ vs) σ₂ Φ)
    (hQ : ∀ V v h' tk ρ' σ', Step C.X s.heap ρ h' ρ' → SR C h' ρ' σ' → VR h' ρ' V v → Φ v σ' → Q V { s with heap := h', toks := tk }) :
    wpAny (model C.prog C.w) A (callWith pos F Fst (backTo pos (starEach args env)) []) Q E s := by
  refine callWith_of (P := fun h => ∃ ρ σ, SR C h ρ σ ∧ VR h ρ F f ∧ Callee C σ f) (by rw [backTo_any, hp]; rfl) (fun h ⟨ρ, σ, S, x, k⟩ => k h ρ F S x) (evalArgs_all (by rw [backTo_any]; exact hp) ?_)
  refine h A env pos s ρ _ E ha hr hs fun Vs vs h1 tk1 ρ1 σ1 s1 S1 x1 φ1 => ?_
  refine ⟨⟨ρ1, σ1, S1, hF.step s1, φ1.1⟩, ?_⟩
  exact φ1.2 A _ ρ1 F _ _ E ha S1 (hF.step s1) ((hf.step s1).append x1) fun V v h2 tk2 ρ2 σ2 s2 S2 x2 φ2 => hQ V v h2 tk2 ρ2 σ2 (s1.trans s2) S2 x2 φ2

theorem aw_call {func : Expr} {args : List Expr} {pos : Pos} (h : AW C n se func loc σ fun f σ₁ => AWs C n se args loc σ₁ fun vs σ₂ => Callee C σ₂ f ∧ AC C n f vs σ₂ Φ)
    (he : ∀ env, eval (.Call func args [] pos) env = (do callWith pos (← eval func env) [] (backTo pos (starEach args env)) (backToKw pos (keywordEach [] env)))) (hp : ∀ env, (starEach args env).any (·.1) = false) :
    AW C n se (.Call func args [] pos) loc σ Φ := by
  intro A env s ρ Q E ha hr hs hQ
  refine Call_ (h A env s ρ _ E ha hr hs fun F f h1 tk1 ρ1 σ1 s1 S1 x1 φ1 => ?_) (he env)
  exact callWith_aw (fst := []) ha (hr.step s1) S1 x1 .nil (hp env) φ1 fun V v h2 tk2 ρ2 σ2 s2 S2 x2 φ2 => hQ V v h2 tk2 ρ2 σ2 (s1.trans s2) S2 x2 φ2

/-- found.append(e) -/
theorem aw_append {o : Expr} {apos pos : Pos} {arg : Expr} {k : Nat} (h : AW C n se o loc σ fun ov σ₁ => ov = .obj k ∧ (∃ ps, σ₁[k]? = some (.lst ps)) ∧ AWs C n se [arg] loc σ₁ fun vs σ₂ => AC C n (.con (.builtin "list.append")) (.obj k :: vs) σ₂ Φ)
    (he : ∀ env, ∃ pl, eval (.Call (.Attribute o "append" apos) [arg] [] pos) env = (do
          let ov ← eval o env
          standAt (Pos.atName apos)
          let __x ← holding [ov] (getMethod ov "append" pl)
          match __x with
            | (f, first) => callWith pos f first (backTo pos (starEach [arg] env)) [])) (hp : ∀ env, (starEach [arg] env).any (·.1) = false) :
    AW C n se (.Call (.Attribute o "append" apos) [arg] [] pos) loc σ Φ := by
  intro A env s ρ Q E ha hr hs hQ
  obtain ⟨pl, he⟩ := he env
  refine MethodCall_ (pl := pl) (h A env s ρ _ E ha hr hs fun F f h1 tk1 ρ1 σ1 s1 S1 x1 φ1 => ?_) he
  obtain ⟨rfl, ⟨ps, e⟩, φ1⟩ := φ1
  obtain ⟨a, vs, m, rfl, ea, e1, r⟩ := S1.list x1 e
  refine getMethod_list_append e1 rfl rfl ?_
  exact callWith_aw (f := .con (.builtin "list.append")) (fst := [.obj k]) ha (hr.step s1) S1 (.con _) (.one x1) (hp env) (fun A env pos s ρ Q E a b c d => φ1 A env pos s ρ Q E a b c fun Vs vs h' tk ρ' σ' a b c e => d Vs vs h' tk ρ' σ' a b c ⟨callee_builtin, e⟩) fun V v h2 tk2 ρ2 σ2 s2 S2 x2 φ2 => hQ V v h2 tk2 ρ2 σ2 (s1.trans s2) S2 x2 φ2

/-! built-ins -/
theorem ac_append {k : Nat} {ps : List PV} {p : PV} (e : σ[k]? = some (.lst ps)) (hl : ps.length ≤ sizeLine) (h : Φ .none (σ.set k (.lst (ps ++ [p])))) : AC C n (.con (.builtin "list.append")) [.obj k, p] σ Φ := by
  intro A s ρ F Vs Q E ha hs hF hv hQ
  rw [hF.con_inv]
  obtain ⟨V, W, rfl, v1, v2⟩ := hv.two_inv
  obtain ⟨a, vs, m, rfl, ea, e1, r⟩ := hs.list v1 e
  refine append_at (hsz := by rw [List.size_toArray, r.length]; exact hl) e1 fun h' hsb e2 => ?_
  obtain ⟨S2, s2⟩ := hs.setList ea e1 hsb (ws := vs ++ [W]) ⟨m + 1, by rw [e2]; simp⟩ (r.append (.one v2))
  exact hQ .none .none h' _ ρ _ s2 S2 .none h

theorem ac_len {k : Nat} {ps : List PV} (e : σ[k]? = some (.lst ps)) (hl : ps.length < 2 ^ 62) (h : Φ (.int ps.length) σ) : AC C n (.con (.builtin "len")) [.obj k] σ Φ := by
  intro A s ρ F Vs Q E ha hs hF hv hQ
  rw [hF.con_inv]
  obtain ⟨V, rfl, v1⟩ := hv.one_inv
  obtain ⟨a, vs, m, rfl, ea, e1, r⟩ := hs.list v1 e
  have hsz : vs.toArray.size = ps.length := by simp [r.length]
  refine len_list (isList_of e1) (by rw [hsz]; omega) ?_
  exact hQ _ (.int ps.length) s.heap _ ρ σ (.refl _ _ _) hs (by rw [hsz]; exact .int _ _) h

theorem ac_max {a b : Int} (h : Φ (.int (if b > a then b else a)) σ) : AC C n (.con (.builtin "max")) [.int a, .int b] σ Φ := by
  intro A s ρ F Vs Q E ha hs hF hv hQ
  rw [hF.con_inv]
  obtain ⟨V, W, rfl, v1, v2⟩ := hv.two_inv
  obtain ⟨t, rfl⟩ := v1.int_inv
  obtain ⟨u, rfl⟩ := v2.int_inv
  refine max_two_ints ha.hd fun h' tk hk => ?_
  have := hQ (.int (if b > a then b else a) (if b > a then u else t)) _ h' tk ρ σ (.ofKp hk) (hs.kp hk) (.int _ _) h
  by_cases c : b > a
  · simpa only [if_pos c] using this
  · simpa only [if_neg c] using this
theorem ac_min {a b : Int} (h : Φ (.int (if b < a then b else a)) σ) : AC C n (.con (.builtin "min")) [.int a, .int b] σ Φ := by
  intro A s ρ F Vs Q E ha hs hF hv hQ
  rw [hF.con_inv]
  obtain ⟨V, W, rfl, v1, v2⟩ := hv.two_inv
  obtain ⟨t, rfl⟩ := v1.int_inv
  obtain ⟨u, rfl⟩ := v2.int_inv
  refine min_two_ints ha.hd fun h' tk hk => ?_
  have := hQ (.int (if b < a then b else a) (if b < a then u else t)) _ h' tk ρ σ (.ofKp hk) (hs.kp hk) (.int _ _) h
  by_cases c : b < a
  · simpa only [if_pos c] using this
  · simpa only [if_neg c] using this
theorem ac_int {a : Int} (h : Φ (.int a) σ) : AC C n (.con (.type "int")) [.int a] σ Φ := by
  intro A s ρ F Vs Q E ha hs hF hv hQ
  rw [hF.con_inv]
  obtain ⟨V, rfl, v1⟩ := hv.one_inv
  obtain ⟨t, rfl⟩ := v1.int_inv
  exact call_int_int (hQ _ _ s.heap s.toks ρ σ (.refl _ _ _) hs (.int _ _) h)
theorem ac_intb {b : Bool} (h : Φ (.int (if b = true then 1 else 0)) σ) : AC C n (.con (.type "int")) [.bool b] σ Φ := by
  intro A s ρ F Vs Q E ha hs hF hv hQ
  rw [hF.con_inv]
  obtain ⟨V, rfl, v1⟩ := hv.one_inv
  rw [v1.bool_inv]
  exact call_int_bool (hQ _ _ s.heap _ ρ σ (.refl _ _ _) hs (.int _ _) h)
theorem ac_range1 {b : Int} (h : Φ (.rng 0 b) σ) : AC C n (.con (.type "range")) [.int b] σ Φ := by
  intro A s ρ F Vs Q E ha hs hF hv hQ
  rw [hF.con_inv]
  obtain ⟨V, rfl, v1⟩ := hv.one_inv
  obtain ⟨t, rfl⟩ := v1.int_inv
  refine call_range_1 ?_
  have k : Kp s.heap _ := kp_push s.heap { cls := .type "range", data := .fields #[.int 0 s.toks, .int b t, .int 1 (s.toks + 1)] }
  exact hQ _ _ _ _ ρ σ (.ofKp k) (hs.kp k) (.rng (IsRange.new ..)) h
theorem ac_range2 {a b : Int} (h : Φ (.rng a b) σ) : AC C n (.con (.type "range")) [.int a, .int b] σ Φ := by
  intro A s ρ F Vs Q E ha hs hF hv hQ
  rw [hF.con_inv]
  obtain ⟨V, W, rfl, v1, v2⟩ := hv.two_inv
  obtain ⟨t, rfl⟩ := v1.int_inv
  obtain ⟨u, rfl⟩ := v2.int_inv
  refine call_range_2 ?_
  have k : Kp s.heap _ := kp_push s.heap { cls := .type "range", data := .fields #[.int a t, .int b u, .int 1 s.toks] }
  exact hQ _ _ _ _ ρ σ (.ofKp k) (hs.kp k) (.rng (IsRange.new ..)) h
end

inductive AFl where
  | next | brk | cont
  | ret (v : PV)

def FlR (h : Heap) (ρ : List Addr) : Flow → AFl → Prop
  | .next, .next => True
  | .brk, .brk => True
  | .cont, .cont => True
  | .ret V, .ret v => VR h ρ V v
  | _, _ => False

/-- a tree of statements -/
def AG (C : Cx) (n : Nat) (se : SE) (t : Env → Sem Flow) (loc : Loc) (σ : List AO) (Φ : AFl → Loc → List AO → Prop) : Prop :=
  ∀ (A : Around) (env : Env) (s : Shared) (ρ : List Addr) (Q : Flow → Shared → Prop) (E : Value → Shared → Prop), AOk n A → Rep C se env loc s.heap ρ → SR C s.heap ρ σ →
    (∀ f g h' tk ρ' loc' σ', Step (XS C env) s.heap ρ h' ρ' → Rep C se env loc' h' ρ' → SR C h' ρ' σ' → FlR h' ρ' f g → Φ g loc' σ' → Q f { s with heap := h', toks := tk }) →
    wpAny (model C.prog C.w) A (t env) Q E s

abbrev AX (C : Cx) (n : Nat) (se : SE) (b : List Stmt) (loc : Loc) (σ : List AO) (Φ : AFl → Loc → List AO → Prop) : Prop := AG C n se (execs b) loc σ Φ
abbrev AS (C : Cx) (n : Nat) (se : SE) (st : Stmt) (loc : Loc) (σ : List AO) (Φ : AFl → Loc → List AO → Prop) : Prop := AG C n se (exec st) loc σ Φ

section
variable {C : Cx} {n : Nat} {se : SE} {loc : Loc} {σ : List AO} {Φ : AFl → Loc → List AO → Prop}

theorem AG.mono {t : Env → Sem Flow} {Ψ : AFl → Loc → List AO → Prop} (h : AG C n se t loc σ Φ) (k : ∀ f l σ', Φ f l σ' → Ψ f l σ') : AG C n se t loc σ Ψ :=
  fun A env s ρ Q E ha hr hs hQ => h A env s ρ Q E ha hr hs fun f g h' tk ρ' loc' σ' a b c d e => hQ f g h' tk ρ' loc' σ' a b c d (k g loc' σ' e)

theorem ax_nil (h : Φ .next loc σ) : AX C n se [] loc σ Φ :=
  fun A env s ρ Q E ha hr hs hQ => wpAny_execs_nil (hQ .next .next s.heap s.toks ρ loc σ (.refl _ _ _) hr hs trivial h)

theorem ax_cons {st : Stmt} {rest : List Stmt} (h : AS C n se st loc σ fun f loc' σ' => match f with | .next => AX C n se rest loc' σ' Φ | f => Φ f loc' σ') : AX C n se (st :: rest) loc σ Φ := by
  intro A env s ρ Q E ha hr hs hQ
  refine wpAny_execs_cons (h A env s ρ _ E ha hr hs fun f g h1 tk1 ρ1 loc1 σ1 s1 hr1 S1 x1 φ1 => ?_)
  cases f with
  | next =>
    cases g with
    | next => exact φ1 A env _ ρ1 _ E ha hr1 S1 fun f g h2 tk2 ρ2 loc2 σ2 s2 hr2 S2 x2 φ2 => hQ f g h2 tk2 ρ2 loc2 σ2 (s1.trans s2) hr2 S2 x2 φ2
    | _ => exact x1.elim
  | brk =>
    cases g with
    | brk => exact hQ .brk .brk h1 tk1 ρ1 loc1 σ1 s1 hr1 S1 x1 φ1
    | _ => exact x1.elim
  | cont =>
    cases g with
    | cont => exact hQ .cont .cont h1 tk1 ρ1 loc1 σ1 s1 hr1 S1 x1 φ1
    | _ => exact x1.elim
  | ret V =>
    cases g with
    | ret v => exact hQ (.ret V) (.ret v) h1 tk1 ρ1 loc1 σ1 s1 hr1 S1 x1 φ1
    | _ => exact x1.elim

theorem as_ret {e : Expr} {pos : Pos} (h : AW C n se e loc σ fun v σ' => Φ (.ret v) loc σ') : AS C n se (.Return (some e) pos) loc σ Φ := by
  intro A env s ρ Q E ha hr hs hQ
  refine wpAny_Return_some (h A env s ρ _ E ha hr hs fun V v h1 tk1 ρ1 σ1 s1 S1 x1 φ1 => ?_)
  exact hQ (.ret V) (.ret v) h1 tk1 ρ1 loc σ1 (s1.mono X_sub) (hr.step s1) S1 x1 φ1

theorem as_continue {pos : Pos} (h : Φ .cont loc σ) : AS C n se (.Continue pos) loc σ Φ :=
  fun A env s ρ Q E ha hr hs hQ => wpAny_Continue (hQ .cont .cont s.heap s.toks ρ loc σ (.refl _ _ _) hr hs trivial h)

theorem as_if {test : Expr} {body orelse : List Stmt} {pos : Pos} (h : AT C n se test loc σ fun b σ' => if b = true then AX C n se body loc σ' Φ else AX C n se orelse loc σ' Φ) : AS C n se (.If test body orelse pos) loc σ Φ := by
  intro A env s ρ Q E ha hr hs hQ
  refine wpAny_If (h A env s ρ _ E ha hr hs fun b h1 tk1 ρ1 σ1 s1 S1 φ1 => ?_)
  cases b with
  | true => exact φ1 A env _ ρ1 _ E ha (hr.step s1) S1 fun f g h2 tk2 ρ2 loc2 σ2 s2 hr2 S2 x2 φ2 => hQ f g h2 tk2 ρ2 loc2 σ2 ((s1.mono X_sub).trans s2) hr2 S2 x2 φ2
  | false => exact φ1 A env _ ρ1 _ E ha (hr.step s1) S1 fun f g h2 tk2 ρ2 loc2 σ2 s2 hr2 S2 x2 φ2 => hQ f g h2 tk2 ρ2 loc2 σ2 ((s1.mono X_sub).trans s2) hr2 S2 x2 φ2

/-- x = e -/
theorem as_name {x : Str} {pos' pos : Pos} {value : Expr} (h : AW C n se value loc σ fun v σ' => Φ .next (up loc x v) σ') (hk : se.sc.names.lookup x = some .local ∨ se.sc.names.lookup x = some .cell)
    (hw : ∀ L cl f fr, swapsWith value (some (Expr.Name x pos')) pos.line (mkEnv se L cl f fr) = pure false) : AS C n se (.Assign [.Name x pos'] value pos) loc σ Φ := by
  intro A env s ρ Q E ha hr hs hQ
  refine wpAny_Assign_Name (h A env s ρ _ E ha hr hs fun V v h1 tk1 ρ1 σ1 s1 S1 x1 φ1 => ?_) (by rw [hr.ok.eq]; exact hw _ _ _ _)
  exact store_name (hr.step s1) S1 x1 hk fun h2 tk2 s2 hr2 S2 => hQ .next .next h2 tk2 ρ1 _ σ1 ((s1.mono X_sub).trans (s2.mono XT_sub)) hr2 S2 trivial φ1

/-- a tuple of names = e, the stores in order -/
theorem as_tup {elts : List Expr} {xs : List Str} {k : Nat} {tpos pos : Pos} {value : Expr} {loc' : Loc → PV → Loc} (h : AW C n se value loc σ fun v σ' => Tg C n se (.Tuple elts k tpos) xs v loc (loc' loc v) ∧ Φ .next (loc' loc v) σ')
    (hw : ∀ L cl f fr, swapsWithSole [Expr.Tuple elts k tpos] value pos.line (mkEnv se L cl f fr) = pure false) (hw2 : ∀ L cl f fr, swappedStores [Expr.Tuple elts k tpos] value (mkEnv se L cl f fr) = pure none) : AS C n se (.Assign [.Tuple elts k tpos] value pos) loc σ Φ := by
  intro A env s ρ Q E ha hr hs hQ
  refine Assign_Tuple (h A env s ρ _ E ha hr hs fun V v h1 tk1 ρ1 σ1 s1 S1 x1 φ1 => ?_) (by rw [hr.ok.eq]; exact hw _ _ _ _) (by rw [hr.ok.eq]; exact hw2 _ _ _ _)
  exact φ1.1 A env _ ρ1 σ1 V _ E ha (hr.step s1) S1 x1 fun h2 tk2 s2 hr2 S2 => hQ .next .next h2 tk2 ρ1 _ σ1 ((s1.mono X_sub).trans (s2.mono XT_sub)) hr2 S2 trivial φ1.2

theorem VRs.reverse {h : Heap} {ρ : List Addr} : ∀ {vs ps}, VRs h ρ vs ps → VRs h ρ vs.reverse ps.reverse
  | _, _, .nil => .nil
  | _, _, .cons a b => by simpa using (VRs.reverse b).append (.one a)

/-- a tuple of names = e, the stores from behind -/
theorem as_tupS {elts : List Expr} {xs : List Str} {k : Nat} {tpos pos : Pos} {value : Expr} (h : AW C n se value loc σ fun v σ' => ∃ us, v = .tup us ∧ us.length = xs.length ∧ Φ .next (upAll loc (xs.reverse.zip us.reverse)) σ')
    (hk : ∀ x ∈ xs, se.sc.names.lookup x = some .local ∨ se.sc.names.lookup x = some .cell)
    (hw : ∀ L cl f fr, swapsWithSole [Expr.Tuple elts k tpos] value pos.line (mkEnv se L cl f fr) = pure false) (hw2 : ∀ L cl f fr, swappedStores [Expr.Tuple elts k tpos] value (mkEnv se L cl f fr) = pure (some xs)) : AS C n se (.Assign [.Tuple elts k tpos] value pos) loc σ Φ := by
  intro A env s ρ Q E ha hr hs hQ
  refine Assign_Tuple_swapped (names := xs) (h A env s ρ _ E ha hr hs fun V v h1 tk1 ρ1 σ1 s1 S1 x1 φ1 => ?_) (by rw [hr.ok.eq]; exact hw _ _ _ _) (by rw [hr.ok.eq]; exact hw2 _ _ _ _)
  obtain ⟨us, rfl, hl, φ1⟩ := φ1
  obtain ⟨a, vs, m, rfl, e, r⟩ := x1.tup_inv
  have hsz : vs.toArray.size = xs.length := by simp [r.length, hl]
  rw [← hsz]
  refine unpackItems_tuple ha.hd ⟨_, e, rfl, m, rfl⟩ fun h2 hx => ?_
  have k : Kp h1 h2 := kp_extBut hx
  have hr1 := hr.step s1
  refine store_names ha xs.reverse _ us.reverse loc _ _ E xs (by simp) (by simp [hl]) (by simpa using hk) (hr1.step (.ofKp k)) (S1.kp k) (by simpa using (r.step (Step.ofKp (X := []) (ρ := ρ1) k)).reverse) fun h3 tk3 s3 hr3 S3 => ?_
  exact hQ .next .next h3 tk3 ρ1 _ σ1 (((s1.mono X_sub).trans (.ofKp k)).trans (s3.mono XT_sub)) hr3 S3 trivial φ1

/-- o[i] = e -/
theorem as_item {o i value : Expr} {pos' pos : Pos} (h : AW C n se value loc σ fun v σ₁ => AW C n se o loc σ₁ fun ov σ₂ => AW C n se i loc σ₂ fun iv σ₃ => Op3 C n setItem ov iv v σ₃ fun σ₄ => Φ .next loc σ₄)
    (hw : ∀ L cl f fr, swapsWith value (some (Expr.Subscript o i pos')) pos.line (mkEnv se L cl f fr) = pure false) : AS C n se (.Assign [.Subscript o i pos'] value pos) loc σ Φ := by
  intro A env s ρ Q E ha hr hs hQ
  refine wpAny_Assign_Subscript (h A env s ρ _ E ha hr hs fun V v h1 tk1 ρ1 σ1 s1 S1 x1 φ1 => ?_) (by rw [hr.ok.eq]; exact hw _ _ _ _)
  refine φ1 A env _ ρ1 _ E ha (hr.step s1) S1 fun V2 v2 h2 tk2 ρ2 σ2 s2 S2 x2 φ2 => ?_
  refine φ2 A env _ ρ2 _ E ha (hr.step (s1.trans s2)) S2 fun V3 v3 h3 tk3 ρ3 σ3 s3 S3 x3 φ3 => ?_
  refine φ3 A _ ρ3 V2 V3 V _ E ha S3 (x2.step s3) x3 (x1.step (s2.trans s3)) fun h4 tk4 ρ4 σ4 s4 S4 φ4 => ?_
  have st := ((s1.trans s2).trans s3).trans s4
  exact hQ .next .next h4 tk4 ρ4 loc σ4 (st.mono X_sub) (hr.step st) S4 trivial φ4

/-- o.x = e -/
theorem as_attr {o value : Expr} {x : Str} {pos' pos : Pos} (h : AW C n se value loc σ fun v σ₁ => AW C n se o loc σ₁ fun ov σ₂ => Op3 C n (fun a _ c => setAttr a x c) ov .none v σ₂ fun σ₄ => Φ .next loc σ₄)
    (hw : ∀ L cl f fr, swapsWith value (some (Expr.Attribute o x pos')) pos.line (mkEnv se L cl f fr) = pure false) : AS C n se (.Assign [.Attribute o x pos'] value pos) loc σ Φ := by
  intro A env s ρ Q E ha hr hs hQ
  refine plainObj_wpAny_Assign_Attribute (h A env s ρ _ E ha hr hs fun V v h1 tk1 ρ1 σ1 s1 S1 x1 φ1 => ?_) (by rw [hr.ok.eq]; exact hw _ _ _ _)
  refine φ1 A env _ ρ1 _ E ha (hr.step s1) S1 fun V2 v2 h2 tk2 ρ2 σ2 s2 S2 x2 φ2 => ?_
  refine φ2 A _ ρ2 V2 .none V _ E ha S2 x2 .none (x1.step s2) fun h4 tk4 ρ4 σ4 s4 S4 φ4 => ?_
  have st := (s1.trans s2).trans s4
  exact hQ .next .next h4 tk4 ρ4 loc σ4 (st.mono X_sub) (hr.step st) S4 trivial φ4

/-- x += e, a local -/
theorem as_aug {x : Str} {op : Operator} {value : Expr} {pos' pos : Pos} {u : PV} (hk : se.sc.names.lookup x = some .local) (hu : loc x = some u) (h : AW C n se value loc σ fun v σ₁ => Op2 C n (inplaceOp op) u v σ₁ fun r σ₂ => Φ .next (up loc x r) σ₂) :
    AS C n se (.AugAssign (.Name x pos') op value pos) loc σ Φ := by
  intro A env s ρ Q E ha hr hs hQ
  obtain ⟨m, hn, hm⟩ := hr.ns
  obtain ⟨V, e, r⟩ := hm x u hk hu
  refine wpAny_AugAssign_Name (wpAny_loadName_local hr.ok.fun (by rw [hr.ok.kind]; exact hk) hn e ?_)
  refine h A env s ρ _ E ha hr hs fun V1 v1 h1 tk1 ρ1 σ1 s1 S1 x1 φ1 => ?_
  refine φ1 A _ ρ1 V V1 _ E ha S1 (r.step s1) x1 fun V2 v2 h2 tk2 ρ2 σ2 s2 S2 x2 φ2 => ?_
  exact store_name (hr.step (s1.trans s2)) S2 x2 (.inl hk) fun h3 tk3 s3 hr3 S3 => hQ .next .next h3 tk3 ρ2 _ σ2 (((s1.trans s2).mono X_sub).trans (s3.mono XT_sub)) hr3 S3 trivial φ2

/-- o.x += e -/
theorem as_augattr {o value : Expr} {x : Str} {op : Operator} {tpos pos : Pos} (h : AW C n se o loc σ fun ov σ₁ => Op1 C n (fun V => getAttr V x true) ov σ₁ fun u σ₂ => AW C n se value loc σ₂ fun v σ₃ => Op2 C n (inplaceOp op) u v σ₃ fun r σ₄ => Op3 C n (fun a _ c => setAttr a x c) ov .none r σ₄ fun σ₅ => Φ .next loc σ₅) :
    AS C n se (.AugAssign (.Attribute o x tpos) op value pos) loc σ Φ := by
  intro A env s ρ Q E ha hr hs hQ
  refine wpAny_AugAssign_AttributeAny (h A env s ρ _ E ha hr hs fun V v h1 tk1 ρ1 σ1 s1 S1 x1 φ1 => ?_)
  refine φ1 A _ ρ1 V _ E ha S1 x1 fun V2 v2 h2 tk2 ρ2 σ2 s2 S2 x2 φ2 => ?_
  refine φ2 A env _ ρ2 _ E ha (hr.step (s1.trans s2)) S2 fun V3 v3 h3 tk3 ρ3 σ3 s3 S3 x3 φ3 => ?_
  refine φ3 A _ ρ3 V2 V3 _ E ha S3 (x2.step s3) x3 fun V4 v4 h4 tk4 ρ4 σ4 s4 S4 x4 φ4 => ?_
  refine φ4 A _ ρ4 V .none V4 _ E ha S4 (x1.step ((s2.trans s3).trans s4)) .none x4 fun h5 tk5 ρ5 σ5 s5 S5 φ5 => ?_
  have st := (((s1.trans s2).trans s3).trans s4).trans s5
  exact hQ .next .next h5 tk5 ρ5 loc σ5 (st.mono X_sub) (hr.step st) S5 trivial φ5

/-- an expression alone -/
theorem as_expr {e : Expr} {pos : Pos} (h : AW C n se e loc σ fun v σ' => Φ .next loc σ') (hw : ∀ L cl f fr, swapsWith e none pos.line (mkEnv se L cl f fr) = pure false) (hi : ∀ L cl f fr, interactive (mkEnv se L cl f fr) = false) : AS C n se (.Expr e pos) loc σ Φ := by
  intro A env s ρ Q E ha hr hs hQ
  refine wpAny_Expr_any (h A env s ρ _ E ha hr hs fun V v h1 tk1 ρ1 σ1 s1 S1 x1 φ1 => ?_) (by rw [hr.ok.eq]; exact hi _ _ _ _) (by rw [hr.ok.eq]; exact hw _ _ _ _)
  exact hQ .next .next h1 tk1 ρ1 loc σ1 (s1.mono X_sub) (hr.step s1) S1 trivial φ1
end

theorem Step.weak {X Y : List Addr} {h h' : Heap} {ρ ρ' : List Addr} (s : Step X h ρ h' ρ') (k : ∀ a ∈ X, a ∈ Y ∨ h.get? a = none) : Step Y h ρ h' ρ' :=
  ⟨let ⟨τ, e, hτ⟩ := s.ext; ⟨τ, e, fun a ha => (hτ a ha).elim (k a) .inr⟩, fun b o e hb hy => s.keep b o e hb fun q => (k b q).elim hy (fun z => by rw [z] at e; cases e), s.imm, fun b o e hy => s.dom b o e fun q => (k b q).elim hy (fun z => by rw [z] at e; cases e)⟩

def rngPV (a b : Int) : List PV := (List.range (b - a).toNat).map fun (i : Nat) => PV.int (a + (i : Int))
theorem rngPV_get {a b : Int} {i : Nat} {u : PV} (h : (rngPV a b)[i]? = some u) : u = .int (a + i) ∧ i < (b - a).toNat := by
  unfold rngPV at h
  rw [List.getElem?_map] at h
  cases e : (List.range (b - a).toNat)[i]? with
  | none => rw [e] at h; cases h
  | some j =>
    rw [e] at h
    have hi := (List.getElem?_eq_some_iff.mp e)
    obtain ⟨h1, h2⟩ := hi
    simp at h1 h2
    subst h2
    simp at h
    exact ⟨h.symm, by omega⟩
theorem rngPV_length (a b : Int) : (rngPV a b).length = (b - a).toNat := by simp [rngPV]

/-- what v's items are -/
def Items (σ : List AO) (v : PV) (us : List PV) : Prop :=
  match v with
  | .obj k => σ[k]? = some (.lst us)
  | .rng a b => us = rngPV a b ∧ -(2 ^ 62) ≤ a ∧ a < 2 ^ 62 ∧ -(2 ^ 62) ≤ b ∧ b < 2 ^ 62
  | _ => False

def ItSt (v : PV) (I : Addr) (i : Nat) (h : Heap) (ρ : List Addr) : Prop :=
  match v with
  | .obj k => ∃ ax, ρ[k]? = some ax ∧ h.IsListIter I ax i
  | .rng a b => IsRangeIter h I (a + i) (((b - a).toNat : Int) - i) 1
  | _ => False

section
variable {C : Cx} {n : Nat} {se : SE} {env : Env} {loc : Loc} {σ : List AO} {ρ ρ' : List Addr} {v : PV} {us : List PV} {I : Addr} {i : Nat} {h h' : Heap}

theorem ItSt.some (x : ItSt v I i h ρ) : ∃ o, h.get? I = some o ∧ ¬ Imm o := by
  cases v with
  | obj k =>
    obtain ⟨ax, _, o, e, c, d⟩ := x
    refine ⟨o, e, ?_⟩
    rintro (⟨vs, m, e', _⟩ | ⟨vs, e', c' | ⟨q, t, z⟩⟩)
    · rw [d] at e'; cases e'
    · rw [c] at c'; exact absurd c' (by decide)
    · rw [d] at e'; cases e'; simp at z
  | rng a b =>
    have e : h.get? I = _ := x
    refine ⟨_, e, ?_⟩
    rintro (⟨vs, m, e', _⟩ | ⟨vs, e', c' | ⟨q, t, z⟩⟩)
    · cases e'
    · exact (show Value.type "range_iterator" ≠ Value.type "range" from by decide) c'
    · cases e'; simp [rawInt] at z
  | _ => exact x.elim

theorem ItSt.kept (x : ItSt v I i h ρ) (k : ∀ o, h.get? I = Option.some o → h'.get? I = Option.some o) (r : ∀ (j : Nat) (a : Addr), ρ[j]? = Option.some a → ρ'[j]? = Option.some a) : ItSt v I i h' ρ' := by
  cases v with
  | obj j =>
    obtain ⟨ax, ea, o, e, c, d⟩ := x
    exact ⟨ax, r _ _ ea, o, k _ e, c, d⟩
  | rng a b => exact k _ x
  | _ => exact x.elim

theorem it_start {A : Around} {s : Shared} {V : Value} {Q : Value → Shared → Prop} {E : Value → Shared → Prop} (hs : SR C s.heap ρ σ) (hv : VR s.heap ρ V v) (hi : Items σ v us)
    (hQ : ∀ h', Kp s.heap h' → ItSt v s.heap.objs.size 0 h' ρ → Q (.ref s.heap.objs.size) { s with heap := h' }) : wpAny (model C.prog C.w) A (pyIter V) Q E s := by
  cases v with
  | obj k =>
    obtain ⟨a, vs, m, rfl, ea, e1, r⟩ := hs.list hv hi
    exact wpAny_pyIter_list (isList_of e1) (hQ _ (kp_push _ _) ⟨a, ea, _, Heap.get?_push_size _ rfl, rfl, rfl⟩)
  | rng a b =>
    obtain ⟨rfl, h1, h2, h3, h4⟩ := hi
    cases hv with
    | rng e =>
      refine wpAny_pyIter_range e (small_one h1 h2 h3 h4) (hQ _ (kp_push _ _) ?_)
      show IsRangeIter _ _ _ _ _
      rw [rangeSize_nat]
      have : (a + ((0 : Nat) : Int)) = a := by omega
      rw [this]
      have : (((b - a).toNat : Int) - ((0 : Nat) : Int)) = ((b - a).toNat : Int) := by omega
      rw [this]
      exact Heap.get?_push_size _ rfl
  | _ => exact hi.elim

theorem it_next {A : Around} {s : Shared} {u : PV} {Q : Option Value → Shared → Prop} {E : Value → Shared → Prop} (hs : SR C s.heap ρ σ) (hi : Items σ v us) (st : ItSt v I i s.heap ρ) (hu : us[i]? = Option.some u)
    (hQ : ∀ V h' tk, ItSt v I (i + 1) h' ρ → Heap.SameBut I s.heap h' → VR s.heap ρ V u → Q (Option.some V) { s with heap := h', toks := tk }) : wpAny (model C.prog C.w) A (pyNext (.ref I)) Q E s := by
  cases v with
  | obj k =>
    obtain ⟨ax, ea, hit⟩ := st
    obtain ⟨vs, m, e1, r⟩ := hs.obj k ax _ ea hi
    obtain ⟨V, ev, rv⟩ := r.get hu
    exact wpAny_pyNext_list_item hit (isList_of e1) (by simpa using ev) fun h' hit' hsb => hQ V h' s.toks ⟨ax, ea, hit'⟩ hsb rv
  | rng a b =>
    obtain ⟨rfl, h1, h2, h3, h4⟩ := hi
    obtain ⟨rfl, hlt⟩ := rngPV_get hu
    refine wpAny_pyNext_range_item st (by omega) fun h' hit' hsb => ?_
    refine hQ _ h' _ ?_ hsb (.int _ _)
    show IsRangeIter _ _ _ _ _
    have e1 : a + ((i + 1 : Nat) : Int) = a + (i : Int) + 1 := by omega
    have e2 : ((b - a).toNat : Int) - ((i + 1 : Nat) : Int) = ((b - a).toNat : Int) - (i : Int) - 1 := by omega
    rw [e1, e2]; exact hit'
  | _ => exact hi.elim

theorem it_end {A : Around} {s : Shared} {Q : Option Value → Shared → Prop} {E : Value → Shared → Prop} (hh : A.handled = Option.none) (hs : SR C s.heap ρ σ) (hi : Items σ v us) (st : ItSt v I i s.heap ρ) (hu : us.length ≤ i)
    (hQ : ∀ h', Heap.ExtBut I s.heap h' → Q Option.none { s with heap := h' }) : wpAny (model C.prog C.w) A (pyNext (.ref I)) Q E s := by
  cases v with
  | obj k =>
    obtain ⟨ax, ea, hit⟩ := st
    obtain ⟨vs, m, e1, r⟩ := hs.obj k ax _ ea hi
    exact wpAny_pyNext_list_end hh hit (isList_of e1) (by simp [r.length, hu]) hQ
  | rng a b =>
    obtain ⟨rfl, h1, h2, h3, h4⟩ := hi
    rw [rngPV_length] at hu
    exact wpAny_pyNext_range_end hh st (by omega) hQ
  | _ => exact hi.elim

theorem it_go {A : Around} {s : Shared} {V : Value} {target : Expr} {Q : Unit → Shared → Prop} {E : Value → Shared → Prop} (st : ItSt v I i s.heap ρ) (hQ : Q () s) : wpAny (model C.prog C.w) A (letOwnedTupleGo target (.ref I) V) Q E s := by
  cases v with
  | obj k =>
    obtain ⟨ax, ea, hit⟩ := st
    exact letGo_listiter hit hQ
  | rng a b =>
    have e : s.heap.get? I = _ := st
    unfold letOwnedTupleGo
    cases target <;> first
      | exact wpAny_pure hQ
      | (cases V <;> first
          | exact wpAny_pure hQ
          | (refine wpAny_bind (wpAny_load e ?_)
             exact wpAny_pure hQ))
  | _ => exact st.elim

/-- the iterator turns: store and frame stand -/
theorem turn_I {X : List Addr} (hs : SR C h ρ σ) (hr : Rep C se env loc h ρ) (hI : I ∉ ρ ∧ C.h₀.get? I = Option.none ∧ I ∉ C.X) (hL : I ≠ env.locals) (hc : ∀ x c, (x, c) ∈ env.cells → I ≠ c)
    (s : Step [I] h ρ h' ρ) (k : ∀ b o, b ≠ I → h.get? b = Option.some o → h'.get? b = Option.some o) : SR C h' ρ σ ∧ Rep C se env loc h' ρ := by
  refine ⟨hs.but s (by intro a ha; rw [List.mem_singleton.mp ha]; exact hI) fun a ha ob e => k a ob (fun q => hI.1 (q ▸ ha)) e, ?_⟩
  exact hr.kept s hr.lnew.1 (fun x c hx => (hr.cnew x c hx).2.1) (fun o e => k _ _ (Ne.symm hL) e) fun x c hx o e => k _ _ (Ne.symm (hc x c hx)) e

theorem as_for {target iter : Expr} {body : List Stmt} {pos : Pos} {xs : List Str} {Φ : AFl → Loc → List AO → Prop}
    (hx : AW C n se iter loc σ fun v σ₁ => ∃ us, ∃ J : Nat → Loc → List AO → Prop, J 0 loc σ₁ ∧ (∀ i l s, J i l s → Items s v us) ∧
      (∀ i u l s, us[i]? = Option.some u → J i l s → ∃ l', Tg C n se target xs u l l' ∧ AX C n se body l' s fun f l'' s'' => match f with | .next => J (i + 1) l'' s'' | .cont => J (i + 1) l'' s'' | .brk => Φ .next l'' s'' | .ret v => Φ (.ret v) l'' s'') ∧
      (∀ l s, J us.length l s → Φ .next l s))
    (hf : ∀ env x, foldedSetIterable iter env x = pure x) : AS C n se (.For target iter body [] pos) loc σ Φ := by
  intro A env s ρ Q E ha hr hs hQ
  refine wpAny_For (hx A env s ρ _ E ha hr hs fun V v h1 tk1 ρ1 σ1 s1 S1 x1 φ1 => ?_) (hf env)
  obtain ⟨us, J, j0, jI, turn, fin⟩ := φ1
  have hr1 := hr.step s1
  refine it_start S1 x1 (jI _ _ _ j0) fun hI kI st0 => ?_
  generalize hIa : h1.objs.size = I at st0
  have nI : h1.get? I = Option.none := by rw [← hIa]; exact size_none h1
  obtain ⟨⟨oL, eL⟩, eC⟩ := hr1.cells_some
  have hL : I ≠ env.locals := fun q => by rw [q, eL] at nI; cases nI
  have hC : ∀ x c, (x, c) ∈ env.cells → I ≠ c := fun x c hx q => by obtain ⟨o, e⟩ := eC x c hx; rw [q, e] at nI; cases nI
  have h0 : C.h₀.get? I = Option.none := by
    cases q : C.h₀.get? I with
    | none => rfl
    | some o => have := S1.base I o q; rw [nI] at this; cases this
  have hXt : I ∉ C.X := by rw [← hIa]; exact fresh_X S1
  have nXS : I ∉ XS C env := by
    intro q
    rcases List.mem_cons.mp q with q | q
    · exact hL q
    · rcases List.mem_append.mp q with q | q
      · obtain ⟨p, hp, rfl⟩ := List.mem_map.mp q
        exact hC p.1 p.2 hp rfl
      · exact hXt q
  have nr1 : I ∉ ρ1 := fun q => by obtain ⟨o, e⟩ := S1.in q; rw [nI] at e; cases e
  obtain ⟨oI, eI, _⟩ := st0.some
  -- the end of the loop, seen from its start
  have out : ∀ h' ρ', Step (I :: XS C env) hI ρ1 h' ρ' → Step (XS C env) s.heap ρ h' ρ' := fun h' ρ' st =>
    (s1.mono X_sub).trans (((Step.ofKp (X := I :: XS C env) (ρ := ρ1) kI).trans st).weak fun a ha => by
      rcases List.mem_cons.mp ha with rfl | ha
      · exact .inr nI
      · exact .inl ha)
  refine codeAny_forLoop_any
    (fun k s' => ∃ h' tk ρ' loc' σ' i, s' = { s with heap := h', toks := tk } ∧ Step (I :: XS C env) hI ρ1 h' ρ' ∧ Rep C se env loc' h' ρ' ∧ SR C h' ρ' σ' ∧ J i loc' σ' ∧ ItSt v I i h' ρ' ∧ I ∉ ρ' ∧ i ≤ us.length ∧ k = us.length + 1 - i) ?_ (us.length + 1)
    ⟨hI, tk1, ρ1, loc, σ1, 0, rfl, .refl _ _ _, hr1.step (.ofKp kI), S1.kp kI, j0, st0, nr1, Nat.zero_le _, rfl⟩
  rintro k s' ⟨h', tk, ρ', loc', σ', i, rfl, st', hr', hs', hJ, hit, hIr, hi, rfl⟩
  have nI' : I ∉ ρ' ∧ C.h₀.get? I = Option.none ∧ I ∉ C.X := ⟨hIr, h0, hXt⟩
  by_cases hlt : i < us.length
  · have hu : us[i]? = Option.some us[i] := List.getElem?_eq_getElem hlt
    refine it_next hs' (jI _ _ _ hJ) hit hu fun V h2 tk2 hit2 hsb rv => ?_
    obtain ⟨o, eo, im⟩ := hit.some
    have sI : Step [I] h' ρ' h2 ρ' := Step.same hsb (fun ob e => by rw [eo] at e; cases e; exact im)
    obtain ⟨S2, R2⟩ := turn_I (X := []) hs' hr' nI' hL hC sI fun b o hb e => (hsb.2 b hb).trans e
    refine it_go hit2 ?_
    obtain ⟨l', tg, bd⟩ := turn i us[i] loc' σ' hu hJ
    refine tg A env _ ρ' σ' V _ _ ha R2 S2 (rv.step sI) fun h3 tk3 s3 R3 S3 => ?_
    have o2 : ∃ o, h2.get? I = Option.some o := by obtain ⟨o2, e2, _⟩ := hit2.some; exact ⟨o2, e2⟩
    obtain ⟨o2v, o2e⟩ := o2
    have kI3 : ∀ o, h2.get? I = Option.some o → h3.get? I = Option.some o := fun o e => s3.keep I o e nI'.1 fun q => nXS (XT_sub (C := C) _ q)
    refine bd A env _ ρ' _ _ ha R3 S3 fun f g h4 tk4 ρ4 loc4 σ4 s4 R4 S4 x4 φ4 => ?_
    have tot : Step (I :: XS C env) hI ρ1 h4 ρ4 := ((st'.trans (sI.mono (by intro a ha; rw [List.mem_singleton.mp ha]; exact List.mem_cons_self))).trans (s3.mono fun a ha => List.mem_cons_of_mem _ (XT_sub _ ha))).trans (s4.mono fun a ha => List.mem_cons_of_mem _ ha)
    have nxt : J (i + 1) loc4 σ4 → ∃ m, m < us.length + 1 - i ∧ ∃ h' tk ρ' loc' σ' i, ({ s with heap := h4, toks := tk4 } : Shared) = { s with heap := h', toks := tk } ∧ Step (I :: XS C env) hI ρ1 h' ρ' ∧ Rep C se env loc' h' ρ' ∧ SR C h' ρ' σ' ∧ J i loc' σ' ∧ ItSt v I i h' ρ' ∧ I ∉ ρ' ∧ i ≤ us.length ∧ m = us.length + 1 - i := fun j =>
      ⟨us.length + 1 - (i + 1), by omega, h4, tk4, ρ4, loc4, σ4, i + 1, rfl, tot, R4, S4, j, hit2.kept (fun o e => s4.keep I o (kI3 o e) nI'.1 nXS) (fun j a e => s4.rho e), s4.off (kI3 _ o2e) nXS hIr, hlt, rfl⟩
    cases f with
    | next => cases g <;> first | exact nxt φ4 | exact x4.elim
    | cont => cases g <;> first | exact nxt φ4 | exact x4.elim
    | brk => cases g <;> first | exact hQ .next .next h4 tk4 ρ4 loc4 σ4 (out _ _ tot) R4 S4 trivial φ4 | exact x4.elim
    | ret W =>
      cases g with
      | ret w => exact hQ (.ret W) (.ret w) h4 tk4 ρ4 loc4 σ4 (out _ _ tot) R4 S4 x4 φ4
      | _ => exact x4.elim
  · have hin : i = us.length := by omega
    subst hin
    obtain ⟨o, eo, im⟩ := hit.some
    refine it_end ha.hd hs' (jI _ _ _ hJ) hit (Nat.le_refl _) fun h2 hx => wpAny_execs_nil ?_
    have sI : Step [I] h' ρ' h2 ρ' := ⟨⟨[], by simp, by simp⟩, fun b ob e _ hb => hx b ob (by simpa using hb) e, fun b ob e im' => hx b ob (fun q => im (by rw [q, eo] at e; cases e; exact im')) e, fun b ob e hb => ⟨ob, hx b ob (by simpa using hb) e⟩⟩
    obtain ⟨S2, R2⟩ := turn_I (X := []) hs' hr' nI' hL hC sI fun b o hb e => hx b o hb e
    exact hQ .next .next h2 _ ρ' loc' σ' (out _ _ (st'.trans (sI.mono (by intro a ha; rw [List.mem_singleton.mp ha]; exact List.mem_cons_self)))) R2 S2 trivial (fin _ _ hJ)
end

section
variable {C : Cx} {n : Nat} {se : SE} {env : Env} {loc : Loc} {σ : List AO} {ρ : List Addr}

theorem as_while {test : Expr} {body : List Stmt} {pos : Pos} {Φ : AFl → Loc → List AO → Prop} (J : Nat → Loc → List AO → Prop) (k₀ : Nat) (j0 : J k₀ loc σ)
    (turn : ∀ k l s, J k l s → AT C n se test l s fun b s' => if b = true then AX C n se body l s' fun f l'' s'' => match f with | .next => ∃ k', k' < k ∧ J k' l'' s'' | .cont => ∃ k', k' < k ∧ J k' l'' s'' | .brk => Φ .next l'' s'' | .ret v => Φ (.ret v) l'' s'' else Φ .next l s') :
    AS C n se (.While test body [] pos) loc σ Φ := by
  intro A env s ρ Q E ha hr hs hQ
  refine wpAny_While (codeAny_whileLoop
    (fun k s' => ∃ h' tk ρ' loc' σ', s' = { s with heap := h', toks := tk } ∧ Step (XS C env) s.heap ρ h' ρ' ∧ Rep C se env loc' h' ρ' ∧ SR C h' ρ' σ' ∧ J k loc' σ') ?_ k₀ ⟨s.heap, s.toks, ρ, loc, σ, rfl, .refl _ _ _, hr, hs, j0⟩)
  rintro k s' ⟨h', tk, ρ', loc', σ', rfl, st, hr', hs', hJ⟩
  refine turn k loc' σ' hJ A env _ ρ' _ _ ha hr' hs' fun b h2 tk2 ρ2 σ2 s2 S2 φ2 => ?_
  have st2 := st.trans (s2.mono X_sub)
  cases b with
  | false => exact wpAny_execs_nil (hQ .next .next h2 tk2 ρ2 loc' σ2 st2 (hr'.step s2) S2 trivial φ2)
  | true =>
    rw [if_pos rfl] at φ2 ⊢
    refine φ2 A env _ ρ2 _ _ ha (hr'.step s2) S2 fun f g h3 tk3 ρ3 loc3 σ3 s3 R3 S3 x3 φ3 => ?_
    have st3 := st2.trans s3
    have nxt : (∃ k', k' < k ∧ J k' loc3 σ3) → ∃ m, m < k ∧ ∃ h' tk ρ' loc' σ', ({ s with heap := h3, toks := tk3 } : Shared) = { s with heap := h', toks := tk } ∧ Step (XS C env) s.heap ρ h' ρ' ∧ Rep C se env loc' h' ρ' ∧ SR C h' ρ' σ' ∧ J m loc' σ' := fun ⟨k', h1, h2⟩ => ⟨k', h1, h3, tk3, ρ3, loc3, σ3, rfl, st3, R3, S3, h2⟩
    cases f with
    | next => cases g <;> first | exact nxt φ3 | exact x3.elim
    | cont => cases g <;> first | exact nxt φ3 | exact x3.elim
    | brk => cases g <;> first | exact hQ .next .next h3 tk3 ρ3 loc3 σ3 st3 R3 S3 trivial φ3 | exact x3.elim
    | ret W =>
      cases g with
      | ret w => exact hQ (.ret W) (.ret w) h3 tk3 ρ3 loc3 σ3 st3 R3 S3 x3 φ3
      | _ => exact x3.elim

/-! a call of a def -/
noncomputable def binds0 (xs : List Str) (us : List PV) : Loc := upAll (fun _ => none) (xs.zip us)

theorem bind_rel {h : Heap} (kindOf : Str → Option NameKind) : ∀ (xs : List Str) (Vs : List Value) (us : List PV) (m cm : Str → Option Value) (l : Loc), VRs h ρ Vs us →
    (∀ x v, kindOf x = some .local → l x = some v → ∃ V, m x = some V ∧ VR h ρ V v) → (∀ x v, kindOf x = some .cell → l x = some v → ∃ V, cm x = some V ∧ VR h ρ V v) →
    (∀ x v, kindOf x = some .local → upAll l (xs.zip us) x = some v → ∃ V, bindL kindOf (xs.zip Vs) m x = some V ∧ VR h ρ V v) ∧
    (∀ x v, kindOf x = some .cell → upAll l (xs.zip us) x = some v → ∃ V, bindC kindOf (xs.zip Vs) cm x = some V ∧ VR h ρ V v)
  | [], Vs, us, m, cm, l, _, h1, h2 => by simpa [upAll, bindL, bindC] using ⟨h1, h2⟩
  | y :: ys, Vs, us, m, cm, l, hv, h1, h2 => by
    cases hv with
    | nil => simpa [upAll, bindL, bindC] using ⟨h1, h2⟩
    | cons a b =>
      rename_i V vs u us
      simp only [List.zip_cons_cons, upAll, bindL, bindC]
      refine bind_rel kindOf ys vs us _ _ _ b (fun x v hx hl => ?_) fun x v hx hl => ?_
      · unfold up at hl
        by_cases q : x = y
        · subst q
          rw [if_pos rfl] at hl; cases hl
          rw [if_pos hx]; exact ⟨V, by simp, a⟩
        · rw [if_neg q] at hl
          obtain ⟨W, e, r⟩ := h1 x v hx hl
          by_cases k : kindOf y = some .local
          · rw [if_pos k]; exact ⟨W, by simp [q, e], r⟩
          · rw [if_neg k]; exact ⟨W, e, r⟩
      · unfold up at hl
        by_cases q : x = y
        · subst q
          rw [if_pos rfl] at hl; cases hl
          rw [if_neg (by rw [hx]; decide)]; exact ⟨V, by simp, a⟩
        · rw [if_neg q] at hl
          obtain ⟨W, e, r⟩ := h2 x v hx hl
          by_cases k : kindOf y = some .local
          · rw [if_pos k]; exact ⟨W, e, r⟩
          · rw [if_neg k]; exact ⟨W, by simp [q, e], r⟩

theorem cellsFrom_mem : ∀ (names : List (Str × NameKind)) (k : Nat) (acc : List (Str × Addr)) (x : Str) (c : Addr), (x, c) ∈ cellsFrom k names acc → (x, c) ∈ acc ∨ k ≤ c
  | [], _, _, _, _, h => .inl h
  | (y, kd) :: r, k, acc, x, c, h => by
    unfold cellsFrom at h
    split at h
    · rcases cellsFrom_mem r (k + 1) _ x c h with h | h
      · rcases List.mem_cons.mp h with h | h
        · cases h; exact .inr (Nat.le_refl _)
        · exact .inl h
      · exact .inr (by omega)
    · exact cellsFrom_mem r k acc x c h

end

def relabS (scope sc : Scope) : Scope :=
  { scope with names := scope.names.map fun (n, k) => if (k == .free && sc.kind == .function && sc.names.lookup n == some .cell) then (n, .cell) else (n, k) }

theorem relabel_eq (scope : Scope) (env : Env) : relabel scope env = relabS scope env.scope := rfl

theorem cellsFrom_app : ∀ (names : List (Str × NameKind)) (k : Nat) (acc : List (Str × Addr)), cellsFrom k names acc = cellsFrom k names [] ++ acc
  | [], _, _ => rfl
  | (y, kd) :: r, k, acc => by
    unfold cellsFrom
    split
    · rw [cellsFrom_app r (k + 1) ((y, k) :: acc), cellsFrom_app r (k + 1) [(y, k)]]; simp
    · exact cellsFrom_app r k acc

section
variable {M : Model} {A : Around} {E : Value → Shared → Prop} {s : Shared}

/-- the block of a comprehension: its own names, its cells -/
theorem newEnv_comp {scope : Scope} {cl : List (Str × Addr)} {env : Env} {Q : Env → Shared → Prop}
    (hQ : Q { scope, locals := s.heap.objs.size, globals := env.globals, cells := cellsFrom (s.heap.objs.size + 1) scope.names cl, qual := env.qual, func := none, code := env.code, frame := env.frame, builtins := env.builtins }
      { s with heap := pushCells (s.heap.push { cls := .type "dict", data := .dict #[] }) scope.names }) :
    wpAny M A (newFunctionEnv scope env.globals cl [] env.qual none .none (some env)) Q E s := by
  simp only [newFunctionEnv, Option.isSome_some, if_true]
  refine wpAny_bind (wpAny_alloc ?_)
  refine wpAny_bind (wpAny_layCells _ (fun name kind cells => by cases hkc : kind == NameKind.cell <;> simp) _ _ _ _ ?_)
  rw [show ({ s with heap := s.heap.push { cls := .type "dict", data := .dict #[] } } : Shared).heap.objs.size = s.heap.objs.size + 1 from Heap.size_push ..]
  rw [List.forIn_nil]
  exact wpAny_bind (wpAny_pure (wpAny_pure hQ))
end

/-- what the block closes over -/
noncomputable def closOf (cells : List (Str × Addr)) : List (Str × NameKind) → List (Str × Addr) → List (Str × Addr)
  | [], acc => acc
  | (y, kd) :: r, acc => if kd == .free then closOf cells r ((y, (cells.lookup y).getD 0) :: acc) else closOf cells r acc

theorem closureFor_eq {scope : Scope} {env : Env} (h : ∀ y, (y, NameKind.free) ∈ scope.names → ∃ c, env.cells.lookup y = some c) : closureFor scope env = pure (closOf env.cells scope.names []) := by
  unfold closureFor
  have go : ∀ (names : List (Str × NameKind)) (acc : List (Str × Addr)), (∀ y, (y, NameKind.free) ∈ names → ∃ c, env.cells.lookup y = some c) →
      (forIn names acc fun x r => match x with | (name, kind) => (do let cs := r; if kind == .free then (do let a ← cellOf env name; pure (ForInStep.yield ((name, a) :: cs))) else pure (ForInStep.yield cs)) : Sem (List (Str × Addr))) = pure (closOf env.cells names acc) := by
    intro names
    induction names with
    | nil => intro acc _; rfl
    | cons p r ih =>
      obtain ⟨y, kd⟩ := p
      intro acc hy
      rw [List.forIn_cons]
      unfold closOf
      by_cases q : kd == .free
      · have hk : kd = .free := by simpa using q
        obtain ⟨c, e⟩ := hy y (by rw [hk]; exact List.mem_cons_self)
        simp only [q, if_true, cellOf, e, Option.getD_some]
        exact ih _ fun z hz => hy z (List.mem_cons_of_mem _ hz)
      · simp only [q, Bool.false_eq_true, if_false]
        exact ih _ fun z hz => hy z (List.mem_cons_of_mem _ hz)
  have := go scope.names [] h
  exact Eq.trans (by rfl) (congrArg (· >>= pure) this)

theorem closOf_mem {cells : List (Str × Addr)} : ∀ (names : List (Str × NameKind)) (acc : List (Str × Addr)) (x : Str) (c : Addr), (x, c) ∈ closOf cells names acc → (x, c) ∈ acc ∨ ((x, NameKind.free) ∈ names ∧ c = (cells.lookup x).getD 0)
  | [], _, _, _, h => .inl h
  | (y, kd) :: r, acc, x, c, h => by
    unfold closOf at h
    by_cases q : kd == .free
    · have hk : kd = .free := by simpa using q
      rw [if_pos q] at h
      rcases closOf_mem r _ x c h with h | h
      · rcases List.mem_cons.mp h with h | h
        · cases h; exact .inr ⟨by rw [hk]; exact List.mem_cons_self, rfl⟩
        · exact .inl h
      · exact .inr ⟨List.mem_cons_of_mem _ h.1, h.2⟩
    · rw [if_neg q] at h
      rcases closOf_mem r _ x c h with h | h
      · exact .inl h
      · exact .inr ⟨List.mem_cons_of_mem _ h.1, h.2⟩
theorem closOf_acc {cells : List (Str × Addr)} : ∀ (names : List (Str × NameKind)) (acc : List (Str × Addr)) (p : Str × Addr), p ∈ acc → p ∈ closOf cells names acc
  | [], _, _, h => h
  | (y, kd) :: r, acc, p, h => by
    unfold closOf
    split
    · exact closOf_acc r _ p (List.mem_cons_of_mem _ h)
    · exact closOf_acc r _ p h
theorem closOf_in {cells : List (Str × Addr)} : ∀ (names : List (Str × NameKind)) (acc : List (Str × Addr)) (x : Str), (x, NameKind.free) ∈ names → (x, (cells.lookup x).getD 0) ∈ closOf cells names acc
  | (y, kd) :: r, acc, x, h => by
    unfold closOf
    rcases List.mem_cons.mp h with h | h
    · cases h
      rw [if_pos (by decide)]
      exact closOf_acc r _ _ List.mem_cons_self
    · split
      · exact closOf_in r _ x h
      · exact closOf_in r _ x h

theorem lookup_some_of_mem {α : Type} : ∀ {l : List (Str × α)} {x : Str} {c : α}, (x, c) ∈ l → ∃ c', l.lookup x = some c'
  | (y, d) :: r, x, c, h => by
    rw [List.lookup_cons]
    by_cases q : x == y
    · rw [q]; exact ⟨d, rfl⟩
    · rw [Bool.eq_false_iff.mpr q]
      rcases List.mem_cons.mp h with h | h
      · cases h; simp at q
      · exact lookup_some_of_mem h

theorem closOf_lookup {cells : List (Str × Addr)} {names : List (Str × NameKind)} {x : Str} {c : Addr} (h : (x, NameKind.free) ∈ names) (e : cells.lookup x = some c) : (closOf cells names []).lookup x = some c := by
  obtain ⟨c', e'⟩ := lookup_some_of_mem (closOf_in (cells := cells) names [] x h)
  rw [e']
  have := (closOf_mem names [] x c' (mem_of_lookup e')).resolve_left (by simp)
  rw [this.2, e]; rfl

theorem cellsFrom_kind : ∀ (names : List (Str × NameKind)) (k : Nat) (x : Str) (c : Addr), (x, c) ∈ cellsFrom k names [] → (x, NameKind.cell) ∈ names
  | [], _, _, _, h => by cases h
  | (y, kd) :: r, k, x, c, h => by
    unfold cellsFrom at h
    split at h
    · rename_i q
      have hk : kd = .cell := by simpa using q
      rw [cellsFrom_app] at h
      rcases List.mem_append.mp h with h | h
      · exact List.mem_cons_of_mem _ (cellsFrom_kind r _ x c h)
      · rw [List.mem_singleton] at h; cases h; rw [hk]; exact List.mem_cons_self
    · exact List.mem_cons_of_mem _ (cellsFrom_kind r _ x c h)

theorem lookup_relab {scope sc : Scope} {y : Str} : (relabS scope sc).names.lookup y = (scope.names.lookup y).map fun k => if (k == .free && sc.kind == .function && sc.names.lookup y == some .cell) then .cell else k := by
  unfold relabS
  generalize scope.names = names
  induction names with
  | nil => rfl
  | cons p r ih =>
    obtain ⟨z, k⟩ := p
    simp only [List.map_cons] at ih ⊢
    have e : (if (k == .free && sc.kind == .function && sc.names.lookup z == some .cell) = true then (z, NameKind.cell) else (z, k)) = (z, if (k == .free && sc.kind == .function && sc.names.lookup z == some .cell) = true then NameKind.cell else k) := by split <;> rfl
    rw [e, List.lookup_cons, List.lookup_cons]
    by_cases q : y == z
    · have : y = z := by simpa using q
      subst this
      simp
    · rw [Bool.eq_false_iff.mpr q]; exact ih

theorem nodup_kind {names : List (Str × NameKind)} (hn : (names.map (·.1)).Nodup) : ∀ {x : Str} {k : NameKind}, (x, k) ∈ names → names.lookup x = some k := by
  induction names with
  | nil => intro x k h; cases h
  | cons p r ih =>
    obtain ⟨z, kd⟩ := p
    intro x k h
    simp only [List.map_cons] at hn
    obtain ⟨n1, n2⟩ := List.nodup_cons.mp hn
    rw [List.lookup_cons]
    rcases List.mem_cons.mp h with h | h
    · cases h; simp
    · have : x ≠ z := fun q => n1 (q ▸ List.mem_map_of_mem (f := fun q : Str × NameKind => q.1) h)
      rw [show (x == z) = false from by simpa using this]
      exact ih n2 h

def inner (loc : Loc) (scope : Scope) : Loc := fun y => if scope.names.lookup y = some .free then loc y else none

noncomputable abbrev compEnvOf (scope : Scope) (env : Env) (L : Addr) : Env :=
  { scope := relabel scope env, locals := L, globals := env.globals, cells := cellsFrom (L + 1) scope.names (closOf env.cells scope.names []), qual := env.qual, func := none, code := env.code, frame := env.frame, builtins := env.builtins }
abbrev seOf (scope : Scope) (se : SE) : SE := ⟨relabS scope se.sc, se.cd, se.qual⟩

section
variable {C : Cx} {n : Nat} {se : SE} {env : Env} {loc : Loc} {σ : List AO} {ρ : List Addr} {h : Heap}

theorem rep_comp {scope : Scope} (hr : Rep C se env loc h ρ) (hs : SR C h ρ σ) (hk : scope.kind = .function) (hn : (scope.names.map (·.1)).Nodup)
    (hfree : ∀ y, (y, NameKind.free) ∈ scope.names → se.sc.names.lookup y = some .cell ∨ se.sc.names.lookup y = some .free) :
    Rep C (seOf scope se) (compEnvOf scope env h.objs.size) (inner loc scope) (pushCells (h.push { cls := .type "dict", data := .dict #[] }) scope.names) ρ ∧ Kp h (pushCells (h.push { cls := .type "dict", data := .dict #[] }) scope.names) ∧
    ∀ x c, (x, c) ∈ cellsFrom (h.objs.size + 1) scope.names [] → h.objs.size < c := by
  have kp : Kp h (pushCells (h.push { cls := .type "dict", data := .dict #[] }) scope.names) := fun b o e => pushCells_keeps _ _ b o (Heap.get?_push_of_some _ e)
  have ok := cellsFrom_ok scope.names (h.push { cls := .type "dict", data := .dict #[] }) (h.objs.size + 1) [] ⟨fun _ _ hm => (nomatch hm), List.Pairwise.nil⟩ (by rw [Heap.size_push]; exact Nat.le_refl _)
  rw [Heap.size_push] at ok
  have fresh : ∀ a, h.objs.size ≤ a → a ∉ ρ ∧ C.h₀.get? a = none ∧ a ∉ C.X := fun a hle => by
    have hnn : h.get? a = none := Heap.get?_none_of_le hle
    refine ⟨fun q => ?_, ?_, fun q => ?_⟩
    · obtain ⟨o, e⟩ := hs.in q; rw [hnn] at e; cases e
    · cases q : C.h₀.get? a with
      | none => rfl
      | some o => have := hs.base a o q; rw [hnn] at this; cases this
    · obtain ⟨t, ht, rfl⟩ := List.mem_map.mp q
      obtain ⟨⟨ps, e, _⟩, _⟩ := hs.tab t ht
      rw [hnn] at e; cases e
  have s0 : Step [] h ρ (pushCells (h.push { cls := .type "dict", data := .dict #[] }) scope.names) ρ := .ofKp kp
  have cellsE : cellsFrom (h.objs.size + 1) scope.names (closOf env.cells scope.names []) = cellsFrom (h.objs.size + 1) scope.names [] ++ closOf env.cells scope.names [] := cellsFrom_app _ _ _
  have ownNone : ∀ y, (y, NameKind.free) ∈ scope.names → (cellsFrom (h.objs.size + 1) scope.names []).lookup y = none := fun y hy => by
    cases q : (cellsFrom (h.objs.size + 1) scope.names []).lookup y with
    | none => rfl
    | some c =>
      have h1 := nodup_kind hn (cellsFrom_kind _ _ _ _ (mem_of_lookup q))
      rw [nodup_kind hn hy] at h1; cases h1
  have lk : ∀ y, (cellsFrom (h.objs.size + 1) scope.names (closOf env.cells scope.names [])).lookup y = ((cellsFrom (h.objs.size + 1) scope.names []).lookup y).or ((closOf env.cells scope.names []).lookup y) := fun y => by rw [cellsE, List.lookup_append]
  have par : ∀ y, (y, NameKind.free) ∈ scope.names → ∃ c ov, env.cells.lookup y = some c ∧ (closOf env.cells scope.names []).lookup y = some c ∧ h.IsCell c ov ∧ ∀ v, loc y = some v → ∃ V, ov = some V ∧ VR h ρ V v := fun y hy => by
    obtain ⟨c, ov, e1, e2, e3⟩ := hr.cells y (hfree y hy)
    exact ⟨c, ov, e1, closOf_lookup hy e1, e2, e3⟩
  refine ⟨⟨⟨?_, hk, hr.ok.gl, hr.ok.bi, hr.ok.cd, hr.ok.qual⟩, ⟨fun _ => none, (Heap.Ns.new h (.type "dict")).keeps (pushCells_keeps _ _), fun y v hy hl => ?_⟩, fun y hy => ?_, fresh _ (Nat.le_refl _), fun y c hc => ?_, fun x y c h1 h2 => ?_⟩, kp, fun x c hc => (ok.empty x c hc).2⟩
  · show relabel scope env = relabS scope se.sc
    rw [relabel_eq, hr.ok.sc]
  · exfalso
    have hy' : (relabS scope se.sc).names.lookup y = some .local := hy
    rw [lookup_relab] at hy'
    unfold inner at hl
    by_cases q : scope.names.lookup y = some .free
    · rw [q, Option.map_some] at hy'
      have z := Option.some.inj hy'
      split at z <;> cases z
    · rw [if_neg q] at hl; cases hl
  · have hy' : (relabS scope se.sc).names.lookup y = some .cell ∨ (relabS scope se.sc).names.lookup y = some .free := hy
    rw [lookup_relab] at hy'
    cases q : scope.names.lookup y with
    | none => rw [q] at hy'; rcases hy' with z | z <;> cases z
    | some k =>
      rw [q, Option.map_some] at hy'
      cases k with
      | cell =>
        obtain ⟨c, e⟩ := Option.isSome_iff_exists.mp (cellsFrom_some scope.names (h.objs.size + 1) [] (.inl q))
        refine ⟨c, none, ?_, (ok.empty y c (mem_of_lookup e)).1, fun v hl => ?_⟩
        · show (cellsFrom _ _ _).lookup y = _
          rw [lk, e]; rfl
        · unfold inner at hl; rw [q] at hl; simp at hl
      | free =>
        have hm := mem_of_lookup q
        obtain ⟨c, ov, e1, e2, e3, e4⟩ := par y hm
        refine ⟨c, ov, ?_, e3.keeps kp, fun v hl => ?_⟩
        · show (cellsFrom _ _ _).lookup y = _
          rw [lk, ownNone y hm, e2]; rfl
        · unfold inner at hl; rw [if_pos q] at hl
          obtain ⟨V, a, b⟩ := e4 v hl
          exact ⟨V, a, b.step s0⟩
      | _ => simp at hy'
  · have hc' : (y, c) ∈ cellsFrom (h.objs.size + 1) scope.names (closOf env.cells scope.names []) := hc
    rw [cellsE] at hc'
    rcases List.mem_append.mp hc' with hc' | hc'
    · obtain ⟨e1, e2⟩ := ok.empty y c hc'
      obtain ⟨f1, f2, f3⟩ := fresh c (by omega)
      exact ⟨⟨_, e1⟩, f1, f2, f3, Nat.ne_of_gt (Nat.lt_of_succ_le e2)⟩
    · obtain ⟨hm, e⟩ := (closOf_mem _ _ _ _ hc').resolve_left (by simp)
      obtain ⟨c', ov, e1, e2, e3, e4⟩ := par y hm
      rw [e1] at e
      have e' : c = c' := e
      subst e'
      obtain ⟨⟨ov', hv⟩, g1, g2, g3, g4⟩ := hr.cnew y c (mem_of_lookup e1)
      exact ⟨⟨ov', hv.keeps kp⟩, g1, g2, g3, Nat.ne_of_lt hv.lt⟩
  · have h1' : (cellsFrom (h.objs.size + 1) scope.names (closOf env.cells scope.names [])).lookup x = some c := h1
    have h2' : (cellsFrom (h.objs.size + 1) scope.names (closOf env.cells scope.names [])).lookup y = some c := h2
    rw [lk] at h1' h2'
    have kinds : ∀ z, ((cellsFrom (h.objs.size + 1) scope.names []).lookup z).or ((closOf env.cells scope.names []).lookup z) = some c → (z, c) ∈ cellsFrom (h.objs.size + 1) scope.names [] ∨ (env.cells.lookup z = some c ∧ c < h.objs.size) := fun z hz => by
      cases q : (cellsFrom (h.objs.size + 1) scope.names []).lookup z with
      | some c' => rw [q] at hz; cases hz; exact .inl (mem_of_lookup q)
      | none =>
        rw [q] at hz
        have hz' : (closOf env.cells scope.names []).lookup z = some c := hz
        obtain ⟨hm, e⟩ := (closOf_mem _ _ _ _ (mem_of_lookup hz')).resolve_left (by simp)
        obtain ⟨c', ov, e1, e2, e3, e4⟩ := par z hm
        rw [e1] at e
        have e' : c = c' := e
        subst e'
        exact .inr ⟨e1, e3.lt⟩
    rcases kinds x h1' with a | a <;> rcases kinds y h2' with b | b
    · exact name_of_addr ok.apart a b
    · exact absurd (Nat.lt_of_succ_le (ok.empty x c a).2) (Nat.lt_asymm b.2)
    · exact absurd (Nat.lt_of_succ_le (ok.empty y c b).2) (Nat.lt_asymm a.2)
    · exact hr.capart x y c a.1 b.1
end

def Ext (σ σ' : List AO) : Prop := ∀ (i : Nat) (o : AO), σ[i]? = some o → σ'[i]? = some o
theorem Ext.refl (σ : List AO) : Ext σ σ := fun _ _ e => e
theorem Ext.trans {a b c : List AO} (x : Ext a b) (y : Ext b c) : Ext a c := fun i o e => y i o (x i o e)
theorem Ext.push (σ : List AO) (o : AO) : Ext σ (σ ++ [o]) := fun i p e => by
  rw [List.getElem?_append_left (List.getElem?_eq_some_iff.mp e).1]; exact e
theorem Ext.set {σ σ' : List AO} (x : Ext σ σ') {j : Nat} (hj : σ.length ≤ j) (o : AO) : Ext σ (σ'.set j o) := fun i p e => by
  have hi := (List.getElem?_eq_some_iff.mp e).1
  rw [List.getElem?_set_ne (by omega)]; exact x i p e
theorem Ext.items {σ σ' : List AO} (x : Ext σ σ') {v : PV} {us : List PV} (h : Items σ v us) : Items σ' v us := by
  cases v with
  | obj k => exact x k _ h
  | rng a b => exact h
  | _ => exact h.elim
theorem Ext.le {σ σ' : List AO} (x : Ext σ σ') : σ.length ≤ σ'.length := by
  cases h : σ.length with
  | zero => exact Nat.zero_le _
  | succ m =>
    have hm : m < σ.length := by omega
    have := x m _ (List.getElem?_eq_getElem hm)
    exact (List.getElem?_eq_some_iff.mp this).1

def ATs (C : Cx) (n : Nat) (se : SE) (ifs : List Expr) (loc : Loc) (σ : List AO) (Φ : Bool → List AO → Prop) : Prop :=
  match ifs with
  | [] => Φ true σ
  | [c] => AT C n se c loc σ Φ
  | _ => False

section
variable {prog : Program} {w : World} {A : Around} {s : Shared}
theorem compLoop_gen {elt target iter : Expr} {ifs : List Expr} {scope : Scope} {pos : Pos} {it acc : Value} {env : Env} {R : Result → Shared → Prop} (I : Nat → Shared → Prop)
    (turn : ∀ k s, I k s → wpAny (model prog w) A (pyNext it) (fun r s₁ => match r with
      | none => R (.ok .next) s₁
      | some v => wpAny (model prog w) A (letOwnedTupleGo target it v) (fun _ s₀ => wpAny (model prog w) A (assign target env v) (fun _ s₂ =>
          wpAny (model prog w) A (forIn ifs true fun c r => if r = true then do let ok ← isTrue c env (eval c env); pure (ForInStep.yield ok) else pure (ForInStep.yield r)) (fun ok s₃ =>
            if ok = true then wpAny (model prog w) A (eval elt env) (fun x s₄ =>
              wpAny (model prog w) A (call (.builtin "list.append") [acc, x]) (fun _ s₅ => ∃ m, m < k ∧ I m s₅) (notedBy (model prog w) A env fun e s' => R (.error e) s') s₄) (notedBy (model prog w) A env fun e s' => R (.error e) s') s₃
            else ∃ m, m < k ∧ I m s₃) (notedBy (model prog w) A env fun e s' => R (.error e) s') s₂) (notedBy (model prog w) A env fun e s' => R (.error e) s') s₀) (notedBy (model prog w) A env fun e s' => R (.error e) s') s₁) (notedBy (model prog w) A env fun e s' => R (.error e) s') s)
    (k : Nat) (h : I k s) : codeAny (model prog w) A (.compLoop (.ListComp elt [⟨target, iter, ifs, 0⟩] scope pos) 0 it acc env) R s := by
  refine codeAny_loop rfl I (fun k s hI => ?_) k h
  show wpAny _ A ((compTurn (.ListComp elt [⟨target, iter, ifs, 0⟩] scope pos) 0 it acc env).onRaise (fun x => do noteFrame x env; theTreesLotGoes x)) _ _ s
  refine wpAny_noted ?_
  rw [compTurn_list]
  refine wpAny_bind (wpAny_standAt (wpAny_bind (wpAny_mono (turn k s hI) (fun r s₁ h₁ => ?_) fun _ _ h' => h')))
  cases r with
  | none => exact wpAny_pure h₁
  | some v =>
    refine wpAny_bind (wpAny_mono h₁ (fun _ s₀ h₀' => ?_) fun _ _ h' => h')
    refine wpAny_bind (wpAny_mono h₀' (fun _ s₂ h₂ => ?_) fun _ _ h' => h')
    refine wpAny_bind (wpAny_mono h₂ (fun ok s₃ h₃ => ?_) fun _ _ h' => h')
    cases ok with
    | false => exact wpAny_pure ⟨rfl, h₃⟩
    | true => exact wpAny_bind (wpAny_bind (wpAny_mono h₃ (fun x s₄ h₄ => wpAny_bind (wpAny_mono h₄ (fun _ s₅ h₅ => wpAny_pure (wpAny_pure ⟨rfl, h₅⟩)) fun _ _ h' => h')) fun _ _ h' => h'))
end

section
variable {C : Cx} {n : Nat} {se : SE} {env : Env} {loc : Loc} {σ : List AO} {ρ : List Addr}

theorem Rep.weaken {loc' : Loc} {h : Heap} (hr : Rep C se env loc h ρ) (k : ∀ y v, loc' y = some v → loc y = some v) : Rep C se env loc' h ρ := by
  obtain ⟨m, hn, hm⟩ := hr.ns
  refine ⟨hr.ok, ⟨m, hn, fun x v hx hv => hm x v hx (k x v hv)⟩, fun x hx => ?_, hr.lnew, hr.cnew, hr.capart⟩
  obtain ⟨c, ov, e1, e2, e3⟩ := hr.cells x hx
  exact ⟨c, ov, e1, e2, fun v hv => e3 v (k x v hv)⟩

theorem ats_use {ifs : List Expr} {Φ : Bool → List AO → Prop} (h : ATs C n se ifs loc σ Φ) {A : Around} {s : Shared} {Q : Bool → Shared → Prop} {E : Value → Shared → Prop} (ha : AOk n A) (hr : Rep C se env loc s.heap ρ) (hs : SR C s.heap ρ σ)
    (hQ : ∀ b h' tk ρ' σ', Step C.X s.heap ρ h' ρ' → SR C h' ρ' σ' → Φ b σ' → Q b { s with heap := h', toks := tk }) :
    wpAny (model C.prog C.w) A (forIn ifs true fun c r => if r = true then do let ok ← isTrue c env (eval c env); pure (ForInStep.yield ok) else pure (ForInStep.yield r)) Q E s := by
  match ifs, h with
  | [], h => exact wpAny_tests_nil (hQ true s.heap s.toks ρ σ (.refl _ _ _) hs h)
  | [c], h => exact wpAny_tests_one (h A env s ρ Q E ha hr hs hQ)

theorem it_self {A : Around} {s : Shared} {v : PV} {I : Addr} {i : Nat} {Q : Value → Shared → Prop} {E : Value → Shared → Prop} (hh : A.handled = none) (st : ItSt v I i s.heap ρ) (hQ : Q (.ref I) s) : wpAny (model C.prog C.w) A (pyIter (.ref I)) Q E s := by
  cases v with
  | obj k =>
    obtain ⟨ax, ea, hit⟩ := st
    exact wpAny_pyIter_listiter hit hQ
  | rng a b =>
    refine (Walks.range (prog := C.prog) (w := C.w) hh I a 1 (b - a).toNat).self i s Q E ?_ hQ
    have e : IsRangeIter s.heap I (a + i) (((b - a).toNat : Int) - i) 1 := st
    show IsRangeIter _ _ _ _ _
    rw [Int.mul_one]; exact e
  | _ => exact st.elim

/-- the heart of a comprehension: behind the iterator -/
theorem comp_core {elt target iter : Expr} {ifs : List Expr} {scope : Scope} {pos : Pos} {xs : List Str} {A : Around} {s : Shared} {v : PV} {us : List PV} {I : Addr} {p : PV → Bool} {g : PV → PV} {E : Value → Shared → Prop} {RR : Value → Addr → Result → Shared → Prop}
    (ha : AOk n A) (hr : Rep C se env loc s.heap ρ) (hs : SR C s.heap ρ σ) (hIr : I ∉ ρ) (hI0 : C.h₀.get? I = none) (hIX : I ∉ C.X) (hIL : I ≠ env.locals) (hIc : ∀ x c, (x, c) ∈ env.cells → I ≠ c) (st : ItSt v I 0 s.heap ρ) (hi : Items σ v us) (hsz : us.length ≤ sizeLine)
    (hk : scope.kind = .function) (hn : (scope.names.map (·.1)).Nodup) (hfree : ∀ y, (y, NameKind.free) ∈ scope.names → se.sc.names.lookup y = some .cell ∨ se.sc.names.lookup y = some .free) (hxs : ∀ x ∈ xs, scope.names.lookup x ≠ some .free)
    (body : ∀ u ∈ us, ∀ σ', Ext σ σ' → ∃ l', Tg C n (seOf scope se) target xs u (inner loc scope) l' ∧ (∀ y v, inner loc scope y = some v → l' y = some v) ∧
      ATs C n (seOf scope se) ifs l' σ' fun b σ'' => b = p u ∧ Ext σ' σ'' ∧ (p u = true → AW C n (seOf scope se) elt l' σ'' fun w σ3 => w = g u ∧ Ext σ'' σ3))
    (hRR : ∀ D Cc h' tk ρ' σ' m, Step (I :: C.X) s.heap ρ h' ρ' → SR C h' ρ' σ' → VR h' ρ' (.ref D) (.obj σ.length) → Ext σ σ' → σ'[σ.length]? = some (.lst ((us.filter p).map g)) → h'.Ns Cc m → s.heap.get? Cc = none → Cc ∉ ρ' → RR (.ref D) Cc (.ok .next) { s with heap := h', toks := tk }) :
    wpAny (model C.prog C.w) A (newList []) (fun acc s₃ => wpAny (model C.prog C.w) A (newFunctionEnv scope env.globals (closOf env.cells scope.names []) [] env.qual none .none (some env)) (fun cenv s₄ =>
      codeAny (model C.prog C.w) A (.compStart (.ListComp elt [⟨target, iter, ifs, 0⟩] scope pos) 0 (.ref I) acc { cenv with scope := relabel scope env }) (RR acc cenv.locals) s₄) E s₃) E s := by
  refine wpAny_newObj_type ?_ (by show ([] : List Value).toArray.size ≤ sizeLine; exact Nat.zero_le _)
  generalize hD : s.heap.objs.size = D
  generalize hH : s.heap.push { cls := .type "list", dict := none, data := .seq ([] : List Value).toArray } = H
  have kH : Kp s.heap H := hH ▸ kp_push _ _
  obtain ⟨S2, s2, e2⟩ := hs.push (h' := H) (o := .lst []) kH fun _ => ⟨[], 0, by rw [← hH]; exact Heap.get?_push_size _ rfl, .nil⟩
  rw [hD] at S2 s2 e2
  have hr2 : Rep C se env loc H (ρ ++ [D]) := hr.step s2
  refine newEnv_comp ?_
  obtain ⟨hr3, kp3, own⟩ := rep_comp (scope := scope) hr2 S2 hk hn hfree
  generalize hL : H.objs.size = L at hr3 kp3 own
  generalize hh3 : pushCells (H.push { cls := .type "dict", data := .dict #[] }) scope.names = h3 at hr3 kp3
  show codeAny _ _ (.compStart _ 0 (.ref I) (.ref D) (compEnvOf scope env L)) (RR (.ref D) L) _
  generalize hce : compEnvOf scope env L = ce at hr3
  have ceL : ce.locals = L := by rw [← hce]
  have kp : Kp s.heap h3 := fun b o e => kp3 b o (kH b o e)
  have S3 : SR C h3 (ρ ++ [D]) (σ ++ [.lst []]) := S2.kp kp3
  have nL : H.get? L = none := by rw [← hL]; exact size_none H
  have nLs : s.heap.get? L = none := by
    cases q : s.heap.get? L with
    | none => rfl
    | some o => have := kH L o q; rw [nL] at this; cases this
  -- what the block turns is new
  have newX : ∀ a ∈ XT ce xs, H.get? a = none := by
    intro a hx
    rcases List.mem_cons.mp hx with rfl | hx
    · rw [ceL]; exact nL
    · obtain ⟨x, hx1, hx2⟩ := List.mem_filterMap.mp hx
      have hx2' : (cellsFrom (L + 1) scope.names (closOf env.cells scope.names [])).lookup x = some a := by rw [← hce] at hx2; exact hx2
      rw [cellsFrom_app] at hx2'
      rcases List.mem_append.mp (mem_of_lookup hx2') with hm | hm
      · exact Heap.get?_none_of_le (by rw [hL]; exact Nat.le_of_lt (own x a hm))
      · have := (closOf_mem _ _ _ _ hm).resolve_left (by simp)
        exact absurd (nodup_kind hn this.1) (hxs x hx1)
  have newS : ∀ a ∈ XT ce xs, s.heap.get? a = none := fun a hx => by
    cases q : s.heap.get? a with
    | none => rfl
    | some o => have := kH a o q; rw [newX a hx] at this; cases this
  obtain ⟨oI, eI, imI⟩ := st.some
  have eIH : H.get? I = some oI := kH I oI eI
  have eI3 : h3.get? I = some oI := kp I oI eI
  have IX : I ∉ XT ce xs := fun q => by rw [newS I q] at eI; cases eI
  have ID : I ∉ ρ ++ [D] := fun q => by
    rcases List.mem_append.mp q with q | q
    · exact hIr q
    · rw [List.mem_singleton.mp q, ← hD, size_none] at eI; cases eI
  have IL : I ≠ ce.locals := fun q => IX (q ▸ List.mem_cons_self)
  have Icells : ∀ x c, (x, c) ∈ ce.cells → I ≠ c := fun x c hc => by
    have hc' : (x, c) ∈ cellsFrom (L + 1) scope.names (closOf env.cells scope.names []) := by rw [← hce] at hc; exact hc
    rw [cellsFrom_app] at hc'
    rcases List.mem_append.mp hc' with hm | hm
    · intro q
      have z : H.get? c = none := Heap.get?_none_of_le (by rw [hL]; exact Nat.le_of_lt (own x c hm))
      rw [← q, eIH] at z; cases z
    · obtain ⟨hm1, hm2⟩ := (closOf_mem _ _ _ _ hm).resolve_left (by simp)
      obtain ⟨c', ov, f1, f2, _⟩ := hr.cells x (hfree x hm1)
      rw [f1] at hm2
      have : c = c' := hm2
      exact this ▸ hIc x c' (mem_of_lookup f1)
  have hlen : (σ ++ [AO.lst []])[σ.length]? = some (.lst []) := by simp
  have extp : Ext σ (σ ++ [AO.lst []]) := .push _ _
  have st3 : ItSt v I 0 h3 (ρ ++ [D]) := st.kept (fun o e => kp _ _ e) fun j a e => s2.rho e
  have loop : ∀ s₃ : Shared, s₃.heap = h3 → (∃ tk, s₃ = { s with heap := h3, toks := tk }) → codeAny (model C.prog C.w) A (.compLoop (.ListComp elt [⟨target, iter, ifs, 0⟩] scope pos) 0 (.ref I) (.ref D) ce) (RR (.ref D) L) s₃ := by
    rintro s₃ - ⟨tk0, rfl⟩
    refine compLoop_gen
      (fun k s' => ∃ h' tk ρ' σ' i, s' = { s with heap := h', toks := tk } ∧ Step (I :: (XT ce xs ++ C.X)) h3 (ρ ++ [D]) h' ρ' ∧ Rep C (seOf scope se) ce (inner loc scope) h' ρ' ∧ SR C h' ρ' σ' ∧ Ext σ σ' ∧ σ'[σ.length]? = some (.lst (((us.take i).filter p).map g)) ∧ ItSt v I i h' ρ' ∧ I ∉ ρ' ∧ i ≤ us.length ∧ k = us.length + 1 - i) ?_ (us.length + 1)
      ⟨h3, tk0, ρ ++ [D], σ ++ [.lst []], 0, rfl, .refl _ _ _, hr3, S3, extp, by simp, st3, ID, Nat.zero_le _, rfl⟩
    rintro k s' ⟨h', tk, ρ', σ', i, rfl, st', hr', hs', hx', hacc, hit, hIr', hle, rfl⟩
    obtain ⟨o, eo, im⟩ := hit.some
    by_cases hlt : i < us.length
    · have hu : us[i]? = some us[i] := List.getElem?_eq_getElem hlt
      refine it_next hs' (hx'.items hi) hit hu fun V h4 tk4 hit4 hsb rv => ?_
      have sI : Step [I] h' ρ' h4 ρ' := Step.same hsb (fun ob e => by rw [eo] at e; cases e; exact im)
      obtain ⟨S4, R4⟩ := turn_I (X := []) hs' hr' ⟨hIr', hI0, hIX⟩ IL Icells sI fun b o hb e => (hsb.2 b hb).trans e
      refine it_go hit4 ?_
      obtain ⟨l', tg, lle, bd⟩ := body us[i] (List.getElem_mem hlt) σ' hx'
      refine tg A ce _ ρ' σ' V _ _ ha R4 S4 (rv.step sI) fun h5 tk5 s5 R5 S5 => ?_
      obtain ⟨o4, e4, im4⟩ := hit4.some
      have e5 : h5.get? I = some o4 := s5.keep I o4 e4 hIr' IX
      refine ats_use bd ha R5 S5 fun b h6 tk6 ρ6 σ6 s6 S6 φ6 => ?_
      obtain ⟨rfl, x6, φ6⟩ := φ6
      have e6 : h6.get? I = some o4 := s6.keep I o4 e5 hIr' hIX
      have I6 : I ∉ ρ6 := s6.off e5 hIX hIr'
      have tot6 : Step (I :: (XT ce xs ++ C.X)) h3 (ρ ++ [D]) h6 ρ6 := ((st'.trans (sI.mono (by intro a ha; rw [List.mem_singleton.mp ha]; exact List.mem_cons_self))).trans (s5.mono fun a ha => List.mem_cons_of_mem _ (List.mem_append_left _ ha))).trans (s6.mono fun a ha => List.mem_cons_of_mem _ (List.mem_append_right _ ha))
      have R6 : Rep C (seOf scope se) ce (inner loc scope) h6 ρ6 := (R5.step s6).weaken lle
      have hit6 : ItSt v I (i + 1) h6 ρ6 := hit4.kept (fun o e => by rw [e4] at e; cases e; exact e6) fun j a e => s6.rho e
      have htake : us.take (i + 1) = us.take i ++ [us[i]] := by rw [List.take_add_one, hu]; rfl
      by_cases hp : p us[i] = true
      · rw [if_pos hp]
        refine φ6 hp A ce _ ρ6 _ _ ha (R5.step s6) S6 fun W w h7 tk7 ρ7 σ7 s7 S7 x7 φ7 => ?_
        obtain ⟨rfl, y7⟩ := φ7
        have hacc7 : σ7[σ.length]? = some (.lst (((us.take i).filter p).map g)) := y7 _ _ (x6 _ _ hacc)
        have hD7 : VR h7 ρ7 (.ref D) (.obj σ.length) := .obj (s7.rho (tot6.rho e2))
        have hlen7 : (((us.take i).filter p).map g).length ≤ sizeLine := by
          rw [List.length_map]
          exact Nat.le_trans (List.length_filter_le _ _) (Nat.le_trans (by rw [List.length_take]; exact Nat.min_le_right _ _) hsz)
        refine ac_append (n := n) (Φ := fun _ σ8 => σ8 = σ7.set σ.length (.lst (((us.take i).filter p).map g ++ [g us[i]]))) hacc7 hlen7 rfl A _ ρ7 _ [_, _] _ _ ha S7 (.con _) (.cons hD7 (.one x7)) fun V8 v8 h8 tk8 ρ8 σ8 s8 S8 x8 φ8 => ?_
        subst φ8
        have e7 : h7.get? I = some o4 := s7.keep I o4 e6 I6 hIX
        have I7 : I ∉ ρ7 := s7.off e6 hIX I6
        have e8 : h8.get? I = some o4 := s8.keep I o4 e7 I7 hIX
        refine ⟨us.length + 1 - (i + 1), by omega, h8, tk8, ρ8, _, i + 1, rfl, tot6.trans ((s7.trans s8).mono fun a ha => List.mem_cons_of_mem _ (List.mem_append_right _ ha)), R6.step (s7.trans s8), S8, ((hx'.trans x6).trans y7).set (Nat.le_refl _) _, ?_, hit6.kept (fun o e => by rw [e6] at e; cases e; exact e8) (fun j a e => (s7.trans s8).rho e), s8.off e7 hIX I7, hlt, rfl⟩
        rw [List.getElem?_set_self (Nat.lt_of_lt_of_le (by have := (List.getElem?_eq_some_iff.mp hacc).1; exact this) (x6.trans y7).le), htake, List.filter_append, List.map_append]
        simp [hp]
      · rw [if_neg hp]
        refine ⟨us.length + 1 - (i + 1), by omega, h6, tk6, ρ6, σ6, i + 1, rfl, tot6, R6, S6, hx'.trans x6, ?_, hit6, I6, hlt, rfl⟩
        rw [htake, List.filter_append, List.map_append]
        have : [us[i]].filter p = [] := by simp [hp]
        rw [this]; simp
        exact x6 _ _ hacc
    · have hin : i = us.length := by omega
      subst hin
      refine it_end ha.hd hs' (hx'.items hi) hit (Nat.le_refl _) fun h4 hx4 => ?_
      have sI : Step [I] h' ρ' h4 ρ' := ⟨⟨[], by simp, by simp⟩, fun b ob e _ hb => hx4 b ob (by simpa using hb) e, fun b ob e im' => hx4 b ob (fun q => im (by rw [q, eo] at e; cases e; exact im')) e, fun b ob e hb => ⟨ob, hx4 b ob (by simpa using hb) e⟩⟩
      obtain ⟨S4, R4⟩ := turn_I (X := []) hs' hr' ⟨hIr', hI0, hIX⟩ IL Icells sI fun b o hb e => hx4 b o hb e
      have tot := st'.trans (sI.mono (by intro a ha; rw [List.mem_singleton.mp ha]; exact List.mem_cons_self))
      have whole : Step (I :: (XT ce xs ++ C.X)) s.heap ρ h4 ρ' := ((s2.mono (fun a ha => List.mem_cons_of_mem _ (List.mem_append_right _ ha))).trans (.ofKp kp3)).trans tot
      rw [List.take_length] at hacc
      obtain ⟨m4, hn4, _⟩ := R4.ns
      have fin : Step (I :: C.X) s.heap ρ h4 ρ' := whole.weak fun a ha => by
        rcases List.mem_cons.mp ha with rfl | ha
        · exact .inl List.mem_cons_self
        · rcases List.mem_append.mp ha with ha | ha
          · exact .inr (newS a ha)
          · exact .inl (List.mem_cons_of_mem _ ha)
      exact hRR D L h4 _ ρ' σ' m4 fin S4 (.obj (tot.rho e2)) hx' hacc (ceL ▸ hn4) nLs (ceL ▸ R4.lnew.1)
  exact codeAny_compStart_list (loop _ rfl ⟨_, rfl⟩) (it_self (C := C) (v := v) (ρ := ρ ++ [D]) ha.hd st3 (loop _ rfl ⟨_, rfl⟩))

theorem closureFor_rep {scope : Scope} {h : Heap} (hr : Rep C se env loc h ρ) (hfree : ∀ y, (y, NameKind.free) ∈ scope.names → se.sc.names.lookup y = some .cell ∨ se.sc.names.lookup y = some .free) :
    closureFor scope env = pure (closOf env.cells scope.names []) :=
  closureFor_eq fun y hy => by obtain ⟨c, ov, e, _⟩ := hr.cells y (hfree y hy); exact ⟨c, e⟩

/-- what is asked of the scope of a comprehension -/
structure CompOk (se : SE) (scope : Scope) (xs : List Str) : Prop where
  fn : scope.kind = .function
  nd : (scope.names.map (·.1)).Nodup
  free : ∀ y, (y, NameKind.free) ∈ scope.names → se.sc.names.lookup y = some .cell ∨ se.sc.names.lookup y = some .free
  xs : ∀ x ∈ xs, scope.names.lookup x ≠ some .free

/-- the turn of a comprehension, said of abstract values -/
def CompBody (C : Cx) (n : Nat) (se : SE) (scope : Scope) (target : Expr) (xs : List Str) (ifs : List Expr) (elt : Expr) (loc : Loc) (σ : List AO) (us : List PV) (p : PV → Bool) (g : PV → PV) : Prop :=
  ∀ u ∈ us, ∀ σ', Ext σ σ' → ∃ l', Tg C n (seOf scope se) target xs u (inner loc scope) l' ∧ (∀ y v, inner loc scope y = some v → l' y = some v) ∧
      ATs C n (seOf scope se) ifs l' σ' fun b σ'' => b = p u ∧ Ext σ' σ'' ∧ (p u = true → AW C n (seOf scope se) elt l' σ'' fun w σ3 => w = g u ∧ Ext σ'' σ3)

theorem iter_new {s : Shared} {h1 : Heap} {ρ1 : List Addr} {σ1 : List AO} (S1 : SR C h1 ρ1 σ1) (hr1 : Rep C se env loc h1 ρ1) :
    h1.objs.size ∉ ρ1 ∧ C.h₀.get? h1.objs.size = none ∧ h1.objs.size ∉ C.X ∧ h1.objs.size ≠ env.locals ∧ ∀ x c, (x, c) ∈ env.cells → h1.objs.size ≠ c := by
  have nI : h1.get? h1.objs.size = none := size_none h1
  obtain ⟨⟨oL, eL⟩, eC⟩ := hr1.cells_some
  refine ⟨fun q => ?_, ?_, fresh_X S1, fun q => ?_, fun x c hx q => ?_⟩
  · obtain ⟨o, e⟩ := S1.in q; rw [nI] at e; cases e
  · cases q : C.h₀.get? h1.objs.size with
    | none => rfl
    | some o => have := S1.base _ o q; rw [nI] at this; cases this
  · rw [q, eL] at nI; cases nI
  · obtain ⟨o, e⟩ := eC x c hx; rw [q, e] at nI; cases nI

theorem aw_comp {elt target iter : Expr} {ifs : List Expr} {scope : Scope} {pos : Pos} {xs : List Str} {Φ : PV → List AO → Prop} (p : PV → Bool) (g : PV → PV) (O : CompOk se scope xs)
    (hx : AW C n se iter loc σ fun v σ₁ => ∃ us, Items σ₁ v us ∧ us.length ≤ sizeLine ∧ CompBody C n se scope target xs ifs elt loc σ₁ us p g ∧
      ∀ j σ', Ext σ₁ σ' → σ₁.length ≤ j → σ'[j]? = some (.lst ((us.filter p).map g)) → Φ (.obj j) σ')
    (hs' : ∀ env x, foldedSetIterable iter env x = pure x) : AW C n se (.ListComp elt [⟨target, iter, ifs, 0⟩] scope pos) loc σ Φ := by
  intro A env s ρ Q E ha hr hs hQ
  rw [eval_ListComp]
  refine wpAny_comprehension_free (use := none) rfl (hs' env) (closureFor_rep hr O.free) O.fn (fun x hx hl => by rw [← hl]; exact nodup_kind O.nd hx) ?_
  refine hx A env s ρ _ E ha hr hs fun V v h1 tk1 ρ1 σ1 s1 S1 x1 φ1 => ?_
  obtain ⟨us, hi, hsz, bd, fin⟩ := φ1
  have hr1 := hr.step s1
  refine it_start S1 x1 hi fun hI kI st0 => ?_
  obtain ⟨n1, n2, n3, n4, n5⟩ := iter_new (s := s) S1 hr1
  have nI : h1.get? h1.objs.size = none := size_none h1
  refine comp_core (RR := fun acc Cc => compPost (model C.prog C.w) A E none Q acc Cc) ha (hr1.step (.ofKp kI)) (S1.kp kI) n1 n2 n3 n4 n5 st0 hi hsz O.fn O.nd O.free O.xs bd ?_
  intro D Cc h' tk ρ' σ' m st S' vD ext acc hn hC hCr
  refine ⟨m, hn, fun h'' hsb => ?_⟩
  have nC : s.heap.get? Cc = none := by
    cases q : s.heap.get? Cc with
    | none => rfl
    | some o =>
      obtain ⟨o', e'⟩ := s1.dom Cc o q (fun hm => by
        obtain ⟨t, ht, e⟩ := List.mem_map.mp hm
        obtain ⟨⟨ps, e2, _⟩, _⟩ := S1.tab t ht
        have := kI _ _ e2
        rw [e] at this
        have hC' : hI.get? Cc = none := hC
        rw [hC'] at this; cases this)
      have hC' : hI.get? Cc = none := hC
      rw [kI _ _ e'] at hC'; cases hC'
  have c0 : C.h₀.get? Cc = none := by
    cases q : C.h₀.get? Cc with
    | none => rfl
    | some o => have := hs.base _ o q; rw [nC] at this; cases this
  have cX : Cc ∉ C.X := fun hm => by
    obtain ⟨t, ht, e⟩ := List.mem_map.mp hm
    obtain ⟨⟨ps, e2, _⟩, _⟩ := hs.tab t ht
    rw [e, nC] at e2; cases e2
  obtain ⟨oC, es, ep, eC, dC, _⟩ := id hn
  have sC : Step [Cc] h' ρ' h'' ρ' := Step.same hsb fun ob e => by rw [eC] at e; cases e; exact imm_dict dC
  have S'' : SR C h'' ρ' σ' := S'.but sC (by intro a ha; rw [List.mem_singleton.mp ha]; exact ⟨hCr, c0, cX⟩) fun a ha ob e => (hsb.2 a (fun q => hCr (q ▸ ha))).trans e
  have tot : Step C.X s.heap ρ h'' ρ' := by
    have a1 : Step (Cc :: h1.objs.size :: C.X) s.heap ρ h'' ρ' :=
      (((s1.mono fun a ha => List.mem_cons_of_mem _ (List.mem_cons_of_mem _ ha)).trans (.ofKp kI)).trans (st.mono fun a ha => List.mem_cons_of_mem _ ha)).trans (sC.mono fun a ha => by rw [List.mem_singleton.mp ha]; exact List.mem_cons_self)
    refine a1.weak fun a ha => ?_
    rcases List.mem_cons.mp ha with rfl | ha
    · exact .inr nC
    · rcases List.mem_cons.mp ha with rfl | ha
      · refine .inr ?_
        cases q : s.heap.get? h1.objs.size with
        | none => rfl
        | some o =>
          obtain ⟨o', e'⟩ := s1.dom _ o q n3
          rw [nI] at e'; cases e'
      · exact .inl ha
  exact hQ (.ref D) (.obj σ1.length) h'' tk ρ' σ' tot S'' (vD.step sC) (fin _ σ' ext (Nat.le_refl _) acc)

/-- y = [.. for ..]: the stores exchanged -/
theorem as_comp {elt target iter : Expr} {ifs : List Expr} {scope : Scope} {pos py spos : Pos} {y : Str} {xs : List Str} {Φ : AFl → Loc → List AO → Prop} (p : PV → Bool) (g : PV → PV) (O : CompOk se scope xs)
    (hx : AW C n se iter loc σ fun v σ₁ => ∃ us, Items σ₁ v us ∧ us.length ≤ sizeLine ∧ CompBody C n se scope target xs ifs elt loc σ₁ us p g ∧
      ∀ j σ', Ext σ₁ σ' → σ₁.length ≤ j → σ'[j]? = some (.lst ((us.filter p).map g)) → Φ .next (up loc y (.obj j)) σ')
    (hs' : ∀ env x, foldedSetIterable iter env x = pure x) (hy : se.sc.names.lookup y = some .local)
    (hw : ∀ L cl f fr, swapsWith (.ListComp elt [⟨target, iter, ifs, 0⟩] scope pos) (some (Expr.Name y py)) spos.line (mkEnv se L cl f fr) = pure true) : AS C n se (.Assign [.Name y py] (.ListComp elt [⟨target, iter, ifs, 0⟩] scope pos) spos) loc σ Φ := by
  intro A env s ρ Q E ha hr hs hQ
  rw [exec_Assign_Name_used _ _ _ _ (by rw [hr.ok.eq]; exact hw _ _ _ _)]
  refine wpAny_bind (wpAny_standAt (wpAny_bind ?_))
  show wpAny _ A (do let _ ← comprehension (.ListComp elt [⟨target, iter, ifs, 0⟩] scope pos) scope env _ (newList []) false (eval iter env) (some (assign (.Name y py) env))) _ _ s
  refine wpAny_bind (wpAny_mono (wpAny_comprehension_free (use := some (assign (.Name y py) env)) (Q := fun _ s' => Q .next s') rfl (hs' env) (closureFor_rep hr O.free) O.fn (fun x hx hl => by rw [← hl]; exact nodup_kind O.nd hx) ?_) (fun _ s' hq => wpAny_pure (wpAny_pure hq)) fun _ _ e => e)
  refine hx A env s ρ _ E ha hr hs fun V v h1 tk1 ρ1 σ1 s1 S1 x1 φ1 => ?_
  obtain ⟨us, hi, hsz, bd, fin⟩ := φ1
  have hr1 := hr.step s1
  refine it_start S1 x1 hi fun hI kI st0 => ?_
  obtain ⟨n1, n2, n3, n4, n5⟩ := iter_new (s := s) S1 hr1
  have nI : h1.get? h1.objs.size = none := size_none h1
  have hrI : Rep C se env loc hI ρ1 := hr1.step (.ofKp kI)
  refine comp_core (RR := fun acc Cc => compPost (model C.prog C.w) A E (some (assign (.Name y py) env)) (fun _ s' => Q .next s') acc Cc) ha hrI (S1.kp kI) n1 n2 n3 n4 n5 st0 hi hsz O.fn O.nd O.free O.xs bd ?_
  intro D Cc h' tk ρ' σ' m st S' vD ext acc hn hC hCr
  have hC' : hI.get? Cc = none := hC
  have nC : s.heap.get? Cc = none := by
    cases q : s.heap.get? Cc with
    | none => rfl
    | some o =>
      obtain ⟨o', e'⟩ := s1.dom Cc o q (fun hm => by
        obtain ⟨t, ht, e⟩ := List.mem_map.mp hm
        obtain ⟨⟨ps, e2, _⟩, _⟩ := S1.tab t ht
        have := kI _ _ e2
        rw [e, hC'] at this; cases this)
      rw [kI _ _ e'] at hC'; cases hC'
  have c0 : C.h₀.get? Cc = none := by
    cases q : C.h₀.get? Cc with
    | none => rfl
    | some o => have := hs.base _ o q; rw [nC] at this; cases this
  have cX : Cc ∉ C.X := fun hm => by
    obtain ⟨t, ht, e⟩ := List.mem_map.mp hm
    obtain ⟨⟨ps, e2, _⟩, _⟩ := hs.tab t ht
    rw [e, nC] at e2; cases e2
  obtain ⟨⟨oL, eL⟩, eCs⟩ := hr.cells_some
  have cL : Cc ≠ env.locals := fun q => by rw [← q, nC] at eL; cases eL
  have cc : ∀ x c, (x, c) ∈ env.cells → Cc ≠ c := fun x c hx q => by obtain ⟨o, e⟩ := eCs x c hx; rw [← q, nC] at e; cases e
  have nIs : s.heap.get? h1.objs.size = none := by
    cases q : s.heap.get? h1.objs.size with
    | none => rfl
    | some o =>
      obtain ⟨o', e'⟩ := s1.dom _ o q n3
      rw [nI] at e'; cases e'
  have tot1 : Step C.X s.heap ρ h' ρ' :=
    (((s1.mono fun a ha => List.mem_cons_of_mem h1.objs.size ha).trans (.ofKp kI)).trans st).weak fun a ha => by
      rcases List.mem_cons.mp ha with rfl | ha
      · exact .inr nIs
      · exact .inl ha
  show wpAny _ A (assign (.Name y py) env (.ref D)) _ _ _
  refine wpAny_assign_Name (store_name (s := { s with heap := h', toks := tk }) (hr.step tot1) S' vD (.inl hy) fun h2 tk2 s2 R2 S2 => ?_)
  obtain ⟨oC, es, ep, eC, dC, _⟩ := id hn
  have XTL : ∀ a ∈ XT env [y], a ≠ Cc := fun a ha => by
    rcases List.mem_cons.mp ha with rfl | ha
    · exact Ne.symm cL
    · obtain ⟨x, _, e⟩ := List.mem_filterMap.mp ha
      exact Ne.symm (cc x a (mem_of_lookup e))
  have eC2 : h2.get? Cc = some oC := s2.keep Cc oC eC hCr fun q => XTL Cc q rfl
  refine ⟨m, hn.at' (fun o e => by rw [eC] at e; cases e; exact eC2), fun h3 hsb => ?_⟩
  have sC : Step [Cc] h2 ρ' h3 ρ' := Step.same hsb fun ob e => by rw [eC2] at e; cases e; exact imm_dict dC
  obtain ⟨S3, R3⟩ := turn_I (X := []) S2 R2 ⟨hCr, c0, cX⟩ cL cc sC fun b o hb e => (hsb.2 b hb).trans e
  have tot : Step (XS C env) s.heap ρ h3 ρ' := by
    have a1 : Step (Cc :: XS C env) s.heap ρ h3 ρ' := ((tot1.mono fun a ha => List.mem_cons_of_mem _ (X_sub _ ha)).trans (s2.mono fun a ha => List.mem_cons_of_mem _ (XT_sub _ ha))).trans (sC.mono fun a ha => by rw [List.mem_singleton.mp ha]; exact List.mem_cons_self)
    refine a1.weak fun a ha => ?_
    rcases List.mem_cons.mp ha with rfl | ha
    · exact .inr nC
    · exact .inl ha
  exact hQ .next .next h3 _ ρ' _ σ' tot R3 S3 trivial (fin _ σ' ext (Nat.le_refl _) acc)
end

abbrev pr (p : Int × Int) : PV := .tup [.int p.1, .int p.2]
abbrev prs (ps : List (Int × Int)) : List PV := ps.map pr
abbrev ins (ns : List Int) : List PV := ns.map .int

section
variable {C : Cx} {n : Nat} {se : SE} {env : Env} {loc : Loc} {σ : List AO} {ρ : List Addr} {Φ : PV → List AO → Prop} {ΦB : Bool → List AO → Prop}

/-! is None -/
theorem opC_isnot_none0 (h : Φ (.bool false) σ) : Op2 C n (compareOp .IsNot) .none .none σ Φ := by
  intro A s ρ V₁ V₂ Q E ha hs h1 h2 hQ
  cases h2; cases h1
  exact isnot_none_none (hQ _ _ s.heap s.toks ρ σ (.refl _ _ _) hs (.bool _) h)
theorem opC_isnot_noneI {i : Int} (h : Φ (.bool true) σ) : Op2 C n (compareOp .IsNot) (.int i) .none σ Φ := by
  intro A s ρ V₁ V₂ Q E ha hs h1 h2 hQ
  cases h2; cases h1
  exact isnot_none_ne (by intro x; cases x) (hQ _ _ s.heap s.toks ρ σ (.refl _ _ _) hs (.bool _) h)

theorem opC_neB {a b : Bool} (h : Φ (.bool (a != b)) σ) : Op2 C n (compareOp .NotEq) (.bool a) (.bool b) σ Φ := by
  intro A s ρ V₁ V₂ Q E ha hs h1 h2 hQ
  cases h1; cases h2
  exact ne_bool (hQ _ _ s.heap s.toks ρ σ (.refl _ _ _) hs (.bool _) h)
theorem opC_eqB {a b : Bool} (h : Φ (.bool (a == b)) σ) : Op2 C n (compareOp .Eq) (.bool a) (.bool b) σ Φ := by
  intro A s ρ V₁ V₂ Q E ha hs h1 h2 hQ
  cases h1; cases h2
  exact eq_bool (hQ _ _ s.heap s.toks ρ σ (.refl _ _ _) hs (.bool _) h)

/-! membership -/
theorem VRs.ints {h : Heap} : ∀ {vs : List Value} {ns : List Int}, VRs h ρ vs (ins ns) → IntsAre vs ns
  | _, [], .nil => .nil
  | _, k :: ns, .cons a b => by
    obtain ⟨t, rfl⟩ := a.int_inv
    exact .cons k t (VRs.ints b)
theorem opC_in {k : Int} {j : Nat} {ns : List Int} (e : σ[j]? = some (.lst (ins ns))) (h : Φ (.bool (ns.any (· == k))) σ) : Op2 C n (compareOp .In) (.int k) (.obj j) σ Φ := by
  intro A s ρ V₁ V₂ Q E ha hs h1 h2 hQ
  obtain ⟨t, rfl⟩ := h1.int_inv
  obtain ⟨a, vs, m, rfl, ea, e1, r⟩ := hs.list h2 e
  exact in_list_ints (isList_of e1) r.ints (hQ _ _ s.heap s.toks ρ σ (.refl _ _ _) hs (.bool _) h)
theorem opC_notin {k : Int} {j : Nat} {ns : List Int} (e : σ[j]? = some (.lst (ins ns))) (h : Φ (.bool (!ns.any (· == k))) σ) : Op2 C n (compareOp .NotIn) (.int k) (.obj j) σ Φ := by
  intro A s ρ V₁ V₂ Q E ha hs h1 h2 hQ
  obtain ⟨t, rfl⟩ := h1.int_inv
  obtain ⟨a, vs, m, rfl, ea, e1, r⟩ := hs.list h2 e
  exact notin_list_ints (isList_of e1) r.ints (hQ _ _ s.heap s.toks ρ σ (.refl _ _ _) hs (.bool _) h)

/-! + and * of lists -/
theorem opB_addL {i j : Nat} {ps qs : List PV} (e1 : σ[i]? = some (.lst ps)) (e2 : σ[j]? = some (.lst qs)) (hl : ps.length + qs.length ≤ sizeLine) (h : Φ (.obj σ.length) (σ ++ [.lst (ps ++ qs)])) : Op2 C n (binaryOp .Add) (.obj i) (.obj j) σ Φ := by
  intro A s ρ V₁ V₂ Q E ha hs h1 h2 hQ
  obtain ⟨a, vs, m, rfl, ea, g1, r1⟩ := hs.list h1 e1
  obtain ⟨b, ws, k, rfl, eb, g2, r2⟩ := hs.list h2 e2
  have e : vs.toArray ++ ws.toArray = (vs ++ ws).toArray := by simp
  refine concat_meets ⟨_, g1, rfl⟩ ⟨_, g2, rfl⟩ noFill_list_add seq_list_add PySem.F.slot_list_add PySem.F.entry_list_add (PySem.F.args_list_add_2 _ _) (list_addW a b vs.toArray ws.toArray m k none none #[] #[] (by simpa [r1.length, r2.length] using hl)) ⟨g1, g2, ?_⟩
  rw [e]
  obtain ⟨S2, s2, e3⟩ := hs.push (h' := s.heap.push { cls := .type "list", data := .seq (vs ++ ws).toArray }) (o := .lst (ps ++ qs)) (kp_push _ _) fun s => ⟨vs ++ ws, 0, Heap.get?_push_size _ rfl, (r1.append r2).step s⟩
  exact hQ _ _ _ _ _ _ s2 S2 (.obj e3) h

theorem VRs.rep {h : Heap} {vs : List Value} {ps : List PV} (r : VRs h ρ vs ps) : ∀ k : Nat, VRs h ρ (List.replicate k vs).flatten (List.replicate k ps).flatten
  | 0 => .nil
  | k + 1 => by
    rw [List.replicate_succ, List.replicate_succ, List.flatten_cons, List.flatten_cons]
    exact r.append (VRs.rep r k)
theorem foldl_rep (vs : List Value) : ∀ (k : Nat) (acc : List Value), List.foldl (fun x1 x2 => x1 ++ x2) acc.toArray (List.replicate k vs.toArray) = (acc ++ (List.replicate k vs).flatten).toArray
  | 0, acc => by simp
  | k + 1, acc => by
    rw [List.replicate_succ, List.foldl_cons]
    have : acc.toArray ++ vs.toArray = (acc ++ vs).toArray := by simp
    rw [this, foldl_rep vs k (acc ++ vs), List.replicate_succ, List.flatten_cons, List.append_assoc]

theorem opB_mulL {i : Nat} {x : Int} {ps : List PV} (e1 : σ[i]? = some (.lst ps)) (hne : ps ≠ []) (hlo : -(2 ^ 63 : Int) ≤ x) (hhi : x < 2 ^ 63) (hl : ps.length * x.toNat ≤ 2 ^ 24) (h : Φ (.obj σ.length) (σ ++ [.lst (List.replicate x.toNat ps).flatten])) : Op2 C n (binaryOp .Mult) (.obj i) (.int x) σ Φ := by
  intro A s ρ V₁ V₂ Q E ha hs h1 h2 hQ
  obtain ⟨a, vs, m, rfl, ea, g1, r1⟩ := hs.list h1 e1
  obtain ⟨t, rfl⟩ := h2.int_inv
  have hsz : vs.toArray.size = ps.length := by simp [r1.length]
  have hne' : vs.toArray.isEmpty = false := by
    cases vs with
    | nil => have := r1.length; simp at this; exact absurd this.symm (by simpa using hne)
    | cons _ _ => rfl
  refine wpAny_binaryOp_repeat_ref (T := "list") (U := "int") (by decide) ⟨_, g1, rfl⟩ (fun s' => typeIs_int s' x t) noFill_list_mul F.fills_int_mul F.slot_int_rmul repeat_list F.slot_int_index.lookup
    (call_meets F.slot_int_rmul (typeIs_int s x t) F.entry_int_rmul (F.args_int_rmul_2 _ _) (int___rmul___int_list x t a vs.toArray m)
      ⟨g1, rfl, ⟨_, g1, rfl⟩, call_meets F.slot_list_mul ⟨_, g1, rfl⟩ F.entry_list_mul (F.args_list_mul_2 _ _)
        (AutoListH.list___mul___list_int_3 a vs.toArray m x t (by simp [Builtin.List.listFitsIndex]; omega) (by rw [hsz]; omega) (by rw [hsz]; simp [Builtin.List.listTooLong, sizeLine]; omega))
        ⟨g1, ?_⟩⟩)
  have e0 : List.foldl (fun x1 x2 => x1 ++ x2) #[] (List.replicate (if vs.toArray.isEmpty = true then 0 else x.toNat) vs.toArray) = (List.replicate x.toNat vs).flatten.toArray := by
    rw [hne', if_neg (by simp)]
    exact foldl_rep vs x.toNat []
  rw [e0]
  obtain ⟨S2, s2, e3⟩ := hs.push (h' := s.heap.push { cls := .type "list", data := .seq (List.replicate x.toNat vs).flatten.toArray }) (o := .lst (List.replicate x.toNat ps).flatten) (kp_push _ _) fun s => ⟨_, 0, Heap.get?_push_size _ rfl, (r1.rep x.toNat).step s⟩
  exact hQ _ _ _ _ _ _ s2 S2 (.obj e3) h

/-! equality of data -/
mutual
inductive DV : PV → Dat → Prop
  | none : DV .none .none
  | int (i : Int) : DV (.int i) (.int i)
  | tup {ps ds} : DVs ps ds → DV (.tup ps) (.tuple ds)
inductive DVs : List PV → List Dat → Prop
  | nil : DVs [] []
  | cons {p d ps ds} : DV p d → DVs ps ds → DVs (p :: ps) (d :: ds)
end
mutual
theorem reads_dv {h : Heap} : ∀ {V : Value} {p : PV} {d : Dat}, VR h ρ V p → DV p d → ∃ as, Reads h V (kqdP d) as
  | _, _, _, .none, .none => ⟨_, Reads.none⟩
  | _, _, _, .int i t, .int _ => ⟨_, Reads.int i t⟩
  | _, _, _, .tup e r, .tup k => by
    obtain ⟨as, q⟩ := reads_dvs r k
    rw [kqdP]
    exact ⟨as, Reads.tuple e rfl rfl (by simpa using q)⟩
theorem reads_dvs {h : Heap} : ∀ {Vs : List Value} {ps : List PV} {ds : List Dat}, VRs h ρ Vs ps → DVs ps ds → ∃ as, ReadsAll h Vs (kqdPs ds) as
  | _, _, _, .nil, .nil => ⟨_, ReadsAll.nil⟩
  | _, _, _, .cons a b, .cons c d => by
    obtain ⟨as, q⟩ := reads_dv a c
    obtain ⟨bs, p⟩ := reads_dvs b d
    rw [kqdPs]
    exact ⟨_, ReadsAll.cons q p⟩
end

/-- flat data, or a list of it -/
def LDV (σ : List AO) (p : PV) (d : Dat) : Prop := DV p d ∨ ∃ i ps ds, p = .obj i ∧ σ[i]? = some (.lst ps) ∧ DVs ps ds ∧ d = .list ds
theorem SR.reads {h : Heap} (S : SR C h ρ σ) {V : Value} {p : PV} {d : Dat} (x : VR h ρ V p) (k : LDV σ p d) : ∃ as, Reads h V (kqdP d) as := by
  rcases k with k | ⟨i, ps, ds, rfl, e, k, rfl⟩
  · exact reads_dv x k
  · obtain ⟨a, vs, m, rfl, ea, e1, r⟩ := S.list x e
    obtain ⟨as, q⟩ := reads_dvs r k
    rw [kqdP]
    exact ⟨_, Reads.list e1 rfl rfl (by simpa using q)⟩

theorem kqd_shaped {d : Dat} (h : kqdOk 8 d = true) : SeqAt.shaped (kqdP d) = true := by
  obtain ⟨a, b⟩ := kqd_lay 8 d h
  unfold SeqAt.shaped
  rw [a, Bool.true_and]
  exact decide_eq_true (Nat.le_trans b (by decide))
theorem kqd_beq {d e : Dat} {c : Bool} (h1 : kqdOk 8 d = true) (h2 : kqdOk 8 e = true) (hc : c = true ↔ d = e) : PyData.eqv (kqdP d) (kqdP e) = c := by
  rw [Bool.eq_iff_iff, kqd_eqv 8 d e 8 h1 h2, hc]

theorem opC_eqD {p q : PV} {d e : Dat} {c : Bool} (x : LDV σ p d) (y : LDV σ q e) (h1' : kqdOk 8 d = true) (h2' : kqdOk 8 e = true) (hc : c = true ↔ d = e) (h : Φ (.bool c) σ) : Op2 C n (compareOp .Eq) p q σ Φ := by
  intro A s ρ V₁ V₂ Q E ha hs h1 h2 hQ
  obtain ⟨as, r1⟩ := hs.reads h1 x
  obtain ⟨bs, r2⟩ := hs.reads h2 y
  refine eq_dataH r1 r2 (kqd_shaped h1') (kqd_shaped h2') (by have := ha.un; omega) ?_
  rw [kqd_beq h1' h2' hc]
  exact hQ _ _ s.heap s.toks ρ σ (.refl _ _ _) hs (.bool _) h
theorem opC_neD {p q : PV} {d e : Dat} {c : Bool} (x : LDV σ p d) (y : LDV σ q e) (h1' : kqdOk 8 d = true) (h2' : kqdOk 8 e = true) (hc : c = true ↔ d = e) (h : Φ (.bool (!c)) σ) : Op2 C n (compareOp .NotEq) p q σ Φ := by
  intro A s ρ V₁ V₂ Q E ha hs h1 h2 hQ
  obtain ⟨as, r1⟩ := hs.reads h1 x
  obtain ⟨bs, r2⟩ := hs.reads h2 y
  refine ne_dataH r1 r2 (kqd_shaped h1') (kqd_shaped h2') (by have := ha.un; omega) ?_
  rw [kqd_beq h1' h2' hc]
  exact hQ _ _ s.heap s.toks ρ σ (.refl _ _ _) hs (.bool _) h

abbrev prD (p : Int × Int) : Dat := .tuple [.int p.1, .int p.2]
theorem dvs_prs : ∀ ps : List (Int × Int), DVs (prs ps) (ps.map prD)
  | [] => .nil
  | p :: ps => .cons (.tup (.cons (.int _) (.cons (.int _) .nil))) (dvs_prs ps)
theorem dvs_ins : ∀ ps : List Int, DVs (ins ps) (ps.map .int)
  | [] => .nil
  | p :: ps => .cons (.int _) (dvs_ins ps)
theorem ldv_prs {i : Nat} {ps : List (Int × Int)} (e : σ[i]? = some (.lst (prs ps))) : LDV σ (.obj i) (.list (ps.map prD)) := .inr ⟨i, _, _, rfl, e, dvs_prs ps, rfl⟩
theorem ldv_ins {i : Nat} {ps : List Int} (e : σ[i]? = some (.lst (ins ps))) : LDV σ (.obj i) (.list (ps.map .int)) := .inr ⟨i, _, _, rfl, e, dvs_ins ps, rfl⟩
theorem prD_inj {p q : Int × Int} (h : prD p = prD q) : p = q := by
  obtain ⟨a, b⟩ := p
  obtain ⟨c, d⟩ := q
  simp only [prD, Dat.tuple.injEq, List.cons.injEq, Dat.int.injEq, and_true] at h
  rw [h.1, h.2]
theorem mapInj {α β : Type} {f : α → β} (hf : ∀ {a b}, f a = f b → a = b) : ∀ {l m : List α}, l.map f = m.map f → l = m
  | [], [], _ => rfl
  | [], _ :: _, h => by simp at h
  | _ :: _, [], h => by simp at h
  | a :: l, b :: m, h => by
    simp only [List.map_cons, List.cons.injEq] at h
    rw [hf h.1, mapInj hf h.2]
theorem okP (ps : List (Int × Int)) : kqdOk 8 (.list (ps.map prD)) = true := by
  simp [kqdOk]
theorem okI (ps : List Int) : kqdOk 8 (.list (ps.map .int)) = true := by
  simp [kqdOk]
theorem iffP (a b : List (Int × Int)) : decide (a = b) = true ↔ Dat.list (a.map prD) = Dat.list (b.map prD) := by
  rw [decide_eq_true_iff, Dat.list.injEq]
  exact ⟨fun h => by rw [h], fun h => mapInj prD_inj h⟩
theorem iffI (a b : List Int) : decide (a = b) = true ↔ Dat.list (a.map .int) = Dat.list (b.map .int) := by
  rw [decide_eq_true_iff, Dat.list.injEq]
  exact ⟨fun h => by rw [h], fun h => mapInj (fun {a b} (h : Dat.int a = Dat.int b) => Dat.int.inj h) h⟩

theorem opC_eqP {i j : Nat} {a b : List (Int × Int)} (e1 : σ[i]? = some (.lst (prs a))) (e2 : σ[j]? = some (.lst (prs b))) (h : Φ (.bool (decide (a = b))) σ) : Op2 C n (compareOp .Eq) (.obj i) (.obj j) σ Φ :=
  opC_eqD (ldv_prs e1) (ldv_prs e2) (okP a) (okP b) (iffP a b) h
theorem opC_neP {i j : Nat} {a b : List (Int × Int)} (e1 : σ[i]? = some (.lst (prs a))) (e2 : σ[j]? = some (.lst (prs b))) (h : Φ (.bool (!decide (a = b))) σ) : Op2 C n (compareOp .NotEq) (.obj i) (.obj j) σ Φ :=
  opC_neD (ldv_prs e1) (ldv_prs e2) (okP a) (okP b) (iffP a b) h
theorem opC_eqI {i j : Nat} {a b : List Int} (e1 : σ[i]? = some (.lst (ins a))) (e2 : σ[j]? = some (.lst (ins b))) (h : Φ (.bool (decide (a = b))) σ) : Op2 C n (compareOp .Eq) (.obj i) (.obj j) σ Φ :=
  opC_eqD (ldv_ins e1) (ldv_ins e2) (okI a) (okI b) (iffI a b) h
theorem opC_neI {i j : Nat} {a b : List Int} (e1 : σ[i]? = some (.lst (ins a))) (e2 : σ[j]? = some (.lst (ins b))) (h : Φ (.bool (!decide (a = b))) σ) : Op2 C n (compareOp .NotEq) (.obj i) (.obj j) σ Φ :=
  opC_neD (ldv_ins e1) (ldv_ins e2) (okI a) (okI b) (iffI a b) h

/-- what ends gives back -/
def endsPV : Option (Int × Int) → PV
  | none => .none
  | some p => pr p
theorem opC_neEnds {a b : Option (Int × Int)} (h : Φ (.bool (!decide (a = b))) σ) : Op2 C n (compareOp .NotEq) (endsPV a) (endsPV b) σ Φ := by
  let dOf : Option (Int × Int) → Dat := fun o => match o with | none => .none | some p => prD p
  have dv : ∀ o, DV (endsPV o) (dOf o) := fun o => match o with
    | none => .none
    | some p => .tup (.cons (.int _) (.cons (.int _) .nil))
  have ok : ∀ o, kqdOk 8 (dOf o) = true := fun o => by cases o <;> simp [dOf, kqdOk]
  refine opC_neD (.inl (dv a)) (.inl (dv b)) (ok a) (ok b) ?_ h
  rw [decide_eq_true_iff]
  constructor
  · intro h; rw [h]
  · intro h
    cases a with
    | none => cases b with
      | none => rfl
      | some q => cases h
    | some p => cases b with
      | none => cases h
      | some q => rw [prD_inj h]
end

/-! the sort's tree of questions, answered by one order -/
noncomputable def ev {α : Type} (n : Nat) (lt : Nat → Nat → Bool) : KasT α → Option α
  | .ret a => some a
  | .ask i j k => if i < n ∧ j < n then ev n lt (k (lt i j)) else none

theorem ev_wp {α : Type} {n : Nat} {lt : Nat → Nat → Bool} {cmp : Nat → Nat → (Bool → Shared → Prop) → Shared → Prop} {s : Shared} {Q : α → Shared → Prop} (hc : ∀ i j C, i < n → j < n → C (lt i j) s → cmp i j C s) :
    ∀ (t : KasT α) (a : α), ev n lt t = some a → Q a s → t.kasWp cmp Q s
  | .ret b, a, e, q => by
    unfold ev at e; cases e; exact q
  | .ask i j k, a, e, q => by
    unfold ev at e
    split at e
    · rename_i hij
      exact hc i j _ hij.1 hij.2 (ev_wp hc (k (lt i j)) a e q)
    · cases e

noncomputable def sortedB : List Nat → Bool
  | [] => true
  | [_] => true
  | a :: b :: r => decide (a ≤ b) && sortedB (b :: r)
theorem sortedB_pw : ∀ l : List Nat, sortedB l = true → l.Pairwise (· ≤ ·)
  | [], _ => .nil
  | [a], _ => by simp
  | a :: b :: r, h => by
    unfold sortedB at h
    rw [Bool.and_eq_true, decide_eq_true_iff] at h
    have ih := sortedB_pw (b :: r) h.2
    refine List.pairwise_cons.mpr ⟨fun x hx => ?_, ih⟩
    rcases List.mem_cons.mp hx with rfl | hx
    · exact h.1
    · exact Nat.le_trans h.1 ((List.pairwise_cons.mp ih).1 x hx)

noncomputable def chk (n : Nat) (r : Nat → Nat) : Bool := match ev n (fun i j => decide (r i < r j)) (kas_sort n) with
  | some p => p.toList.isPerm (List.range n) && sortedB (p.toList.map r)
  | none => false
def r4 (a b c d : Nat) : Nat → Nat
  | 0 => a | 1 => b | 2 => c | _ => d
theorem chk2 : ∀ a b : Fin 2, chk 2 (r4 a b 0 0) = true := by decide +kernel
theorem chk3 : ∀ a b c : Fin 3, chk 3 (r4 a b c 0) = true := by decide +kernel
theorem chk4 : ∀ a b c d : Fin 4, chk 4 (r4 a b c d) = true := by decide +kernel

theorem ev_congr {α : Type} {n : Nat} {lt lt' : Nat → Nat → Bool} (h : ∀ i j, i < n → j < n → lt i j = lt' i j) : ∀ t : KasT α, ev n lt t = ev n lt' t
  | .ret _ => rfl
  | .ask i j k => by
    unfold ev
    split
    · rename_i hij
      rw [h i j hij.1 hij.2]
      exact ev_congr h _
    · rfl

theorem sort_ev {n : Nat} (h2 : 2 ≤ n) (h4 : n ≤ 4) (r : Nat → Nat) (hr : ∀ i, i < n → r i < n) :
    ∃ p, ev n (fun i j => decide (r i < r j)) (kas_sort n) = some p ∧ p.toList.Perm (List.range n) ∧ (p.toList.map r).Pairwise (· ≤ ·) := by
  have key : ∀ q : Nat → Nat, (∀ i, i < n → q i = r i) → chk n q = true → ∃ p, ev n (fun i j => decide (r i < r j)) (kas_sort n) = some p ∧ p.toList.Perm (List.range n) ∧ (p.toList.map r).Pairwise (· ≤ ·) := by
    intro q hq hc
    unfold chk at hc
    rw [ev_congr (lt' := fun i j => decide (r i < r j)) (fun i j hi hj => by rw [hq i hi, hq j hj])] at hc
    cases e : ev n (fun i j => decide (r i < r j)) (kas_sort n) with
    | none => rw [e] at hc; cases hc
    | some p =>
      rw [e] at hc
      simp only [Bool.and_eq_true] at hc
      have hp := List.isPerm_iff.mp hc.1
      refine ⟨p, rfl, hp, ?_⟩
      have : p.toList.map q = p.toList.map r := List.map_congr_left fun i hi => hq i (by simpa using hp.mem_iff.mp hi)
      rw [← this]
      exact sortedB_pw _ hc.2
  have h : n = 2 ∨ n = 3 ∨ n = 4 := by omega
  rcases h with rfl | rfl | rfl
  · refine key (r4 (r 0) (r 1) 0 0) (fun i hi => ?_) (chk2 ⟨r 0, hr 0 (by omega)⟩ ⟨r 1, hr 1 (by omega)⟩)
    have : i = 0 ∨ i = 1 := by omega
    rcases this with rfl | rfl <;> rfl
  · refine key (r4 (r 0) (r 1) (r 2) 0) (fun i hi => ?_) (chk3 ⟨r 0, hr 0 (by omega)⟩ ⟨r 1, hr 1 (by omega)⟩ ⟨r 2, hr 2 (by omega)⟩)
    have : i = 0 ∨ i = 1 ∨ i = 2 := by omega
    rcases this with rfl | rfl | rfl <;> rfl
  · refine key (r4 (r 0) (r 1) (r 2) (r 3)) (fun i hi => ?_) (chk4 ⟨r 0, hr 0 (by omega)⟩ ⟨r 1, hr 1 (by omega)⟩ ⟨r 2, hr 2 (by omega)⟩ ⟨r 3, hr 3 (by omega)⟩)
    have : i = 0 ∨ i = 1 ∨ i = 2 ∨ i = 3 := by omega
    rcases this with rfl | rfl | rfl | rfl <;> rfl

/-! pairs in order -/
def lx (p q : Int × Int) : Bool := decide (p.1 < q.1 ∨ (p.1 = q.1 ∧ p.2 < q.2))
theorem lx_iff {p q : Int × Int} : lx p q = true ↔ (p.1 < q.1 ∨ (p.1 = q.1 ∧ p.2 < q.2)) := by unfold lx; exact decide_eq_true_iff

theorem countP_le' {α : Type} {p q : α → Bool} : ∀ {l : List α}, (∀ x ∈ l, p x = true → q x = true) → l.countP p ≤ l.countP q
  | [], _ => by simp
  | a :: l, h => by
    rw [List.countP_cons, List.countP_cons]
    have ih := countP_le' (l := l) fun x hx => h x (List.mem_cons_of_mem _ hx)
    have := h a List.mem_cons_self
    cases hp : p a <;> cases hq : q a <;> simp_all <;> omega
theorem countP_lt' {α : Type} {p q : α → Bool} : ∀ {l : List α}, (∀ x ∈ l, p x = true → q x = true) → (∃ x ∈ l, q x = true ∧ p x = false) → l.countP p < l.countP q
  | [], _, h => by obtain ⟨x, hx, _⟩ := h; simp at hx
  | a :: l, h, ⟨x, hx, h1, h2⟩ => by
    rw [List.countP_cons, List.countP_cons]
    have le := countP_le' (l := l) fun x hx => h x (List.mem_cons_of_mem _ hx)
    rcases List.mem_cons.mp hx with rfl | hx
    · simp [h1, h2]; omega
    · have ih := countP_lt' (l := l) (fun x hx => h x (List.mem_cons_of_mem _ hx)) ⟨x, hx, h1, h2⟩
      have := h a List.mem_cons_self
      cases hp : p a <;> cases hq : q a <;> simp_all <;> omega

def rk (ks : List (Int × Int)) (x : Int × Int) : Nat := ks.countP fun q => lx q x
theorem rk_lt {ks : List (Int × Int)} {x y : Int × Int} (hx : x ∈ ks) : (rk ks x < rk ks y) ↔ lx x y = true := by
  constructor
  · intro h
    cases hb : lx x y with
    | true => rfl
    | false =>
      exfalso
      have : rk ks y ≤ rk ks x := countP_le' fun z _ hz => by
        rw [lx_iff] at hz ⊢
        have hb' : ¬ (x.1 < y.1 ∨ (x.1 = y.1 ∧ x.2 < y.2)) := fun k => by rw [lx_iff.mpr k] at hb; cases hb
        omega
      omega
  · intro h
    refine countP_lt' (fun z _ hz => ?_) ⟨x, hx, h, ?_⟩
    · rw [lx_iff] at hz h ⊢; omega
    · cases hb : lx x x with
      | false => rfl
      | true => rw [lx_iff] at hb; omega
theorem rk_len {ks : List (Int × Int)} {x : Int × Int} (hx : x ∈ ks) : rk ks x < ks.length := by
  have : rk ks x < ks.countP fun _ => true := countP_lt' (fun _ _ _ => rfl) ⟨x, hx, rfl, by
    cases hb : lx x x with
    | false => rfl
    | true => rw [lx_iff] at hb; omega⟩
  simpa using this

section
variable {C : Cx} {n : Nat} {σ : List AO} {ρ : List Addr} {Φ : PV → List AO → Prop}

theorem VRs.getD {h : Heap} {vs : List Value} {ps : List (Int × Int)} (r : VRs h ρ vs (prs ps)) {i : Nat} (hi : i < ps.length) : VR h ρ (vs.getD i .none) (pr (ps.getD i (0, 0))) := by
  obtain ⟨V, e, x⟩ := r.get (k := i) (p := pr (ps.getD i (0, 0))) (by simp [List.getD, hi])
  rw [List.getD, e]; exact x

theorem VR.pair_inv {h : Heap} {V : Value} {p : Int × Int} (x : VR h ρ V (pr p)) : ∃ a m t u, V = .ref a ∧ h.get? a = some (tupO [.int p.1 t, .int p.2 u] m) := by
  obtain ⟨a, vs, m, rfl, e, r⟩ := x.tup_inv
  obtain ⟨v, w, rfl, r1, r2⟩ := r.two_inv
  obtain ⟨t, rfl⟩ := r1.int_inv
  obtain ⟨u, rfl⟩ := r2.int_inv
  exact ⟨a, m, t, u, rfl, e⟩

theorem katTups {h : Heap} : ∀ {vs : List Value} {ps : List (Int × Int)}, VRs h ρ vs (prs ps) → ∃ fs, KatTups h vs fs ∧ fs.length = ps.length ∧ ∀ v ∈ fs, ∃ i t, v = .int i t
  | _, [], .nil => ⟨[], trivial, rfl, by simp⟩
  | _, p :: ps, .cons a b => by
    obtain ⟨fs, k, hl, hf⟩ := katTups b
    obtain ⟨x, m, t, u, rfl, e⟩ := a.pair_inv
    refine ⟨.int p.1 t :: fs, KatTups.cons e rfl rfl (by rfl) k, by simp [hl], fun v hv => ?_⟩
    rcases List.mem_cons.mp hv with rfl | hv
    · exact ⟨_, _, rfl⟩
    · exact hf v hv

theorem ask_pair {prog : Program} {w : World} {A : Around} {s : Shared} {vs : List Value} {ps : List (Int × Int)} (r : VRs s.heap ρ vs (prs ps)) {i j : Nat} (hi : i < ps.length) (hj : j < ps.length) {Cc : Bool → Shared → Prop} (h : Cc (lx (ps.getD i (0, 0)) (ps.getD j (0, 0))) s) :
    kas_ask prog w A (tuples' true) vs i j Cc s := by
  unfold kas_ask
  have r1 := r.getD hi
  have r2 := r.getD hj
  generalize ps.getD i (0, 0) = p at r1 h
  generalize ps.getD j (0, 0) = q at r2 h
  obtain ⟨x, m, t, u, e1, g1⟩ := r1.pair_inv
  obtain ⟨y, k, t', u', e2, g2⟩ := r2.pair_inv
  rw [e1, e2]
  refine kat_lt g1 rfl g2 rfl ?_
  show KatLex prog w A true _ Cc [(.int p.1 t, .int q.1 t'), (.int p.2 u, .int q.2 u')] 0 s
  refine kat_cons (wpAny_eqBool_int (kat_go (fun he => ?_) fun he => ?_))
  · have he' : p.1 = q.1 := by simpa using he
    refine kat_yes (kat_cons (wpAny_eqBool_int (kat_go (fun hf => ?_) fun hf => ?_)))
    · have hf' : p.2 = q.2 := by simpa using hf
      refine kat_yes (kat_nil ?_)
      have : lx p q = false := by
        cases hb : lx p q with
        | false => rfl
        | true => rw [lx_iff] at hb; omega
      rw [this] at h
      exact h
    · refine kat_no (kat_one _ _ (lt_int ?_))
      have : lx p q = decide (p.2 < q.2) := by
        rw [Bool.eq_iff_iff, lx_iff, decide_eq_true_iff]; omega
      rw [this] at h
      exact h
  · have he' : p.1 ≠ q.1 := by simpa using he
    refine kat_no (oneLt_int ?_)
    have : lx p q = decide (p.1 < q.1) := by
      rw [Bool.eq_iff_iff, lx_iff, decide_eq_true_iff]; omega
    rw [this] at h
    exact h

theorem VRs.maps {h : Heap} {α : Type} {f : α → Value} {g : α → PV} : ∀ l : List α, (∀ i ∈ l, VR h ρ (f i) (g i)) → VRs h ρ (l.map f) (l.map g)
  | [], _ => .nil
  | a :: l, k => .cons (k a List.mem_cons_self) (VRs.maps l fun i hi => k i (List.mem_cons_of_mem _ hi))

theorem list_sort_pairs {prog : Program} {w : World} {A : Around} {E : Value → Shared → Prop} {s : Shared} {a : Addr} {vs : List Value} {ps : List (Int × Int)} {m : Nat} {P : PySem.Fin → Shared → Prop} (ho : s.heap.get? a = some (seqObj "list" vs.toArray m)) (r : VRs s.heap ρ vs (prs ps)) (hao : a ∉ ρ) (hnew : ∀ b ∈ ρ, b ≠ a)
    (h4 : ps.length ≤ 4) (h : ∀ (out : List Value) (qs : List (Int × Int)), qs.Perm ps → qs.Pairwise (fun x y => lx y x = false) → (∀ h' : Heap, VRs h' ρ vs (prs ps) → VRs h' ρ out (prs qs)) → P (.done (.ret .none)) { s with heap := sortedHeap s.heap a vs out.toArray }) :
    wpAny (model prog w) A (Builtin.«list.sort» ⟨[.ref a], []⟩) P E s := by
  have hlen : vs.length = ps.length := by simpa using r.length
  rw [list_sort_plain]
  have ha : a < s.heap.objs.size := Heap.lt_size ho
  refine wpAny_bind (listItems_at ho rfl ?_)
  refine wpAny_bind (listUpdate_at ho rfl ?_ (by rw [List.size_toArray, sizeLine_eq]; omega) (Nat.zero_le _))
  obtain ⟨e1, ho1⟩ : ∃ e1, (s.heap.update a (Obj.mapSeq fun _ => (#[] : Array Value))).get? a = some (seqObj "list" #[] e1) := ⟨_, get?_update_seq ho (fun _ => #[])⟩
  refine wpAny_bind (seqEpoch_at ho1 rfl ?_)
  refine wpAny_bind (wpAny_newTuple ?_ (by show vs.length ≤ _; rw [sizeLine_eq]; omega))
  refine wpAny_bind (wpAny_newList ?_ (Nat.zero_le _))
  refine wpAny_holding ?_
  show wpAny (model prog w) A _ P E { s with heap := ((s.heap.update a (Obj.mapSeq fun _ => (#[] : Array Value))).push (seqObj "tuple" vs.toArray 0)).push (seqObj "list" #[] 0) }
  have ho6 : (((s.heap.update a (Obj.mapSeq fun _ => (#[] : Array Value))).push (seqObj "tuple" vs.toArray 0)).push (seqObj "list" #[] 0)).get? a = some (seqObj "list" #[] e1) := by
    exact Heap.get?_push_of_some _ (Heap.get?_push_of_some _ ho1)
  have s1 := Heap.SameBut.update s.heap a (Obj.mapSeq fun _ => (#[] : Array Value))
  generalize hH : ((s.heap.update a (Obj.mapSeq fun _ => (#[] : Array Value))).push (seqObj "tuple" vs.toArray 0)).push (seqObj "list" #[] 0) = H at ho6
  have rH : VRs H ρ vs (prs ps) := by
    have k : ∀ b o, b ≠ a → s.heap.get? b = some o → H.get? b = some o := fun b o hb e => by
      rw [← hH]; exact Heap.get?_push_of_some _ (Heap.get?_push_of_some _ ((s1.2 b hb).trans e))
    refine r.step (X := [a]) (ρ' := ρ) ⟨⟨[], by simp, by simp⟩, fun b o e hb hx => k b o (by simpa using hx) e, fun b o e im => k b o (fun q => ?_) e, fun b o e hx => ⟨o, k b o (by simpa using hx) e⟩⟩
    subst q
    rw [ho] at e; cases e
    exact imm_listOf im
  have fin : ∀ (out : List Value), H.update a (Obj.mapSeq fun _ => out.toArray) = sortedHeap s.heap a vs out.toArray := fun out => by rw [← hH]; rfl
  try rw [hH]
  dsimp only
  by_cases h2 : vs.toArray.size < 2
  · rw [if_pos h2, if_pos h2]
    refine wpAny_bind (wpAny_pure ?_)
    rw [StateT.run_pure]
    refine wpAny_bind (wpAny_pure ?_)
    dsimp only
    refine wpAny_bind (seqEpoch_at ho6 rfl ?_)
    have e0 : (vs.toArray.zip vs.toArray).map (·.2) = vs.toArray := by
      apply Array.toList_inj.mp
      simp only [Array.toList_map, Array.toList_zip, List.map_snd_zip (Nat.le_refl vs.length)]
    show wpAny _ _ (do Builtin.List.listUpdate (.ref a) fun _ => (vs.toArray.zip vs.toArray).map (·.2); _) _ _ _
    rw [e0]
    refine wpAny_bind (listUpdate_at ho6 rfl ?_ (Nat.zero_le _) (by show vs.toArray.size ≤ _; rw [List.size_toArray, sizeLine_eq]; omega))
    simp only [bne_self_eq_false, Bool.false_eq_true, if_false]
    show wpAny _ _ (ret .none) _ _ { s with heap := H.update a (Obj.mapSeq fun _ => vs.toArray) }
    rw [fin vs]
    refine wpAny_pure (h vs ps (.refl _) ?_ fun _ x => x)
    match ps, hlen with
    | [], _ => exact .nil
    | [p], _ => simp
    | _ :: _ :: _, hl => rw [List.size_toArray, hl] at h2; simp at h2; omega
  · have hn2 : 2 ≤ vs.length := by rw [List.size_toArray] at h2; omega
    rw [if_neg h2, if_neg h2]
    obtain ⟨fs, kt, hfl, hfi⟩ := katTups rH
    refine wpAny_bind (kat_kind kt (by omega) (T := .type "int") (fun v hv => by obtain ⟨i, t, rfl⟩ := hfi v hv; exact Looks.of_pure rfl) (by decide) ?_)
    have e1t : (Value.type "int" != Value.type "tuple") = true := by decide
    rw [e1t]
    obtain ⟨p, ep, pp, pw⟩ := sort_ev (n := ps.length) (by omega) h4 (fun i => rk ps (ps.getD i (0, 0))) fun i hi => rk_len (by simp [List.getD, hi])
    have hpm : ∀ i ∈ p.toList, i < ps.length := fun i hi => by simpa using pp.mem_iff.mp hi
    have hps : p.size = vs.length := by have := pp.length_eq; simp at this; omega
    have ep' : ev ps.length (fun i j => lx (ps.getD i (0, 0)) (ps.getD j (0, 0))) (kas_sort ps.length) = some p := by
      rw [← ep]
      refine ev_congr (fun i j hi hj => ?_) _
      rw [Bool.eq_iff_iff, decide_eq_true_iff, rk_lt (by simp [List.getD, hi])]
    have run := kat_run (prog := prog) (w := w) (A := A) (E := E) (s := { s with heap := H }) (κ := tuples' true) (vs := vs) (ks := vs) (Q := fun st' s' => s' = { s with heap := H } ∧ arrOf st' = p.map (kas_item (vs.toArray.zip vs.toArray)) ∧ failedOf st' = none) (G := fun q s' => s' = { s with heap := H } ∧ q = p) rfl hn2 (by omega)
      (fun q st' s' _ a2 a3 a4 => ⟨a4.1, by rw [a2, a4.2], a3⟩) (by
        rw [hlen]
        exact ev_wp (lt := fun i j => lx (ps.getD i (0, 0)) (ps.getD j (0, 0))) (fun i j Cc hi hj hC => ask_pair rH hi hj hC) _ p ep' ⟨rfl, rfl⟩)
    refine wpAny_bind (wpAny_mono run ?_ fun _ _ x => x)
    rintro ⟨⟨⟩, st'⟩ s' ⟨rfl, har, hf⟩
    dsimp only
    have hout := kat_snds rfl har
    rw [hout]
    refine wpAny_bind (seqEpoch_at ho6 rfl ?_)
    refine wpAny_bind (listUpdate_at ho6 rfl ?_ (Nat.zero_le _) (by show (List.toArray _).size ≤ _; rw [List.size_toArray, List.length_map, Array.length_toList, hps, sizeLine_eq]; omega))
    rw [hf]
    simp only [bne_self_eq_false, Bool.false_eq_true, if_false]
    show wpAny _ _ (ret .none) _ _ { s with heap := H.update a (Obj.mapSeq fun _ => (p.toList.map fun i => vs.getD i Value.none).toArray) }
    rw [fin]
    refine wpAny_pure (h _ (p.toList.map fun i => ps.getD i (0, 0)) ?_ ?_ fun h' r' => ?_)
    · have := pp.map fun i => ps.getD i (0, 0)
      have e : (List.range ps.length).map (fun i => ps.getD i (0, 0)) = ps := by
        apply List.ext_getElem (by simp)
        intro i h1 h2
        simp [List.getD, h2]
      rwa [e] at this
    · rw [List.pairwise_map] at pw ⊢
      refine List.Pairwise.imp_of_mem (fun {i j} hi hj hle => ?_) pw
      cases hb : lx (ps.getD j (0, 0)) (ps.getD i (0, 0)) with
      | false => rfl
      | true =>
        have := (rk_lt (ks := ps) (x := ps.getD j (0, 0)) (y := ps.getD i (0, 0)) (by simp [List.getD, hpm j hj])).mpr hb
        omega
    · show VRs h' ρ _ ((p.toList.map fun i => ps.getD i (0, 0)).map pr)
      rw [List.map_map]
      exact VRs.maps p.toList fun i hi => r'.getD (hpm i hi)

theorem ac_sorted {k : Nat} {ps : List (Int × Int)} (e : σ[k]? = some (.lst (prs ps))) (h4 : ps.length ≤ 4) (h : ∀ qs : List (Int × Int), qs.Perm ps → qs.Pairwise (fun x y => lx y x = false) → Φ (.obj σ.length) (σ ++ [.lst (prs qs)])) : AC C n (.con (.builtin "sorted")) [.obj k] σ Φ := by
  intro A s ρ F Vs Q E ha hs hF hv hQ
  rw [hF.con_inv]
  obtain ⟨V, rfl, v1⟩ := hv.one_inv
  obtain ⟨l, vs, m, rfl, ea, g1, r⟩ := hs.list v1 e
  have hlen : vs.length = ps.length := by simpa using r.length
  have hl := isList_of g1
  refine Calls.call_function_entry kind_sorted plain_sorted entry_sorted (args_sorted1 _) ?_
  unfold Builtin.«sorted»
  refine wpAny_bind (m := checkCount "sorted" 1 1 _) (wpAny_pure ?_)
  refine wpAny_bind (collect_list hl ?_ (by rw [sizeLine_eq]; omega))
  refine wpAny_bind (wpAny_newList ?_ (by rw [sizeLine_eq]; omega))
  have hsz : ((s.heap.push (seqObj "list" #[] 0)).update s.heap.objs.size (Obj.mapSeq (· ++ vs.toArray))).objs.size = s.heap.objs.size + 1 := by
    rw [Heap.size_update, size_push']
  have hoL : (((s.heap.push (seqObj "list" #[] 0)).update s.heap.objs.size (Obj.mapSeq (· ++ vs.toArray))).push (seqObj "list" vs.toArray 0)).get? (s.heap.objs.size + 1) = some (seqObj "list" vs.toArray 0) := by
    rw [← hsz]; exact Heap.get?_push_size _ rfl
  have keep : Kp s.heap (((s.heap.push (seqObj "list" #[] 0)).update s.heap.objs.size (Obj.mapSeq (· ++ vs.toArray))).push (seqObj "list" vs.toArray 0)) := fun b o q => by
    have hlt : b < s.heap.objs.size := Heap.lt_size q
    rw [Heap.get?_push_ne _ _ _ (by rw [hsz]; exact Nat.ne_of_lt (Nat.lt_succ_of_lt hlt)), Heap.get?_update_ne _ _ _ _ (Nat.ne_of_lt hlt), Heap.get?_push_ne _ _ _ (Nat.ne_of_lt hlt)]
    exact q
  show wpAny _ _ _ _ _ { s with heap := ((s.heap.push (seqObj "list" #[] 0)).update s.heap.objs.size (Obj.mapSeq (· ++ vs.toArray))).push (seqObj "list" vs.toArray 0) }
  rw [hsz]
  have nn : s.heap.get? (s.heap.objs.size + 1) = none := Heap.get?_none_of_le (Nat.le_succ _)
  have nr : s.heap.objs.size + 1 ∉ ρ := fun q => by obtain ⟨o, e⟩ := hs.in q; rw [nn] at e; cases e
  refine wpAny_bind (wpAny_holding (wpAny_call_entry slot_list_sort ⟨_, hoL, rfl⟩ entry_list_sort (list_sort_pairs (ρ := ρ) hoL (r.step (Step.ofKp (X := []) keep)) nr (fun b hb q => nr (q ▸ hb)) h4 fun out qs hp hpw hr => ⟨_, rfl, ?_⟩) (args_list_sort _)))
  refine wpAny_pure ⟨_, rfl, ?_⟩
  show Q (.ref (s.heap.objs.size + 1)) { s with heap := sortedAll s.heap vs out.toArray }
  obtain ⟨ep, hat⟩ := sortedAll_at s.heap vs out.toArray
  have kp : Kp s.heap (sortedAll s.heap vs out.toArray) := fun b o q => sortedAll_old q
  have st : Step [] s.heap ρ (sortedAll s.heap vs out.toArray) (ρ ++ [s.heap.objs.size + 1]) := ⟨⟨[_], rfl, by simpa using nn⟩, fun b o e _ _ => kp b o e, fun b o e _ => kp b o e, fun b o e _ => ⟨o, kp b o e⟩⟩
  have nX : s.heap.objs.size + 1 ∉ C.X := fun hm => by
    obtain ⟨q, hq, e⟩ := List.mem_map.mp hm
    obtain ⟨⟨ps, e2, _⟩, _⟩ := hs.tab q hq
    rw [e, nn] at e2; cases e2
  obtain ⟨S2, s2⟩ := hs.alloc (o := .lst (prs qs)) nn kp ⟨out, ep, hat, ((hr _ (r.step (Step.ofKp (X := []) kp))).step (Step.refl [] _ _)).step ⟨⟨[s.heap.objs.size + 1], rfl, fun a ha => .inl ha⟩, fun b o e _ _ => e, fun b o e _ => e, fun b o e _ => ⟨o, e⟩⟩⟩ nX
  have := hQ (.ref (s.heap.objs.size + 1)) (.obj σ.length) (sortedAll s.heap vs out.toArray) s.toks (ρ ++ [s.heap.objs.size + 1]) (σ ++ [.lst (prs qs)]) (s2.mono (by simp)) S2 (.obj (by rw [← hs.len]; simp)) (h qs hp hpw)
  exact this
end

/-- a call, seen at the code -/
def ACc (C : Cx) (n : Nat) (f : PV) (args : List PV) (σ : List AO) (Φ : PV → List AO → Prop) : Prop :=
  ∀ (A : Around) (s : Shared) (ρ : List Addr) (F : Value) (Vs : List Value) (R : Result → Shared → Prop), AOk n A → SR C s.heap ρ σ → VR s.heap ρ F f → VRs s.heap ρ Vs args →
    (∀ V v h' tk ρ' σ', Step C.X s.heap ρ h' ρ' → SR C h' ρ' σ' → VR h' ρ' V v → Φ v σ' → R (.ok (.ret V)) { s with heap := h', toks := tk }) →
    codeAny (model C.prog C.w) A (.call F ⟨Vs, []⟩) R s

noncomputable def putFs (x : Str) (v : PV) : List (Str × PV) → List (Str × PV)
  | [] => [(x, v)]
  | f :: r => if f.1 == x then (f.1, v) :: r else f :: putFs x v r
noncomputable def getFs (x : Str) : List (Str × PV) → Option PV
  | [] => none
  | f :: r => if f.1 == x then some f.2 else getFs x r

section
variable {C : Cx} {n : Nat} {se : SE} {env : Env} {loc : Loc} {σ : List AO} {ρ : List Addr} {Φ : PV → List AO → Prop}

theorem ACc.ac {f : PV} {args : List PV} (h : ACc C n f args σ Φ) : AC C n f args σ Φ :=
  fun A s ρ F Vs Q E ha hs hF hv hQ => wpAny_call (h A s ρ F Vs _ ha hs hF hv fun V v h' tk ρ' σ' a b c d => hQ V v h' tk ρ' σ' a b c d)
theorem ACc.mono {f : PV} {args : List PV} {Ψ : PV → List AO → Prop} (h : ACc C n f args σ Φ) (k : ∀ v σ', Φ v σ' → Ψ v σ') : ACc C n f args σ Ψ :=
  fun A s ρ F Vs R ha hs hf hv hQ => h A s ρ F Vs R ha hs hf hv fun V v h' tk ρ' σ' a b c d => hQ V v h' tk ρ' σ' a b c (k v σ' d)

theorem acc_def (G : C.Ok) {f : Addr} {args : List PV} {xs : List Str} {oc : Value} {od : Option Addr} {osl : Array (Option Value)} {name qual : Str} {params : Arguments} {body : List Stmt} {scope : Scope} {dV kV doc pm cdv ct : Value} {an : Option Addr}
    (ho : C.K.lookup f = some ⟨oc, od, .func (fnOf name qual params body scope dV kV doc pm an cdv ct), osl⟩) (hcd : codeIn C.K cdv qual = true)
    (hb : ∀ Vs : List Value, Vs.length = args.length → bindArgs (fnOf name qual params body scope dV kV doc pm an cdv ct) ⟨Vs, []⟩ = pure (xs.zip Vs))
    (hx : xs.all (fun x => scope.names.lookup x == some .local || scope.names.lookup x == some .cell) = true) (hfree : scope.names.all (fun y => y.2 != .free) = true)
    (hk : scope.kind = .function) (hco : scope.isCoroutine = false) (hgen : scope.isGenerator = false) (hnd : ((cellsFrom 0 scope.names []).map (·.1)).Nodup)
    (h : AX C n ⟨scope, cdv, qual ++ ".<locals>."⟩ body (binds0 xs args) σ fun fl _ σ' => match fl with | .ret v => Φ v σ' | _ => Φ .none σ') : ACc C (n + 1) (.con (.ref f)) args σ Φ := by
  intro A s ρ F Vs R ha hs hF hv hQ
  rw [hF.con_inv]
  obtain ⟨p, loose, mean, mg, mb, T⟩ := G.top
  have hX : C.K.In s.heap := G.k.keeps hs.base
  have xk : ∀ k, ∀ y ∈ xs.zip Vs, scope.names.lookup y.1 = some .local ∨ (scope.names.lookup y.1 = some .cell ∧ ((cellsFrom k scope.names []).lookup y.1).isSome = true) := fun k y hy => by
    have hy1 : y.1 ∈ xs := (List.of_mem_zip hy).1
    have := List.all_eq_true.mp hx y.1 hy1
    rcases Bool.or_eq_true_iff.mp this with q | q
    · exact .inl (by simpa using q)
    · have q' : scope.names.lookup y.1 = some .cell := by simpa using q
      exact .inr ⟨q', cellsFrom_some _ _ _ (.inl q')⟩
  refine codeAny_call_cells (by have := ha.dp; omega) (hX _ _ ho) rfl (T.nolimit.keeps hs.base) (codeRec_of hX hcd) rfl (hb Vs hv.length) rfl (xk _) (fun s₁ x => ?_) hco hgen hk
  generalize hen : callEnvC (fnOf name qual params body scope dV kV doc pm an cdv ct) s.heap.objs.size f = en at x
  have eL : en.locals = s.heap.objs.size := by rw [← hen]; rfl
  have eC : en.cells = cellsFrom (s.heap.objs.size + 1) scope.names [] := by rw [← hen]; rfl
  have eK : ∀ y, en.kindOf y = scope.names.lookup y := by rw [← hen]; intro y; rfl
  obtain ⟨h₁, tk₁, rfl, kp⟩ := x.done
  have s0 : Step [] s.heap ρ h₁ ρ := .ofKp kp
  obtain ⟨bl, bc⟩ := bind_rel (h := h₁) (ρ := ρ) en.kindOf xs Vs args (fun _ => none) (fun _ => none) (fun _ => none) (hv.step s0) (fun _ _ _ e => by cases e) (fun _ _ _ e => by cases e)
  have fresh : ∀ a, s.heap.objs.size ≤ a → a ∉ ρ ∧ C.h₀.get? a = none ∧ a ∉ C.X := fun a hle => by
    have hn : s.heap.get? a = none := Heap.get?_none_of_le hle
    refine ⟨fun q => ?_, ?_, fun q => ?_⟩
    · obtain ⟨o, e⟩ := hs.in q; rw [hn] at e; cases e
    · cases q : C.h₀.get? a with
      | none => rfl
      | some o => have := hs.base a o q; rw [hn] at this; cases this
    · obtain ⟨t, ht, rfl⟩ := List.mem_map.mp q
      obtain ⟨⟨ps, e, _⟩, _⟩ := hs.tab t ht
      rw [hn] at e; cases e
  have cge : ∀ y c, (y, c) ∈ en.cells → s.heap.objs.size + 1 ≤ c := fun y c hc => by
    rw [eC] at hc
    exact (cellsFrom_mem _ _ _ _ _ hc).resolve_left (by simp)
  have hr1 : Rep C ⟨scope, cdv, qual ++ ".<locals>."⟩ en (binds0 xs args) h₁ ρ := by
    refine ⟨⟨by rw [← hen]; rfl, hk, by rw [← hen]; rfl, by rw [← hen]; rfl, by rw [← hen]; rfl, by rw [← hen]; rfl⟩, ⟨_, x.toInCall.ns, fun y v hy hl => bl y v (by rw [eK]; exact hy) hl⟩, fun y hy => ?_, by rw [eL]; exact fresh _ (Nat.le_refl _), fun y c hc => ?_, fun y z c h1 h2 => name_of_addr x.apart (mem_of_lookup h1) (mem_of_lookup h2)⟩
    · rcases hy with hy | hy
      · obtain ⟨c, hc⟩ := Option.isSome_iff_exists.mp (cellsFrom_some scope.names (s.heap.objs.size + 1) [] (.inl hy))
        have hc' : en.cells.lookup y = some c := by rw [eC]; exact hc
        exact ⟨c, _, hc', x.cell y c hc', fun v hl => bc y v (by rw [eK]; exact hy) hl⟩
      · have := List.all_eq_true.mp hfree (y, .free) (mem_of_lookup hy)
        simp at this
    · have hge := cge y c hc
      obtain ⟨f1, f2, f3⟩ := fresh c (by omega)
      refine ⟨⟨_, x.cell y c ?_⟩, f1, f2, f3, by rw [eL]; exact Nat.ne_of_gt (Nat.lt_of_succ_le hge)⟩
      rw [eC] at hc ⊢
      exact lookup_of_mem_nodup (cellsFrom_names scope.names 0 (s.heap.objs.size + 1) [] [] rfl ▸ hnd) hc
  have un : ∀ a ∈ XS C en, a ∈ C.X ∨ s.heap.get? a = none := fun a h => by
    rcases List.mem_cons.mp h with rfl | h
    · exact .inr (by rw [eL]; exact size_none _)
    · rcases List.mem_append.mp h with h | h
      · obtain ⟨q, hq, rfl⟩ := List.mem_map.mp h
        exact .inr (Heap.get?_none_of_le (by have := cge q.1 q.2 hq; omega))
      · exact .inl h
  have ha1 : AOk n (A.deeper en) := ⟨ha.hd, by have := ha.dp; show A.depth + 1 + 2 * n + 3 < _; omega, by have := ha.un; show A.units + 3 + 32 * n + 300 < _; omega⟩
  refine h (A.deeper en) en _ ρ _ _ ha1 hr1 (hs.kp kp) fun fl g h2 tk2 ρ2 loc2 σ2 s2 R2 S2 x2 φ2 => ?_
  have st : Step C.X s.heap ρ h2 ρ2 := ((Step.ofKp (X := XS C en) (ρ := ρ) kp).trans s2).weak un
  have fin : ∀ V v, VR h2 ρ2 V v → Φ v σ2 → R (.ok (.ret V)) { s with heap := h2, toks := tk2 } := fun V v a b => hQ V v h2 tk2 ρ2 σ2 st S2 a b
  cases fl with
  | ret W =>
    cases g with
    | ret w => exact fin W w x2 φ2
    | _ => exact x2.elim
  | _ => cases g <;> first | exact x2.elim | exact fin .none .none .none φ2

theorem SR.newAddr {h : Heap} (hs : SR C h ρ σ) {a : Addr} (hle : h.objs.size ≤ a) : a ∉ ρ ∧ C.h₀.get? a = none ∧ a ∉ C.X := by
  have hn : h.get? a = none := Heap.get?_none_of_le hle
  refine ⟨fun q => ?_, ?_, fun q => ?_⟩
  · obtain ⟨o, e⟩ := hs.in q; rw [hn] at e; cases e
  · cases q : C.h₀.get? a with
    | none => rfl
    | some o => have := hs.base a o q; rw [hn] at this; cases this
  · obtain ⟨t, ht, rfl⟩ := List.mem_map.mp q
    obtain ⟨⟨ps, e, _⟩, _⟩ := hs.tab t ht
    rw [hn] at e; cases e

/-! a lambda's call -/
theorem ac_lam (G : C.Ok) {i : Nat} {l : LD} {args : List PV} {xs : List Str} (e : σ[i]? = some (.lam l))
    (hb : ∀ (Vs : List Value) (pm cdv ct : Value), Vs.length = args.length → bindArgs (kla_fn "<lambda>" l.qual l.params l.body l.scope [] pm cdv ct) ⟨Vs, []⟩ = pure (xs.zip Vs))
    (hx : ∀ x ∈ xs, l.scope.names.lookup x = some .local) (hcell : ∀ x ∈ l.scope.names, x.2 ≠ .cell) (hfree : ∀ x ∈ l.scope.names, x.2 ≠ .free)
    (hk : l.scope.kind = .function) (hco : l.scope.isCoroutine = false) (hgen : l.scope.isGenerator = false)
    (h : ∀ cd, AW C n ⟨l.scope, cd, l.qual ++ ".<locals>."⟩ l.body (binds0 xs args) σ Φ) : AC C (n + 1) (.obj i) args σ Φ := by
  intro A s ρ F Vs Q E ha hs hF hv hQ
  obtain ⟨a, rfl, ea⟩ := hF.obj_inv
  obtain ⟨pm, c', ctv, e1, hrec⟩ := hs.obj i a _ ea e
  obtain ⟨p, loose, mean, mg, mb, T⟩ := G.top
  refine wpAny_call (kla_callFunE (by have := ha.dp; omega) e1 rfl hco hgen rfl hrec ?_)
  rw [hb Vs pm (.ref c') ctv hv.length]
  refine wpAny_pure (wpAny_newFunctionEnv hcell (fun y hy => hx y.1 (List.of_mem_zip hy).1) (fun h₁ hns hsb => ⟨(T.nolimit.keeps hs.base).fresh _ hsb, ?_⟩) hk)
  refine kla_codeExpr ?_
  have kp : Kp s.heap h₁ := fun b o e => hsb.extBut b o (Nat.ne_of_lt (Heap.lt_size e)) (Heap.get?_push_of_some _ e)
  have s0 : Step [] s.heap ρ h₁ ρ := .ofKp kp
  generalize hen : newEnv l.scope s.heap.objs.size mainGlobals [] (l.qual ++ ".<locals>.") (some a) (.ref c') none builtinsNs = en
  have eL : en.locals = s.heap.objs.size := by rw [← hen]; rfl
  have eC : en.cells = [] := by rw [← hen]; rfl
  have nn : s.heap.get? s.heap.objs.size = none := size_none _
  have rel := bind_rel (h := h₁) (ρ := ρ) (fun x => l.scope.names.lookup x) xs Vs args (fun _ => none) (fun _ => none) (fun _ => none) (hv.step s0) (fun _ _ _ e => by cases e) (fun _ _ _ e => by cases e)
  have hbl : ∀ (xs : List Str) (Vs : List Value) (m : Str → Option Value) (x : Str), (∀ y ∈ xs, l.scope.names.lookup y = some .local) → bindL (fun x => l.scope.names.lookup x) (xs.zip Vs) m x = ((xs.zip Vs).reverse.lookup x).or (m x) := by
    intro xs
    induction xs with
    | nil => intro Vs m x _; simp [bindL]
    | cons y ys ih =>
      intro Vs m x hy
      cases Vs with
      | nil => simp [bindL]
      | cons V Vs =>
        simp only [List.zip_cons_cons, bindL]
        rw [if_pos (hy y List.mem_cons_self), ih _ _ _ fun z hz => hy z (List.mem_cons_of_mem _ hz), List.reverse_cons, List.lookup_append]
        by_cases q : x = y
        · subst q; cases hh : List.lookup x (ys.zip Vs).reverse <;> simp [List.lookup]
        · have : (x == y) = false := by simpa using q
          cases hh : List.lookup x (ys.zip Vs).reverse <;> simp [List.lookup, this, q]
  have hr1 : Rep C ⟨l.scope, .ref c', l.qual ++ ".<locals>."⟩ en (binds0 xs args) h₁ ρ := by
    refine ⟨⟨by rw [← hen]; rfl, hk, by rw [← hen]; rfl, by rw [← hen]; rfl, by rw [← hen]; rfl, by rw [← hen]; rfl⟩, ⟨_, by rw [eL]; exact hns, fun y v hy hl => ?_⟩, fun y hy => ?_, by rw [eL]; exact hs.newAddr (Nat.le_refl _), fun y c hc => ?_, fun y z c h1 h2 => ?_⟩
    · obtain ⟨V, e, r⟩ := rel.1 y v hy hl
      rw [hbl xs Vs _ y hx] at e
      exact ⟨V, by simpa using e, r⟩
    · rcases hy with hy | hy
      · exact absurd rfl (hcell _ (mem_of_lookup hy))
      · exact absurd rfl (hfree _ (mem_of_lookup hy))
    · rw [eC] at hc; cases hc
    · rw [eC] at h1; cases h1
  have ha1 : AOk n (A.deeper en) := ⟨ha.hd, by have := ha.dp; show A.depth + 1 + 2 * n + 3 < _; omega, by have := ha.un; show A.units + 3 + 32 * n + 300 < _; omega⟩
  exact h (.ref c') (A.deeper en) en _ ρ _ _ ha1 hr1 (hs.kp kp) fun V v h2 tk2 ρ2 σ2 s2 S2 x2 φ2 => hQ V v h2 tk2 ρ2 σ2 ((Step.ofKp (X := C.X) (ρ := ρ) kp).trans s2) S2 x2 φ2

/-! a lambda is made -/
theorem imm_tab {ps : Array Value} (h : ∀ q t, ps[1]? ≠ some (.str q t)) : ¬ Imm (tabObj ps) := by
  rintro (⟨vs, m, e, _⟩ | ⟨vs, e, c | ⟨q, t, z⟩⟩)
  · cases e
  · cases c
  · cases e; exact h q t z

theorem tab_uniq {l : List Tab} (hn : (l.map (·.p)).Nodup) : ∀ {a b : Tab}, a ∈ l → b ∈ l → a.p = b.p → a = b := by
  induction l with
  | nil => intro a b h; cases h
  | cons x r ih =>
    intro a b ha hb e
    rw [List.map_cons] at hn
    obtain ⟨n1, n2⟩ := List.nodup_cons.mp hn
    rcases List.mem_cons.mp ha with h1 | h1
    · rcases List.mem_cons.mp hb with h2 | h2
      · rw [h1, h2]
      · exact absurd (h1 ▸ e ▸ List.mem_map_of_mem (f := fun t : Tab => t.p) h2) n1
    · rcases List.mem_cons.mp hb with h2 | h2
      · exact absurd (h2 ▸ e ▸ List.mem_map_of_mem (f := fun t : Tab => t.p) h1) n1
      · exact ih n2 h1 h2 e

theorem aw_lambda (G : C.Ok) {params : Arguments} {body : Expr} {scope : Scope} {pos : Pos} {q : Tab} (hq : q ∈ C.tabs) (hcd : se.cd = .ref q.c) (hpos : q.pos = pos) (hqu : q.qual = se.qual ++ "<lambda>") (hfree : ∀ x ∈ scope.names, x.2 ≠ .free)
    (hdef : ∀ env, defaultsOf params env = ([], [])) (h : Φ (.obj σ.length) (σ ++ [.lam ⟨q.qual, params, body, scope⟩])) : AW C n se (.Lambda params body scope pos) loc σ Φ := by
  intro A env s ρ Q E ha hr hs hQ
  obtain ⟨p, loose, mean, mg, mb, T⟩ := G.top
  have T' := T.keeps hs.base
  have hgs := T'.g
  obtain ⟨bm, ob, b1, b2, b3, b4, b5, b6⟩ := T.bmain
  obtain ⟨⟨ps, eP, hps⟩, nP⟩ := hs.tab q hq
  have Cc : CodeHd s.heap q.c q.p := (G.codes q hq).keeps hs.base
  have np := G.pnew q hq
  have hgP : mainGlobals ≠ q.p := fun z => by
    obtain ⟨o, es, ep, e, hd, _⟩ := T.g
    rw [z, np] at e; cases e
  have hbP : bm ≠ q.p := fun z => by rw [z, np] at b3; cases b3
  have hbG : bm ≠ mainGlobals := fun z => by
    obtain ⟨o, es, ep, e, hd, _⟩ := T.g
    rw [z, e] at b3; cases b3; rw [hd] at b6; cases b6
  have hbat : s.heap.BuiltinsAt mg q.p := ⟨bm, ob, b1, b2, hbG, hbP, hs.base _ _ b3, b4, b5, b6⟩
  have hpX : q.p ∈ C.X := List.mem_map_of_mem (f := fun t : Tab => t.p) hq
  refine kla_eval (hdef env) ?_
  have ecd : env.code = .ref q.c := hr.ok.cd.trans hcd
  have equ : env.qual ++ "<lambda>" = q.qual := by rw [hr.ok.qual, hqu]
  rw [equ]
  -- what is left: a heap that keeps all but the table
  have fin : ∀ (h' : Heap) (tk : Tok) (c' : Addr) (ctv pm : Value), s.heap.objs.size ≤ h'.objs.size → Heap.ExtBut q.p s.heap h' → TabOk h' q → h'.CodeRec (.ref c') q.qual →
      Q (.ref h'.objs.size) { s with heap := h'.push (kla_obj "<lambda>" q.qual params body scope [] pm c' ctv), toks := tk } := fun h' tk c' ctv pm hsz hx ht hrec => by
    generalize hK : h'.push (kla_obj "<lambda>" q.qual params body scope [] pm c' ctv) = h''
    have kp : Kp h' h'' := hK ▸ kp_push _ _
    have nn : s.heap.get? h'.objs.size = none := Heap.get?_none_of_le hsz
    have keep : ∀ b o, b ≠ q.p → s.heap.get? b = some o → h''.get? b = some o := fun b o hb e => kp b o (hx b o hb e)
    have himm : ∀ o, s.heap.get? q.p = some o → ¬ Imm o := fun o e => by
      rw [eP] at e; cases e
      refine imm_tab fun z t w => ?_
      rcases hps with rfl | ⟨c₂, rfl, _⟩
      · simp at w
      · simp [rawInt] at w
    have st : Step C.X s.heap ρ h'' (ρ ++ [h'.objs.size]) := by
      refine ⟨⟨[_], rfl, by simpa using .inr nn⟩, fun b o e hb hX => keep b o (fun z => hX (z ▸ hpX)) e, fun b o e im => keep b o (fun z => himm o (z ▸ e) im) e, fun b o e hX => ⟨o, keep b o (fun z => hX (z ▸ hpX)) e⟩⟩
    have nr : h'.objs.size ∉ ρ := fun z => by obtain ⟨o, e⟩ := hs.in z; rw [nn] at e; cases e
    have eN : h''.get? h'.objs.size = some (kla_obj "<lambda>" q.qual params body scope [] pm c' ctv) := hK ▸ Heap.get?_push_size _ rfl
    have recK : ∀ {cv : Value} {z : Str}, h'.CodeRec cv z → h''.CodeRec cv z := fun x => codeRec_step (Step.ofKp (X := []) (ρ := ρ) kp) x
    have S2 : SR C h'' (ρ ++ [h'.objs.size]) (σ ++ [.lam ⟨q.qual, params, body, scope⟩]) := by
      refine ⟨by simp [hs.len], ?_, fun i b o' e1 e2 => ?_, fun b o e => ?_, fun b hb => ?_, fun t ht' => ⟨?_, fun hm => ?_⟩⟩
      · refine List.nodup_append.mpr ⟨hs.nod, by simp, fun x hx y hy => ?_⟩
        rw [List.mem_singleton] at hy; subst hy
        rintro rfl; exact nr hx
      · by_cases hi : i < ρ.length
        · rw [List.getElem?_append_left hi] at e1
          rw [List.getElem?_append_left (by rw [← hs.len]; exact hi)] at e2
          exact (hs.obj i b o' e1 e2).step st (fun o e => keep b o (fun z => nP (z ▸ List.mem_of_getElem? e1)) e)
        · have hi' : i = ρ.length := by
            have := (List.getElem?_eq_some_iff.mp e1).1
            simp at this; omega
          subst hi'
          rw [hs.len] at e2
          simp at e1 e2
          subst e1; subst e2
          exact ⟨pm, c', ctv, eN, recK hrec⟩
      · refine keep b o (fun z => ?_) (hs.base b o e)
        rw [z, np] at e; cases e
      · rcases List.mem_append.mp hb with hb | hb
        · exact hs.new b hb
        · rw [List.mem_singleton] at hb; subst hb
          cases z : C.h₀.get? h'.objs.size with
          | none => rfl
          | some o => have := hs.base _ o z; rw [nn] at this; cases this
      · by_cases z : t.p = q.p
        · have := tab_uniq G.pnd ht' hq z
          subst this
          exact ht.step (Step.ofKp (X := []) (ρ := ρ) kp) fun o e => kp _ _ e
        · exact (hs.tab t ht').1.step st fun o e => keep _ _ z e
      · rcases List.mem_append.mp hm with hm | hm
        · exact (hs.tab t ht').2 hm
        · rw [List.mem_singleton] at hm
          obtain ⟨⟨ps', e, _⟩, _⟩ := hs.tab t ht'
          rw [hm, nn] at e; cases e
    exact hQ _ _ h'' tk _ _ st S2 (.obj (by rw [← hs.len]; simp)) h
  rcases hps with rfl | ⟨c₂, rfl, hrec⟩
  · refine kla_makeFunction (mg := mg) (closureFor_none hfree) (hr.ok.gl) hgs ecd Cc eP trivial rfl hgP hbat fun c' ctv h' tk hx hge hlt hrec htb => ?_
    refine fin h' tk c' ctv _ (Nat.le_of_lt (Nat.lt_of_le_of_lt hge hlt)) hx ⟨_, htb, .inr ⟨c', ?_, hrec⟩⟩ hrec
    rw [hpos]; rfl
  · refine kla_makeFunctionHit (mg := mg) (cv := .ref c₂) (closureFor_none hfree) (hr.ok.gl) hgs ecd Cc eP (by simp [TriplesOk, rawInt]) (by rw [hpos]; simp [codeAmong, rawInt]) hbat fun ctv h' tk hk hsz => ?_
    exact fin h' tk c₂ ctv _ hsz (fun b o _ e => hk b o e) ⟨_, hk _ _ eP, .inr ⟨c₂, rfl, codeRec_step (Step.ofKp (X := []) (ρ := ρ) hk) hrec⟩⟩ (codeRec_step (Step.ofKp (X := []) (ρ := ρ) hk) hrec)
end

section
variable {C : Cx} {n : Nat} {se : SE} {env : Env} {loc : Loc} {σ : List AO} {ρ : List Addr} {Φ : PV → List AO → Prop}

theorem FsR.get {w : World} {h : Heap} {x : Str} : ∀ {es : List DictEntry} {fs : List (Str × PV)}, FsR w h ρ es fs → ∀ v, getFs x fs = some v → ∃ V, getL x es = some (some V) ∧ VR h ρ V v
  | [], [], _, v, e => by cases e
  | e :: es, f :: fs, ⟨⟨t, ek⟩, r, rest⟩, v, g => by
    unfold getFs at g
    unfold getL
    rw [List.find?_cons]
    have hk : e.key.isStr x = (f.1 == x) := by rw [ek]; rfl
    by_cases q : f.1 == x
    · rw [if_pos q] at g; cases g
      rw [hk, q]
      exact ⟨_, rfl, r⟩
    · rw [if_neg q] at g
      rw [hk, Bool.eq_false_iff.mpr q]
      obtain ⟨V, a, b⟩ := FsR.get rest v g
      refine ⟨V, ?_, b⟩
      unfold getL at a
      have rk : e.refKey = false := by unfold DictEntry.refKey; rw [ek]
      rw [List.any_cons, rk, Bool.false_or]
      exact a
  | [], _ :: _, x, _, _ => x.elim
  | _ :: _, [], x, _, _ => x.elim
theorem FsR.miss {w : World} {h : Heap} {x : Str} : ∀ {es : List DictEntry} {fs : List (Str × PV)}, FsR w h ρ es fs → getFs x fs = none → getL x es = some none
  | [], [], _, _ => rfl
  | e :: es, f :: fs, ⟨⟨t, ek⟩, r, rest⟩, g => by
    unfold getFs at g
    unfold getL
    rw [List.find?_cons]
    have hk : e.key.isStr x = (f.1 == x) := by rw [ek]; rfl
    by_cases q : f.1 == x
    · rw [if_pos q] at g; cases g
    · rw [if_neg q] at g
      rw [hk, Bool.eq_false_iff.mpr q]
      have a := FsR.miss rest g
      unfold getL at a
      have rk : e.refKey = false := by unfold DictEntry.refKey; rw [ek]
      rw [List.any_cons, rk, Bool.false_or]
      exact a
  | [], _ :: _, x, _ => x.elim
  | _ :: _, [], x, _ => x.elim
theorem FsR.put {w : World} {h : Heap} {x : Str} {hs : Int} {t : Tok} {V : Value} {v : PV} (r : VR h ρ V v) : ∀ {es : List DictEntry} {fs : List (Str × PV)}, FsR w h ρ es fs → FsR w h ρ (putL x hs (.str x t) V es) (putFs x v fs)
  | [], [], _ => ⟨⟨t, rfl⟩, r, trivial⟩
  | e :: es, f :: fs, ⟨⟨t', ek⟩, r', rest⟩ => by
    unfold putL putFs
    have hk : e.key.isStr x = (f.1 == x) := by rw [ek]; rfl
    rw [hk]
    by_cases q : f.1 == x
    · rw [if_pos q, if_pos q]; exact ⟨⟨t', ek⟩, r, rest⟩
    · rw [if_neg q, if_neg q]; exact ⟨⟨t', ek⟩, r', FsR.put r rest⟩
  | [], _ :: _, x => x.elim
  | _ :: _, [], x => x.elim
theorem FsR.length {w : World} {h : Heap} : ∀ {es : List DictEntry} {fs : List (Str × PV)}, FsR w h ρ es fs → es.length = fs.length
  | [], [], _ => rfl
  | e :: es, f :: fs, ⟨_, _, rest⟩ => by simp [FsR.length rest]
  | [], _ :: _, x => x.elim
  | _ :: _, [], x => x.elim
theorem putL_len (x : Str) (hs : Int) (k v : Value) : ∀ es : List DictEntry, (putL x hs k v es).length ≤ es.length + 1
  | [] => by simp [putL]
  | e :: es => by
    unfold putL
    split
    · simp
    · have := putL_len x hs k v es; simp; omega

theorem SR.inst {h : Heap} (S : SR C h ρ σ) {i d : Nat} {cA : Addr} {fs : List (Str × PV)} {V : Value} (x : VR h ρ V (.obj i)) (e : σ[i]? = some (.ins cA d)) (ed : σ[d]? = some (.dct fs)) :
    ∃ a dx es m, V = .ref a ∧ ρ[i]? = some a ∧ ρ[d]? = some dx ∧ h.get? dx = some (dictOf es m) ∧ FsR C.w h ρ es fs ∧ InstAt h a (instObj cA dx) cA (some (dictOf es m)) := by
  obtain ⟨a, rfl, ea⟩ := x.obj_inv
  obtain ⟨dx, e1, e2⟩ := S.obj i a _ ea e
  obtain ⟨es, m, e3, r⟩ := S.obj d dx _ e1 ed
  exact ⟨a, dx, es, m, rfl, ea, e1, e3, r, ⟨e2, rfl, rfl, e3⟩⟩

theorem VR.handed {h : Heap} {V : Value} {p : PV} (x : VR h ρ V p) (hp : ∀ v, p ≠ .con v) : handedIn V = true := by
  cases x with
  | con v => exact absurd rfl (hp _)
  | _ => rfl

theorem op_getAttr (G : C.Ok) {i d : Nat} {cA : Addr} {fs : List (Str × PV)} {x : Str} {v : PV} {attr : Option Value} {b : Bool} (e : σ[i]? = some (.ins cA d)) (ed : σ[d]? = some (.dct fs)) (hg : plainGet C.K cA x = true) (hh : hasDictIn C.K cA = true)
    (ha' : findIn C.K (.ref cA) x = some attr) (hn : noGet C.K attr = true) (hv : getFs x fs = some v) (hc : ∀ w, v ≠ .con w) (h : Φ v σ) : Op1 C n (fun V => getAttr V x b) (.obj i) σ Φ := by
  intro A s ρ V₁ Q E ha hs h1 hQ
  obtain ⟨a, dx, es, m, rfl, ea, ed', e3, r, I⟩ := hs.inst h1 e ed
  obtain ⟨V, eV, rV⟩ := r.get v hv
  refine get_value (G.k.keeps hs.base) I (plainGet_of hg).1 (findObj_own hh ha' hn (by rw [lookIn_dict]; exact eV)) (rV.handed hc) ?_
  exact hQ V v s.heap _ ρ σ (.refl _ _ _) hs rV h

theorem op_setAttr (G : C.Ok) {i d : Nat} {cA : Addr} {fs : List (Str × PV)} {x : Str} {v : PV} {ΦU : List AO → Prop} (e : σ[i]? = some (.ins cA d)) (ed : σ[d]? = some (.dct fs)) (hset : findIn C.K (.ref cA) "__setattr__" = some (some (.builtin "object.__setattr__")))
    (hp : plainOver C.K cA = true) (ht : takerIn C.K cA x = some none) (hh : hasDictIn C.K cA = true) (hz : fs.length ≤ 900) (h : ΦU (σ.set d (.dct (putFs x v fs)))) : Op3 C n (fun a _ c => setAttr a x c) (.obj i) .none v σ ΦU := by
  intro A s ρ V₁ V₂ V₃ Q E ha hs h1 _ h3 hQ
  obtain ⟨a, dx, es, m, rfl, ea, ed', e3, r, I⟩ := hs.inst h1 e ed
  have X := G.k.keeps hs.base
  have hnd : Heap.SameBut dx s.heap (s.heap.update dx (Obj.putName x (PyData.keyHash C.w.params x) (.str x (s.toks + 1)) V₃)) := Heap.SameBut.update ..
  have eN : (s.heap.update dx (Obj.putName x (PyData.keyHash C.w.params x) (.str x (s.toks + 1)) V₃)).get? dx = some (dictOf (putL x (PyData.keyHash C.w.params x) (.str x (s.toks + 1)) V₃ es) (putN x es m)) := by
    rw [← putName_dict]
    exact Heap.get?_update_self _ e3 (by rw [putName_dict]; rfl)
  refine set_plain X I hset (osa_open (s := { s with toks := s.toks + 1 }) X I hp ht fun b => ?_)
  obtain ⟨cd, hc, hd'⟩ := any_some hh
  have hx := I.at_
  refine wpAny_bind (wpAny_pure (wpAny_bind (wpAny_bind (wpAny_loadPart hx (wpAny_bind (Looks.here (s := { s with toks := s.toks + 1 }) (looks_clsIn X hc) ?_))))))
  rw [hd']
  refine wpAny_pure (a := some dx) (wpAny_bind (wpAny_pure (wpAny_bind ?_)))
  unfold nsSet
  refine wpAny_bind (wpAny_bind (wpAny_askSetting (wpAny_pure (wpAny_bind (wpAny_mkText (wpAny_bind (wpAny_loadPart e3 ?_)))))))
  have nk : es.toArray.any (fun e => e.refKey) = false := by
    rw [← Array.any_toList]
    have : ∀ {es : List DictEntry} {fs : List (Str × PV)}, FsR C.w s.heap ρ es fs → es.any (fun e => e.refKey) = false := by
      intro es
      induction es with
      | nil => intro fs _; rfl
      | cons e es ih =>
        intro fs r
        cases fs with
        | nil => exact r.elim
        | cons f fs =>
          obtain ⟨⟨t, ek⟩, _, rest⟩ := r
          have rk : e.refKey = false := by unfold DictEntry.refKey; rw [ek]
          rw [List.any_cons, rk, ih rest]; rfl
    exact this r
  have c : (!es.toArray.any (fun e => e.key.isStr x) && es.toArray.any (fun e => e.refKey)) = false := by rw [nk, Bool.and_false]
  dsimp only
  rw [aRefKeyMayBeTheName_at, c]
  refine wpAny_updatePart e3 ?_
  have hl : (putL x (PyData.keyHash C.w.params x) (.str x (s.toks + 1)) V₃ es).length ≤ 1000 := by
    have h1 := putL_len x (PyData.keyHash C.w.params x) (.str x (s.toks + 1)) V₃ es
    have h2 := r.length
    omega
  refine wpAny_bind (wpAny_lookBehind eN (pastItsLine_dict (by rw [List.size_toArray, sizeLine_eq]; omega)) ?_)
  refine wpAny_pure ?_
  obtain ⟨S2, s2⟩ := hs.set (o := .dct (putFs x v fs)) ed' (fun ob e => by rw [e3] at e; cases e; exact imm_dict rfl) hnd ⟨_, eN⟩ fun st => ⟨_, _, eN, FsR.put (h3.step st) (r.step st)⟩
  exact hQ _ _ ρ _ (s2.mono (by simp)) S2 h

/-- o.name(arg ...) of an object of a class -/
theorem aw_method (G : C.Ok) {o : Expr} {name : Str} {apos pos : Pos} {args : List Expr} {k d : Nat} {cA f : Addr} {fs : List (Str × PV)}
    (h : AW C n se o loc σ fun ov σ₁ => ov = .obj k ∧ σ₁[k]? = some (.ins cA d) ∧ σ₁[d]? = some (.dct fs) ∧ AWs C n se args loc σ₁ fun vs σ₂ => AC C n (.con (.ref f)) (.obj k :: vs) σ₂ Φ)
    (hg : plainGet C.K cA name = true) (hf : findIn C.K (.ref cA) name = some (some (.ref f))) (ht : isFn C.K (.ref f) = true) (hk : keepIn C.K (.ref f) = true) (hl : getFs name fs = none)
    (he : ∀ env, ∃ pl, eval (.Call (.Attribute o name apos) args [] pos) env = (do
          let ov ← eval o env
          standAt (Pos.atName apos)
          let __x ← holding [ov] (getMethod ov name pl)
          match __x with
            | (f, first) => callWith pos f first (backTo pos (starEach args env)) [])) (hp : ∀ env, (starEach args env).any (·.1) = false) :
    AW C n se (.Call (.Attribute o name apos) args [] pos) loc σ Φ := by
  intro A env s ρ Q E ha hr hs hQ
  obtain ⟨pl, he⟩ := he env
  refine MethodCall_ (pl := pl) (h A env s ρ _ E ha hr hs fun F f' h1 tk1 ρ1 σ1 s1 S1 x1 φ1 => ?_) he
  obtain ⟨rfl, e, ed, φ1⟩ := φ1
  obtain ⟨a, dx, es, m, rfl, ea, ed', e3, r, I⟩ := S1.inst x1 e ed
  refine method_fn (G.k.keeps S1.base) I (plainGet_of hg).1 (plainGet_of hg).2 hf (beq_iff_eq.mp ht) ?_ ?_
  · show (lookIn name (dictOf es m)).map _ = _
    rw [lookIn_dict, r.miss hl]; rfl
  · exact callWith_aw (f := .con (.ref f)) (fst := [.obj k]) ha (hr.step s1) S1 (.con _) (.one x1) (hp env) (fun A env pos s ρ Q E a b c d => φ1 A env pos s ρ Q E a b c fun Vs vs h' tk ρ' σ' a b c e => d Vs vs h' tk ρ' σ' a b c ⟨callee_K G hk, e⟩) fun V v h2 tk2 ρ2 σ2 s2 S2 x2 φ2 => hQ V v h2 tk2 ρ2 σ2 (s1.trans s2) S2 x2 φ2

/-- an object of a class is made -/
theorem ac_cls (G : C.Ok) {cA fI : Addr} {args : List PV} (hm : makesIn C.K cA = true) (hi : findIn C.K (.ref cA) "__init__" = some (some (.ref fI))) (hf : typeIn C.K (.ref fI) = some (.type "function"))
    (h : ACc C n (.con (.ref fI)) (.obj (σ.length + 1) :: args) (σ ++ [.dct []] ++ [.ins cA σ.length]) fun v σ' => v = .none ∧ Φ (.obj (σ.length + 1)) σ') : AC C (n + 1) (.con (.ref cA)) args σ Φ := by
  intro A s ρ F Vs Q E ha hs hF hv hQ
  rw [hF.con_inv]
  have X := G.k.keeps hs.base
  obtain ⟨hh, g, dr, t, os⟩ := s
  refine wpAny_call (make_core (makes_of X hm) (looks_findIn X hi) (fun self => bind_fn X self hf) (.inl rfl) ?_)
  obtain ⟨S1, s1, e1⟩ := hs.push (h' := hh.push emptyDict) (o := .dct []) (kp_push _ _) fun _ => ⟨[], 0, Heap.get?_push_size _ rfl, trivial⟩
  have e1' : (hh.push emptyDict).objs.size = hh.objs.size + 1 := Heap.size_push ..
  obtain ⟨S2, s2, e2⟩ := S1.push (h' := (hh.push emptyDict).push (instObj cA hh.objs.size)) (o := .ins cA σ.length) (kp_push _ _) fun _ => ⟨hh.objs.size, by rw [List.getElem?_append_left (by have := (List.getElem?_eq_some_iff.mp e1).1; exact this)]; exact e1, Heap.get?_push_size _ rfl⟩
  rw [e1'] at S2 s2 e2
  have st := s1.trans s2
  have e2' : (ρ ++ [hh.objs.size] ++ [hh.objs.size + 1])[σ.length + 1]? = some (hh.objs.size + 1) := by
    rw [List.length_append] at e2; exact e2
  have ha1 : AOk n (A.under (.builtin "type.__call__" ⟨.ref cA :: Vs, []⟩)) := by
    have hw : (Code.builtin "type.__call__" ⟨.ref cA :: Vs, []⟩).weight = 1 := by rfl
    have hu : (Code.builtin "type.__call__" ⟨.ref cA :: Vs, []⟩).cUnits = 1 := by rfl
    refine ⟨ha.hd, ?_, ?_⟩
    · have := ha.dp
      show A.depth + (Code.builtin "type.__call__" ⟨.ref cA :: Vs, []⟩).weight + 2 * n + 3 < _
      rw [hw]; omega
    · have := ha.un
      show A.units + (Code.builtin "type.__call__" ⟨.ref cA :: Vs, []⟩).cUnits + 32 * n + 300 < _
      rw [hu]; omega
  refine h _ _ (ρ ++ [hh.objs.size] ++ [hh.objs.size + 1]) _ _ _ ha1 S2 (.con _) (.cons (.obj e2') (hv.step st)) fun V v h' tk ρ' σ' a b c d => ?_
  obtain ⟨rfl, d⟩ := d
  rw [c.none_inv]
  exact ⟨rfl, hQ _ (.obj (σ.length + 1)) h' tk ρ' σ' (st.trans a) b (.obj (a.rho e2')) d⟩
end

noncomputable abbrev cx (w : World) (h₀ : Heap) (tabs : List Tab) : Cx := ⟨PySem.Challenge.rw_nu0009_01.row.prog, w, hd.heap_39 w.params, h₀, tabs⟩

set_option maxRecDepth 100000 in
set_option maxHeartbeats 4000000 in
theorem fill (pp : Params) : (∃ o, List.lookup 21 (hd.heap_39 pp) = some o) ∧ PySem.Challenge.rw_nu0009_01.row.prog = PySem.Challenge.rw_nu0009_01.row.prog := by
  k_fill
  exact ⟨⟨_, by k_is⟩, rfl⟩

theorem up_same (l : Loc) (x : Str) (v : PV) : up l x v x = some v := by unfold up; rw [if_pos rfl]
theorem up_skip (l : Loc) (x y : Str) (v : PV) (h : (x == y) = false) : up l y v x = l x := by
  unfold up; rw [if_neg (by simpa using h)]

section
variable {C : Cx} {n : Nat} {se : SE} {loc : Loc} {σ : List AO} {Φ : AFl → Loc → List AO → Prop}

/-! a statement, then the rest -/
theorem sq_name {x : Str} {pos' pos : Pos} {value : Expr} {rest : List Stmt} (hk : se.sc.names.lookup x = some .local ∨ se.sc.names.lookup x = some .cell)
    (hw : ∀ L cl f fr, swapsWith value (some (Expr.Name x pos')) pos.line (mkEnv se L cl f fr) = pure false) (h : AW C n se value loc σ fun v σ' => AX C n se rest (up loc x v) σ' Φ) : AX C n se (.Assign [.Name x pos'] value pos :: rest) loc σ Φ :=
  ax_cons (as_name (h.mono fun _ _ x => x) hk hw)
theorem sq_item {o i value : Expr} {pos' pos : Pos} {rest : List Stmt} (hw : ∀ L cl f fr, swapsWith value (some (Expr.Subscript o i pos')) pos.line (mkEnv se L cl f fr) = pure false)
    (h : AW C n se value loc σ fun v σ₁ => AW C n se o loc σ₁ fun ov σ₂ => AW C n se i loc σ₂ fun iv σ₃ => Op3 C n setItem ov iv v σ₃ fun σ₄ => AX C n se rest loc σ₄ Φ) : AX C n se (.Assign [.Subscript o i pos'] value pos :: rest) loc σ Φ :=
  ax_cons (as_item h hw)
theorem sq_attr {o value : Expr} {x : Str} {pos' pos : Pos} {rest : List Stmt} (hw : ∀ L cl f fr, swapsWith value (some (Expr.Attribute o x pos')) pos.line (mkEnv se L cl f fr) = pure false)
    (h : AW C n se value loc σ fun v σ₁ => AW C n se o loc σ₁ fun ov σ₂ => Op3 C n (fun a _ c => setAttr a x c) ov .none v σ₂ fun σ₄ => AX C n se rest loc σ₄ Φ) : AX C n se (.Assign [.Attribute o x pos'] value pos :: rest) loc σ Φ :=
  ax_cons (as_attr h hw)
theorem sq_tupS {elts : List Expr} (xs : List Str) {k : Nat} {tpos pos : Pos} {value : Expr} {rest : List Stmt}
    (hk : ∀ x ∈ xs, se.sc.names.lookup x = some .local ∨ se.sc.names.lookup x = some .cell)
    (hw : ∀ L cl f fr, swapsWithSole [Expr.Tuple elts k tpos] value pos.line (mkEnv se L cl f fr) = pure false) (hw2 : ∀ L cl f fr, swappedStores [Expr.Tuple elts k tpos] value (mkEnv se L cl f fr) = pure (some xs))
    (h : AW C n se value loc σ fun v σ' => ∃ us, v = .tup us ∧ us.length = xs.length ∧ AX C n se rest (upAll loc (xs.reverse.zip us.reverse)) σ' Φ) : AX C n se (.Assign [.Tuple elts k tpos] value pos :: rest) loc σ Φ :=
  ax_cons (as_tupS h hk hw hw2)
theorem sq_aug {x : Str} {op : Operator} {value : Expr} {pos' pos : Pos} {u : PV} {rest : List Stmt} (hk : se.sc.names.lookup x = some .local) (hu : loc x = some u) (h : AW C n se value loc σ fun v σ₁ => Op2 C n (inplaceOp op) u v σ₁ fun r σ₂ => AX C n se rest (up loc x r) σ₂ Φ) :
    AX C n se (.AugAssign (.Name x pos') op value pos :: rest) loc σ Φ := ax_cons (as_aug hk hu h)
theorem sq_augattr {o value : Expr} {x : Str} {op : Operator} {tpos pos : Pos} {rest : List Stmt} (h : AW C n se o loc σ fun ov σ₁ => Op1 C n (fun V => getAttr V x true) ov σ₁ fun u σ₂ => AW C n se value loc σ₂ fun v σ₃ => Op2 C n (inplaceOp op) u v σ₃ fun r σ₄ => Op3 C n (fun a _ c => setAttr a x c) ov .none r σ₄ fun σ₅ => AX C n se rest loc σ₅ Φ) :
    AX C n se (.AugAssign (.Attribute o x tpos) op value pos :: rest) loc σ Φ := ax_cons (as_augattr h)
theorem sq_expr {e : Expr} {pos : Pos} {rest : List Stmt} (hw : ∀ L cl f fr, swapsWith e none pos.line (mkEnv se L cl f fr) = pure false) (hi : ∀ L cl f fr, interactive (mkEnv se L cl f fr) = false) (h : AW C n se e loc σ fun v σ' => AX C n se rest loc σ' Φ) : AX C n se (.Expr e pos :: rest) loc σ Φ :=
  ax_cons (as_expr h hw hi)
theorem sq_ret {e : Expr} {pos : Pos} {rest : List Stmt} (h : AW C n se e loc σ fun v σ' => Φ (.ret v) loc σ') : AX C n se (.Return (some e) pos :: rest) loc σ Φ := ax_cons (as_ret h)
theorem sq_continue {pos : Pos} {rest : List Stmt} (h : Φ .cont loc σ) : AX C n se (.Continue pos :: rest) loc σ Φ := ax_cons (as_continue h)

/-- what follows a statement -/
def Then (C : Cx) (n : Nat) (se : SE) (rest : List Stmt) (Φ : AFl → Loc → List AO → Prop) : AFl → Loc → List AO → Prop := fun f l s => match f with | .next => AX C n se rest l s Φ | f => Φ f l s
theorem then_nil : Then C n se [] Φ .next loc σ ↔ True ∧ AX C n se [] loc σ Φ := by unfold Then; simp
theorem then_next {rest : List Stmt} (h : AX C n se rest loc σ Φ) : Then C n se rest Φ .next loc σ := h
theorem then_cont {rest : List Stmt} (h : Φ .cont loc σ) : Then C n se rest Φ .cont loc σ := h
theorem then_ret {rest : List Stmt} {v : PV} (h : Φ (.ret v) loc σ) : Then C n se rest Φ (.ret v) loc σ := h

theorem sq_if {test : Expr} {body orelse : List Stmt} {pos : Pos} {rest : List Stmt} (h : AT C n se test loc σ fun b σ' => if b = true then AX C n se body loc σ' (Then C n se rest Φ) else AX C n se orelse loc σ' (Then C n se rest Φ)) : AX C n se (.If test body orelse pos :: rest) loc σ Φ :=
  ax_cons (as_if (h.mono fun b s x => x))

theorem ax_done {rest : List Stmt} (h : AX C n se rest loc σ Φ) : AX C n se [] loc σ (Then C n se rest Φ) := ax_nil h

/-- a loop over a list or a range; what follows it -/
def Turn (J : Loc → List AO → Prop) (Φ : AFl → Loc → List AO → Prop) (brk : Loc → List AO → Prop) : AFl → Loc → List AO → Prop := fun f l s => match f with | .next => J l s | .cont => J l s | .brk => brk l s | .ret v => Φ (.ret v) l s
theorem turn_next {J : Loc → List AO → Prop} {brk : Loc → List AO → Prop} (h : J loc σ) : AX C n se [] loc σ (Turn J Φ brk) := ax_nil h
theorem turn_cont {J : Loc → List AO → Prop} {brk : Loc → List AO → Prop} (h : J loc σ) : Turn J Φ brk .cont loc σ := h
theorem turn_ret {J : Loc → List AO → Prop} {brk : Loc → List AO → Prop} {v : PV} (h : Φ (.ret v) loc σ) : Turn J Φ brk (.ret v) loc σ := h

theorem sq_for {target iter : Expr} {body : List Stmt} {pos : Pos} {rest : List Stmt} (xs : List Str) (hf : ∀ env x, foldedSetIterable iter env x = pure x)
    (hx : AW C n se iter loc σ fun v σ₁ => ∃ us, ∃ J : Nat → Loc → List AO → Prop, J 0 loc σ₁ ∧ (∀ i l s, J i l s → Items s v us) ∧
      (∀ i u l s, us[i]? = Option.some u → J i l s → ∃ l', Tg C n se target xs u l l' ∧ AX C n se body l' s (Turn (J (i + 1)) (Then C n se rest Φ) (Then C n se rest Φ .next))) ∧
      (∀ l s, J us.length l s → AX C n se rest l s Φ)) : AX C n se (.For target iter body [] pos :: rest) loc σ Φ :=
  ax_cons (as_for (hx.mono fun v s ⟨us, J, a, b, c, d⟩ => ⟨us, J, a, b, fun i u l s e j => let ⟨l', t, k⟩ := c i u l s e j; ⟨l', t, k.mono fun f l s z => by cases f <;> exact z⟩, d⟩) hf)
theorem sq_while {test : Expr} {body : List Stmt} {pos : Pos} {rest : List Stmt} (J : Nat → Loc → List AO → Prop) (k₀ : Nat) (j0 : J k₀ loc σ)
    (turn : ∀ k l s, J k l s → AT C n se test l s fun b s' => if b = true then AX C n se body l s' (Turn (fun l s => ∃ k', k' < k ∧ J k' l s) (Then C n se rest Φ) (Then C n se rest Φ .next)) else AX C n se rest l s' Φ) : AX C n se (.While test body [] pos :: rest) loc σ Φ :=
  ax_cons (as_while J k₀ j0 fun k l s j => (turn k l s j).mono fun b s z => by
    cases b with
    | false => exact z
    | true =>
      rw [if_pos rfl] at z ⊢
      exact z.mono fun f l s z => by cases f <;> exact z)
end

def Ret (Φ : PV → List AO → Prop) : AFl → Loc → List AO → Prop := fun fl _ σ' => match fl with | .ret v => Φ v σ' | _ => Φ .none σ'
theorem ret_ret {Φ : PV → List AO → Prop} {v : PV} {loc : Loc} {σ : List AO} (h : Φ v σ) : Ret Φ (.ret v) loc σ := h

theorem ite_of {c : Bool} {X Y : Prop} (h1 : c = true → X) (h2 : c = false → Y) : if c = true then X else Y := by
  cases c with
  | true => rw [if_pos rfl]; exact h1 rfl
  | false => rw [if_neg Bool.false_ne_true]; exact h2 rfl
theorem ite_t {X Y : Prop} (h1 : X) : if true = true then X else Y := by rw [if_pos rfl]; exact h1
theorem ite_f {X Y : Prop} (h1 : Y) : if false = true then X else Y := by rw [if_neg Bool.false_ne_true]; exact h1

theorem acc_def' {C : Cx} {n : Nat} {σ : List AO} {Φ : PV → List AO → Prop} (G : C.Ok) {f : Addr} {args : List PV} {oc : Value} {od : Option Addr} {osl : Array (Option Value)} {name qual : Str} {params : Arguments} {body : List Stmt} {scope : Scope} {dV kV doc pm cdv ct : Value} {an : Option Addr}
    (ho : C.K.lookup f = some ⟨oc, od, .func (fnOf name qual params body scope dV kV doc pm an cdv ct), osl⟩) (hcd : codeIn C.K cdv qual = true)
    (hb : ∀ Vs : List Value, Vs.length = args.length → bindArgs (fnOf name qual params body scope dV kV doc pm an cdv ct) ⟨Vs, []⟩ = pure ((params.args.map (·.arg)).zip Vs))
    (hx : (params.args.map (·.arg)).all (fun x => scope.names.lookup x == some .local || scope.names.lookup x == some .cell) = true) (hfree : scope.names.all (fun y => y.2 != .free) = true)
    (hk : scope.kind = .function) (hco : scope.isCoroutine = false) (hgen : scope.isGenerator = false) (hnd : ((cellsFrom 0 scope.names []).map (·.1)).Nodup)
    (h : AX C n ⟨scope, cdv, qual ++ ".<locals>."⟩ body (binds0 (params.args.map (·.arg)) args) σ (Ret Φ)) : ACc C (n + 1) (.con (.ref f)) args σ Φ :=
  acc_def G ho hcd hb hx hfree hk hco hgen hnd h


theorem ret_nil {C : Cx} {n : Nat} {se : SE} {Φ : PV → List AO → Prop} {loc : Loc} {σ : List AO} (h : Φ .none σ) : AX C n se [] loc σ (Ret Φ) := ax_nil h

/-! the store's cells -/
theorem get_new (s : List AO) (o : AO) : (s ++ [o])[s.length]? = some o := by simp
theorem get_push {s : List AO} {o x : AO} {k : Nat} (h : s[k]? = some x) : (s ++ [o])[k]? = some x := by
  rw [List.getElem?_append_left (List.getElem?_eq_some_iff.mp h).1]; exact h
theorem get_set {s : List AO} {o x : AO} {k : Nat} (h : s[k]? = some x) : (s.set k o)[k]? = some o := List.getElem?_set_self (List.getElem?_eq_some_iff.mp h).1
theorem get_set2 {s : List AO} {o : AO} {k : Nat} (h : ∃ x, s[k]? = some x) : (s.set k o)[k]? = some o := let ⟨_, h⟩ := h; get_set h
theorem ex_push {s : List AO} {o : AO} {k : Nat} (h : ∃ x, s[k]? = some x) : ∃ x, (s ++ [o])[k]? = some x := let ⟨x, h⟩ := h; ⟨x, get_push h⟩
theorem ex_new {s : List AO} {o : AO} : ∃ x, (s ++ [o])[s.length]? = some x := ⟨o, get_new s o⟩
theorem ex_set {s : List AO} {o : AO} {j k : Nat} (h : ∃ x, s[k]? = some x) : ∃ x, (s.set j o)[k]? = some x := by
  obtain ⟨x, h⟩ := h
  have hk := (List.getElem?_eq_some_iff.mp h).1
  exact ⟨_, List.getElem?_eq_getElem (by rw [List.length_set]; exact hk)⟩
theorem get_set_ne {s : List AO} {o x : AO} {j k : Nat} (hjk : k ≠ j) (h : s[k]? = some x) : (s.set j o)[k]? = some x := by
  rw [List.getElem?_set_ne (Ne.symm hjk)]; exact h
theorem lt_get {s : List AO} {x : AO} {k : Nat} (h : s[k]? = some x) : k < s.length := (List.getElem?_eq_some_iff.mp h).1
theorem Ext.pushr {σ s : List AO} (h : Ext σ s) (o : AO) : Ext σ (s ++ [o]) := h.trans (.push _ _)

section
variable {C : Cx} {n : Nat} {se : SE} {loc : Loc} {σ : List AO} {Φ : PV → List AO → Prop} {ΦU : List AO → Prop}

theorem prs_last {l : List (Int × Int)} {p : Int × Int} (hl : l.getLast? = some p) : 0 < l.length ∧ (prs l)[((-1 : Int) + (prs l).length).toNat]? = some (pr p) := by
  have h0 : 0 < l.length := by
    cases l with
    | nil => simp at hl
    | cons _ _ => simp
  refine ⟨h0, ?_⟩
  have e : ((-1 : Int) + (prs l).length).toNat = l.length - 1 := by simp; omega
  rw [e, List.getElem?_map, ← List.getLast?_eq_getElem?, hl]; rfl

theorem op_last {v i : Expr} {k : Nat} {l : List (Int × Int)} {p : Int × Int} (e : σ[k]? = some (.lst (prs l))) (hl : l.getLast? = some p) (hz : l.length < 2 ^ 62) (hi : Plain i) (h : Φ (pr p) σ) :
    Op2 C n (subscriptTail v i) (.obj k) (.int (-1)) σ Φ := by
  obtain ⟨h0, h1⟩ := prs_last hl
  exact op_item_neg e (by omega) (by simp; omega) h1 (by simpa using hz) h hi
theorem op_fst {v i : Expr} {p : Int × Int} (hi : Plain i) (h : Φ (.int p.1) σ) : Op2 C n (subscriptTail v i) (pr p) (.int 0) σ Φ := op_tupitem (q := 0) (by rfl) (by rfl) (by omega) (by omega) h hi
theorem op_snd {v i : Expr} {p : Int × Int} (hi : Plain i) (h : Φ (.int p.2) σ) : Op2 C n (subscriptTail v i) (pr p) (.int 1) σ Φ := op_tupitem (q := 1) (by rfl) (by rfl) (by omega) (by omega) h hi
theorem op_setLast {k : Nat} {l : List (Int × Int)} {p : Int × Int} {q1 q2 : Int} (e : σ[k]? = some (.lst (prs l))) (hl : l.getLast? = some p) (hz : l.length < 2 ^ 62) (h : ΦU (σ.set k (.lst (prs (l.dropLast ++ [(q1, q2)]))))) : Op3 C n setItem (.obj k) (.int (-1)) (.tup [.int q1, .int q2]) σ ΦU := by
  obtain ⟨h0, h1⟩ := prs_last hl
  refine op_setItem (q := l.length - 1) e (.inl ⟨by omega, by simp; omega, by simp; omega⟩) (by simp; omega) (by simpa using hz) ?_
  have : (prs l).set (l.length - 1) (.tup [.int q1, .int q2]) = prs (l.dropLast ++ [(q1, q2)]) := by
    have hne : l ≠ [] := by rintro rfl; simp at h0
    have e1 : l = l.dropLast ++ [l.getLast hne] := (List.dropLast_concat_getLast hne).symm
    generalize l.getLast hne = x at e1
    generalize l.dropLast = m at e1
    subst e1
    simp
  rw [this]; exact h

/-- an item of a list of pairs, of ints -/
theorem op_itemP {v i : Expr} {k : Nat} {l : List (Int × Int)} {j : Int} {p : Int × Int} (e : σ[k]? = some (.lst (prs l))) (h0 : 0 ≤ j) (hp : l[j.toNat]? = some p) (hz : l.length < 2 ^ 62) (hi : Plain i) (h : Φ (pr p) σ) :
    Op2 C n (subscriptTail v i) (.obj k) (.int j) σ Φ := op_item e h0 (by rw [List.getElem?_map, hp]; rfl) (by simpa using hz) h hi
theorem op_itemI {v i : Expr} {k : Nat} {l : List Int} {j : Int} {p : Int} (e : σ[k]? = some (.lst (ins l))) (h0 : 0 ≤ j) (hp : l[j.toNat]? = some p) (hz : l.length < 2 ^ 62) (hi : Plain i) (h : Φ (.int p) σ) :
    Op2 C n (subscriptTail v i) (.obj k) (.int j) σ Φ := op_item e h0 (by rw [List.getElem?_map, hp]; rfl) (by simpa using hz) h hi
theorem op_lastI {v i : Expr} {k : Nat} {l : List Int} {p : Int} (e : σ[k]? = some (.lst (ins l))) (hl : l.getLast? = some p) (hz : l.length < 2 ^ 62) (hi : Plain i) (h : Φ (.int p) σ) :
    Op2 C n (subscriptTail v i) (.obj k) (.int (-1)) σ Φ := by
  have h0 : 0 < l.length := by
    cases l with
    | nil => simp at hl
    | cons _ _ => simp
  have e' : ((-1 : Int) + (ins l).length).toNat = l.length - 1 := by simp; omega
  exact op_item_neg e (by omega) (by simp; omega) (by rw [e', List.getElem?_map, ← List.getLast?_eq_getElem?, hl]; rfl) (by simpa using hz) h hi

theorem ac_appendP {k : Nat} {l : List (Int × Int)} {q1 q2 : Int} (e : σ[k]? = some (.lst (prs l))) (hz : l.length ≤ sizeLine) (h : Φ .none (σ.set k (.lst (prs (l ++ [(q1, q2)]))))) : AC C n (.con (.builtin "list.append")) [.obj k, .tup [.int q1, .int q2]] σ Φ :=
  ac_append e (by simpa using hz) (by rw [show [PV.tup [.int q1, .int q2]] = prs [(q1, q2)] from rfl, ← List.map_append]; exact h)
theorem ac_appendI {k : Nat} {l : List Int} {p : Int} (e : σ[k]? = some (.lst (ins l))) (hz : l.length ≤ sizeLine) (h : Φ .none (σ.set k (.lst (ins (l ++ [p]))))) : AC C n (.con (.builtin "list.append")) [.obj k, .int p] σ Φ :=
  ac_append e (by simpa using hz) (by rw [← List.map_singleton (f := PV.int), ← List.map_append]; exact h)
theorem ac_lenP {k : Nat} {l : List (Int × Int)} (e : σ[k]? = some (.lst (prs l))) (hz : l.length < 2 ^ 62) (h : Φ (.int l.length) σ) : AC C n (.con (.builtin "len")) [.obj k] σ Φ :=
  ac_len e (by simpa using hz) (by simpa using h)
theorem ac_lenI {k : Nat} {l : List Int} (e : σ[k]? = some (.lst (ins l))) (hz : l.length < 2 ^ 62) (h : Φ (.int l.length) σ) : AC C n (.con (.builtin "len")) [.obj k] σ Φ :=
  ac_len e (by simpa using hz) (by simpa using h)
theorem opC_neP0 {i j : Nat} {a : List (Int × Int)} (e1 : σ[i]? = some (.lst (prs a))) (e2 : σ[j]? = some (.lst [])) (h : Φ (.bool (!decide (a = []))) σ) : Op2 C n (compareOp .NotEq) (.obj i) (.obj j) σ Φ := opC_neP (b := []) e1 e2 h
theorem opC_neI0 {i j : Nat} {a : List Int} (e1 : σ[i]? = some (.lst (ins a))) (e2 : σ[j]? = some (.lst [])) (h : Φ (.bool (!decide (a = []))) σ) : Op2 C n (compareOp .NotEq) (.obj i) (.obj j) σ Φ := opC_neI (b := []) e1 e2 h
theorem opC_eqP0 {i j : Nat} {a : List (Int × Int)} (e1 : σ[i]? = some (.lst (prs a))) (e2 : σ[j]? = some (.lst [])) (h : Φ (.bool (decide (a = []))) σ) : Op2 C n (compareOp .Eq) (.obj i) (.obj j) σ Φ := opC_eqP (b := []) e1 e2 h
theorem opC_eqI0 {i j : Nat} {a : List Int} (e1 : σ[i]? = some (.lst (ins a))) (e2 : σ[j]? = some (.lst [])) (h : Φ (.bool (decide (a = []))) σ) : Op2 C n (compareOp .Eq) (.obj i) (.obj j) σ Φ := opC_eqI (b := []) e1 e2 h
end

/-- a new list holds l -/
def NewL (σ : List AO) (l : List PV) (Φ : PV → List AO → Prop) : Prop := ∀ j σ', Ext σ σ' → σ.length ≤ j → σ'[j]? = some (.lst l) → Φ (.obj j) σ'
theorem NewL.ext {σ σ₁ : List AO} {l : List PV} {Φ : PV → List AO → Prop} (x : Ext σ σ₁) (h : NewL σ l Φ) : NewL σ₁ l Φ := fun j σ' a b c => h j σ' (x.trans a) (Nat.le_trans x.le b) c

/-- one step of normal -/
def mstep (fd : List (Int × Int)) (p : Int × Int) : List (Int × Int) :=
  if p.2 ≤ p.1 then fd else match fd.getLast? with
    | some q => if p.1 ≤ q.2 then fd.dropLast ++ [(q.1, if p.2 > q.2 then p.2 else q.2)] else fd ++ [p]
    | none => fd ++ [p]
theorem mstep_len (fd : List (Int × Int)) (p : Int × Int) : (mstep fd p).length ≤ fd.length + 1 := by
  unfold mstep
  split
  · omega
  · split
    · split
      · rw [List.length_append, List.length_dropLast]; simp only [List.length_cons, List.length_nil]; omega
      · simp
    · simp
def sortP (ps : List (Int × Int)) : List (Int × Int) := ps.mergeSort fun x y => !lx y x
def nf (ps : List (Int × Int)) : List (Int × Int) := (sortP ps).foldl mstep []

theorem sortP_eq {ps qs : List (Int × Int)} (hp : qs.Perm ps) (hs : qs.Pairwise fun x y => lx y x = false) : qs = sortP ps := by
  refine List.Perm.eq_of_pairwise (le := fun x y => lx y x = false) (fun a b _ _ h1 h2 => ?_) hs ?_ (hp.trans (List.mergeSort_perm _ _).symm)
  · have k1 : ¬ (b.1 < a.1 ∨ (b.1 = a.1 ∧ b.2 < a.2)) := fun k => by rw [lx_iff.mpr k] at h1; cases h1
    have k2 : ¬ (a.1 < b.1 ∨ (a.1 = b.1 ∧ a.2 < b.2)) := fun k => by rw [lx_iff.mpr k] at h2; cases h2
    exact Prod.ext (by omega) (by omega)
  · have := List.pairwise_mergeSort (le := fun x y : Int × Int => !lx y x) (fun a b c h1 h2 => ?_) (fun a b => ?_) ps
    · exact this.imp fun h => by simpa using h
    · have k1 : ¬ (b.1 < a.1 ∨ (b.1 = a.1 ∧ b.2 < a.2)) := fun k => by rw [lx_iff.mpr k] at h1; cases h1
      have k2 : ¬ (c.1 < b.1 ∨ (c.1 = b.1 ∧ c.2 < b.2)) := fun k => by rw [lx_iff.mpr k] at h2; cases h2
      cases hb : lx c a with
      | false => rfl
      | true => rw [lx_iff] at hb; omega
    · cases h1 : lx b a with
      | false => rfl
      | true =>
        cases h2 : lx a b with
        | false => rfl
        | true => rw [lx_iff] at h1 h2; omega

theorem compOk {se : SE} {scope : Scope} {xs : List Str} (h1 : scope.kind = .function) (h2 : (scope.names.map (·.1)).Nodup)
    (h3 : scope.names.all (fun p => p.2 != .free || se.sc.names.lookup p.1 == some .cell || se.sc.names.lookup p.1 == some .free) = true) (h4 : xs.all (fun x => scope.names.lookup x != some .free) = true) : CompOk se scope xs := by
  refine ⟨h1, h2, fun y hy => ?_, fun x hx e => ?_⟩
  · have := List.all_eq_true.mp h3 _ hy
    simpa using this
  · have := List.all_eq_true.mp h4 x hx
    rw [e] at this; simp at this

theorem inner_get {loc : Loc} {scope : Scope} {x : Str} {v : PV} (h1 : scope.names.lookup x = some .free) (h2 : loc x = some v) : inner loc scope x = some v := by
  unfold inner; rw [if_pos h1]; exact h2
theorem inner_up {loc l : Loc} {scope : Scope} {x : Str} {u : PV} (hx : scope.names.lookup x ≠ some .free) (h : ∀ y v, inner loc scope y = some v → l y = some v) : ∀ y v, inner loc scope y = some v → up l x u y = some v := by
  intro y v e
  unfold up
  by_cases q : y = x
  · subst q
    unfold inner at e; rw [if_neg hx] at e; cases e
  · rw [if_neg q]; exact h y v e

def rngI (a b : Int) : List Int := (List.range (b - a).toNat).map fun (i : Nat) => a + (i : Int)
theorem rngPV_ins (a b : Int) : rngPV a b = ins (rngI a b) := by
  unfold rngPV rngI ins; rw [List.map_map]; rfl
theorem rngI_mem {a b x : Int} : x ∈ rngI a b ↔ a ≤ x ∧ x < b := by
  unfold rngI
  rw [List.mem_map]
  constructor
  · rintro ⟨i, hi, rfl⟩
    rw [List.mem_range] at hi; omega
  · intro h
    exact ⟨(x - a).toNat, by rw [List.mem_range]; omega, by omega⟩
theorem rngI_length (a b : Int) : (rngI a b).length = (b - a).toNat := by simp [rngI]
theorem items_rng {σ : List AO} {a b : Int} (h1 : -(2 ^ 62) ≤ a) (h2 : a < 2 ^ 62) (h3 : -(2 ^ 62) ≤ b) (h4 : b < 2 ^ 62) : Items σ (.rng a b) (ins (rngI a b)) := ⟨(rngPV_ins a b).symm, h1, h2, h3, h4⟩

def unP : PV → Int × Int
  | .tup [.int a, .int b] => (a, b)
  | _ => (0, 0)
def unI : PV → Int
  | .int a => a
  | _ => 0
theorem filtP (p : Int × Int → Bool) (g : Int × Int → PV) (us : List (Int × Int)) : ((prs us).filter fun u => p (unP u)).map (fun u => g (unP u)) = (us.filter p).map g := by
  rw [List.filter_map, List.map_map]; rfl
theorem filtI (p : Int → Bool) (g : Int → PV) (us : List Int) : ((ins us).filter fun u => p (unI u)).map (fun u => g (unI u)) = (us.filter p).map g := by
  rw [List.filter_map, List.map_map]; rfl

section
variable {C : Cx} {n : Nat} {se : SE} {loc : Loc} {σ : List AO} {Φ : PV → List AO → Prop} {elt iter : Expr} {ifs : List Expr} {scope : Scope}

/-- a turn: the tests, the item -/
def Cell (C : Cx) (n : Nat) (se : SE) (ifs : List Expr) (elt : Expr) (l : Loc) (σ : List AO) (b : Bool) (w : PV) : Prop :=
  ATs C n se ifs l σ fun c σ' => c = b ∧ Ext σ σ' ∧ (b = true → AW C n se elt l σ' fun v σ'' => v = w ∧ Ext σ' σ'')

theorem aw_comp2 {x y : Str} {k : Nat} {px py tp pos : Pos} (p : Int × Int → Bool) (g : Int × Int → PV) (O : CompOk se scope [x, y])
    (hkx : (seOf scope se).sc.names.lookup x = some .local ∨ (seOf scope se).sc.names.lookup x = some .cell) (hky : (seOf scope se).sc.names.lookup y = some .local ∨ (seOf scope se).sc.names.lookup y = some .cell)
    (hx : AW C n se iter loc σ fun v σ₁ => ∃ us : List (Int × Int), Items σ₁ v (prs us) ∧ us.length ≤ sizeLine ∧
      (∀ q ∈ us, ∀ σ', Ext σ₁ σ' → Cell C n (seOf scope se) ifs elt (up (up (inner loc scope) x (.int q.1)) y (.int q.2)) σ' (p q) (g q)) ∧ NewL σ₁ ((us.filter p).map g) Φ)
    (hs' : ∀ env x, foldedSetIterable iter env x = pure x) : AW C n se (.ListComp elt [⟨.Tuple [.Name x px, .Name y py] k tp, iter, ifs, 0⟩] scope pos) loc σ Φ := by
  refine aw_comp (xs := [x, y]) (fun u => p (unP u)) (fun u => g (unP u)) O (hx.mono fun v σ₁ ⟨us, h1, h2, h3, h4⟩ => ⟨prs us, h1, by simpa using h2, fun u hu σ' hx => ?_, fun j σ' hx hj ej => ?_⟩) hs'
  · obtain ⟨q, hq, rfl⟩ := List.mem_map.mp hu
    exact ⟨_, tg_two hkx hky, inner_up (O.xs y (by simp)) (inner_up (O.xs x (by simp)) fun _ _ e => e), h3 q hq σ' hx⟩
  · rw [filtP] at ej
    exact h4 j σ' hx hj ej

theorem aw_comp1 {x : Str} {px pos : Pos} (p : Int → Bool) (g : Int → PV) (O : CompOk se scope [x])
    (hkx : (seOf scope se).sc.names.lookup x = some .local ∨ (seOf scope se).sc.names.lookup x = some .cell)
    (hx : AW C n se iter loc σ fun v σ₁ => ∃ us : List Int, Items σ₁ v (ins us) ∧ us.length ≤ sizeLine ∧
      (∀ q ∈ us, ∀ σ', Ext σ₁ σ' → Cell C n (seOf scope se) ifs elt (up (inner loc scope) x (.int q)) σ' (p q) (g q)) ∧ NewL σ₁ ((us.filter p).map g) Φ)
    (hs' : ∀ env x, foldedSetIterable iter env x = pure x) : AW C n se (.ListComp elt [⟨.Name x px, iter, ifs, 0⟩] scope pos) loc σ Φ := by
  refine aw_comp (xs := [x]) (fun u => p (unI u)) (fun u => g (unI u)) O (hx.mono fun v σ₁ ⟨us, h1, h2, h3, h4⟩ => ⟨ins us, h1, by simpa using h2, fun u hu σ' hx => ?_, fun j σ' hx hj ej => ?_⟩) hs'
  · obtain ⟨q, hq, rfl⟩ := List.mem_map.mp hu
    exact ⟨_, tg_name hkx, inner_up (O.xs x (by simp)) fun _ _ e => e, h3 q hq σ' hx⟩
  · rw [filtI] at ej
    exact h4 j σ' hx hj ej

theorem sq_comp1 {z x : Str} {pz px pos spos : Pos} {rest : List Stmt} {Φ : AFl → Loc → List AO → Prop} (p : Int → Bool) (g : Int → PV) (O : CompOk se scope [x])
    (hkx : (seOf scope se).sc.names.lookup x = some .local ∨ (seOf scope se).sc.names.lookup x = some .cell) (hz : se.sc.names.lookup z = some .local)
    (hw : ∀ L cl f fr, swapsWith (.ListComp elt [⟨.Name x px, iter, ifs, 0⟩] scope pos) (some (Expr.Name z pz)) spos.line (mkEnv se L cl f fr) = pure true)
    (hs' : ∀ env x, foldedSetIterable iter env x = pure x)
    (hx : AW C n se iter loc σ fun v σ₁ => ∃ us : List Int, Items σ₁ v (ins us) ∧ us.length ≤ sizeLine ∧
      (∀ q ∈ us, ∀ σ', Ext σ₁ σ' → Cell C n (seOf scope se) ifs elt (up (inner loc scope) x (.int q)) σ' (p q) (g q)) ∧
      NewL σ₁ ((us.filter p).map g) fun v σ' => AX C n se rest (up loc z v) σ' Φ) :
    AX C n se (.Assign [.Name z pz] (.ListComp elt [⟨.Name x px, iter, ifs, 0⟩] scope pos) spos :: rest) loc σ Φ := by
  refine ax_cons (as_comp (xs := [x]) (fun u => p (unI u)) (fun u => g (unI u)) O (hx.mono fun v σ₁ ⟨us, h1, h2, h3, h4⟩ => ⟨ins us, h1, by simpa using h2, fun u hu σ' hx => ?_, fun j σ' hx hj ej => ?_⟩) hs' hz hw)
  · obtain ⟨q, hq, rfl⟩ := List.mem_map.mp hu
    exact ⟨_, tg_name hkx, inner_up (O.xs x (by simp)) fun _ _ e => e, h3 q hq σ' hx⟩
  · rw [filtI] at ej
    exact h4 j σ' hx hj ej

/-- no test -/
theorem cell_nil {l : Loc} {w : PV} (h : AW C n se elt l σ fun v σ'' => v = w ∧ Ext σ σ'') : Cell C n se [] elt l σ true w := ⟨rfl, .refl _, fun _ => h⟩
theorem cell_one {l : Loc} {w : PV} {b : Bool} {c : Expr} (h : AT C n se c l σ fun d σ' => d = b ∧ Ext σ σ' ∧ (b = true → AW C n se elt l σ' fun v σ'' => v = w ∧ Ext σ' σ'')) : Cell C n se [c] elt l σ b w := h
theorem filt_true {α : Type} (l : List α) : l.filter (fun _ => true) = l := by simp
end

theorem take_split {α : Type} {us : List α} {i : Nat} {q : α} (h : us[i]? = some q) : us = us.take i ++ q :: us.drop (i + 1) ∧ us.take (i + 1) = us.take i ++ [q] := by
  have hi := (List.getElem?_eq_some_iff.mp h).1
  refine ⟨?_, by rw [List.take_add_one, h]; rfl⟩
  have := List.drop_eq_getElem_cons hi
  rw [(List.getElem?_eq_some_iff.mp h).2] at this
  rw [← this, List.take_append_drop]

section
variable {C : Cx} {n : Nat} {se : SE} {loc : Loc} {σ : List AO} {Φ : AFl → Loc → List AO → Prop} {iter : Expr} {body rest : List Stmt}

theorem sq_for2 {x y : Str} {k : Nat} {px py tp pos : Pos} (hkx : se.sc.names.lookup x = some .local ∨ se.sc.names.lookup x = some .cell) (hky : se.sc.names.lookup y = some .local ∨ se.sc.names.lookup y = some .cell) (hf : ∀ env x, foldedSetIterable iter env x = pure x)
    (hx : AW C n se iter loc σ fun v σ₁ => ∃ us : List (Int × Int), ∃ J : List (Int × Int) → Loc → List AO → Prop, J [] loc σ₁ ∧ (∀ d l s, J d l s → Items s v (prs us)) ∧
      (∀ d q r l s, us = d ++ q :: r → J d l s → AX C n se body (up (up l x (.int q.1)) y (.int q.2)) s (Turn (J (d ++ [q])) (Then C n se rest Φ) (Then C n se rest Φ .next))) ∧
      (∀ l s, J us l s → AX C n se rest l s Φ)) : AX C n se (.For (.Tuple [.Name x px, .Name y py] k tp) iter body [] pos :: rest) loc σ Φ := by
  refine sq_for [x, y] hf (hx.mono fun v σ₁ ⟨us, J, h1, h2, h3, h4⟩ => ⟨prs us, fun i l s => J (us.take i) l s, by simpa using h1, fun i l s j => h2 _ l s j, fun i u l s hu j => ?_, fun l s j => h4 l s (by simpa using j)⟩)
  rw [List.getElem?_map] at hu
  cases e : us[i]? with
  | none => rw [e] at hu; cases hu
  | some q =>
    rw [e] at hu
    cases hu
    obtain ⟨e1, e2⟩ := take_split e
    refine ⟨_, tg_two hkx hky, ?_⟩
    have := h3 _ q _ l s e1 j
    rw [← e2] at this
    exact this

theorem sq_for1 {x : Str} {px pos : Pos} (hkx : se.sc.names.lookup x = some .local ∨ se.sc.names.lookup x = some .cell) (hf : ∀ env x, foldedSetIterable iter env x = pure x)
    (hx : AW C n se iter loc σ fun v σ₁ => ∃ us : List Int, ∃ J : List Int → Loc → List AO → Prop, J [] loc σ₁ ∧ (∀ d l s, J d l s → Items s v (ins us)) ∧
      (∀ d q r l s, us = d ++ q :: r → J d l s → AX C n se body (up l x (.int q)) s (Turn (J (d ++ [q])) (Then C n se rest Φ) (Then C n se rest Φ .next))) ∧
      (∀ l s, J us l s → AX C n se rest l s Φ)) : AX C n se (.For (.Name x px) iter body [] pos :: rest) loc σ Φ := by
  refine sq_for [x] hf (hx.mono fun v σ₁ ⟨us, J, h1, h2, h3, h4⟩ => ⟨ins us, fun i l s => J (us.take i) l s, by simpa using h1, fun i l s j => h2 _ l s j, fun i u l s hu j => ?_, fun l s j => h4 l s (by simpa using j)⟩)
  rw [List.getElem?_map] at hu
  cases e : us[i]? with
  | none => rw [e] at hu; cases hu
  | some q =>
    rw [e] at hu
    cases hu
    obtain ⟨e1, e2⟩ := take_split e
    refine ⟨_, tg_name hkx, ?_⟩
    have := h3 _ q _ l s e1 j
    rw [← e2] at this
    exact this
end

section
variable {C : Cx} {n : Nat} {se : SE} {loc : Loc} {σ : List AO} {Φ : AFl → Loc → List AO → Prop}
def tupOf : PV → List PV
  | .tup us => us
  | _ => []
theorem sq_tup (ts : List (Str × Pos)) {elts : List Expr} {k : Nat} {tpos pos : Pos} {value : Expr} {rest : List Stmt} (he : elts = ts.map fun t => Expr.Name t.1 t.2)
    (hk : ∀ t ∈ ts.map (·.1), se.sc.names.lookup t = some .local ∨ se.sc.names.lookup t = some .cell)
    (hw : ∀ L cl f fr, swapsWithSole [Expr.Tuple elts k tpos] value pos.line (mkEnv se L cl f fr) = pure false) (hw2 : ∀ L cl f fr, swappedStores [Expr.Tuple elts k tpos] value (mkEnv se L cl f fr) = pure none)
    (h : AW C n se value loc σ fun v σ' => ∃ us, v = .tup us ∧ us.length = ts.length ∧ AX C n se rest (upAll loc ((ts.map (·.1)).zip us)) σ' Φ) : AX C n se (.Assign [.Tuple elts k tpos] value pos :: rest) loc σ Φ := by
  subst he
  refine ax_cons (as_tup (xs := ts.map (·.1)) (loc' := fun l v => upAll l ((ts.map (·.1)).zip (tupOf v))) (h.mono fun v σ' ⟨us, e, hl, k⟩ => ?_) hw hw2)
  subst e
  exact ⟨tg_names ts hl.symm fun t ht => hk t.1 (List.mem_map_of_mem ht), k⟩
end

/-! the instances -/
def wfs (k : Nat) (i : Int) : List (Str × PV) := [("spans", .obj k), ("at", .int i)]
theorem wfs_spans (k : Nat) (i : Int) : getFs "spans" (wfs k i) = some (.obj k) := by
  simp only [wfs, getFs]; rw [if_pos (by decide)]
theorem wfs_at (k : Nat) (i : Int) : getFs "at" (wfs k i) = some (.int i) := by
  simp only [wfs, getFs]; rw [if_neg (by decide), if_pos (by decide)]
theorem wfs_holds (k : Nat) (i : Int) : getFs "holds" (wfs k i) = none := by
  simp only [wfs, getFs]; rw [if_neg (by decide), if_neg (by decide)]
theorem wfs_put (k : Nat) (i j : Int) : putFs "at" (.int j) (wfs k i) = wfs k j := by
  simp only [wfs, putFs]; rw [if_neg (by decide), if_pos (by decide)]
theorem wfs_put1 (k : Nat) : putFs "spans" (.obj k) [] = [(("spans" : Str), PV.obj k)] := rfl
theorem wfs_put2 (k : Nat) : putFs "at" (.int 0) [(("spans" : Str), PV.obj k)] = wfs k 0 := by
  simp only [wfs, putFs]; rw [if_neg (by decide)]

section
variable {w : World} {h₀ : Heap} {tabs : List Tab} {n : Nat} {σ : List AO} {Φ : PV → List AO → Prop} {ΦU : List AO → Prop}

theorem op_at (G : (cx w h₀ tabs).Ok) {i d k : Nat} {a : Int} {b : Bool} (e : σ[i]? = some (.ins 64 d)) (ed : σ[d]? = some (.dct (wfs k a))) (h : Φ (.int a) σ) : Op1 (cx w h₀ tabs) n (fun V => getAttr V "at" b) (.obj i) σ Φ :=
  op_getAttr G e ed (by show plainGet (hd.heap_39 _) _ _ = _; k_is) (by show hasDictIn (hd.heap_39 _) _ = _; k_is) (by show findIn (hd.heap_39 _) _ _ = _; k_is) (by show noGet (hd.heap_39 _) _ = _; k_is) (wfs_at k a) (fun _ z => by cases z) h
theorem op_spans (G : (cx w h₀ tabs).Ok) {i d k : Nat} {a : Int} {b : Bool} (e : σ[i]? = some (.ins 64 d)) (ed : σ[d]? = some (.dct (wfs k a))) (h : Φ (.obj k) σ) : Op1 (cx w h₀ tabs) n (fun V => getAttr V "spans" b) (.obj i) σ Φ :=
  op_getAttr G e ed (by show plainGet (hd.heap_39 _) _ _ = _; k_is) (by show hasDictIn (hd.heap_39 _) _ = _; k_is) (by show findIn (hd.heap_39 _) _ _ = _; k_is) (by show noGet (hd.heap_39 _) _ = _; k_is) (wfs_spans k a) (fun _ z => by cases z) h
theorem op_put (G : (cx w h₀ tabs).Ok) {i d : Nat} {x : Str} {v : PV} {fs : List (Str × PV)} (e : σ[i]? = some (.ins 64 d)) (ed : σ[d]? = some (.dct fs)) (hz : fs.length ≤ 900) (hx : takerIn (hd.heap_39 w.params) 64 x = some none) (h : ΦU (σ.set d (.dct (putFs x v fs)))) :
    Op3 (cx w h₀ tabs) n (fun a _ c => setAttr a x c) (.obj i) .none v σ ΦU :=
  op_setAttr G e ed (by show findIn (hd.heap_39 _) _ _ = _; k_is) (by show plainOver (hd.heap_39 _) _ = _; k_is) hx (by show hasDictIn (hd.heap_39 _) _ = _; k_is) hz h
theorem op_put_at (G : (cx w h₀ tabs).Ok) {i d k : Nat} {a j : Int} (e : σ[i]? = some (.ins 64 d)) (ed : σ[d]? = some (.dct (wfs k a))) (h : ΦU (σ.set d (.dct (wfs k j)))) :
    Op3 (cx w h₀ tabs) n (fun a _ c => setAttr a "at" c) (.obj i) .none (.int j) σ ΦU :=
  op_put G e ed (by simp [wfs]) (by k_is) (by rw [wfs_put]; exact h)


theorem aw_holds {se : SE} {loc : Loc} (G : (cx w h₀ tabs).Ok) {o : Expr} {apos pos : Pos} {args : List Expr} (k d kk : Nat) (a : Int)
    (h : AW (cx w h₀ tabs) n se o loc σ fun ov σ₁ => ov = .obj k ∧ σ₁[k]? = some (.ins 64 d) ∧ σ₁[d]? = some (.dct (wfs kk a)) ∧ AWs (cx w h₀ tabs) n se args loc σ₁ fun vs σ₂ => AC (cx w h₀ tabs) n (.con (.ref 61)) (.obj k :: vs) σ₂ Φ)
    (he : ∀ env, ∃ pl, eval (.Call (.Attribute o "holds" apos) args [] pos) env = (do
          let ov ← eval o env
          standAt (Pos.atName apos)
          let __x ← holding [ov] (getMethod ov "holds" pl)
          match __x with
            | (f, first) => callWith pos f first (backTo pos (starEach args env)) [])) (hp : ∀ env, (starEach args env).any (·.1) = false) :
    AW (cx w h₀ tabs) n se (.Call (.Attribute o "holds" apos) args [] pos) loc σ Φ :=
  aw_method G h (by show plainGet (hd.heap_39 _) _ _ = _; k_is) (by show findIn (hd.heap_39 _) _ _ = _; k_is) (by show isFn (hd.heap_39 _) _ = _; k_is) (by show keepIn (hd.heap_39 _) _ = _; k_is) (wfs_holds kk a) he hp
end

theorem words : True := by
  k_with "my loc" => (first
    | with_reducible exact up_same _ _ _
    | with_reducible assumption
    | ((with_reducible apply inner_get); (exact rfl); k_extra "my loc")
    | ((with_reducible refine' (up_same _ _ _).trans ?_); (exact rfl))
    | (refine (up_skip _ _ _ _ (by decide)).trans ?_; k_extra "my loc"))
  k_with "my name" => (first
    | ((with_reducible refine' aw_local ?zza ?zzb ?_ ?zzc); (case zza => rfl); (case zzb => k_extra "my loc"); (case zzc => decide))
    | ((with_reducible refine' aw_glob ?zzg ?zza ?zzb ?_ ?zzc); (case zzg => assumption); (case zza => rfl); (case zzb => (show nsIn (hd.heap_39 _) _ _ = _; k_is)); (case zzc => decide))
    | ((with_reducible refine' aw_built ?zzg ?zza ?zzb ?zzd ?zzf ?_ ?zzc); (case zzg => assumption); (case zza => rfl); (case zzb => (show nsIn (hd.heap_39 _) _ _ = _; k_is)); (case zzd => boot_by_name); (case zzf => decide); (case zzc => decide))
    | ((with_reducible refine' aw_cell ?zza ?zzb ?_ ?zzc ?zzd); (case zza => first | exact .inl rfl | exact .inr rfl); (case zzb => k_extra "my loc"); (case zzc => decide); (case zzd => decide)))
  k_with "my def" => (
    (with_reducible refine' acc_def' ?zzg ?zzl ?zzcd ?zzmdef ?zza ?zzb ?zzc ?zzd ?zze ?zzf ?_)
    (case zzg => assumption)
    (case zzl => (show List.lookup _ (hd.heap_39 _) = _; k_is))
    (case zzcd => (show codeIn (hd.heap_39 _) _ _ = _; k_is))
    (case zzmdef =>
      intro Vs hV
      rcases Vs with _ | ⟨_, _ | ⟨_, _ | ⟨_, _ | ⟨_, _ | ⟨_, _⟩⟩⟩⟩⟩ <;> first | rfl | (simp at hV; done))
    (case zza => rfl)
    (case zzb => rfl)
    (case zzc => rfl)
    (case zzd => rfl)
    (case zze => rfl)
    (case zzf => decide)
    (simp only [binds0, List.map_cons, List.map_nil, List.zip_cons_cons, List.zip_nil_right, List.zip_nil_left, upAll]))
  k_with "my st" => ((with_reducible show AG _ _ _ _ _ _ _); first
    | (with_reducible refine' sq_ret ?_)
    | (with_reducible refine' sq_continue ?_)
    | ((with_reducible refine' sq_aug ?zza ?zzb ?_); (case zza => rfl); (case zzb => k_extra "my loc"))
    | (with_reducible refine' sq_augattr ?_)
    | ((with_reducible refine' sq_item ?zza ?_); (case zza => exact fun _ _ _ _ => rfl))
    | ((with_reducible refine' sq_attr ?zza ?_); (case zza => exact fun _ _ _ _ => rfl))
    | ((with_reducible refine' sq_name ?zza ?zzb ?_); (case zza => first | exact .inl rfl | exact .inr rfl); (case zzb => exact fun _ _ _ _ => rfl))
    | ((with_reducible refine' sq_expr ?zza ?zzb ?_); (case zza => exact fun _ _ _ _ => rfl); (case zzb => exact fun _ _ _ _ => rfl))
    | (with_reducible refine' sq_if ?_)
    | ((with_reducible refine' sq_for2 ?zza ?zzb ?zzc ?_); (case zza => first | exact .inl rfl | exact .inr rfl); (case zzb => first | exact .inl rfl | exact .inr rfl); (case zzc => exact fun _ _ => rfl))
    | ((with_reducible refine' sq_for1 ?zza ?zzc ?_); (case zza => first | exact .inl rfl | exact .inr rfl); (case zzc => exact fun _ _ => rfl)))
  k_with "my aw" => ((with_reducible show AW _ _ _ _ _ _ _); first
    | k_extra "my name"
    | (with_reducible refine' aw_int ?_)
    | (with_reducible refine' aw_none ?_)
    | (with_reducible refine' aw_bool ?_)
    | (with_reducible refine' aw_bin ?_)
    | ((with_reducible refine' aw_cmp ?_ ?zza); (case zza => rfl))
    | (with_reducible refine' aw_not ?_)
    | (with_reducible refine' aw_sub ?_)
    | (with_reducible refine' aw_ifexp ?_)
    | (with_reducible refine' aw_one ?_)
    | (with_reducible refine' aw_and ?_)
    | (with_reducible refine' aw_or ?_)
    | (with_reducible refine' aw_tuple ?_)
    | (with_reducible refine' aw_list ?_)
    | ((with_reducible refine' aw_attr ?_ ?zza); (case zza => exact fun _ => rfl))
    | ((with_reducible refine' aw_append ?_ ?zza ?zzb); (case zza => exact fun _ => ⟨_, rfl⟩); (case zzb => exact fun _ => rfl))
    | ((with_reducible refine' aw_call ?_ ?zza ?zzb); (case zza => exact fun _ => rfl); (case zzb => exact fun _ => rfl)))
  k_with "my at" => ((with_reducible show AT _ _ _ _ _ _ _); first
    | ((with_reducible refine' at_cmp ?_ ?zza); (case zza => rfl))
    | ((with_reducible refine' at_cmp2 ?_ ?zza); (case zza => rfl))
    | (with_reducible refine' at_not ?_)
    | (with_reducible refine' at_and0 ?_)
    | (with_reducible refine' at_or0 ?_)
    | (with_reducible refine' at_and ?_)
    | (with_reducible refine' at_or ?_)
    | ((with_reducible refine' at_plain ?_ ?zza); (case zza => exact fun _ _ => rfl)))
  k_with "my aws" => ((with_reducible show AWs _ _ _ _ _ _ _); first
    | (with_reducible refine' aws_nil ?_)
    | ((with_reducible refine' aws_cons ?_ ?zza); (case zza => exact fun _ => rfl)))
  k_with "my ex" => (first
    | exact ⟨_, by with_reducible assumption⟩
    | with_reducible exact ex_new
    | ((with_reducible refine ex_push ?_); k_extra "my ex")
    | ((with_reducible refine ex_set ?_); k_extra "my ex"))
  k_with "my sig" => (first
    | with_reducible assumption
    | with_reducible exact get_new _ _
    | ((with_reducible refine get_push ?_); k_extra "my sig")
    | ((with_reducible refine get_set2 ?_); k_extra "my ex")
    | ((with_reducible refine get_set_ne ?zzhne ?_); (case zzhne => omega); k_extra "my sig")
    | ((with_reducible refine Eq.trans (get_set2 ?zzhse) ?_); (case zzhse => k_extra "my ex"); (exact rfl))
    | ((with_reducible refine Eq.trans (get_new _ _) ?_); (exact rfl))
    | ((refine Eq.trans (by with_reducible assumption) ?_); (exact rfl)))
  k_with "my norm" => (simp only [List.map_cons, List.map_nil, List.reverse_cons, List.reverse_nil, List.nil_append, List.cons_append, List.zip_cons_cons, List.zip_nil_right, List.zip_nil_left, upAll])
  k_with "my size" => (first | omega | (rw [sizeLine_eq]; omega) | (simp only [List.length_cons, List.length_nil, sizeLine_eq]; omega) | (simp; omega) | (simp [sizeLine_eq]; omega))
  k_with "my op" => (first
    | ((with_reducible show Op2 _ _ _ _ _ _ _); first
      | (with_reducible refine' opB_add ?_) | (with_reducible refine' opB_sub ?_) | (with_reducible refine' opI_add ?_)
      | (with_reducible refine' opC_lt ?_) | (with_reducible refine' opC_le ?_) | (with_reducible refine' opC_gt ?_) | (with_reducible refine' opC_ge ?_) | (with_reducible refine' opC_eq ?_) | (with_reducible refine' opC_ne ?_)
      | (with_reducible refine' opC_neB ?_) | (with_reducible refine' opC_eqB ?_)
      | ((with_reducible refine' op_fst ?zza ?_); (case zza => exact fun _ _ => rfl))
      | ((with_reducible refine' op_snd ?zza ?_); (case zza => exact fun _ _ => rfl))
      | ((with_reducible refine' op_last ?zze ?zzl ?zzz ?zza ?_); (case zze => k_extra "my sig"); (case zzl => assumption); (case zzz => k_extra "my size"); (case zza => exact fun _ _ => rfl))
      | ((with_reducible refine' op_lastI ?zze ?zzl ?zzz ?zza ?_); (case zze => k_extra "my sig"); (case zzl => assumption); (case zzz => k_extra "my size"); (case zza => exact fun _ _ => rfl))
      | ((with_reducible refine' opC_neP0 ?zza ?zzb ?_); (case zza => k_extra "my sig"); (case zzb => k_extra "my sig"))
      | ((with_reducible refine' opC_neI0 ?zza ?zzb ?_); (case zza => k_extra "my sig"); (case zzb => k_extra "my sig"))
      | ((with_reducible refine' opC_neP ?zza ?zzb ?_); (case zza => k_extra "my sig"); (case zzb => k_extra "my sig"))
      | ((with_reducible refine' opC_neI ?zza ?zzb ?_); (case zza => k_extra "my sig"); (case zzb => k_extra "my sig"))
      | ((with_reducible refine' opC_eqP0 ?zza ?zzb ?_); (case zza => k_extra "my sig"); (case zzb => k_extra "my sig"))
      | ((with_reducible refine' opC_eqI0 ?zza ?zzb ?_); (case zza => k_extra "my sig"); (case zzb => k_extra "my sig"))
      | ((with_reducible refine' opC_eqP ?zza ?zzb ?_); (case zza => k_extra "my sig"); (case zzb => k_extra "my sig"))
      | ((with_reducible refine' opC_eqI ?zza ?zzb ?_); (case zza => k_extra "my sig"); (case zzb => k_extra "my sig"))
      | ((with_reducible refine' opC_in ?zza ?_); (case zza => k_extra "my sig"))
      | ((with_reducible refine' opC_notin ?zza ?_); (case zza => k_extra "my sig"))
      | (with_reducible refine' opC_isnot_none0 ?_) | (with_reducible refine' opC_isnot_noneI ?_))
    | ((with_reducible show Op1 _ _ _ _ _ _); first
      | (with_reducible refine' opU_neg ?_) | (with_reducible refine' opU_not ?_)
      | ((with_reducible refine' op_at ?zzg ?zze ?zzd ?_); (case zzg => assumption); (case zze => k_extra "my sig"); (case zzd => k_extra "my sig"))
      | ((with_reducible refine' op_spans ?zzg ?zze ?zzd ?_); (case zzg => assumption); (case zze => k_extra "my sig"); (case zzd => k_extra "my sig")))
    | (with_reducible refine' opt_bool ?_)
    | ((with_reducible show Op3 _ _ _ _ _ _ _ _); (first | ((with_reducible refine' op_put_at ?zzg ?zze ?zzd ?_); (case zzg => assumption); (case zze => k_extra "my sig"); (case zzd => k_extra "my sig")) | ((with_reducible refine' op_setLast ?zze ?zzl ?zzz ?_); (case zze => k_extra "my sig"); (case zzl => assumption); (case zzz => k_extra "my size"))))
    | ((with_reducible show AC _ _ _ _ _ _); first
      | (with_reducible refine' ac_max ?_) | (with_reducible refine' ac_min ?_) | (with_reducible refine' ac_int ?_) | (with_reducible refine' ac_intb ?_) | (with_reducible refine' ac_range1 ?_) | (with_reducible refine' ac_range2 ?_)
      | ((with_reducible refine' ac_lenP ?zza ?zzb ?_); (case zza => k_extra "my sig"); (case zzb => k_extra "my size"))
      | ((with_reducible refine' ac_lenI ?zza ?zzb ?_); (case zza => k_extra "my sig"); (case zzb => k_extra "my size"))
      | ((with_reducible refine' ac_appendP ?zza ?zzb ?_); (case zza => k_extra "my sig"); (case zzb => k_extra "my size"))
      | ((with_reducible refine' ac_appendI ?zza ?zzb ?_); (case zza => k_extra "my sig"); (case zzb => k_extra "my size")))
    | (with_reducible refine' And.intro callee_builtin ?_) | (with_reducible refine' And.intro callee_type ?_)
    | ((with_reducible refine' And.intro (callee_K ?zzg ?zze) ?_); (case zzg => assumption); (case zze => (show keepIn (hd.heap_39 _) _ = _; k_is)))
    | ((with_reducible refine' And.intro (a := _ ≤ sizeLine) ?zza ?_); (case zza => k_extra "my size"))
    | ((with_reducible refine' And.intro (a := _ = PV.obj _) ?zzr (And.intro (Exists.intro _ ?zza) ?_)); (case zzr => exact rfl); (case zza => k_extra "my sig"))
    | (with_reducible refine' cell_nil ?_) | (with_reducible refine' cell_one ?_)
    | (with_reducible refine' ite_t ?_) | (with_reducible refine' ite_f ?_)
    | (with_reducible refine' ax_done ?_) | (with_reducible refine' turn_next ?_) | (with_reducible refine' then_ret ?_) | (with_reducible refine' turn_ret ?_) | (with_reducible refine' ret_ret ?_) | (with_reducible refine' ret_nil ?_)
    | (with_reducible refine' then_cont ?_) | (with_reducible refine' turn_cont ?_) | (with_reducible refine' then_next ?_) | (with_reducible refine' ax_nil ?_))
  k_with "my go" => (repeat (first | k_extra "my st" | k_extra "my aw" | k_extra "my at" | k_extra "my aws" | k_extra "my op"))
  trivial

section
variable {w : World} {h₀ : Heap} {tabs : List Tab} {n : Nat} {σ : List AO} {Φ : PV → List AO → Prop}

def ahPV : Option Int → PV
  | none => .none
  | some a => .int a
noncomputable def isN : List (Int × Int) → Option Int → Bool
  | [], _ => true
  | p :: r, ah => if p.2 ≤ p.1 then false else if (match ah with | none => false | some a => decide (p.1 ≤ a)) then false else isN r (some p.2)

set_option maxRecDepth 100000 in
set_option maxHeartbeats 4000000 in
theorem c_is_normal (G : (cx w h₀ tabs).Ok) {k : Nat} {ps : List (Int × Int)} (e : σ[k]? = some (.lst (prs ps))) (h : Φ (.bool (isN ps none)) σ) : ACc (cx w h₀ tabs) (n + 1) (.con (.ref 21)) [.obj k] σ Φ := by
  k_extra "my def"
  k_extra "my go"
  refine ⟨ps, fun d l s => s = σ ∧ ∃ ah, l "ahead" = some (ahPV ah) ∧ isN ps none = isN (ps.drop d.length) ah, ⟨rfl, none, by k_extra "my loc", rfl⟩, fun d l s j => by rw [j.1]; exact e, fun d q r l s hu j => ?_, fun l s j => ?_⟩
  · obtain ⟨rfl, ah, ha, hn⟩ := j
    obtain ⟨a, b⟩ := q
    have hd : ps.drop d.length = (a, b) :: r := by rw [hu]; simp
    have hd' : ps.drop (d ++ [(a, b)]).length = r := by rw [hu]; simp
    k_extra "my go"
    refine ite_of (fun q1 => ?_) fun q1 => ?_
    · k_extra "my go"
      have q1' : b ≤ a := by simpa using q1
      have hv : isN ps none = false := by rw [hn, hd]; unfold isN; rw [if_pos q1']
      rw [hv] at h; exact h
    · have q1' : ¬ b ≤ a := by simpa using q1
      cases ah with
      | none =>
        simp only [ahPV] at ha
        k_extra "my go"
        refine ⟨rfl, some b, by k_extra "my loc", ?_⟩
        rw [hn, hd, hd', isN, if_neg q1', if_neg (by simp)]
      | some x =>
        simp only [ahPV] at ha
        k_extra "my go"
        refine ite_of (fun q2 => ?_) fun q2 => ?_
        · k_extra "my go"
          have q2' : a ≤ x := by simpa using q2
          have hv : isN ps none = false := by rw [hn, hd, isN, if_neg q1', if_pos (by simpa using q2')]
          rw [hv] at h; exact h
        · k_extra "my go"
          have q2' : ¬ a ≤ x := by simpa using q2
          refine ⟨rfl, some b, by k_extra "my loc", ?_⟩
          rw [hn, hd, hd', isN, if_neg q1', if_neg (by simpa using q2')]
  · obtain ⟨rfl, ah, ha, hn⟩ := j
    k_extra "my go"
    rw [List.drop_of_length_le (by simp)] at hn
    rw [hn] at h
    exact h
end

section
variable {w : World} {h₀ : Heap} {tabs : List Tab} {n : Nat} {σ : List AO} {Φ : PV → List AO → Prop}

theorem len_app {α : Type} {us d r : List α} {q : α} (h : us = d ++ q :: r) : d.length + 1 + r.length = us.length := by
  rw [h, List.length_append, List.length_cons]; omega

set_option maxRecDepth 100000 in
set_option maxHeartbeats 4000000 in
theorem c_normal (G : (cx w h₀ tabs).Ok) {k : Nat} {ps : List (Int × Int)} (e : σ[k]? = some (.lst (prs ps))) (h4 : ps.length ≤ 4) (h : NewL σ (prs (nf ps)) Φ) : ACc (cx w h₀ tabs) (n + 1) (.con (.ref 26)) [.obj k] σ Φ := by
  k_extra "my def"
  k_extra "my go"
  refine aw_comp2 (fun _ => true) pr (compOk rfl (by decide) rfl rfl) (.inl rfl) (.inl rfl) ?_ (fun _ _ => rfl)
  k_extra "my go"
  refine ⟨ps, get_push e, by k_extra "my size", fun q hq σ' hx => ?_, fun j s1 hx hj ej => ?_⟩
  · k_extra "my go"
    exact ⟨rfl, .refl _⟩
  · rw [filt_true] at ej
    rw [List.length_append, List.length_singleton] at hj
    k_extra "my go"
    refine ac_sorted ej h4 fun qs hp hs => ?_
    have hq : qs = sortP ps := sortP_eq hp hs
    have hl : qs.length ≤ 4 := by rw [hp.length_eq]; exact h4
    have hle : σ.length < s1.length := lt_get (hx _ _ (get_new _ _))
    refine ⟨qs, fun d l s => Ext σ s ∧ l "found" = some (.obj σ.length) ∧ s[σ.length]? = some (.lst (prs (d.foldl mstep []))) ∧ s[s1.length]? = some (.lst (prs qs)) ∧ (d.foldl mstep []).length ≤ d.length, ⟨(Ext.pushr (.refl σ) _).trans (hx.trans (.push _ _)), by k_extra "my loc", get_push (hx _ _ (get_new _ _)), get_new _ _, by simp⟩, fun d l s j => j.2.2.2.1, fun d q r l s hu j => ?_, fun l s j => ?_⟩
    · obtain ⟨x1, hf, e1, e2, hz⟩ := j
      obtain ⟨a, b⟩ := q
      have hi := len_app hu
      have ht : (d ++ [(a, b)]).foldl mstep [] = mstep (d.foldl mstep []) (a, b) := by rw [List.foldl_append]; rfl
      have hz' := mstep_len (d.foldl mstep []) (a, b)
      have hz2 : (mstep (d.foldl mstep []) (a, b)).length ≤ (d ++ [(a, b)]).length := by rw [List.length_append, List.length_singleton]; omega
      generalize d.foldl mstep [] = fd at *
      have hms : mstep fd (a, b) = if b ≤ a then fd else match fd.getLast? with
          | some q => if a ≤ q.2 then fd.dropLast ++ [(q.1, if b > q.2 then b else q.2)] else fd ++ [(a, b)]
          | none => fd ++ [(a, b)] := rfl
      have done : ∀ (s' : List AO) (l' : Loc), Ext σ s' → l' "found" = some (.obj σ.length) → s'[σ.length]? = some (.lst (prs (mstep fd (a, b)))) → s'[s1.length]? = some (.lst (prs qs)) →
          Ext σ s' ∧ l' "found" = some (.obj σ.length) ∧ s'[σ.length]? = some (.lst (prs ((d ++ [(a, b)]).foldl mstep []))) ∧ s'[s1.length]? = some (.lst (prs qs)) ∧ ((d ++ [(a, b)]).foldl mstep []).length ≤ (d ++ [(a, b)]).length := fun s' l' a1 a2 a3 a4 => by
        rw [ht]; exact ⟨a1, a2, a3, a4, hz2⟩
      k_extra "my go"
      refine ite_of (fun q1 => ?_) fun q1 => ?_
      · k_extra "my go"
        rw [if_pos (by simpa using q1)] at hms
        exact done s _ x1 (by k_extra "my loc") (by rw [hms]; exact e1) e2
      · rw [if_neg (by simpa using q1)] at hms
        k_extra "my go"
        refine ite_of (fun q2 => ?_) fun q2 => ?_
        · have q2' : fd ≠ [] := by simpa using q2
          obtain ⟨p, hp'⟩ : ∃ p, fd.getLast? = some p := ⟨_, List.getLast?_eq_some_getLast q2'⟩
          rw [hp'] at hms
          simp only at hms
          k_extra "my go"
          refine ite_of (fun q3 => ?_) fun q3 => ?_
          · rw [if_pos (by simpa using q3)] at hms
            k_extra "my go"
            exact done _ _ (x1.pushr _ |>.set (Nat.le_refl _) _) (by k_extra "my loc") (by rw [hms]; k_extra "my sig") (by k_extra "my sig")
          · rw [if_neg (by simpa using q3)] at hms
            k_extra "my go"
            exact done _ _ (x1.pushr _ |>.set (Nat.le_refl _) _) (by k_extra "my loc") (by rw [hms]; k_extra "my sig") (by k_extra "my sig")
        · have q2' : fd = [] := by simpa using q2
          subst q2'
          simp only [List.getLast?_nil] at hms
          k_extra "my go"
          exact done _ _ (x1.pushr _ |>.set (Nat.le_refl _) _) (by k_extra "my loc") (by rw [hms]; k_extra "my sig") (by k_extra "my sig")
    · obtain ⟨x1, hf, e1, e2, hz⟩ := j
      k_extra "my go"
      exact h _ s x1 (Nat.le_refl _) (by rw [e1, hq]; rfl)
end

section
variable {w : World} {h₀ : Heap} {tabs : List Tab} {n : Nat} {σ : List AO} {Φ : PV → List AO → Prop}

def lenF (ps : List (Int × Int)) : Int := ps.foldl (fun t p => t + (p.2 - p.1)) 0
def cnt (lo hi : Int) (p : Int × Int) : Int :=
  let m := if hi < p.2 then hi else p.2
  let M := if lo > p.1 then lo else p.1
  if m - M > 0 then m - M else 0
def cntF (lo hi : Int) (ps : List (Int × Int)) : Int := ps.foldl (fun t p => t + cnt lo hi p) 0
def bordF (ps : List (Int × Int)) : List Int := ps.flatMap fun p => [p.1, p.2]
theorem bordF_snoc (d : List (Int × Int)) (q : Int × Int) : bordF (d ++ [q]) = bordF d ++ [q.1] ++ [q.2] := by simp [bordF]
theorem bordF_len (d : List (Int × Int)) : (bordF d).length = 2 * d.length := by
  induction d with
  | nil => rfl
  | cons p r ih =>
    have : bordF (p :: r) = [p.1, p.2] ++ bordF r := by simp [bordF]
    rw [this, List.length_append, ih]; simp; omega

set_option maxRecDepth 100000 in
set_option maxHeartbeats 4000000 in
theorem c_length (G : (cx w h₀ tabs).Ok) {k : Nat} {ps : List (Int × Int)} (e : σ[k]? = some (.lst (prs ps))) (h : Φ (.int (lenF ps)) σ) : ACc (cx w h₀ tabs) (n + 1) (.con (.ref 124)) [.obj k] σ Φ := by
  k_extra "my def"
  k_extra "my go"
  refine ⟨ps, fun d l s => s = σ ∧ l "total" = some (.int (lenF d)), ⟨rfl, by k_extra "my loc"⟩, fun d l s j => by rw [j.1]; exact e, fun d q r l s hu j => ?_, fun l s j => ?_⟩
  · obtain ⟨rfl, ht⟩ := j
    k_extra "my go"
    refine ⟨rfl, ?_⟩
    have : lenF (d ++ [q]) = lenF d + (q.2 - q.1) := by unfold lenF; rw [List.foldl_append]; rfl
    rw [this]
    k_extra "my loc"
  · obtain ⟨rfl, ht⟩ := j
    k_extra "my go"
    exact h

set_option maxRecDepth 100000 in
set_option maxHeartbeats 4000000 in
theorem c_count_in (G : (cx w h₀ tabs).Ok) {k : Nat} {ps : List (Int × Int)} {lo hi : Int} (e : σ[k]? = some (.lst (prs ps))) (h : Φ (.int (cntF lo hi ps)) σ) : ACc (cx w h₀ tabs) (n + 1) (.con (.ref 177)) [.obj k, .int lo, .int hi] σ Φ := by
  k_extra "my def"
  k_extra "my go"
  refine ⟨ps, fun d l s => s = σ ∧ l "total" = some (.int (cntF lo hi d)) ∧ l "low" = some (.int lo) ∧ l "high" = some (.int hi), ⟨rfl, by k_extra "my loc", by k_extra "my loc", by k_extra "my loc"⟩, fun d l s j => by rw [j.1]; exact e, fun d q r l s hu j => ?_, fun l s j => ?_⟩
  · obtain ⟨rfl, ht, hl, hh⟩ := j
    k_extra "my go"
    refine ⟨rfl, ?_, by k_extra "my loc", by k_extra "my loc"⟩
    have : cntF lo hi (d ++ [q]) = cntF lo hi d + cnt lo hi q := by unfold cntF; rw [List.foldl_append]; rfl
    rw [this]
    k_extra "my loc"
  · obtain ⟨rfl, ht, hl, hh⟩ := j
    k_extra "my go"
    exact h

set_option maxRecDepth 100000 in
set_option maxHeartbeats 4000000 in
theorem c_borders (G : (cx w h₀ tabs).Ok) {k : Nat} {ps : List (Int × Int)} (e : σ[k]? = some (.lst (prs ps))) (hz : ps.length ≤ 100) (h : NewL σ (ins (bordF ps)) Φ) : ACc (cx w h₀ tabs) (n + 1) (.con (.ref 33)) [.obj k] σ Φ := by
  k_extra "my def"
  k_extra "my go"
  have hk := lt_get e
  refine ⟨ps, fun d l s => Ext σ s ∧ l "found" = some (.obj σ.length) ∧ s[σ.length]? = some (.lst (ins (bordF d))), ⟨Ext.pushr (.refl σ) _, by k_extra "my loc", get_new _ _⟩, fun d l s j => j.1 _ _ e, fun d q r l s hu j => ?_, fun l s j => ?_⟩
  · obtain ⟨x1, hf, e1⟩ := j
    have hi := len_app hu
    have hb := bordF_len d
    k_extra "my go"
    refine ⟨(x1.set (Nat.le_refl _) _).set (Nat.le_refl _) _, by k_extra "my loc", ?_⟩
    rw [bordF_snoc]
    k_extra "my sig"
  · obtain ⟨x1, hf, e1⟩ := j
    k_extra "my go"
    exact h _ s x1 (Nat.le_refl _) e1

set_option maxRecDepth 100000 in
set_option maxHeartbeats 4000000 in
theorem c_moved (G : (cx w h₀ tabs).Ok) {k : Nat} {ps : List (Int × Int)} {b : Int} (e : σ[k]? = some (.lst (prs ps))) (hz : ps.length ≤ 100) (h : NewL σ (prs (ps.map fun p => (p.1 + b, p.2 + b))) Φ) : ACc (cx w h₀ tabs) (n + 1) (.con (.ref 136)) [.obj k, .int b] σ Φ := by
  k_extra "my def"
  k_extra "my go"
  refine aw_comp2 (fun _ => true) (fun p => pr (p.1 + b, p.2 + b)) (compOk rfl (by decide) rfl rfl) (.inl rfl) (.inl rfl) ?_ (fun _ _ => rfl)
  k_extra "my go"
  refine ⟨ps, e, by k_extra "my size", fun q hq σ' hx => ?_, fun j s1 hx hj ej => ?_⟩
  · k_extra "my go"
    exact ⟨rfl, .refl _⟩
  · rw [filt_true] at ej
    k_extra "my go"
    refine h j s1 hx hj ?_
    show s1[j]? = some (.lst ((ps.map fun p => (p.1 + b, p.2 + b)).map pr))
    rw [List.map_map]; exact ej

def endsF (ps : List (Int × Int)) : Option (Int × Int) := match ps.head?, ps.getLast? with
  | some p, some q => some (p.1, q.2)
  | _, _ => none

set_option maxRecDepth 100000 in
set_option maxHeartbeats 4000000 in
theorem c_ends (G : (cx w h₀ tabs).Ok) {k : Nat} {ps : List (Int × Int)} (e : σ[k]? = some (.lst (prs ps))) (hz : ps.length ≤ 100) (h : ∀ σ', Ext σ σ' → Φ (endsPV (endsF ps)) σ') : ACc (cx w h₀ tabs) (n + 1) (.con (.ref 150)) [.obj k] σ Φ := by
  k_extra "my def"
  k_extra "my go"
  refine ite_of (fun q1 => ?_) fun q1 => ?_
  · k_extra "my go"
    have q1' : ps = [] := by simpa using q1
    subst q1'
    exact h _ (.push _ _)
  · k_extra "my go"
    have q1' : ps ≠ [] := by simpa using q1
    obtain ⟨p, r, rfl⟩ := List.exists_cons_of_ne_nil q1'
    refine op_itemP (p := p) (by k_extra "my sig") (by omega) rfl (by k_extra "my size") (fun _ _ => rfl) ?_
    k_extra "my go"
    obtain ⟨y, hy⟩ : ∃ y, (p :: r).getLast? = some y := ⟨_, List.getLast?_eq_some_getLast q1'⟩
    k_extra "my go"
    have : endsF (p :: r) = some (p.1, y.2) := by unfold endsF; rw [hy]; rfl
    have h' := h _ (.push σ (.lst []))
    rw [this] at h'
    exact h'
end

section
variable {w : World} {h₀ : Heap} {tabs : List Tab} {n : Nat} {σ : List AO} {Φ : PV → List AO → Prop}

theorem mapmap {α : Type} (ps : List α) (f : α → Int × Int) : (ps.map f).map pr = ps.map fun p => pr (f p) := by rw [List.map_map]; rfl

set_option maxRecDepth 100000 in
set_option maxHeartbeats 4000000 in
theorem c_widened (G : (cx w h₀ tabs).Ok) {k : Nat} {ps : List (Int × Int)} {b : Int} (e : σ[k]? = some (.lst (prs ps))) (h4 : ps.length ≤ 4) (h : NewL σ (prs (nf (ps.map fun p => (p.1 - b, p.2 + b)))) Φ) : ACc (cx w h₀ tabs) (n + 2) (.con (.ref 155)) [.obj k, .int b] σ Φ := by
  k_extra "my def"
  k_extra "my go"
  refine aw_comp2 (fun _ => true) (fun p => pr (p.1 - b, p.2 + b)) (compOk rfl (by decide) rfl rfl) (.inl rfl) (.inl rfl) ?_ (fun _ _ => rfl)
  k_extra "my go"
  refine ⟨ps, e, by k_extra "my size", fun q hq σ' hx => ?_, fun j s1 hx hj ej => ?_⟩
  · k_extra "my go"
    exact ⟨rfl, .refl _⟩
  · rw [filt_true, ← mapmap ps fun p => (p.1 - b, p.2 + b)] at ej
    k_extra "my go"
    refine (c_normal G ej (by simpa using h4) ?_).ac
    exact fun j σ' a c d => ret_ret (h.ext hx j σ' a c d)

set_option maxRecDepth 100000 in
set_option maxHeartbeats 4000000 in
theorem c_narrowed (G : (cx w h₀ tabs).Ok) {k : Nat} {ps : List (Int × Int)} {b : Int} (e : σ[k]? = some (.lst (prs ps))) (h4 : ps.length ≤ 4) (h : NewL σ (prs (nf (ps.map fun p => (p.1 + b, p.2 - b)))) Φ) : ACc (cx w h₀ tabs) (n + 2) (.con (.ref 160)) [.obj k, .int b] σ Φ := by
  k_extra "my def"
  k_extra "my go"
  refine aw_comp2 (fun _ => true) (fun p => pr (p.1 + b, p.2 - b)) (compOk rfl (by decide) rfl rfl) (.inl rfl) (.inl rfl) ?_ (fun _ _ => rfl)
  k_extra "my go"
  refine ⟨ps, e, by k_extra "my size", fun q hq σ' hx => ?_, fun j s1 hx hj ej => ?_⟩
  · k_extra "my go"
    exact ⟨rfl, .refl _⟩
  · rw [filt_true, ← mapmap ps fun p => (p.1 + b, p.2 - b)] at ej
    k_extra "my go"
    refine (c_normal G ej (by simpa using h4) ?_).ac
    exact fun j σ' a c d => ret_ret (h.ext hx j σ' a c d)

set_option maxRecDepth 100000 in
set_option maxHeartbeats 4000000 in
theorem c_touched (G : (cx w h₀ tabs).Ok) {k : Nat} {ps : List (Int × Int)} {f : Int} (e : σ[k]? = some (.lst (prs ps))) (h4 : ps.length ≤ 4) (hf : f ≠ 0) (hf' : f.natAbs < 1073741824) (h : NewL σ (prs (nf (ps.map fun p => (Int.fdiv p.1 f, -(Int.fdiv (-p.2) f))))) Φ) : ACc (cx w h₀ tabs) (n + 2) (.con (.ref 165)) [.obj k, .int f] σ Φ := by
  k_extra "my def"
  k_extra "my go"
  refine aw_comp2 (fun _ => true) (fun p => pr (Int.fdiv p.1 f, -(Int.fdiv (-p.2) f))) (compOk rfl (by decide) rfl rfl) (.inl rfl) (.inl rfl) ?_ (fun _ _ => rfl)
  k_extra "my go"
  refine ⟨ps, e, by k_extra "my size", fun q hq σ' hx => ?_, fun j s1 hx hj ej => ?_⟩
  · k_extra "my go"
    refine opB_div hf ?_ (PyProof.noPylong_small hf')
    k_extra "my go"
    refine opB_div hf ?_ (PyProof.noPylong_small hf')
    k_extra "my go"
    exact ⟨rfl, .refl _⟩
  · rw [filt_true, ← mapmap ps fun p => (Int.fdiv p.1 f, -(Int.fdiv (-p.2) f))] at ej
    k_extra "my go"
    refine (c_normal G ej (by simpa using h4) ?_).ac
    exact fun j σ' a c d => ret_ret (h.ext hx j σ' a c d)

set_option maxRecDepth 100000 in
set_option maxHeartbeats 4000000 in
theorem c_whole (G : (cx w h₀ tabs).Ok) {k : Nat} {ps : List (Int × Int)} {f : Int} (e : σ[k]? = some (.lst (prs ps))) (h4 : ps.length ≤ 4) (hf : f ≠ 0) (hf' : f.natAbs < 1073741824) (h : NewL σ (prs (nf (ps.map fun p => (-(Int.fdiv (-p.1) f), Int.fdiv p.2 f)))) Φ) : ACc (cx w h₀ tabs) (n + 2) (.con (.ref 170)) [.obj k, .int f] σ Φ := by
  k_extra "my def"
  k_extra "my go"
  refine aw_comp2 (fun _ => true) (fun p => pr (-(Int.fdiv (-p.1) f), Int.fdiv p.2 f)) (compOk rfl (by decide) rfl rfl) (.inl rfl) (.inl rfl) ?_ (fun _ _ => rfl)
  k_extra "my go"
  refine ⟨ps, e, by k_extra "my size", fun q hq σ' hx => ?_, fun j s1 hx hj ej => ?_⟩
  · k_extra "my go"
    refine opB_div hf ?_ (PyProof.noPylong_small hf')
    k_extra "my go"
    refine opB_div hf ?_ (PyProof.noPylong_small hf')
    k_extra "my go"
    exact ⟨rfl, .refl _⟩
  · rw [filt_true, ← mapmap ps fun p => (-(Int.fdiv (-p.1) f), Int.fdiv p.2 f)] at ej
    k_extra "my go"
    refine (c_normal G ej (by simpa using h4) ?_).ac
    exact fun j σ' a c d => ret_ret (h.ext hx j σ' a c d)

/-- merged_borders: one step -/
def mbStep (a b : List Int) (i j : Nat) : Int × Nat × Nat :=
  match a[i]?, b[j]? with
  | some x, some y => if x ≤ y then (x, i + 1, j) else (y, i, j + 1)
  | some x, none => (x, i + 1, j)
  | none, some y => (y, i, j + 1)
  | none, none => (0, i, j)
def mbPut (fd : List Int) (x : Int) : List Int := if fd.getLast? = some x then fd else fd ++ [x]
noncomputable def mbGo (a b : List Int) : Nat → Nat → Nat → List Int → List Int
  | 0, _, _, fd => fd
  | m + 1, i, j, fd => mbGo a b m (mbStep a b i j).2.1 (mbStep a b i j).2.2 (mbPut fd (mbStep a b i j).1)
noncomputable def mbF (a b : List Int) : List Int := mbGo a b (a.length + b.length) 0 0 []

theorem mbPut_len (fd : List Int) (x : Int) : (mbPut fd x).length ≤ fd.length + 1 := by
  unfold mbPut; split <;> simp

set_option maxRecDepth 100000 in
set_option maxHeartbeats 4000000 in
theorem c_merged (G : (cx w h₀ tabs).Ok) {k1 k2 : Nat} {ps qs : List (Int × Int)} (e1 : σ[k1]? = some (.lst (prs ps))) (e2 : σ[k2]? = some (.lst (prs qs))) (hz1 : ps.length ≤ 50) (hz2 : qs.length ≤ 50) (h : NewL σ (ins (mbF (bordF ps) (bordF qs))) Φ) : ACc (cx w h₀ tabs) (n + 2) (.con (.ref 40)) [.obj k1, .obj k2] σ Φ := by
  k_extra "my def"
  refine sq_tupS ["first", "second"] (by decide) (fun _ _ _ _ => rfl) (fun _ _ _ _ => rfl) ?_
  k_extra "my go"
  refine (c_borders G e1 (by omega) fun ja σa xa la ea => ?_).ac
  have e2a := xa _ _ e2
  k_extra "my go"
  refine (c_borders G e2a (by omega) fun jb σb xb lb eb => ?_).ac
  k_extra "my go"
  refine ⟨_, rfl, rfl, ?_⟩
  k_extra "my norm"
  refine sq_tupS ["found", "at", "to"] (by decide) (fun _ _ _ _ => rfl) (fun _ _ _ _ => rfl) ?_
  k_extra "my go"
  refine ⟨_, rfl, rfl, ?_⟩
  k_extra "my norm"
  have ea' := xb _ _ ea
  have hla := lt_get ea'
  have hlb := lt_get eb
  have za : (bordF ps).length ≤ 100 := by rw [bordF_len]; omega
  have zb : (bordF qs).length ≤ 100 := by rw [bordF_len]; omega
  have h2 := (h.ext xa).ext xb
  rw [show mbF (bordF ps) (bordF qs) = mbGo (bordF ps) (bordF qs) ((bordF ps).length + (bordF qs).length) 0 0 [] from rfl] at h2
  generalize bordF ps = a at *
  generalize bordF qs = b at *
  refine sq_while (fun m l s => Ext σb s ∧ ∃ (i j : Nat) (fd : List Int), l "first" = some (.obj ja) ∧ l "second" = some (.obj jb) ∧ l "found" = some (.obj σb.length) ∧ l "at" = some (.int i) ∧ l "to" = some (.int j) ∧
      s[σb.length]? = some (.lst (ins fd)) ∧ i ≤ a.length ∧ j ≤ b.length ∧ m = (a.length - i) + (b.length - j) ∧ mbGo a b m i j fd = mbGo a b (a.length + b.length) 0 0 [] ∧ fd.length ≤ i + j) (a.length + b.length) ?_ ?_
  · exact ⟨.push _ _, 0, 0, [], by k_extra "my loc", by k_extra "my loc", by k_extra "my loc", by k_extra "my loc", by k_extra "my loc", get_new _ _, by omega, by omega, by omega, rfl, by simp⟩
  · rintro m l s ⟨xs, i, j, fd, l1, l2, l3, l4, l5, e3, hi, hj, rfl, hgo, hfz⟩
    have ea2 := xs _ _ ea'
    have eb2 := xs _ _ eb
    refine AT.mono (ΦB := fun c s' => s' = s ∧ (c = true ↔ (i < a.length ∨ j < b.length))) ?_ ?_
    · k_extra "my go"
      refine ite_of (fun q => ?_) fun q => ?_
      · exact ⟨rfl, by simpa using .inl (by simpa using q)⟩
      · k_extra "my go"
        refine ite_of (fun q' => ?_) fun q' => ?_
        · exact ⟨rfl, by simpa using .inr (by simpa using q')⟩
        · k_extra "my go"
          have q1 : a.length ≤ i := by simpa using q
          have q2 : b.length ≤ j := by simpa using q'
          exact ⟨rfl, by simp; omega⟩
    · rintro c s' ⟨rfl, hc⟩
      cases c with
      | false =>
        have hc' : ¬ (i < a.length ∨ j < b.length) := fun q => by have := hc.mpr q; cases this
        k_extra "my go"
        have hm : (a.length - i) + (b.length - j) = 0 := by omega
        rw [hm] at hgo
        exact h2 _ _ xs (Nat.le_refl _) (by rw [← hgo]; exact e3)
      | true =>
        have hc' := hc.mp rfl
        have hm : (a.length - i) + (b.length - j) = ((a.length - i) + (b.length - j) - 1) + 1 := by omega
        rw [hm] at hgo
        rw [mbGo] at hgo
        rw [if_pos rfl]
        refine ax_cons (AG.mono (Φ := fun f l' s'' => f = .next ∧ s'' = s' ∧ l' "first" = some (.obj ja) ∧ l' "second" = some (.obj jb) ∧ l' "found" = some (.obj σb.length) ∧
          l' "at" = some (.int ((mbStep a b i j).2.1 : Nat)) ∧ l' "to" = some (.int ((mbStep a b i j).2.2 : Nat)) ∧ l' "place" = some (.int (mbStep a b i j).1) ∧
          (mbStep a b i j).2.1 ≤ a.length ∧ (mbStep a b i j).2.2 ≤ b.length ∧ (mbStep a b i j).2.1 + (mbStep a b i j).2.2 = i + j + 1) (as_if ?_) ?_)
        · refine AT.mono (ΦB := fun c s'' => s'' = s' ∧ (c = true → ∃ x, a[i]? = some x ∧ mbStep a b i j = (x, i + 1, j)) ∧ (c = false → ∃ y, b[j]? = some y ∧ mbStep a b i j = (y, i, j + 1))) ?_ ?_
          · k_extra "my go"
            refine ite_of (fun q => ?_) fun q => ?_
            · have q0 : (j : Int) = (b.length : Int) := by simpa using q
              have q' : j = b.length := by omega
              have hia : i < a.length := by omega
              refine ⟨rfl, fun _ => ⟨a[i], List.getElem?_eq_getElem hia, ?_⟩, fun z => by cases z⟩
              unfold mbStep
              rw [List.getElem?_eq_getElem hia, List.getElem?_eq_none (by omega)]
            · have q' : j ≠ b.length := by intro z; subst z; simp at q
              have hjb : j < b.length := by omega
              have yb : b[j]? = some b[j] := List.getElem?_eq_getElem hjb
              k_extra "my go"
              refine ite_of (fun p => ?_) fun p => ?_
              · have hia : i < a.length := by simpa using p
                have ya : a[i]? = some a[i] := List.getElem?_eq_getElem hia
                k_extra "my go"
                refine op_itemI ea2 (by omega) (by rw [Int.toNat_natCast]; exact ya) (by omega) (fun _ _ => rfl) ?_
                k_extra "my go"
                refine op_itemI eb2 (by omega) (by rw [Int.toNat_natCast]; exact yb) (by omega) (fun _ _ => rfl) ?_
                k_extra "my go"
                refine ite_of (fun r => ?_) fun r => ?_
                · k_extra "my go"
                  have r' : a[i] ≤ b[j] := by simpa using r
                  refine ⟨rfl, fun _ => ⟨_, ya, ?_⟩, fun z => by cases z⟩
                  unfold mbStep; rw [ya, yb]; simp only; rw [if_pos r']
                · k_extra "my go"
                  have r' : ¬ a[i] ≤ b[j] := by simpa using r
                  refine ⟨rfl, fun z => (by cases z), fun _ => ⟨_, yb, ?_⟩⟩
                  unfold mbStep; rw [ya, yb]; simp only; rw [if_neg r']
              · k_extra "my go"
                have hia : a.length ≤ i := by simpa using p
                refine ⟨rfl, fun z => (by cases z), fun _ => ⟨_, yb, ?_⟩⟩
                unfold mbStep; rw [yb, List.getElem?_eq_none hia]
          · rintro c s'' ⟨rfl, k1, k2⟩
            refine ite_of (fun q => ?_) fun q => ?_
            · obtain ⟨x, hx, hs⟩ := k1 q
              have hia := (List.getElem?_eq_some_iff.mp hx).1
              k_extra "my go"
              refine op_itemI ea2 (by omega) (by rw [Int.toNat_natCast]; exact hx) (by omega) (fun _ _ => rfl) ?_
              k_extra "my go"
              rw [hs]
              exact ⟨rfl, rfl, by k_extra "my loc", by k_extra "my loc", by k_extra "my loc", by k_extra "my loc", by k_extra "my loc", by k_extra "my loc", hia, hj, by simp only; omega⟩
            · obtain ⟨y, hy, hs⟩ := k2 q
              have hjb := (List.getElem?_eq_some_iff.mp hy).1
              k_extra "my go"
              refine op_itemI eb2 (by omega) (by rw [Int.toNat_natCast]; exact hy) (by omega) (fun _ _ => rfl) ?_
              k_extra "my go"
              rw [hs]
              exact ⟨rfl, rfl, by k_extra "my loc", by k_extra "my loc", by k_extra "my loc", by k_extra "my loc", by k_extra "my loc", by k_extra "my loc", hi, hjb, by simp only; omega⟩
        · rintro f l' s'' ⟨rfl, rfl, m1, m2, m3, m4, m5, m6, m7, m8, m9⟩
          generalize mbStep a b i j = st at *
          obtain ⟨x, i', j'⟩ := st
          simp only at *
          have fin : ∀ s3 : List AO, Ext σb s3 → s3[σb.length]? = some (.lst (ins (mbPut fd x))) → ∃ k', k' < (a.length - i) + (b.length - j) ∧ Ext σb s3 ∧ ∃ (i j : Nat) (fd : List Int), l' "first" = some (.obj ja) ∧ l' "second" = some (.obj jb) ∧ l' "found" = some (.obj σb.length) ∧ l' "at" = some (.int i) ∧ l' "to" = some (.int j) ∧
              s3[σb.length]? = some (.lst (ins fd)) ∧ i ≤ a.length ∧ j ≤ b.length ∧ k' = (a.length - i) + (b.length - j) ∧ mbGo a b k' i j fd = mbGo a b (a.length + b.length) 0 0 [] ∧ fd.length ≤ i + j := fun s3 y1 y2 => by
            have hm' : (a.length - i) + (b.length - j) - 1 = (a.length - i') + (b.length - j') := by omega
            have hpz := mbPut_len fd x
            rw [hm'] at hgo
            exact ⟨_, by omega, y1, i', j', _, m1, m2, m3, m4, m5, y2, m7, m8, rfl, hgo, by omega⟩
          k_extra "my go"
          refine ite_of (fun q => ?_) fun q => ?_
          · have q' : fd = [] := by simpa using q
            subst q'
            k_extra "my go"
            exact fin _ ((xs.pushr _).set (Nat.le_refl _) _) (by k_extra "my sig")
          · have q' : fd ≠ [] := by simpa using q
            obtain ⟨p, hp⟩ : ∃ p, fd.getLast? = some p := ⟨_, List.getLast?_eq_some_getLast q'⟩
            k_extra "my go"
            refine ite_of (fun r => ?_) fun r => ?_
            · have r' : p ≠ x := by simpa using r
              k_extra "my go"
              refine fin _ ((xs.pushr _).set (Nat.le_refl _) _) ?_
              have : mbPut fd x = fd ++ [x] := by unfold mbPut; rw [hp, if_neg (by simpa using r')]
              rw [this]
              k_extra "my sig"
            · have r' : p = x := by simpa using r
              k_extra "my go"
              refine fin _ (xs.pushr _) ?_
              have : mbPut fd x = fd := by unfold mbPut; rw [hp, if_pos (by rw [r'])]
              rw [this]
              k_extra "my sig"
end

section
variable {w : World} {h₀ : Heap} {tabs : List Tab} {n : Nat} {σ : List AO} {Φ : PV → List AO → Prop} {ΦU : List AO → Prop}
set_option maxRecDepth 100000 in
set_option maxHeartbeats 4000000 in
theorem c_init (G : (cx w h₀ tabs).Ok) {i d k : Nat} (e : σ[i]? = some (.ins 64 d)) (ed : σ[d]? = some (.dct [])) (hid : i ≠ d) (h : Φ .none (σ.set d (.dct (wfs k 0)))) : ACc (cx w h₀ tabs) (n + 1) (.con (.ref 54)) [.obj i, .obj k] σ Φ := by
  k_extra "my def"
  k_extra "my go"
  refine op_put G e ed (by simp) (by k_is) ?_
  rw [wfs_put1]
  k_extra "my go"
  refine op_put G (d := d) (get_set_ne hid e) (get_set ed) (by simp) (by k_is) ?_
  rw [wfs_put2, List.set_set]
  k_extra "my go"
  exact h

theorem c_walk (G : (cx w h₀ tabs).Ok) {k : Nat} (h : Φ (.obj (σ.length + 1)) (σ ++ [.dct (wfs k 0)] ++ [.ins 64 σ.length])) : AC (cx w h₀ tabs) (n + 2) (.con (.ref 64)) [.obj k] σ Φ := by
  refine ac_cls G (fI := 54) (by show makesIn (hd.heap_39 _) _ = _; k_is) (by show findIn (hd.heap_39 _) _ _ = _; k_is) (by show typeIn (hd.heap_39 _) _ = _; k_is) ?_
  refine c_init G (d := σ.length) (by simp) (by simp) (by omega) ⟨rfl, ?_⟩
  have : (σ ++ [AO.dct []] ++ [AO.ins 64 σ.length]).set σ.length (.dct (wfs k 0)) = σ ++ [.dct (wfs k 0)] ++ [.ins 64 σ.length] := by simp
  rw [this]; exact h

theorem c_walk' (G : (cx w h₀ tabs).Ok) {k : Nat} (h : ∀ (i d : Nat) (s : List AO), Ext σ s → σ.length ≤ d → d < i → i < s.length → s[d]? = some (.dct (wfs k (0 : Nat))) → s[i]? = some (.ins 64 d) → Φ (.obj i) s) : AC (cx w h₀ tabs) (n + 2) (.con (.ref 64)) [.obj k] σ Φ :=
  c_walk G (h _ σ.length _ ((Ext.pushr (.refl σ) _).pushr _) (Nat.le_refl _) (Nat.lt_succ_self _) (by simp) (by simp) (by simp))

def advF (ps : List (Int × Int)) (x : Int) (a : Nat) : Nat := a + ((ps.drop a).takeWhile fun p => decide (p.2 ≤ x)).length
theorem advF_step {ps : List (Int × Int)} {x : Int} {a : Nat} {p : Int × Int} (hp : ps[a]? = some p) (hx : p.2 ≤ x) : advF ps x a = advF ps x (a + 1) := by
  unfold advF
  have ha := (List.getElem?_eq_some_iff.mp hp)
  rw [List.drop_eq_getElem_cons ha.1, ha.2, List.takeWhile_cons, if_pos (by simpa using hx), List.length_cons]
  omega
theorem advF_stop {ps : List (Int × Int)} {x : Int} {a : Nat} {p : Int × Int} (hp : ps[a]? = some p) (hx : ¬ p.2 ≤ x) : advF ps x a = a := by
  unfold advF
  have ha := (List.getElem?_eq_some_iff.mp hp)
  rw [List.drop_eq_getElem_cons ha.1, ha.2, List.takeWhile_cons, if_neg (by simpa using hx)]
  rfl
theorem advF_end {ps : List (Int × Int)} {x : Int} {a : Nat} (ha : ps.length ≤ a) : advF ps x a = a := by
  unfold advF; rw [List.drop_of_length_le ha]; rfl
theorem advF_le {ps : List (Int × Int)} {x : Int} {a : Nat} (ha : a ≤ ps.length) : advF ps x a ≤ ps.length := by
  unfold advF
  have := (List.takeWhile_sublist (fun p : Int × Int => decide (p.2 ≤ x)) (l := ps.drop a)).length_le
  rw [List.length_drop] at this
  omega
def inAt (ps : List (Int × Int)) (i : Nat) (x : Int) : Bool := match ps[i]? with
  | some p => decide (p.1 ≤ x)
  | none => false

set_option maxRecDepth 100000 in
set_option maxHeartbeats 4000000 in
theorem c_wholds (G : (cx w h₀ tabs).Ok) {i d k : Nat} {ps : List (Int × Int)} {a : Nat} {x : Int} (e : σ[i]? = some (.ins 64 d)) (ed : σ[d]? = some (.dct (wfs k a))) (ek : σ[k]? = some (.lst (prs ps))) (hz : ps.length ≤ 100) (ha : a ≤ ps.length) (hid : i ≠ d) (hkd : k ≠ d)
    (h : Φ (.bool (inAt ps (advF ps x a) x)) (σ.set d (.dct (wfs k (advF ps x a : Nat))))) : ACc (cx w h₀ tabs) (n + 1) (.con (.ref 61)) [.obj i, .int x] σ Φ := by
  k_extra "my def"
  refine sq_while (fun m l s => l "self" = some (.obj i) ∧ l "place" = some (.int x) ∧ ∃ j : Nat, s = σ.set d (.dct (wfs k (j : Nat))) ∧ j ≤ ps.length ∧ advF ps x j = advF ps x a ∧ m = ps.length - j) (ps.length - a) ?_ ?_
  · refine ⟨by k_extra "my loc", by k_extra "my loc", a, ?_, ha, rfl, rfl⟩
    obtain ⟨hd', ed'⟩ := List.getElem?_eq_some_iff.mp ed
    rw [← ed', List.set_getElem_self]
  · rintro m l s ⟨l1, l2, j, rfl, hj, hadv, rfl⟩
    have e1 : (σ.set d (.dct (wfs k (j : Nat))))[i]? = some (.ins 64 d) := get_set_ne hid e
    have e2 : (σ.set d (.dct (wfs k (j : Nat))))[d]? = some (.dct (wfs k (j : Nat))) := get_set ed
    have e3 : (σ.set d (.dct (wfs k (j : Nat))))[k]? = some (.lst (prs ps)) := get_set_ne hkd ek
    k_extra "my go"
    refine ite_of (fun q => ?_) fun q => ?_
    · have hj' : j < ps.length := by simpa using q
      have hp : ps[j]? = some ps[j] := List.getElem?_eq_getElem hj'
      generalize ps[j] = p at hp
      k_extra "my go"
      refine op_itemP e3 (by omega) (by rw [Int.toNat_natCast]; exact hp) (by omega) (fun _ _ => rfl) ?_
      k_extra "my go"
      refine ite_of (fun r => ?_) fun r => ?_
      · have r' : p.2 ≤ x := by simpa using r
        k_extra "my go"
        refine ⟨ps.length - (j + 1), by omega, l1, l2, j + 1, by rw [List.set_set]; rfl, hj', ?_, rfl⟩
        rw [← advF_step hp r']; exact hadv
      · have r' : ¬ p.2 ≤ x := by simpa using r
        have hs := advF_stop hp r'
        rw [← hadv, hs] at h
        have hin : inAt ps j x = decide (p.1 ≤ x) := by unfold inAt; rw [hp]
        rw [hin] at h
        k_extra "my go"
        refine ite_of (fun _ => ?_) fun z => absurd (q.symm.trans z) (by decide)
        k_extra "my go"
        refine op_itemP e3 (by omega) (by rw [Int.toNat_natCast]; exact hp) (by omega) (fun _ _ => rfl) ?_
        k_extra "my go"
        exact h
    · have hj' : ps.length ≤ j := by simpa using q
      have hs := advF_end (x := x) hj'
      rw [← hadv, hs] at h
      have hin : inAt ps j x = false := by unfold inAt; rw [List.getElem?_eq_none hj']
      rw [hin] at h
      k_extra "my go"
      refine ite_of (fun z => absurd (q.symm.trans z) (by decide)) fun _ => ?_
      rw [q]
      exact h

/-! put_together -/
theorem rngI_split {a b q : Int} {d r : List Int} (h : rngI a b = d ++ q :: r) : q = a + (d.length : Int) := by
  have h1 : (rngI a b)[d.length]? = some q := by rw [h]; simp
  unfold rngI at h1
  rw [List.getElem?_map] at h1
  cases e : (List.range (b - a).toNat)[d.length]? with
  | none => rw [e] at h1; cases h1
  | some k =>
    rw [e] at h1
    obtain ⟨h2, h3⟩ := List.getElem?_eq_some_iff.mp e
    rw [List.getElem_range] at h3
    subst h3
    exact (Option.some.inj h1).symm

def joinF (fd : List (Int × Int)) (b e : Int) : List (Int × Int) := match fd.getLast? with
  | some q => if q.2 = b then fd.dropLast ++ [(q.1, e)] else fd ++ [(b, e)]
  | none => fd ++ [(b, e)]
def pstep (K : Bool → Bool → Bool) (ps qs : List (Int × Int)) (pl : List Int) (st : Nat × Nat × List (Int × Int)) (m : Nat) : Nat × Nat × List (Int × Int) :=
  match pl[m]?, pl[m + 1]? with
  | some b, some e =>
    let i := advF ps b st.1
    let j := advF qs b st.2.1
    if K (inAt ps i b) (inAt qs j b) then (i, j, joinF st.2.2 b e) else (i, j, st.2.2)
  | _, _ => st
noncomputable def putF (K : Bool → Bool → Bool) (ps qs : List (Int × Int)) : List (Int × Int) :=
  ((List.range ((mbF (bordF ps) (bordF qs)).length - 1)).foldl (pstep K ps qs (mbF (bordF ps) (bordF qs))) (0, 0, [])).2.2
theorem joinF_len (fd : List (Int × Int)) (b e : Int) : (joinF fd b e).length ≤ fd.length + 1 := by
  unfold joinF
  split
  · split
    · rw [List.length_append, List.length_dropLast]; simp only [List.length_cons, List.length_nil]; omega
    · simp
  · simp
theorem mbGo_len (a b : List Int) : ∀ (m i j : Nat) (fd : List Int), (mbGo a b m i j fd).length ≤ fd.length + m
  | 0, _, _, _ => Nat.le_refl _
  | m + 1, i, j, fd => by
    rw [mbGo]
    have h1 := mbGo_len a b m (mbStep a b i j).2.1 (mbStep a b i j).2.2 (mbPut fd (mbStep a b i j).1)
    have h2 := mbPut_len fd (mbStep a b i j).1
    omega
theorem mbF_len (ps qs : List (Int × Int)) : (mbF (bordF ps) (bordF qs)).length ≤ 2 * ps.length + 2 * qs.length := by
  have := mbGo_len (bordF ps) (bordF qs) ((bordF ps).length + (bordF qs).length) 0 0 []
  rw [bordF_len, bordF_len] at this
  unfold mbF
  rw [bordF_len, bordF_len]
  simpa using this

set_option maxRecDepth 100000 in
set_option maxHeartbeats 4000000 in
theorem c_put (G : (cx w h₀ tabs).Ok) {k1 k2 kl : Nat} {ps qs : List (Int × Int)} {L : LD} (K : Bool → Bool → Bool) (e1 : σ[k1]? = some (.lst (prs ps))) (e2 : σ[k2]? = some (.lst (prs qs))) (el : σ[kl]? = some (.lam L)) (hz1 : ps.length ≤ 20) (hz2 : qs.length ≤ 20)
    (hK : ∀ (a b : Bool) (s : List AO) (Ψ : PV → List AO → Prop), s[kl]? = some (.lam L) → Ψ (.bool (K a b)) s → AC (cx w h₀ tabs) (n + 2) (.obj kl) [.bool a, .bool b] s Ψ)
    (h : NewL σ (prs (putF K ps qs)) Φ) : ACc (cx w h₀ tabs) (n + 3) (.con (.ref 75)) [.obj k1, .obj k2, .obj kl] σ Φ := by
  k_extra "my def"
  refine sq_tupS ["found", "first", "second"] (by decide) (fun _ _ _ _ => rfl) (fun _ _ _ _ => rfl) ?_
  k_extra "my go"
  refine c_walk' G fun i1 d1 s1 x1 a1 a2 a3 g1 g2 => ?_
  k_extra "my go"
  refine c_walk' G fun i2 d2 s2 x2 b1 b2 b3 g3 g4 => ?_
  k_extra "my go"
  refine ⟨_, rfl, rfl, ?_⟩
  k_extra "my norm"
  rw [List.length_append, List.length_singleton] at a1
  have xx : Ext σ s2 := (Ext.push σ _).trans (x1.trans x2)
  k_extra "my go"
  refine (c_merged G (xx _ _ e1) (xx _ _ e2) (by omega) (by omega) fun jp s3 x3 hjp ep => ?_).ac
  have hml := mbF_len ps qs
  have hF : putF K ps qs = ((List.range ((mbF (bordF ps) (bordF qs)).length - 1)).foldl (pstep K ps qs (mbF (bordF ps) (bordF qs))) (0, 0, [])).2.2 := rfl
  rw [hF] at h
  generalize mbF (bordF ps) (bordF qs) = pl at *
  have hjp3 := lt_get ep
  k_extra "my go"
  refine ⟨rngI 0 ((pl.length : Int) - 1), fun d l s => ∃ st, st = (List.range d.length).foldl (pstep K ps qs pl) (0, 0, []) ∧ Ext σ s ∧ l "found" = some (.obj σ.length) ∧ l "first" = some (.obj i1) ∧ l "second" = some (.obj i2) ∧ l "keeps" = some (.obj kl) ∧ l "places" = some (.obj jp) ∧
      s[σ.length]? = some (.lst (prs st.2.2)) ∧ s[d1]? = some (.dct (wfs k1 (st.1 : Nat))) ∧ s[i1]? = some (.ins 64 d1) ∧ s[d2]? = some (.dct (wfs k2 (st.2.1 : Nat))) ∧ s[i2]? = some (.ins 64 d2) ∧ s[jp]? = some (.lst (ins pl)) ∧
      st.1 ≤ ps.length ∧ st.2.1 ≤ qs.length ∧ st.2.2.length ≤ d.length, ⟨_, rfl, xx.trans x3, by k_extra "my loc", by k_extra "my loc", by k_extra "my loc", by k_extra "my loc", by k_extra "my loc",
      x3 _ _ (x2 _ _ (x1 _ _ (get_new _ _))), x3 _ _ (x2 _ _ g1), x3 _ _ (x2 _ _ g2), x3 _ _ g3, x3 _ _ g4, ep, Nat.zero_le _, Nat.zero_le _, Nat.le_refl _⟩, fun d l s j => items_rng (by omega) (by omega) (by omega) (by omega), fun d q r l s hu j => ?_, fun l s j => ?_⟩
  · obtain ⟨⟨i, j, fd⟩, hst, xs, l1, l2, l3, l4, l5, c1, c2, c3, c4, c5, c6, hi, hj, hfz⟩ := j
    have hq : q = (d.length : Int) := by rw [rngI_split hu, Int.zero_add]
    have hlen := len_app hu
    rw [rngI_length] at hlen
    have hm1 : d.length < pl.length := by omega
    have hm2 : d.length + 1 < pl.length := by omega
    have hb : pl[d.length]? = some pl[d.length] := List.getElem?_eq_getElem hm1
    have he : pl[d.length + 1]? = some pl[d.length + 1] := List.getElem?_eq_getElem hm2
    generalize pl[d.length] = b at hb
    generalize pl[d.length + 1] = en at he
    subst hq
    have hnext : (List.range (d ++ [(d.length : Int)]).length).foldl (pstep K ps qs pl) (0, 0, []) = pstep K ps qs pl (i, j, fd) d.length := by
      rw [List.length_append, List.length_singleton, List.range_succ, List.foldl_append, ← hst]; rfl
    have hstep : pstep K ps qs pl (i, j, fd) d.length = if K (inAt ps (advF ps b i) b) (inAt qs (advF qs b j) b) then (advF ps b i, advF qs b j, joinF fd b en) else (advF ps b i, advF qs b j, fd) := by
      unfold pstep; rw [hb, he]
    simp only at c1 c2 c4 hi hj hfz
    have hi' := advF_le (x := b) hi
    have hj' := advF_le (x := b) hj
    have hk1 := lt_get e1
    have hk2 := lt_get e2
    have hkl := lt_get el
    refine sq_tupS ["begin", "end"] (by decide) (fun _ _ _ _ => rfl) (fun _ _ _ _ => rfl) ?_
    k_extra "my go"
    refine op_itemI c6 (by omega) (by rw [Int.toNat_natCast]; exact hb) (by omega) (fun _ _ => rfl) ?_
    k_extra "my go"
    refine op_itemI c6 (by omega) (p := en) (by rw [show ((d.length : Int) + 1).toNat = d.length + 1 by omega]; exact he) (by omega) (fun _ _ => rfl) ?_
    k_extra "my go"
    refine ⟨_, rfl, rfl, ?_⟩
    k_extra "my norm"
    k_extra "my go"
    refine aw_holds G i1 d1 k1 i ?_ (fun _ => ⟨_, rfl⟩) (fun _ => rfl)
    k_extra "my go"
    refine ⟨rfl, c3, c2, ?_⟩
    k_extra "my go"
    refine (c_wholds G c3 c2 (xs _ _ e1) (by omega) hi (by omega) (by omega) ?_).ac
    generalize hA : s.set d1 (.dct (wfs k1 (advF ps b i : Nat))) = sA
    have xA : ∀ (m : Nat) (o : AO), m ≠ d1 → s[m]? = some o → sA[m]? = some o := fun m o hm z => by rw [← hA]; exact get_set_ne hm z
    have gA : sA[d1]? = some (.dct (wfs k1 (advF ps b i : Nat))) := by rw [← hA]; exact get_set c2
    k_extra "my go"
    refine aw_holds G i2 d2 k2 j ?_ (fun _ => ⟨_, rfl⟩) (fun _ => rfl)
    k_extra "my go"
    refine ⟨rfl, xA _ _ (by omega) c5, xA _ _ (by omega) c4, ?_⟩
    k_extra "my go"
    refine (c_wholds G (xA _ _ (by omega) c5) (xA _ _ (by omega) c4) (xA _ _ (by omega) (xs _ _ e2)) (by omega) hj (by omega) (by omega) ?_).ac
    generalize hB : sA.set d2 (.dct (wfs k2 (advF qs b j : Nat))) = sB
    have xB : ∀ (m : Nat) (o : AO), m ≠ d1 → m ≠ d2 → s[m]? = some o → sB[m]? = some o := fun m o hm hm' z => by rw [← hB]; exact get_set_ne hm' (xA m o hm z)
    have gB1 : sB[d1]? = some (.dct (wfs k1 (advF ps b i : Nat))) := by rw [← hB]; exact get_set_ne (by omega) gA
    have gB2 : sB[d2]? = some (.dct (wfs k2 (advF qs b j : Nat))) := by rw [← hB]; exact get_set (xA _ _ (by omega) c4)
    have xsB : Ext σ sB := fun m o z => xB m o (by have := lt_get z; omega) (by have := lt_get z; omega) (xs m o z)
    have f1 := xB _ _ (by omega) (by omega) c1
    have f3 := xB _ _ (by omega) (by omega) c3
    have f5 := xB _ _ (by omega) (by omega) c5
    have f6 := xB _ _ (by omega) (by omega) c6
    have done : ∀ (s' : List AO) (l' : Loc) (fd' : List (Int × Int)), pstep K ps qs pl (i, j, fd) d.length = (advF ps b i, advF qs b j, fd') → fd'.length ≤ d.length + 1 → Ext σ s' → l' "found" = some (.obj σ.length) → l' "first" = some (.obj i1) → l' "second" = some (.obj i2) → l' "keeps" = some (.obj kl) → l' "places" = some (.obj jp) →
        s'[σ.length]? = some (.lst (prs fd')) → s'[d1]? = some (.dct (wfs k1 (advF ps b i : Nat))) → s'[i1]? = some (.ins 64 d1) → s'[d2]? = some (.dct (wfs k2 (advF qs b j : Nat))) → s'[i2]? = some (.ins 64 d2) → s'[jp]? = some (.lst (ins pl)) →
        ∃ st, st = (List.range (d ++ [(d.length : Int)]).length).foldl (pstep K ps qs pl) (0, 0, []) ∧ Ext σ s' ∧ l' "found" = some (.obj σ.length) ∧ l' "first" = some (.obj i1) ∧ l' "second" = some (.obj i2) ∧ l' "keeps" = some (.obj kl) ∧ l' "places" = some (.obj jp) ∧
      s'[σ.length]? = some (.lst (prs st.2.2)) ∧ s'[d1]? = some (.dct (wfs k1 (st.1 : Nat))) ∧ s'[i1]? = some (.ins 64 d1) ∧ s'[d2]? = some (.dct (wfs k2 (st.2.1 : Nat))) ∧ s'[i2]? = some (.ins 64 d2) ∧ s'[jp]? = some (.lst (ins pl)) ∧
      st.1 ≤ ps.length ∧ st.2.1 ≤ qs.length ∧ st.2.2.length ≤ (d ++ [(d.length : Int)]).length := fun s' l' fd' hp hl t0 t1 t2 t3 t4 t5 t6 t7 t8 t9 t10 t11 =>
      ⟨(advF ps b i, advF qs b j, fd'), by rw [hnext, hp], t0, t1, t2, t3, t4, t5, t6, t7, t8, t9, t10, t11, hi', hj', by rw [List.length_append, List.length_singleton]; exact hl⟩
    k_extra "my go"
    refine ⟨callee_lam (xsB _ _ el), hK _ _ _ _ (xsB _ _ el) ?_⟩
    k_extra "my go"
    refine ite_of (fun q => ?_) fun q => ?_
    · have q' : K (inAt ps (advF ps b i) b) (inAt qs (advF qs b j) b) = false := by simpa using q
      rw [q', if_neg (by simp)] at hstep
      k_extra "my go"
      exact done _ _ _ hstep (by omega) xsB (by k_extra "my loc") (by k_extra "my loc") (by k_extra "my loc") (by k_extra "my loc") (by k_extra "my loc") f1 gB1 f3 gB2 f5 f6
    · have q' : K (inAt ps (advF ps b i) b) (inAt qs (advF qs b j) b) = true := by simpa using q
      rw [q', if_pos rfl] at hstep
      have hjl := joinF_len fd b en
      have hje : joinF fd b en = match fd.getLast? with
        | some q => if q.2 = b then fd.dropLast ++ [(q.1, en)] else fd ++ [(b, en)]
        | none => fd ++ [(b, en)] := rfl
      have fin := fun (l' : Loc) (fd' : List (Int × Int)) (hje : joinF fd b en = fd') (t1 : l' "found" = some (.obj σ.length)) (t2 : l' "first" = some (.obj i1)) (t3 : l' "second" = some (.obj i2)) (t4 : l' "keeps" = some (.obj kl)) (t5 : l' "places" = some (.obj jp)) => done ((sB ++ [AO.lst []]).set σ.length (AO.lst (prs fd'))) l' fd' (by rw [hstep, hje]) (by rw [← hje]; omega) ((xsB.pushr _).set (Nat.le_refl _) _) t1 t2 t3 t4 t5 (get_set (get_push f1)) (get_set_ne (by omega) (get_push gB1)) (get_set_ne (by omega) (get_push f3)) (get_set_ne (by omega) (get_push gB2)) (get_set_ne (by omega) (get_push f5)) (get_set_ne (by omega) (get_push f6))
      k_extra "my go"
      refine ite_of (fun q2 => ?_) fun q2 => ?_
      · have q2' : fd ≠ [] := by simpa using q2
        obtain ⟨p, hp⟩ : ∃ p, fd.getLast? = some p := ⟨_, List.getLast?_eq_some_getLast q2'⟩
        rw [hp] at hje
        simp only at hje
        k_extra "my go"
        refine ite_of (fun q3 => ?_) fun q3 => ?_
        · have q3' : p.2 = b := by simpa using q3
          rw [if_pos q3'] at hje
          k_extra "my go"
          exact fin _ _ hje (by k_extra "my loc") (by k_extra "my loc") (by k_extra "my loc") (by k_extra "my loc") (by k_extra "my loc")
        · have q3' : p.2 ≠ b := by simpa using q3
          rw [if_neg q3'] at hje
          k_extra "my go"
          exact fin _ _ hje (by k_extra "my loc") (by k_extra "my loc") (by k_extra "my loc") (by k_extra "my loc") (by k_extra "my loc")
      · have q2' : fd = [] := by simpa using q2
        have hje : joinF fd b en = fd ++ [(b, en)] := by rw [q2']; rfl
        k_extra "my go"
        exact fin _ _ hje (by k_extra "my loc") (by k_extra "my loc") (by k_extra "my loc") (by k_extra "my loc") (by k_extra "my loc")
  · obtain ⟨⟨i, j, fd⟩, hst, xs, l1, l2, l3, l4, l5, c1, c2, c3, c4, c5, c6, hi, hj, hfz⟩ := j
    rw [rngI_length] at hst
    have hn : ((pl.length : Int) - 1 - 0).toNat = pl.length - 1 := by omega
    rw [hn] at hst
    rw [← hst] at h
    k_extra "my go"
    exact h _ _ xs (Nat.le_refl _) c1
end

abbrev tE : Tab := ⟨102, 98, ⟨67, 36, 67, 77⟩, ("exclusive" : Str) ++ ".<locals>." ++ "<lambda>"⟩
abbrev tL : Tab := ⟨95, 91, ⟨65, 36, 65, 84⟩, ("less" : Str) ++ ".<locals>." ++ "<lambda>"⟩
abbrev tC : Tab := ⟨88, 84, ⟨63, 36, 63, 78⟩, ("common" : Str) ++ ".<locals>." ++ "<lambda>"⟩
abbrev tU : Tab := ⟨81, 77, ⟨61, 36, 61, 77⟩, ("union" : Str) ++ ".<locals>." ++ "<lambda>"⟩
abbrev tabsC : List Tab := [tE, tL, tC, tU]

section
variable {w : World} {h₀ : Heap} {n : Nat} {σ : List AO} {Φ : PV → List AO → Prop}

theorem bind2 {Vs : List Value} {X : List Value → Prop} (h : Vs.length = 2) (k : ∀ a b, X [a, b]) : X Vs := by
  match Vs, h with
  | [a, b], _ => exact k a b

set_option maxRecDepth 100000 in
set_option maxHeartbeats 4000000 in
theorem c_union (G : (cx w h₀ tabsC).Ok) {k1 k2 : Nat} {ps qs : List (Int × Int)} (e1 : σ[k1]? = some (.lst (prs ps))) (e2 : σ[k2]? = some (.lst (prs qs))) (hz1 : ps.length ≤ 20) (hz2 : qs.length ≤ 20)
    (h : NewL σ (prs (putF (fun a b => a || b) ps qs)) Φ) : ACc (cx w h₀ tabsC) (n + 4) (.con (.ref 82)) [.obj k1, .obj k2] σ Φ := by
  k_extra "my def"
  k_extra "my go"
  refine aw_lambda G (q := tU) (by simp) rfl rfl rfl (by decide) (fun _ => rfl) ?_
  k_extra "my go"
  refine (c_put (kl := σ.length) G (fun a b => a || b) (get_push e1) (get_push e2) (get_new _ _) hz1 hz2 (fun a b s Ψ hl hΨ => ?_) ?_).ac
  · refine ac_lam (xs := ["is_in", "is_there"]) G hl (fun Vs pm cdv ct hV => bind2 (X := fun Vs => bindArgs (kla_fn "<lambda>" _ _ _ _ [] pm cdv ct) ⟨Vs, []⟩ = pure ((["is_in", "is_there"] : List Str).zip Vs)) hV fun _ _ => rfl) (by decide) (by decide) (by decide) rfl rfl rfl fun cd => ?_
    simp only [binds0, List.zip_cons_cons, List.zip_nil_right, upAll]
    k_extra "my go"
    cases a <;> cases b <;> k_extra "my go" <;> exact hΨ
  · exact fun j σ' a c d => ret_ret (h.ext (.push _ _) j σ' a c d)

set_option maxRecDepth 100000 in
set_option maxHeartbeats 4000000 in
theorem c_common (G : (cx w h₀ tabsC).Ok) {k1 k2 : Nat} {ps qs : List (Int × Int)} (e1 : σ[k1]? = some (.lst (prs ps))) (e2 : σ[k2]? = some (.lst (prs qs))) (hz1 : ps.length ≤ 20) (hz2 : qs.length ≤ 20)
    (h : NewL σ (prs (putF (fun a b => a && b) ps qs)) Φ) : ACc (cx w h₀ tabsC) (n + 4) (.con (.ref 89)) [.obj k1, .obj k2] σ Φ := by
  k_extra "my def"
  k_extra "my go"
  refine aw_lambda G (q := tC) (by simp) rfl rfl rfl (by decide) (fun _ => rfl) ?_
  k_extra "my go"
  refine (c_put (kl := σ.length) G (fun a b => a && b) (get_push e1) (get_push e2) (get_new _ _) hz1 hz2 (fun a b s Ψ hl hΨ => ?_) ?_).ac
  · refine ac_lam (xs := ["is_in", "is_there"]) G hl (fun Vs pm cdv ct hV => bind2 (X := fun Vs => bindArgs (kla_fn "<lambda>" _ _ _ _ [] pm cdv ct) ⟨Vs, []⟩ = pure ((["is_in", "is_there"] : List Str).zip Vs)) hV fun _ _ => rfl) (by decide) (by decide) (by decide) rfl rfl rfl fun cd => ?_
    simp only [binds0, List.zip_cons_cons, List.zip_nil_right, upAll]
    k_extra "my go"
    cases a <;> cases b <;> k_extra "my go" <;> exact hΨ
  · exact fun j σ' a c d => ret_ret (h.ext (.push _ _) j σ' a c d)

set_option maxRecDepth 100000 in
set_option maxHeartbeats 4000000 in
theorem c_less (G : (cx w h₀ tabsC).Ok) {k1 k2 : Nat} {ps qs : List (Int × Int)} (e1 : σ[k1]? = some (.lst (prs ps))) (e2 : σ[k2]? = some (.lst (prs qs))) (hz1 : ps.length ≤ 20) (hz2 : qs.length ≤ 20)
    (h : NewL σ (prs (putF (fun a b => a && !b) ps qs)) Φ) : ACc (cx w h₀ tabsC) (n + 4) (.con (.ref 96)) [.obj k1, .obj k2] σ Φ := by
  k_extra "my def"
  k_extra "my go"
  refine aw_lambda G (q := tL) (by simp) rfl rfl rfl (by decide) (fun _ => rfl) ?_
  k_extra "my go"
  refine (c_put (kl := σ.length) G (fun a b => a && !b) (get_push e1) (get_push e2) (get_new _ _) hz1 hz2 (fun a b s Ψ hl hΨ => ?_) ?_).ac
  · refine ac_lam (xs := ["is_in", "is_there"]) G hl (fun Vs pm cdv ct hV => bind2 (X := fun Vs => bindArgs (kla_fn "<lambda>" _ _ _ _ [] pm cdv ct) ⟨Vs, []⟩ = pure ((["is_in", "is_there"] : List Str).zip Vs)) hV fun _ _ => rfl) (by decide) (by decide) (by decide) rfl rfl rfl fun cd => ?_
    simp only [binds0, List.zip_cons_cons, List.zip_nil_right, upAll]
    k_extra "my go"
    cases a <;> cases b <;> k_extra "my go" <;> exact hΨ
  · exact fun j σ' a c d => ret_ret (h.ext (.push _ _) j σ' a c d)

set_option maxRecDepth 100000 in
set_option maxHeartbeats 4000000 in
theorem c_exclusive (G : (cx w h₀ tabsC).Ok) {k1 k2 : Nat} {ps qs : List (Int × Int)} (e1 : σ[k1]? = some (.lst (prs ps))) (e2 : σ[k2]? = some (.lst (prs qs))) (hz1 : ps.length ≤ 20) (hz2 : qs.length ≤ 20)
    (h : NewL σ (prs (putF (fun a b => a != b) ps qs)) Φ) : ACc (cx w h₀ tabsC) (n + 4) (.con (.ref 103)) [.obj k1, .obj k2] σ Φ := by
  k_extra "my def"
  k_extra "my go"
  refine aw_lambda G (q := tE) (by simp) rfl rfl rfl (by decide) (fun _ => rfl) ?_
  k_extra "my go"
  refine (c_put (kl := σ.length) G (fun a b => a != b) (get_push e1) (get_push e2) (get_new _ _) hz1 hz2 (fun a b s Ψ hl hΨ => ?_) ?_).ac
  · refine ac_lam (xs := ["is_in", "is_there"]) G hl (fun Vs pm cdv ct hV => bind2 (X := fun Vs => bindArgs (kla_fn "<lambda>" _ _ _ _ [] pm cdv ct) ⟨Vs, []⟩ = pure ((["is_in", "is_there"] : List Str).zip Vs)) hV fun _ _ => rfl) (by decide) (by decide) (by decide) rfl rfl rfl fun cd => ?_
    simp only [binds0, List.zip_cons_cons, List.zip_nil_right, upAll]
    k_extra "my go"
    exact hΨ
  · exact fun j σ' a c d => ret_ret (h.ext (.push _ _) j σ' a c d)
end

theorem foldl_mstep_len : ∀ (l fd : List (Int × Int)), (l.foldl mstep fd).length ≤ fd.length + l.length
  | [], fd => by simp
  | p :: l, fd => by
    rw [List.foldl_cons]
    have h1 := foldl_mstep_len l (mstep fd p)
    have h2 := mstep_len fd p
    simp only [List.length_cons]; omega
theorem nf_len (ps : List (Int × Int)) : (nf ps).length ≤ ps.length := by
  have h := foldl_mstep_len (sortP ps) []
  have : (sortP ps).length = ps.length := by unfold sortP; exact List.length_mergeSort ps
  unfold nf; simp only [List.length_nil] at h; omega

section
variable {w : World} {h₀ : Heap} {n : Nat} {σ : List AO} {Φ : PV → List AO → Prop}

set_option maxRecDepth 100000 in
set_option maxHeartbeats 4000000 in
theorem c_gaps (G : (cx w h₀ tabsC).Ok) {k : Nat} {ps : List (Int × Int)} {lo hi : Int} (e : σ[k]? = some (.lst (prs ps))) (hz : ps.length ≤ 20)
    (h : NewL σ (prs (putF (fun a b => a && !b) (nf [(lo, hi)]) ps)) Φ) : ACc (cx w h₀ tabsC) (n + 5) (.con (.ref 110)) [.obj k, .int lo, .int hi] σ Φ := by
  have hl := nf_len [(lo, hi)]
  simp only [List.length_cons, List.length_nil] at hl
  k_extra "my def"
  k_extra "my go"
  refine (c_normal G (ps := [(lo, hi)]) (get_new _ _) (by simp) fun j s hx hj ej => ?_).ac
  have es := hx _ _ (get_push e)
  k_extra "my go"
  refine (c_less G ej es (by omega) hz ?_).ac
  exact fun j σ' a c d => ret_ret (h.ext ((Ext.push _ _).trans hx) j σ' a c d)

set_option maxRecDepth 100000 in
set_option maxHeartbeats 4000000 in
theorem c_cut (G : (cx w h₀ tabsC).Ok) {k : Nat} {ps : List (Int × Int)} {lo hi : Int} (e : σ[k]? = some (.lst (prs ps))) (hz : ps.length ≤ 20)
    (h : NewL σ (prs (putF (fun a b => a && b) ps (nf [(lo, hi)]))) Φ) : ACc (cx w h₀ tabsC) (n + 5) (.con (.ref 117)) [.obj k, .int lo, .int hi] σ Φ := by
  have hl := nf_len [(lo, hi)]
  simp only [List.length_cons, List.length_nil] at hl
  k_extra "my def"
  k_extra "my go"
  refine (c_normal G (ps := [(lo, hi)]) (get_new _ _) (by simp) fun j s hx hj ej => ?_).ac
  have es := hx _ _ (get_push e)
  k_extra "my go"
  refine (c_common G es ej hz (by omega) ?_).ac
  exact fun j σ' a c d => ret_ret (h.ext ((Ext.push _ _).trans hx) j σ' a c d)

set_option maxRecDepth 100000 in
set_option maxHeartbeats 4000000 in
theorem c_within (G : (cx w h₀ tabsC).Ok) {k1 k2 : Nat} {ps qs : List (Int × Int)} (e1 : σ[k1]? = some (.lst (prs ps))) (e2 : σ[k2]? = some (.lst (prs qs))) (hz1 : ps.length ≤ 20) (hz2 : qs.length ≤ 20)
    (h : ∀ σ', Ext σ σ' → Φ (.bool (decide (putF (fun a b => a && !b) ps qs = []))) σ') : ACc (cx w h₀ tabsC) (n + 5) (.con (.ref 143)) [.obj k1, .obj k2] σ Φ := by
  k_extra "my def"
  k_extra "my go"
  refine (c_less G e1 e2 hz1 hz2 fun j s hx hj ej => ?_).ac
  k_extra "my go"
  exact h _ (hx.pushr _)

/-- normal: apart, in order -/
def Nm (ps : List (Int × Int)) : Prop := (∀ p ∈ ps, p.1 < p.2) ∧ ps.Pairwise fun p q => p.2 < q.1
def covB (ps : List (Int × Int)) (x : Int) : Bool := ps.any fun p => decide (p.1 ≤ x) && decide (x < p.2)

theorem Nm.lt {ps : List (Int × Int)} (h : Nm ps) {i j : Nat} {p q : Int × Int} (hij : i < j) (hp : ps[i]? = some p) (hq : ps[j]? = some q) : p.2 < q.1 := by
  obtain ⟨hi, rfl⟩ := List.getElem?_eq_some_iff.mp hp
  obtain ⟨hj, rfl⟩ := List.getElem?_eq_some_iff.mp hq
  exact List.pairwise_iff_getElem.mp h.2 i j hi hj hij
theorem Nm.pos {ps : List (Int × Int)} (h : Nm ps) {i : Nat} {p : Int × Int} (hp : ps[i]? = some p) : p.1 < p.2 := h.1 p (List.mem_of_getElem? hp)
theorem covB_iff {ps : List (Int × Int)} {x : Int} : covB ps x = true ↔ ∃ p ∈ ps, p.1 ≤ x ∧ x < p.2 := by
  unfold covB
  rw [List.any_eq_true]
  simp only [Bool.and_eq_true, decide_eq_true_iff]

/-- the place found by halving, or by walking -/
theorem covB_at {ps : List (Int × Int)} (h : Nm ps) {x : Int} {a : Nat} (h1 : ∀ i p, i < a → ps[i]? = some p → p.2 ≤ x) (h2 : ∀ i p, a ≤ i → ps[i]? = some p → x < p.2) : inAt ps a x = covB ps x := by
  rw [Bool.eq_iff_iff, covB_iff]
  unfold inAt
  constructor
  · intro e
    cases q : ps[a]? with
    | none => rw [q] at e; cases e
    | some p =>
      rw [q] at e
      exact ⟨p, List.mem_of_getElem? q, by simpa using e, h2 a p (Nat.le_refl _) q⟩
  · rintro ⟨p, hp, e1, e2⟩
    obtain ⟨i, hi, rfl⟩ := List.mem_iff_getElem.mp hp
    have hpi : ps[i]? = some ps[i] := List.getElem?_eq_getElem hi
    have hai : a ≤ i := by
      by_cases z : a ≤ i
      · exact z
      · have := h1 i _ (by omega) hpi; omega
    by_cases z : i = a
    · subst z; rw [hpi]; simpa using e1
    · exfalso
      have hlt : a < i := by omega
      have ha : ps[a]? = some ps[a] := List.getElem?_eq_getElem (by omega)
      have k1 := h2 a _ (Nat.le_refl _) ha
      have k2 := h.lt hlt ha hpi
      omega

set_option maxRecDepth 100000 in
set_option maxHeartbeats 4000000 in
theorem c_holds (G : (cx w h₀ tabsC).Ok) {k : Nat} {ps : List (Int × Int)} {x : Int} (e : σ[k]? = some (.lst (prs ps))) (hz : ps.length ≤ 100) (hN : Nm ps) (h : Φ (.bool (covB ps x)) σ) : ACc (cx w h₀ tabsC) (n + 1) (.con (.ref 131)) [.obj k, .int x] σ Φ := by
  k_extra "my def"
  refine sq_tupS ["low", "high"] (by decide) (fun _ _ _ _ => rfl) (fun _ _ _ _ => rfl) ?_
  k_extra "my go"
  refine ⟨_, rfl, rfl, ?_⟩
  k_extra "my norm"
  refine sq_while (fun m l s => s = σ ∧ ∃ lo hi : Nat, l "spans" = some (.obj k) ∧ l "x" = some (.int x) ∧ l "low" = some (.int lo) ∧ l "high" = some (.int hi) ∧ m = hi - lo ∧ lo ≤ hi ∧ hi ≤ ps.length ∧
    (∀ i p, i < lo → ps[i]? = some p → p.2 ≤ x) ∧ (∀ i p, hi ≤ i → ps[i]? = some p → x < p.2)) (ps.length - 0) ?_ ?_
  · refine ⟨rfl, 0, ps.length, by k_extra "my loc", by k_extra "my loc", by k_extra "my loc", by k_extra "my loc", rfl, Nat.zero_le _, Nat.le_refl _, fun i p hi => by omega, fun i p hi hp => ?_⟩
    have := (List.getElem?_eq_some_iff.mp hp).1; omega
  · rintro m l s ⟨rfl, lo, hi, l1, l2, l3, l4, rfl, hle, hhi, hA, hB⟩
    k_extra "my go"
    refine ite_of (fun q => ?_) fun q => ?_
    · have q' : lo < hi := by simpa using q
      k_extra "my go"
      refine opB_div (by omega) ?_ (PyProof.noPylong_small (by decide))
      have hmid : Int.fdiv ((lo : Int) + hi) 2 = (((lo + hi) / 2 : Nat) : Int) := by
        rw [Int.fdiv_eq_ediv_of_nonneg _ (by omega)]; omega
      rw [hmid]
      have hm1 : lo ≤ (lo + hi) / 2 := by omega
      have hm2 : (lo + hi) / 2 < hi := by omega
      generalize (lo + hi) / 2 = mid at *
      have hp : ps[mid]? = some ps[mid] := List.getElem?_eq_getElem (by omega)
      generalize ps[mid] = p at hp
      k_extra "my go"
      refine op_itemP e (by omega) (by rw [Int.toNat_natCast]; exact hp) (by omega) (fun _ _ => rfl) ?_
      k_extra "my go"
      refine ite_of (fun r => ?_) fun r => ?_
      · have r' : p.2 ≤ x := by simpa using r
        k_extra "my go"
        refine ⟨hi - (mid + 1), by omega, rfl, mid + 1, hi, by k_extra "my loc", by k_extra "my loc", by k_extra "my loc", by k_extra "my loc", rfl, by omega, hhi, fun i pi hi' hpi => ?_, hB⟩
        by_cases z : i = mid
        · subst z; rw [hp] at hpi; cases hpi; exact r'
        · have k1 := hN.lt (i := i) (j := mid) (by omega) hpi hp
          have k2 := hN.pos hp
          omega
      · have r' : ¬ p.2 ≤ x := by simpa using r
        k_extra "my go"
        refine ⟨mid - lo, by omega, rfl, lo, mid, by k_extra "my loc", by k_extra "my loc", by k_extra "my loc", by k_extra "my loc", rfl, hm1, by omega, hA, fun i pi hi' hpi => ?_⟩
        by_cases z : i = mid
        · subst z; rw [hp] at hpi; cases hpi; omega
        · have k1 := hN.lt (i := mid) (j := i) (by omega) hp hpi
          have k2 := hN.pos hpi
          omega
    · have q' : lo = hi := by have : ¬ lo < hi := by simpa using q
                              omega
      subst q'
      rw [← covB_at hN hA hB] at h
      k_extra "my go"
      refine ite_of (fun r => ?_) fun r => ?_
      · have r' : lo < ps.length := by simpa using r
        have hp : ps[lo]? = some ps[lo] := List.getElem?_eq_getElem r'
        generalize ps[lo] = p at hp
        have hin : inAt ps lo x = decide (p.1 ≤ x) := by unfold inAt; rw [hp]
        rw [hin] at h
        k_extra "my go"
        refine op_itemP e (by omega) (by rw [Int.toNat_natCast]; exact hp) (by omega) (fun _ _ => rfl) ?_
        k_extra "my go"
        exact h
      · have r' : ps.length ≤ lo := by simpa using r
        have hin : inAt ps lo x = false := by unfold inAt; rw [List.getElem?_eq_none r']
        rw [hin] at h
        rw [r]
        exact h
end

/-- the source's two cells -/
def Src (a b : Int) : Prop := 0 ≤ a ∧ 0 ≤ b ∧ b < 2147483647
def ExtB (k : Nat) (σ σ' : List AO) : Prop := ∀ (i : Nat) (o : AO), i ≠ k → σ[i]? = some o → σ'[i]? = some o
theorem ExtB.trans {k : Nat} {a b c : List AO} (x : ExtB k a b) (y : ExtB k b c) : ExtB k a c := fun i o h e => y i o h (x i o h e)
theorem ExtB.ofExt {k : Nat} {a b : List AO} (x : Ext a b) : ExtB k a b := fun i o _ e => x i o e
theorem ExtB.set {k : Nat} {a b : List AO} (x : ExtB k a b) (o : AO) : ExtB k a (b.set k o) := fun i p h e => get_set_ne h (x i p h e)
theorem ExtB.push {k : Nat} {a b : List AO} (x : ExtB k a b) (o : AO) : ExtB k a (b ++ [o]) := fun i p h e => get_push (x i p h e)

theorem fmod_bounds {a t : Int} (ht : 0 < t) : 0 ≤ Int.fmod a t ∧ Int.fmod a t < t := ⟨Int.fmod_nonneg_of_pos a ht, Int.fmod_lt_of_pos a ht⟩
theorem bits64 {a : Int} (h1 : -(2 ^ 63) < a) (h2 : a < 2 ^ 63) : Builtin.Int.intBits a ≤ 64 := PySem.intBits_le_iff.mpr (by omega)
theorem mulL {a b : Int} (h1 : -(2 ^ 63) < a) (h2 : a < 2 ^ 63) : IntMulOk a b := IntMulOk.of_left (bits64 h1 h2)
theorem mulR {a b : Int} (h1 : -(2 ^ 63) < b) (h2 : b < 2 ^ 63) : IntMulOk a b := IntMulOk.of_right (bits64 h1 h2)

section
variable {C : Cx} {n : Nat} {σ : List AO} {Φ : PV → List AO → Prop}
/-! a list of the base -/
theorem baseList {h : Heap} {ρ : List Addr} (S : SR C h ρ σ) {a : Addr} {vs : List Value} (hb : C.h₀.IsList a vs.toArray) : h.IsList a vs.toArray := by
  obtain ⟨o, e, c, d⟩ := hb
  exact ⟨o, S.base _ _ e, c, d⟩
theorem ac_lenC {a : Addr} {vs : List Value} (hb : C.h₀.IsList a vs.toArray) (hz : vs.length < 2 ^ 62) (h : Φ (.int vs.length) σ) : AC C n (.con (.builtin "len")) [.con (.ref a)] σ Φ := by
  intro A s ρ F Vs Q E ha hs hF hv hQ
  rw [hF.con_inv]
  obtain ⟨V, rfl, v1⟩ := hv.one_inv
  rw [v1.con_inv]
  refine len_list (baseList hs hb) (by rw [List.size_toArray]; omega) ?_
  exact hQ _ (.int vs.length) s.heap _ ρ σ (.refl _ _ _) hs (by rw [List.size_toArray]; exact .int _ _) h
theorem intsAt : ∀ {vs : List Value} {ns : List Int}, IntsAre vs ns → ∀ {k : Nat} {p : Int}, ns[k]? = some p → ∃ t, vs[k]? = some (.int p t)
  | _, _, .nil, k, p, h => by simp at h
  | _, _, .cons n t r, 0, p, h => by simp at h; subst h; exact ⟨t, rfl⟩
  | _, _, .cons n t r, k + 1, p, h => by
    obtain ⟨u, e⟩ := intsAt r (k := k) (p := p) (by simpa using h)
    exact ⟨u, by simpa using e⟩
theorem op_itemC {v i : Expr} {a : Addr} {vs : List Value} {ns : List Int} {j p : Int} (hb : C.h₀.IsList a vs.toArray) (hI : IntsAre vs ns) (h0 : 0 ≤ j) (hp : ns[j.toNat]? = some p) (hz : vs.length < 2 ^ 62) (hi : Plain i) (h : Φ (.int p) σ) :
    Op2 C n (subscriptTail v i) (.con (.ref a)) (.int j) σ Φ := by
  intro A s ρ V₁ V₂ Q E ha hs h1 h2 hQ
  rw [h1.con_inv]
  obtain ⟨t, rfl⟩ := h2.int_inv
  obtain ⟨u, ev⟩ := intsAt hI hp
  have hj := (List.getElem?_eq_some_iff.mp ev).1
  have hL := baseList hs hb
  exact tail_any hL.typeIs slot_list_getitem.lookup (wpAny_getItem_list hL h0 (by omega) (by simpa using ev) (hQ _ (.int p) s.heap s.toks ρ σ (.refl _ _ _) hs (.int _ _) h)) (hi _ _)
end

section
variable {w : World} {h₀ : Heap} {n : Nat} {σ : List AO} {Φ : PV → List AO → Prop}

set_option maxRecDepth 100000 in
set_option maxHeartbeats 4000000 in
theorem c_pool (G : (cx w h₀ tabsC).Ok) {ks : Addr} {vs : List Value} {ns : List Int} {k : Int} (e : h₀.IsList ks vs.toArray) (hI : IntsAre vs ns) (hz : ns.length ≤ 1000) (hk0 : 0 ≤ k) (hk1 : k ≤ 1)
    (h : ∀ a b, Src a b → NewL σ [.int a, .int b] Φ) : ACc (cx w h₀ tabsC) (n + 1) (.con (.ref 184)) [.con (.ref ks), .int k] σ Φ := by
  have hvl : vs.length = ns.length := hI.length
  k_extra "my def"
  k_extra "my st"
  k_extra "my aw"
  refine ax_cons (AG.mono (Φ := fun f l' s' => f = .next ∧ s' = σ ∧ l' "k" = some (.int k) ∧ ∃ c, l' "cell" = some (.int c)) (as_if ?_) ?_)
  · k_extra "my go"
    refine ac_lenC e (by omega) ?_
    k_extra "my go"
    refine ite_of (fun q => ?_) fun q => ?_
    · have q' : k < ns.length := by rw [hvl] at q; simpa using q
      have hp : ns[k.toNat]? = some ns[k.toNat] := List.getElem?_eq_getElem (by omega)
      k_extra "my go"
      refine op_itemC e hI hk0 hp (by omega) (fun _ _ => rfl) ?_
      k_extra "my go"
      exact ⟨rfl, rfl, by k_extra "my loc", _, by k_extra "my loc"⟩
    · k_extra "my go"
      exact ⟨rfl, rfl, by k_extra "my loc", _, by k_extra "my loc"⟩
  · rintro f l' s' ⟨rfl, rfl, l1, c, l2⟩
    k_extra "my go"
    generalize hbig : (if -1 - c > c then -1 - c else c) = big
    have hb0 : 0 ≤ big := by rw [← hbig]; split <;> omega
    refine opB_mod (by omega) ?_
    have hm := fmod_bounds (a := big) (t := 2147483629) (by omega)
    generalize Int.fmod big 2147483629 = r1 at *
    k_extra "my go"
    refine opB_mul ?_ (mulL (by omega) (by omega))
    k_extra "my go"
    have hk : k = 0 ∨ k = 1 := by omega
    refine opB_mul ?_ (mulR (by omega) (by omega))
    k_extra "my go"
    refine opB_mul ?_ (mulL (by omega) (by omega))
    k_extra "my go"
    refine opB_mul ?_ (mulR (by omega) (by omega))
    k_extra "my go"
    refine opB_mod (by omega) ?_
    have hm2 := fun z => fmod_bounds (a := z) (t := 2147483647) (by omega)
    generalize hz2 : (r1 + 7919 * k * k + 31 * k + 17) * 48271 = z2
    have hm3 := hm2 z2
    generalize Int.fmod z2 2147483647 = r2 at *
    k_extra "my go"
    refine opB_pow (by omega) (by omega) (by decide) ?_
    k_extra "my go"
    refine opB_mul ?_ (mulR (by split <;> omega) (by split <;> omega))
    k_extra "my go"
    refine h _ _ ⟨?_, hm3.1, hm3.2⟩ _ _ (.push _ _) (Nat.le_refl _) (get_new _ _)
    split
    · omega
    · omega

set_option maxRecDepth 100000 in
set_option maxHeartbeats 4000000 in
theorem c_take (G : (cx w h₀ tabsC).Ok) {ks : Nat} {a b top : Int} (e : σ[ks]? = some (.lst [.int a, .int b])) (hs : Src a b) (ht : 0 < top) (ht' : top < 1000000)
    (h : ∀ r a' b', 0 ≤ r → r < top → Src a' b' → Φ (.int r) (σ.set ks (.lst [.int a', .int b']))) : ACc (cx w h₀ tabsC) (n + 1) (.con (.ref 191)) [.obj ks, .int top] σ Φ := by
  obtain ⟨h1, h2, h3⟩ := hs
  k_extra "my def"
  k_extra "my go"
  refine op_itemI (l := [a, b]) e (by omega) rfl (by simp) (fun _ _ => rfl) ?_
  k_extra "my go"
  refine ite_of (fun q => ?_) fun q => ?_
  · k_extra "my go"
    refine op_itemI (l := [a, b]) e (by omega) rfl (by simp) (fun _ _ => rfl) ?_
    k_extra "my go"
    refine opB_mod (by omega) ?_
    have hm := fmod_bounds (a := a) ht
    generalize Int.fmod a top = r at *
    k_extra "my go"
    refine op_itemI (l := [a, b]) e (by omega) rfl (by simp) (fun _ _ => rfl) ?_
    k_extra "my go"
    refine opB_div (by omega) ?_ (PyProof.noPylong_small (by omega))
    have hd : 0 ≤ Int.fdiv a top := Int.fdiv_nonneg h1 (by omega)
    generalize Int.fdiv a top = a' at *
    k_extra "my go"
    refine op_setItem (q := 0) e (.inr ⟨by omega, rfl⟩) (by simp) (by simp) ?_
    k_extra "my go"
    exact h _ _ _ hm.1 hm.2 ⟨hd, h2, h3⟩
  · k_extra "my go"
    refine op_itemI (l := [a, b]) e (by omega) rfl (by simp) (fun _ _ => rfl) ?_
    k_extra "my go"
    refine opB_mul ?_ (mulR (by omega) (by omega))
    k_extra "my go"
    refine opB_mod (by omega) ?_
    have hm := fmod_bounds (a := b * 39373 + 7) (t := 2147483647) (by omega)
    generalize Int.fmod (b * 39373 + 7) 2147483647 = b' at *
    k_extra "my go"
    refine op_setItem (q := 1) e (.inr ⟨by omega, rfl⟩) (by simp) (by simp) ?_
    have e' : (σ.set ks (.lst [.int a, .int b']))[ks]? = some (.lst (ins [a, b'])) := get_set e
    show AX _ _ _ _ _ (σ.set ks (.lst [.int a, .int b'])) _
    k_extra "my go"
    refine op_itemI e' (by omega) rfl (by simp) (fun _ _ => rfl) ?_
    k_extra "my go"
    refine op_itemI e' (by omega) rfl (by simp) (fun _ _ => rfl) ?_
    k_extra "my go"
    refine opB_mul ?_ (mulR (by omega) (by omega))
    k_extra "my go"
    refine opB_mod (by omega) ?_
    k_extra "my go"
    refine opB_div (by omega) ?_ (PyProof.noPylong_small (by decide))
    k_extra "my go"
    refine opB_mod (by omega) ?_
    have hm2 := fmod_bounds (a := Int.fdiv (Int.fmod (b' * b') 2147483629) 32) ht
    generalize Int.fmod (Int.fdiv (Int.fmod (b' * b') 2147483629) 32) top = r at *
    k_extra "my go"
    exact h _ _ _ hm2.1 hm2.2 ⟨h1, hm.1, hm.2⟩
end

def OkPs (ps : List (Int × Int)) : Prop := ps.length ≤ 4 ∧ ∀ p ∈ ps, -3 ≤ p.1 ∧ p.1 ≤ 7 ∧ p.1 - 1 ≤ p.2 ∧ p.2 ≤ p.1 + 4
def placesF (ps : List (Int × Int)) : List Int := (rngI (-3) 14).filter (covB ps)
def spansF (xs : List Int) : List (Int × Int) := xs.foldl (fun fd x => joinF fd x (x + 1)) []
theorem spansF_snoc (d : List Int) (x : Int) : spansF (d ++ [x]) = joinF (spansF d) x (x + 1) := by unfold spansF; rw [List.foldl_append]; rfl
theorem spansF_len (d : List Int) : (spansF d).length ≤ d.length := by
  unfold spansF
  have : ∀ (d : List Int) (fd : List (Int × Int)), (d.foldl (fun fd x => joinF fd x (x + 1)) fd).length ≤ fd.length + d.length := by
    intro d
    induction d with
    | nil => intro fd; simp
    | cons x r ih =>
      intro fd
      rw [List.foldl_cons]
      have h1 := ih (joinF fd x (x + 1))
      have h2 := joinF_len fd x (x + 1)
      simp only [List.length_cons]; omega
  have := this d []
  simpa using this

section
variable {w : World} {h₀ : Heap} {n : Nat} {σ : List AO} {Φ : PV → List AO → Prop}

set_option maxRecDepth 100000 in
set_option maxHeartbeats 4000000 in
theorem c_one (G : (cx w h₀ tabsC).Ok) {ks kt : Nat} {a b : Int} {ts : List Int} (e : σ[ks]? = some (.lst [.int a, .int b])) (et : σ[kt]? = some (.lst (ins ts))) (hkt : kt ≠ ks) (hs : Src a b) (ht : 0 < ts.length) (ht' : ts.length < 1000)
    (h : ∀ v a' b', v ∈ ts → Src a' b' → Φ (.int v) (σ.set ks (.lst [.int a', .int b']))) : ACc (cx w h₀ tabsC) (n + 2) (.con (.ref 198)) [.obj ks, .obj kt] σ Φ := by
  k_extra "my def"
  k_extra "my go"
  refine (c_take G e hs (by omega) (by omega) fun r a' b' h1 h2 hs' => ?_).ac
  have et' : (σ.set ks (.lst [.int a', .int b']))[kt]? = some (.lst (ins ts)) := get_set_ne hkt et
  have hp : ts[r.toNat]? = some ts[r.toNat] := List.getElem?_eq_getElem (by omega)
  k_extra "my go"
  refine op_itemI et' h1 hp (by omega) (fun _ _ => rfl) ?_
  k_extra "my go"
  exact h _ _ _ (List.mem_of_getElem? hp) hs'

set_option maxRecDepth 100000 in
set_option maxHeartbeats 4000000 in
theorem c_pairs (G : (cx w h₀ tabsC).Ok) {ks : Nat} {a b : Int} (e : σ[ks]? = some (.lst [.int a, .int b])) (hs : Src a b)
    (h : ∀ ps a' b' j σ', OkPs ps → Src a' b' → ExtB ks σ σ' → σ'[ks]? = some (.lst [.int a', .int b']) → σ.length ≤ j → σ'[j]? = some (.lst (prs ps)) → Φ (.obj j) σ') : ACc (cx w h₀ tabsC) (n + 3) (.con (.ref 205)) [.obj ks] σ Φ := by
  k_extra "my def"
  have hks := lt_get e
  k_extra "my go"
  refine (c_take G (get_push e) hs (by omega) (by omega) fun r a' b' h1 h2 hs' => ?_).ac
  k_extra "my go"
  refine ⟨rngI 0 r, fun d l s => ∃ ps a b, OkPs ps ∧ ps.length ≤ d.length ∧ Src a b ∧ ExtB ks σ s ∧ l "source" = some (.obj ks) ∧ l "drawn" = some (.obj σ.length) ∧ s[ks]? = some (.lst [.int a, .int b]) ∧ s[σ.length]? = some (.lst (prs ps)), ⟨[], a', b', ⟨by simp, by simp⟩, by simp, hs',
    (ExtB.push (.ofExt (.refl σ)) _).set _, by k_extra "my loc", by k_extra "my loc", get_set (get_push e), get_set_ne (by omega) (get_new _ _)⟩, fun d l s j => items_rng (by omega) (by omega) (by omega) (by omega), fun d q r' l s hu j => ?_, fun l s j => ?_⟩
  · obtain ⟨ps, a, b, hok, hpl, hs, xs, l1, l2, c1, c2⟩ := j
    have hlen := len_app hu
    rw [rngI_length] at hlen
    have hsl := lt_get c2
    k_extra "my go"
    refine (c_take G c1 hs (by omega) (by omega) fun f a1 b1 f1 f2 hs1 => ?_).ac
    k_extra "my go"
    generalize hsA : s.set ks (.lst [.int a1, .int b1]) = sA
    have gA1 : sA[ks]? = some (.lst [.int a1, .int b1]) := by rw [← hsA]; exact get_set c1
    have gA2 : sA[σ.length]? = some (.lst (prs ps)) := by rw [← hsA]; exact get_set_ne (by omega) c2
    have xA : ExtB ks σ sA := by rw [← hsA]; exact xs.set _
    have hAl := lt_get gA2
    k_extra "my go"
    refine (c_one G (ks := ks) (kt := sA.length) (ts := [0, 1, 1, 2, 4, -1]) (get_push gA1) (get_new _ _) (by omega) hs1 (by simp) (by simp) fun v a2 b2 hv hs2 => ?_).ac
    have hvb : -1 ≤ v ∧ v ≤ 4 := by simp only [List.mem_cons, List.not_mem_nil, or_false] at hv; omega
    k_extra "my go"
    have g3 : ((sA ++ [AO.lst (ins [0, 1, 1, 2, 4, -1])]).set ks (.lst [.int a2, .int b2]))[σ.length]? = some (.lst (prs ps)) := get_set_ne (by omega) (get_push gA2)
    refine ⟨ps ++ [(f - 3, f - 3 + v)], a2, b2, ⟨by rw [List.length_append, List.length_singleton]; omega, fun p hp => ?_⟩, by rw [List.length_append, List.length_append]; simp only [List.length_singleton]; omega, hs2, ?_, by k_extra "my loc", by k_extra "my loc", get_set_ne (by omega) (get_set (get_push gA1)), get_set g3⟩
    · rcases List.mem_append.mp hp with hp | hp
      · exact hok.2 p hp
      · rw [List.mem_singleton] at hp; subst hp
        simp only; omega
    · have x2 : ExtB ks σ ((sA ++ [AO.lst (ins [0, 1, 1, 2, 4, -1])]).set ks (.lst [.int a2, .int b2])) := (xA.push _).set _
      intro i o hi z
      exact get_set_ne (by have := lt_get z; omega) (x2 i o hi z)
  · obtain ⟨ps, a, b, hok, hpl, hs, xs, l1, l2, c1, c2⟩ := j
    k_extra "my go"
    exact h _ _ _ _ _ hok hs xs c1 (Nat.le_refl _) c2

set_option maxRecDepth 100000 in
set_option maxHeartbeats 4000000 in
theorem c_spans (G : (cx w h₀ tabsC).Ok) {k : Nat} {xs : List Int} (e : σ[k]? = some (.lst (ins xs))) (hz : xs.length ≤ 100) (h : NewL σ (prs (spansF xs)) Φ) : ACc (cx w h₀ tabsC) (n + 1) (.con (.ref 217)) [.obj k] σ Φ := by
  have hk := lt_get e
  k_extra "my def"
  k_extra "my go"
  refine ⟨xs, fun d l s => Ext σ s ∧ l "found" = some (.obj σ.length) ∧ s[σ.length]? = some (.lst (prs (spansF d))), ⟨.push _ _, by k_extra "my loc", get_new _ _⟩, fun d l s j => j.1 _ _ e, fun d x r l s hu j => ?_, fun l s j => ?_⟩
  · obtain ⟨xs', l1, c1⟩ := j
    have hlen := len_app hu
    have hsl := spansF_len d
    have hsn := spansF_snoc d x
    have hje : joinF (spansF d) x (x + 1) = match (spansF d).getLast? with
        | some q => if q.2 = x then (spansF d).dropLast ++ [(q.1, x + 1)] else spansF d ++ [(x, x + 1)]
        | none => spansF d ++ [(x, x + 1)] := rfl
    have fin := fun (l' : Loc) (fd' : List (Int × Int)) (hje : joinF (spansF d) x (x + 1) = fd') (t1 : l' "found" = some (.obj σ.length)) =>
      (⟨(xs'.pushr _).set (Nat.le_refl _) _, t1, by rw [hsn, hje]; exact get_set (get_push c1)⟩ : Ext σ ((s ++ [AO.lst []]).set σ.length (.lst (prs fd'))) ∧ l' "found" = some (.obj σ.length) ∧ ((s ++ [AO.lst []]).set σ.length (.lst (prs fd')))[σ.length]? = some (.lst (prs (spansF (d ++ [x])))))
    generalize spansF d = fd at *
    k_extra "my go"
    refine ite_of (fun q2 => ?_) fun q2 => ?_
    · have q2' : fd ≠ [] := by simpa using q2
      obtain ⟨p, hp⟩ : ∃ p, fd.getLast? = some p := ⟨_, List.getLast?_eq_some_getLast q2'⟩
      rw [hp] at hje
      simp only at hje
      k_extra "my go"
      refine ite_of (fun q3 => ?_) fun q3 => ?_
      · have q3' : p.2 = x := by simpa using q3
        rw [if_pos q3'] at hje
        k_extra "my go"
        exact fin _ _ hje (by k_extra "my loc")
      · have q3' : p.2 ≠ x := by simpa using q3
        rw [if_neg q3'] at hje
        k_extra "my go"
        exact fin _ _ hje (by k_extra "my loc")
    · have q2' : fd = [] := by simpa using q2
      have hje : joinF fd x (x + 1) = fd ++ [(x, x + 1)] := by rw [q2']; rfl
      k_extra "my go"
      exact fin _ _ hje (by k_extra "my loc")
  · obtain ⟨xs', l1, c1⟩ := j
    k_extra "my go"
    exact h _ _ xs' (Nat.le_refl _) c1

set_option maxRecDepth 100000 in
set_option maxHeartbeats 4000000 in
theorem c_places (G : (cx w h₀ tabsC).Ok) {k : Nat} {ps : List (Int × Int)} (e : σ[k]? = some (.lst (prs ps))) (hz : ps.length ≤ 100) (h : NewL σ (ins (placesF ps)) Φ) : ACc (cx w h₀ tabsC) (n + 1) (.con (.ref 210)) [.obj k] σ Φ := by
  k_extra "my def"
  k_extra "my go"
  refine aw_comp1 (covB ps) PV.int (compOk rfl (by decide) rfl rfl) (.inr rfl) ?_ (fun _ _ => rfl)
  k_extra "my go"
  refine ⟨rngI (-3) 14, items_rng (by omega) (by omega) (by omega) (by omega), by rw [rngI_length, sizeLine_eq]; omega, fun x hx s xs => ?_, fun j s xs hj ej => ?_⟩
  · k_extra "my go"
    refine aw_comp2 (fun q => decide (q.1 ≤ x) && decide (x < q.2)) (fun _ => PV.int 1) (compOk rfl (by decide) rfl rfl) (.inl rfl) (.inl rfl) ?_ (fun _ _ => rfl)
    k_extra "my go"
    refine ⟨ps, xs _ _ e, by k_extra "my size", fun q hq s2 xs2 => ?_, fun j s2 xs2 hj ej => ?_⟩
    · k_extra "my go"
      refine ite_of (fun q1 => ?_) fun q1 => ?_
      · k_extra "my go"
        refine ⟨by rw [q1]; rfl, .refl _, fun _ => ?_⟩
        k_extra "my go"
        exact ⟨rfl, .refl _⟩
      · exact ⟨by rw [q1]; rfl, .refl _, fun z => by rw [q1] at z; cases z⟩
    · have ej' : s2[j]? = some (.lst (ins ((ps.filter fun q => decide (q.1 ≤ x) && decide (x < q.2)).map fun _ => 1))) := by
        rw [ej]; show _ = some (AO.lst (List.map _ (List.map _ _))); rw [List.map_map]; rfl
      k_extra "my go"
      refine ⟨?_, xs2.pushr _, fun _ => ?_⟩
      · rw [Bool.eq_iff_iff]; unfold covB
        simp
      · k_extra "my go"
        exact ⟨rfl, .refl _⟩
  · exact ret_ret (h j s xs hj ej)
end

def Cov (ps : List (Int × Int)) (x : Int) : Prop := ∃ p ∈ ps, p.1 ≤ x ∧ x < p.2
theorem cov_nil {x : Int} : ¬ Cov [] x := fun ⟨_, h, _⟩ => by cases h
theorem cov_cons {p : Int × Int} {r : List (Int × Int)} {x : Int} : Cov (p :: r) x ↔ (p.1 ≤ x ∧ x < p.2) ∨ Cov r x := by
  unfold Cov; simp only [List.mem_cons]
  constructor
  · rintro ⟨q, rfl | h, k⟩
    · exact .inl k
    · exact .inr ⟨q, h, k⟩
  · rintro (k | ⟨q, h, k⟩)
    · exact ⟨p, .inl rfl, k⟩
    · exact ⟨q, .inr h, k⟩
theorem cov_app {a b : List (Int × Int)} {x : Int} : Cov (a ++ b) x ↔ Cov a x ∨ Cov b x := by
  unfold Cov; simp only [List.mem_append]
  constructor
  · rintro ⟨q, h | h, k⟩
    · exact .inl ⟨q, h, k⟩
    · exact .inr ⟨q, h, k⟩
  · rintro (⟨q, h, k⟩ | ⟨q, h, k⟩)
    · exact ⟨q, .inl h, k⟩
    · exact ⟨q, .inr h, k⟩
theorem cov_one {p : Int × Int} {x : Int} : Cov [p] x ↔ p.1 ≤ x ∧ x < p.2 := by
  rw [cov_cons]; exact ⟨fun h => h.elim id fun z => (cov_nil z).elim, .inl⟩

theorem nm_nil : Nm [] := ⟨fun _ h => (by cases h), List.Pairwise.nil⟩
theorem nm_cons {p : Int × Int} {r : List (Int × Int)} : Nm (p :: r) ↔ p.1 < p.2 ∧ (∀ q ∈ r, p.2 < q.1) ∧ Nm r := by
  unfold Nm
  rw [List.pairwise_cons]
  simp only [List.mem_cons, forall_eq_or_imp]
  constructor
  · rintro ⟨⟨a, b⟩, c, d⟩; exact ⟨a, c, b, d⟩
  · rintro ⟨a, c, b, d⟩; exact ⟨⟨a, b⟩, c, d⟩
theorem nm_snoc {p : Int × Int} {r : List (Int × Int)} : Nm (r ++ [p]) ↔ Nm r ∧ p.1 < p.2 ∧ (∀ q ∈ r, q.2 < p.1) := by
  unfold Nm
  rw [List.pairwise_append]
  simp only [List.mem_append, List.mem_singleton]
  constructor
  · rintro ⟨h, a, _, b⟩
    exact ⟨⟨fun q hq => h q (.inl hq), a⟩, h p (.inr rfl), fun q hq => b q hq p rfl⟩
  · rintro ⟨⟨h, a⟩, k, b⟩
    refine ⟨fun q hq => ?_, a, by simp, fun q hq z hz => by subst hz; exact b q hq⟩
    rcases hq with hq | rfl
    · exact h q hq
    · exact k

/-- one normal form for each set -/
theorem nm_uniq : ∀ {a b : List (Int × Int)}, Nm a → Nm b → (∀ x, Cov a x ↔ Cov b x) → a = b
  | [], [], _, _, _ => rfl
  | [], q :: t, _, hb, h => by
    have := (h q.1).mpr (cov_cons.mpr (.inl ⟨Int.le_refl _, (nm_cons.mp hb).1⟩))
    exact (cov_nil this).elim
  | p :: r, [], ha, _, h => by
    have := (h p.1).mp (cov_cons.mpr (.inl ⟨Int.le_refl _, (nm_cons.mp ha).1⟩))
    exact (cov_nil this).elim
  | p :: r, q :: t, ha, hb, h => by
    obtain ⟨a1, a2, a3⟩ := nm_cons.mp ha
    obtain ⟨b1, b2, b3⟩ := nm_cons.mp hb
    have up : ∀ {p : Int × Int} {r : List (Int × Int)}, p.1 < p.2 → (∀ q ∈ r, p.2 < q.1) → ∀ x, Cov (p :: r) x → p.1 ≤ x ∧ (x < p.2 ∨ p.2 < x) := by
      intro p r h1 h2 x hx
      rcases cov_cons.mp hx with k | ⟨z, hz, k⟩
      · exact ⟨k.1, .inl k.2⟩
      · have := h2 z hz; omega
    have e1 : p.1 = q.1 := by
      have k1 := (up b1 b2 p.1 ((h p.1).mp (cov_cons.mpr (.inl ⟨Int.le_refl _, a1⟩)))).1
      have k2 := (up a1 a2 q.1 ((h q.1).mpr (cov_cons.mpr (.inl ⟨Int.le_refl _, b1⟩)))).1
      omega
    have lt : ∀ {p q : Int × Int} {r t : List (Int × Int)}, p.1 < p.2 → (∀ z ∈ r, p.2 < z.1) → q.1 < q.2 → (∀ z ∈ t, q.2 < z.1) → p.1 = q.1 → (∀ x, Cov (p :: r) x → Cov (q :: t) x) → p.2 ≤ q.2 := by
      intro p q r t h1 h2 h3 h4 e h
      by_cases z : p.2 ≤ q.2
      · exact z
      · exfalso
        have := up h3 h4 q.2 (h q.2 (cov_cons.mpr (.inl ⟨by omega, by omega⟩)))
        omega
    have e2 : p.2 = q.2 := by
      have k1 := lt a1 a2 b1 b2 e1 fun x => (h x).mp
      have k2 := lt b1 b2 a1 a2 e1.symm fun x => (h x).mpr
      omega
    have e : p = q := Prod.ext e1 e2
    subst e
    rw [nm_uniq a3 b3 fun x => ?_]
    have sub : ∀ {r t : List (Int × Int)}, (∀ z ∈ r, p.2 < z.1) → (∀ x, Cov (p :: r) x → Cov (p :: t) x) → ∀ x, Cov r x → Cov t x := by
      intro r t h1 h2 x hx
      have hlt : p.2 < x := by obtain ⟨z, hz, k⟩ := hx; have := h1 z hz; omega
      rcases cov_cons.mp (h2 x (cov_cons.mpr (.inr hx))) with k | k
      · omega
      · exact k
    exact ⟨sub a2 (fun x => (h x).mp) x, sub b2 (fun x => (h x).mpr) x⟩

/-! joinF -/
theorem joinF_spec {fd : List (Int × Int)} {b e : Int} (hN : Nm fd) (hb : ∀ p ∈ fd, p.2 ≤ b) (he : b < e) : Nm (joinF fd b e) ∧ (∀ p ∈ joinF fd b e, p.2 ≤ e) ∧ ∀ x, Cov (joinF fd b e) x ↔ Cov fd x ∨ (b ≤ x ∧ x < e) := by
  have app : (∀ p ∈ fd, p.2 < b) → Nm (fd ++ [(b, e)]) ∧ (∀ p ∈ fd ++ [(b, e)], p.2 ≤ e) ∧ ∀ x, Cov (fd ++ [(b, e)]) x ↔ Cov fd x ∨ (b ≤ x ∧ x < e) := fun h => by
    refine ⟨nm_snoc.mpr ⟨hN, he, h⟩, fun p hp => ?_, fun x => by rw [cov_app, cov_one]⟩
    rcases List.mem_append.mp hp with hp | hp
    · have := hb p hp; omega
    · rw [List.mem_singleton] at hp; subst hp; exact Int.le_refl _
  unfold joinF
  cases q : fd.getLast? with
  | none =>
    have : fd = [] := List.getLast?_eq_none_iff.mp q
    subst this
    exact app fun p hp => by cases hp
  | some z =>
    simp only
    have hz : z ∈ fd := List.mem_of_getLast? q
    obtain ⟨ys, rfl⟩ : ∃ ys, fd = ys ++ [z] := List.getLast?_eq_some_iff.mp q
    obtain ⟨n1, n2, n3⟩ := nm_snoc.mp hN
    by_cases h : z.2 = b
    · rw [if_pos h, List.dropLast_concat]
      refine ⟨nm_snoc.mpr ⟨n1, by simp only; omega, n3⟩, fun p hp => ?_, fun x => ?_⟩
      · rcases List.mem_append.mp hp with hp | hp
        · have := hb p (List.mem_append_left _ hp); omega
        · rw [List.mem_singleton] at hp; subst hp; exact Int.le_refl _
      · rw [cov_app, cov_app, cov_one, cov_one]
        simp only
        constructor
        · rintro (k | k)
          · exact .inl (.inl k)
          · by_cases l : x < z.2
            · exact .inl (.inr ⟨k.1, l⟩)
            · exact .inr ⟨by omega, k.2⟩
        · rintro ((k | k) | k)
          · exact .inl k
          · exact .inr ⟨k.1, by omega⟩
          · exact .inr ⟨by omega, k.2⟩
    · rw [if_neg h]
      refine app fun p hp => ?_
      rcases List.mem_append.mp hp with hp | hp
      · have h1 := n3 p hp; have h2 := hb z (by simp); omega
      · rw [List.mem_singleton] at hp; subst hp
        have h2 := hb p (by simp); omega

/-! spansF -/
def Inc (xs : List Int) : Prop := xs.Pairwise (· < ·)
theorem spansF_spec : ∀ (xs : List Int) (fd : List (Int × Int)), Nm fd → Inc xs → (∀ p ∈ fd, ∀ x ∈ xs, p.2 ≤ x) →
    Nm (xs.foldl (fun fd x => joinF fd x (x + 1)) fd) ∧ ∀ y, Cov (xs.foldl (fun fd x => joinF fd x (x + 1)) fd) y ↔ Cov fd y ∨ y ∈ xs
  | [], fd, hN, _, _ => ⟨hN, fun y => by simp⟩
  | x :: r, fd, hN, hi, hb => by
    obtain ⟨i1, i2⟩ := List.pairwise_cons.mp hi
    obtain ⟨j1, j2, j3⟩ := joinF_spec hN (fun p hp => hb p hp x List.mem_cons_self) (show x < x + 1 by omega)
    obtain ⟨k1, k2⟩ := spansF_spec r (joinF fd x (x + 1)) j1 i2 fun p hp y hy => by
      have h1 := j2 p hp; have h2 := i1 y hy; omega
    rw [List.foldl_cons]
    refine ⟨k1, fun y => ?_⟩
    rw [k2, j3, List.mem_cons, or_assoc]
    constructor
    · rintro (k | k | k)
      · exact .inl k
      · exact .inr (.inl (by omega))
      · exact .inr (.inr k)
    · rintro (k | k | k)
      · exact .inl k
      · exact .inr (.inl (by omega))
      · exact .inr (.inr k)
theorem nm_spans {xs : List Int} (h : Inc xs) : Nm (spansF xs) := (spansF_spec xs [] nm_nil h fun _ z => by cases z).1
theorem cov_spans {xs : List Int} (h : Inc xs) (y : Int) : Cov (spansF xs) y ↔ y ∈ xs := by
  rw [show spansF xs = xs.foldl (fun fd x => joinF fd x (x + 1)) [] from rfl, (spansF_spec xs [] nm_nil h fun _ z => by cases z).2]
  exact ⟨fun k => k.elim (fun z => (cov_nil z).elim) id, .inr⟩
theorem inc_rng (a b : Int) : Inc (rngI a b) := by
  unfold Inc rngI
  rw [List.pairwise_map]
  exact List.pairwise_lt_range.imp fun h => by omega
theorem Inc.filter {xs : List Int} (h : Inc xs) (p : Int → Bool) : Inc (xs.filter p) := List.Pairwise.filter p h

/-! nf -/
theorem mstep_spec : ∀ (l fd : List (Int × Int)), Nm fd → l.Pairwise (fun p q => p.1 ≤ q.1) → (∀ q ∈ fd, ∀ p ∈ l, q.1 ≤ p.1) →
    Nm (l.foldl mstep fd) ∧ ∀ x, Cov (l.foldl mstep fd) x ↔ Cov fd x ∨ Cov l x
  | [], fd, hN, _, _ => ⟨hN, fun x => ⟨.inl, fun k => k.elim id fun z => (cov_nil z).elim⟩⟩
  | p :: l, fd, hN, hs, hb => by
    obtain ⟨s1, s2⟩ := List.pairwise_cons.mp hs
    rw [List.foldl_cons]
    have step : Nm (mstep fd p) ∧ (∀ q ∈ mstep fd p, ∀ z ∈ l, q.1 ≤ z.1) ∧ ∀ x, Cov (mstep fd p) x ↔ Cov fd x ∨ (p.1 ≤ x ∧ x < p.2) := by
      unfold mstep
      by_cases h0 : p.2 ≤ p.1
      · rw [if_pos h0]
        exact ⟨hN, fun q hq z hz => hb q hq z (List.mem_cons_of_mem _ hz), fun x => ⟨.inl, fun k => k.elim id fun z => by omega⟩⟩
      · rw [if_neg h0]
        have app : (∀ q ∈ fd, q.2 < p.1) → Nm (fd ++ [p]) ∧ (∀ q ∈ fd ++ [p], ∀ z ∈ l, q.1 ≤ z.1) ∧ ∀ x, Cov (fd ++ [p]) x ↔ Cov fd x ∨ (p.1 ≤ x ∧ x < p.2) := fun h => by
          refine ⟨nm_snoc.mpr ⟨hN, by omega, h⟩, fun q hq z hz => ?_, fun x => by rw [cov_app, cov_one]⟩
          rcases List.mem_append.mp hq with hq | hq
          · exact hb q hq z (List.mem_cons_of_mem _ hz)
          · rw [List.mem_singleton] at hq; subst hq; exact s1 z hz
        cases e : fd.getLast? with
        | none =>
          have : fd = [] := List.getLast?_eq_none_iff.mp e
          subst this
          exact app fun q hq => by cases hq
        | some q =>
          simp only
          obtain ⟨ys, rfl⟩ : ∃ ys, fd = ys ++ [q] := List.getLast?_eq_some_iff.mp e
          obtain ⟨n1, n2, n3⟩ := nm_snoc.mp hN
          have hq1 := hb q (by simp) p List.mem_cons_self
          by_cases h : p.1 ≤ q.2
          · rw [if_pos h, List.dropLast_concat]
            refine ⟨nm_snoc.mpr ⟨n1, by simp only; split <;> omega, n3⟩, fun z hz y hy => ?_, fun x => ?_⟩
            · rcases List.mem_append.mp hz with hz | hz
              · exact hb z (List.mem_append_left _ hz) y (List.mem_cons_of_mem _ hy)
              · rw [List.mem_singleton] at hz; subst hz
                exact hb q (by simp) y (List.mem_cons_of_mem _ hy)
            · rw [cov_app, cov_app, cov_one, cov_one]
              simp only
              constructor
              · rintro (k | k)
                · exact .inl (.inl k)
                · by_cases l : x < q.2
                  · exact .inl (.inr ⟨k.1, l⟩)
                  · refine .inr ⟨by omega, ?_⟩
                    have := k.2
                    split at this <;> omega
              · rintro ((k | k) | k)
                · exact .inl k
                · exact .inr ⟨k.1, by split <;> omega⟩
                · exact .inr ⟨by omega, by split <;> omega⟩
          · rw [if_neg h]
            refine app fun z hz => ?_
            rcases List.mem_append.mp hz with hz | hz
            · have := n3 z hz; omega
            · rw [List.mem_singleton] at hz; subst hz; omega
    obtain ⟨t1, t2, t3⟩ := step
    obtain ⟨k1, k2⟩ := mstep_spec l (mstep fd p) t1 s2 t2
    refine ⟨k1, fun x => ?_⟩
    rw [k2, t3, cov_cons, or_assoc]
theorem sortP_perm (ps : List (Int × Int)) : (sortP ps).Perm ps := List.mergeSort_perm _ _
theorem sortP_pw (ps : List (Int × Int)) : (sortP ps).Pairwise fun p q => p.1 ≤ q.1 := by
  have := List.pairwise_mergeSort (le := fun x y : Int × Int => !lx y x) (fun a b c h1 h2 => ?_) (fun a b => ?_) ps
  · exact this.imp fun {a b} h => by
      by_cases z : a.1 ≤ b.1
      · exact z
      · exfalso
        have : lx b a = true := lx_iff.mpr (.inl (by omega))
        rw [this] at h; cases h
  · have k1 : ¬ (b.1 < a.1 ∨ (b.1 = a.1 ∧ b.2 < a.2)) := fun k => by rw [lx_iff.mpr k] at h1; cases h1
    have k2 : ¬ (c.1 < b.1 ∨ (c.1 = b.1 ∧ c.2 < b.2)) := fun k => by rw [lx_iff.mpr k] at h2; cases h2
    cases hb : lx c a with
    | false => rfl
    | true => rw [lx_iff] at hb; omega
  · cases h1 : lx b a with
    | false => rfl
    | true =>
      cases h2 : lx a b with
      | false => rfl
      | true => rw [lx_iff] at h1 h2; omega
theorem nm_nf (ps : List (Int × Int)) : Nm (nf ps) := (mstep_spec (sortP ps) [] nm_nil (sortP_pw ps) fun _ z => by cases z).1
theorem cov_nf (ps : List (Int × Int)) (x : Int) : Cov (nf ps) x ↔ Cov ps x := by
  rw [show nf ps = (sortP ps).foldl mstep [] from rfl, (mstep_spec (sortP ps) [] nm_nil (sortP_pw ps) fun _ z => by cases z).2]
  constructor
  · rintro (k | ⟨p, hp, k⟩)
    · exact (cov_nil k).elim
    · exact ⟨p, (sortP_perm ps).mem_iff.mp hp, k⟩
  · rintro ⟨p, hp, k⟩
    exact .inr ⟨p, (sortP_perm ps).mem_iff.mpr hp, k⟩
theorem covB_cov {ps : List (Int × Int)} {x : Int} : covB ps x = true ↔ Cov ps x := covB_iff
theorem covB_nf (ps : List (Int × Int)) (x : Int) : covB (nf ps) x = covB ps x := by
  rw [Bool.eq_iff_iff, covB_cov, covB_cov, cov_nf]

/-! merged borders -/
structure MbI (a b : List Int) (i j : Nat) (fd : List Int) : Prop where
  inc : Inc fd
  mem : ∀ z, z ∈ fd ↔ z ∈ a.take i ∨ z ∈ b.take j
  la : ∀ z ∈ fd, ∀ y ∈ a.drop i, z ≤ y
  lb : ∀ z ∈ fd, ∀ y ∈ b.drop j, z ≤ y

theorem take_snoc {α : Type} {a : List α} {i : Nat} {x : α} (h : a[i]? = some x) : a.take (i + 1) = a.take i ++ [x] := by rw [List.take_add_one, h]; rfl
theorem drop_cons {α : Type} {a : List α} {i : Nat} {x : α} (h : a[i]? = some x) : a.drop i = x :: a.drop (i + 1) := by
  have := List.drop_eq_getElem_cons (List.getElem?_eq_some_iff.mp h).1
  rw [(List.getElem?_eq_some_iff.mp h).2] at this
  exact this

theorem mbPut_spec {fd : List Int} {x : Int} (h : Inc fd) (hx : ∀ z ∈ fd, z ≤ x) : Inc (mbPut fd x) ∧ (∀ z, z ∈ mbPut fd x ↔ z ∈ fd ∨ z = x) ∧ ∀ z ∈ mbPut fd x, z ≤ x := by
  unfold mbPut
  by_cases q : fd.getLast? = some x
  · rw [if_pos q]
    refine ⟨h, fun z => ⟨.inl, fun k => k.elim id fun e => e ▸ List.mem_of_getLast? q⟩, hx⟩
  · rw [if_neg q]
    refine ⟨?_, fun z => by rw [List.mem_append, List.mem_singleton], fun z hz => ?_⟩
    · unfold Inc
      rw [List.pairwise_append]
      refine ⟨h, by simp, fun z hz y hy => ?_⟩
      rw [List.mem_singleton] at hy; subst hy
      have h1 := hx z hz
      by_cases e : z = y
      · exfalso
        subst e
        cases l : fd.getLast? with
        | none => rw [List.getLast?_eq_none_iff.mp l] at hz; cases hz
        | some m =>
          obtain ⟨ys, rfl⟩ := List.getLast?_eq_some_iff.mp l
          have hm := hx m (by simp)
          unfold Inc at h
          rw [List.pairwise_append] at h
          rcases List.mem_append.mp hz with hz | hz
          · have := h.2.2 z hz m (by simp); omega
          · rw [List.mem_singleton] at hz; subst hz; exact q l
      · omega
    · rcases List.mem_append.mp hz with hz | hz
      · exact hx z hz
      · rw [List.mem_singleton] at hz; subst hz; exact Int.le_refl _

theorem mbGo_spec {a b : List Int} (ha : Inc a) (hb : Inc b) : ∀ (m i j : Nat) (fd : List Int), m = (a.length - i) + (b.length - j) → i ≤ a.length → j ≤ b.length → MbI a b i j fd → Inc (mbGo a b m i j fd) ∧ ∀ z, z ∈ mbGo a b m i j fd ↔ z ∈ a ∨ z ∈ b
  | 0, i, j, fd, hm, hi, hj, I => by
    unfold mbGo
    refine ⟨I.inc, fun z => ?_⟩
    rw [I.mem, List.take_of_length_le (by omega), List.take_of_length_le (by omega)]
  | m + 1, i, j, fd, hm, hi, hj, I => by
    rw [mbGo]
    have stepA : ∀ x, a[i]? = some x → (∀ y ∈ b.drop j, x ≤ y) → MbI a b (i + 1) j (mbPut fd x) := fun x hx hxy => by
      have hd := drop_cons hx
      have dec : ∀ y ∈ a.drop (i + 1), x < y := by
        have : (a.drop i).Pairwise (· < ·) := List.Pairwise.sublist (List.drop_sublist i a) ha
        rw [hd] at this
        exact (List.pairwise_cons.mp this).1
      obtain ⟨p1, p2, p3⟩ := mbPut_spec I.inc fun z hz => I.la z hz x (by rw [hd]; exact List.mem_cons_self)
      refine ⟨p1, fun z => ?_, fun z hz y hy => ?_, fun z hz y hy => ?_⟩
      · rw [p2, I.mem, take_snoc hx, List.mem_append, List.mem_singleton]
        constructor
        · rintro ((k | k) | k)
          · exact .inl (.inl k)
          · exact .inr k
          · exact .inl (.inr k)
        · rintro ((k | k) | k)
          · exact .inl (.inl k)
          · exact .inr k
          · exact .inl (.inr k)
      · have h1 := p3 z hz; have h2 := dec y hy; omega
      · have h1 := p3 z hz; have h2 := hxy y hy; omega
    have stepB : ∀ x, b[j]? = some x → (∀ y ∈ a.drop i, x ≤ y) → MbI a b i (j + 1) (mbPut fd x) := fun x hx hxy => by
      have hd := drop_cons hx
      have dec : ∀ y ∈ b.drop (j + 1), x < y := by
        have : (b.drop j).Pairwise (· < ·) := List.Pairwise.sublist (List.drop_sublist j b) hb
        rw [hd] at this
        exact (List.pairwise_cons.mp this).1
      obtain ⟨p1, p2, p3⟩ := mbPut_spec I.inc fun z hz => I.lb z hz x (by rw [hd]; exact List.mem_cons_self)
      refine ⟨p1, fun z => ?_, fun z hz y hy => ?_, fun z hz y hy => ?_⟩
      · rw [p2, I.mem, take_snoc hx, List.mem_append, List.mem_singleton]
        constructor
        · rintro ((k | k) | k)
          · exact .inl k
          · exact .inr (.inl k)
          · exact .inr (.inr k)
        · rintro (k | k | k)
          · exact .inl (.inl k)
          · exact .inl (.inr k)
          · exact .inr k
      · have h1 := p3 z hz; have h2 := hxy y hy; omega
      · have h1 := p3 z hz; have h2 := dec y hy; omega
    have minD : ∀ {l : List Int} {k : Nat} {x : Int}, Inc l → l[k]? = some x → ∀ y ∈ l.drop k, x ≤ y := fun {l k x} hl hx y hy => by
      have : (l.drop k).Pairwise (· < ·) := List.Pairwise.sublist (List.drop_sublist k l) hl
      rw [drop_cons hx] at this hy
      rcases List.mem_cons.mp hy with rfl | hy
      · exact Int.le_refl _
      · have := (List.pairwise_cons.mp this).1 y hy; omega
    cases ea : a[i]? with
    | some x =>
      have hia := (List.getElem?_eq_some_iff.mp ea).1
      cases eb : b[j]? with
      | some y =>
        have hjb := (List.getElem?_eq_some_iff.mp eb).1
        by_cases h : x ≤ y
        · have hs : mbStep a b i j = (x, i + 1, j) := by unfold mbStep; rw [ea, eb]; simp only; rw [if_pos h]
          rw [hs]
          exact mbGo_spec ha hb m (i + 1) j _ (by omega) hia hj (stepA x ea fun z hz => by have := minD hb eb z hz; omega)
        · have hs : mbStep a b i j = (y, i, j + 1) := by unfold mbStep; rw [ea, eb]; simp only; rw [if_neg h]
          rw [hs]
          exact mbGo_spec ha hb m i (j + 1) _ (by omega) hi hjb (stepB y eb fun z hz => by have := minD ha ea z hz; omega)
      | none =>
        have hjb := List.getElem?_eq_none_iff.mp eb
        have hs : mbStep a b i j = (x, i + 1, j) := by unfold mbStep; rw [ea, eb]
        rw [hs]
        exact mbGo_spec ha hb m (i + 1) j _ (by omega) hia hj (stepA x ea fun z hz => by rw [List.drop_of_length_le hjb] at hz; cases hz)
    | none =>
      have hia := List.getElem?_eq_none_iff.mp ea
      cases eb : b[j]? with
      | some y =>
        have hjb := (List.getElem?_eq_some_iff.mp eb).1
        have hs : mbStep a b i j = (y, i, j + 1) := by unfold mbStep; rw [ea, eb]
        rw [hs]
        exact mbGo_spec ha hb m i (j + 1) _ (by omega) hi hjb (stepB y eb fun z hz => by rw [List.drop_of_length_le hia] at hz; cases hz)
      | none =>
        have hjb := List.getElem?_eq_none_iff.mp eb
        omega

theorem inc_bord : ∀ {ps : List (Int × Int)}, Nm ps → Inc (bordF ps)
  | [], _ => .nil
  | p :: r, h => by
    obtain ⟨h1, h2, h3⟩ := nm_cons.mp h
    have e : bordF (p :: r) = p.1 :: p.2 :: bordF r := by simp [bordF]
    have hb : ∀ y ∈ bordF r, p.2 < y := fun y hy => by
      unfold bordF at hy
      obtain ⟨q, hq, hy⟩ := List.mem_flatMap.mp hy
      have k1 := h2 q hq
      have k2 := h3.1 q hq
      simp only [List.mem_cons, List.not_mem_nil, or_false] at hy
      omega
    unfold Inc
    rw [e]
    refine List.pairwise_cons.mpr ⟨fun y hy => ?_, List.pairwise_cons.mpr ⟨hb, inc_bord h3⟩⟩
    rcases List.mem_cons.mp hy with rfl | hy
    · exact h1
    · have := hb y hy; omega
theorem mem_bord {ps : List (Int × Int)} {p : Int × Int} (h : p ∈ ps) : p.1 ∈ bordF ps ∧ p.2 ∈ bordF ps := by
  unfold bordF
  exact ⟨List.mem_flatMap.mpr ⟨p, h, by simp⟩, List.mem_flatMap.mpr ⟨p, h, by simp⟩⟩

theorem mbF_spec {a b : List Int} (ha : Inc a) (hb : Inc b) : Inc (mbF a b) ∧ ∀ z, z ∈ mbF a b ↔ z ∈ a ∨ z ∈ b :=
  mbGo_spec ha hb _ 0 0 [] (by simp) (Nat.zero_le _) (Nat.zero_le _) ⟨.nil, fun z => by simp, fun z hz => (by cases hz), fun z hz => by cases hz⟩

/-! the walk along the borders -/
theorem advF_spec {ps : List (Int × Int)} (hN : Nm ps) {x : Int} : ∀ {a : Nat}, a ≤ ps.length → (∀ i p, i < a → ps[i]? = some p → p.2 ≤ x) →
    (∀ i p, i < advF ps x a → ps[i]? = some p → p.2 ≤ x) ∧ (∀ i p, advF ps x a ≤ i → ps[i]? = some p → x < p.2) := by
  suffices H : ∀ m a, m = ps.length - a → a ≤ ps.length → (∀ i p, i < a → ps[i]? = some p → p.2 ≤ x) →
    (∀ i p, i < advF ps x a → ps[i]? = some p → p.2 ≤ x) ∧ (∀ i p, advF ps x a ≤ i → ps[i]? = some p → x < p.2) from fun {a} h1 h2 => H _ a rfl h1 h2
  intro m
  induction m with
  | zero =>
    intro a hm ha h
    rw [advF_end (by omega)]
    refine ⟨h, fun i p hi hp => ?_⟩
    have := (List.getElem?_eq_some_iff.mp hp).1; omega
  | succ m ih =>
    intro a hm ha h
    have hp : ps[a]? = some ps[a] := List.getElem?_eq_getElem (by omega)
    generalize ps[a] = p at hp
    by_cases hx : p.2 ≤ x
    · rw [advF_step hp hx]
      refine ih (a + 1) (by omega) (by omega) fun i q hi hq => ?_
      by_cases z : i = a
      · subst z; rw [hp] at hq; cases hq; exact hx
      · exact h i q (by omega) hq
    · rw [advF_stop hp hx]
      refine ⟨h, fun i q hi hq => ?_⟩
      by_cases z : i = a
      · subst z; rw [hp] at hq; cases hq; omega
      · have k1 := hN.lt (i := a) (j := i) (by omega) hp hq
        have k2 := hN.pos hq
        omega

/-- between two borders nothing changes -/
theorem flat {ps : List (Int × Int)} {b e x : Int} (hno : ∀ z, (∃ p ∈ ps, z = p.1 ∨ z = p.2) → z ≤ b ∨ e ≤ z) (h1 : b ≤ x) (h2 : x < e) : covB ps x = covB ps b := by
  rw [Bool.eq_iff_iff, covB_cov, covB_cov]
  constructor
  · rintro ⟨p, hp, k1, k2⟩
    refine ⟨p, hp, ?_, by omega⟩
    rcases hno p.1 ⟨p, hp, .inl rfl⟩ with z | z <;> omega
  · rintro ⟨p, hp, k1, k2⟩
    refine ⟨p, hp, by omega, ?_⟩
    rcases hno p.2 ⟨p, hp, .inr rfl⟩ with z | z <;> omega

structure PutI (K : Bool → Bool → Bool) (ps qs : List (Int × Int)) (pl : List Int) (m : Nat) (st : Nat × Nat × List (Int × Int)) : Prop where
  li : st.1 ≤ ps.length
  lj : st.2.1 ≤ qs.length
  wi : ∀ b, pl[m]? = some b → ∀ i p, i < st.1 → ps[i]? = some p → p.2 ≤ b
  wj : ∀ b, pl[m]? = some b → ∀ i p, i < st.2.1 → qs[i]? = some p → p.2 ≤ b
  nm : Nm st.2.2
  le : ∀ b, pl[m]? = some b → ∀ p ∈ st.2.2, p.2 ≤ b
  cov : ∀ b, pl[m]? = some b → ∀ x, Cov st.2.2 x ↔ x < b ∧ K (covB ps x) (covB qs x) = true

theorem putF_spec {K : Bool → Bool → Bool} (hK : K false false = false) {ps qs : List (Int × Int)} (hp : Nm ps) (hq : Nm qs) : Nm (putF K ps qs) ∧ ∀ x, covB (putF K ps qs) x = K (covB ps x) (covB qs x) := by
  obtain ⟨inc, mem⟩ := mbF_spec (inc_bord hp) (inc_bord hq)
  have pIn : ∀ p ∈ ps, p.1 ∈ mbF (bordF ps) (bordF qs) ∧ p.2 ∈ mbF (bordF ps) (bordF qs) := fun p h => ⟨(mem _).mpr (.inl (mem_bord h).1), (mem _).mpr (.inl (mem_bord h).2)⟩
  have qIn : ∀ p ∈ qs, p.1 ∈ mbF (bordF ps) (bordF qs) ∧ p.2 ∈ mbF (bordF ps) (bordF qs) := fun p h => ⟨(mem _).mpr (.inr (mem_bord h).1), (mem _).mpr (.inr (mem_bord h).2)⟩
  unfold putF
  generalize mbF (bordF ps) (bordF qs) = pl at *
  have at_lt : ∀ {i j : Nat} {x y : Int}, i < j → pl[i]? = some x → pl[j]? = some y → x < y := fun {i j x y} hij hx hy => by
    obtain ⟨hi, rfl⟩ := List.getElem?_eq_some_iff.mp hx
    obtain ⟨hj, rfl⟩ := List.getElem?_eq_some_iff.mp hy
    exact List.pairwise_iff_getElem.mp inc i j hi hj hij
  -- below the first border nothing is covered
  have low : ∀ b, pl[0]? = some b → ∀ x, x < b → covB ps x = false ∧ covB qs x = false := fun b hb x hx => by
    have gen : ∀ {l : List (Int × Int)}, (∀ p ∈ l, p.1 ∈ pl ∧ p.2 ∈ pl) → covB l x = false := fun {l} h => by
      cases q : covB l x with
      | false => rfl
      | true =>
        obtain ⟨p, hp', k1, k2⟩ := covB_cov.mp q
        obtain ⟨i, hi, e⟩ := List.mem_iff_getElem.mp (h p hp').1
        have hpi : pl[i]? = some p.1 := by rw [List.getElem?_eq_getElem hi, e]
        exfalso
        by_cases z : i = 0
        · subst z; rw [hb] at hpi; cases hpi; omega
        · have := at_lt (i := 0) (j := i) (by omega) hb hpi; omega
    exact ⟨gen pIn, gen qIn⟩
  have main : ∀ m, m < pl.length → PutI K ps qs pl m ((List.range m).foldl (pstep K ps qs pl) (0, 0, [])) := by
    intro m
    induction m with
    | zero =>
      intro hm
      refine ⟨Nat.zero_le _, Nat.zero_le _, fun b _ i p hi => (by simp at hi), fun b _ i p hi => (by simp at hi), nm_nil, fun b _ p hp => (by simp at hp), fun b hb x => ⟨fun z => (cov_nil z).elim, fun z => ?_⟩⟩
      obtain ⟨l1, l2⟩ := low b hb x z.1
      rw [l1, l2, hK] at z
      exact absurd z.2 (by decide)
    | succ m ih =>
      intro hm
      have I := ih (by omega)
      rw [List.range_succ, List.foldl_append, List.foldl_cons, List.foldl_nil]
      generalize (List.range m).foldl (pstep K ps qs pl) (0, 0, []) = st at I
      obtain ⟨i, j, fd⟩ := st
      have hb : pl[m]? = some pl[m] := List.getElem?_eq_getElem (by omega)
      have he : pl[m + 1]? = some pl[m + 1] := List.getElem?_eq_getElem hm
      generalize pl[m] = b at hb
      generalize pl[m + 1] = e at he
      have hbe : b < e := at_lt (Nat.lt_succ_self m) hb he
      have no : ∀ {l : List (Int × Int)}, (∀ p ∈ l, p.1 ∈ pl ∧ p.2 ∈ pl) → ∀ z, (∃ p ∈ l, z = p.1 ∨ z = p.2) → z ≤ b ∨ e ≤ z := fun {l} h z ⟨p, hp', hz⟩ => by
        have hz' : z ∈ pl := by rcases hz with rfl | rfl; exact (h p hp').1; exact (h p hp').2
        obtain ⟨t, ht, ez⟩ := List.mem_iff_getElem.mp hz'
        have hzt : pl[t]? = some z := by rw [List.getElem?_eq_getElem ht, ez]
        by_cases c : t ≤ m
        · left
          by_cases c2 : t = m
          · subst c2; rw [hb] at hzt; cases hzt; exact Int.le_refl _
          · have := at_lt (show t < m by omega) hzt hb; omega
        · right
          by_cases c2 : t = m + 1
          · subst c2; rw [he] at hzt; cases hzt; exact Int.le_refl _
          · have := at_lt (show m + 1 < t by omega) he hzt; omega
      obtain ⟨a1, a2⟩ := advF_spec hp I.li (I.wi b hb)
      obtain ⟨b1, b2⟩ := advF_spec hq I.lj (I.wj b hb)
      have c1 := covB_at hp a1 a2
      have c2 := covB_at hq b1 b2
      have hst : pstep K ps qs pl (i, j, fd) m = if K (inAt ps (advF ps b i) b) (inAt qs (advF qs b j) b) then (advF ps b i, advF qs b j, joinF fd b e) else (advF ps b i, advF qs b j, fd) := by
        unfold pstep; rw [hb, he]
      simp only at c1 c2
      rw [c1, c2] at hst
      obtain ⟨j1, j2, j3⟩ := joinF_spec I.nm (I.le b hb) hbe
      have le1 : ∀ b', pl[m + 1]? = some b' → b' = e := fun b' h => by rw [he] at h; cases h; rfl
      have seg : ∀ x, b ≤ x → x < e → K (covB ps x) (covB qs x) = K (covB ps b) (covB qs b) := fun x h1 h2 => by rw [flat (no pIn) h1 h2, flat (no qIn) h1 h2]
      by_cases hk : K (covB ps b) (covB qs b) = true
      · rw [if_pos hk] at hst
        rw [hst]
        refine ⟨advF_le I.li, advF_le I.lj, fun b' h t p ht hpt => ?_, fun b' h t p ht hpt => ?_, j1, fun b' h p hp' => ?_, fun b' h x => ?_⟩
        · rw [le1 b' h]; have := a1 t p ht hpt; omega
        · rw [le1 b' h]; have := b1 t p ht hpt; omega
        · rw [le1 b' h]; exact j2 p hp'
        · rw [le1 b' h]
          show Cov (joinF fd b e) x ↔ _
          rw [j3, I.cov b hb]
          constructor
          · rintro (⟨k1, k2⟩ | ⟨k1, k2⟩)
            · exact ⟨by omega, k2⟩
            · exact ⟨k2, by rw [seg x k1 k2]; exact hk⟩
          · rintro ⟨k1, k2⟩
            by_cases z : x < b
            · exact .inl ⟨z, k2⟩
            · exact .inr ⟨by omega, k1⟩
      · rw [if_neg hk] at hst
        rw [hst]
        refine ⟨advF_le I.li, advF_le I.lj, fun b' h t p ht hpt => ?_, fun b' h t p ht hpt => ?_, I.nm, fun b' h p hp' => ?_, fun b' h x => ?_⟩
        · rw [le1 b' h]; have := a1 t p ht hpt; omega
        · rw [le1 b' h]; have := b1 t p ht hpt; omega
        · rw [le1 b' h]; have := I.le b hb p hp'; omega
        · rw [le1 b' h]
          show Cov fd x ↔ _
          have hc : Cov fd x ↔ x < b ∧ K (covB ps x) (covB qs x) = true := I.cov b hb x
          rw [hc]
          constructor
          · rintro ⟨k1, k2⟩; exact ⟨by omega, k2⟩
          · rintro ⟨k1, k2⟩
            by_cases z : x < b
            · exact ⟨z, k2⟩
            · exfalso; rw [seg x (by omega) k1] at k2; exact hk k2
  by_cases hlen : pl.length = 0
  · have hpl : pl = [] := List.eq_nil_of_length_eq_zero hlen
    have e1 : ps = [] := by
      cases ps with
      | nil => rfl
      | cons p r => have := (pIn p List.mem_cons_self).1; rw [hpl] at this; cases this
    have e2 : qs = [] := by
      cases qs with
      | nil => rfl
      | cons p r => have := (qIn p List.mem_cons_self).1; rw [hpl] at this; cases this
    subst e1; subst e2; subst hpl
    refine ⟨nm_nil, fun x => ?_⟩
    show false = K false false
    rw [hK]
  · have I := main (pl.length - 1) (by omega)
    refine ⟨I.nm, fun x => ?_⟩
    have hb : pl[pl.length - 1]? = some pl[pl.length - 1] := List.getElem?_eq_getElem (by omega)
    generalize hbe : pl[pl.length - 1] = b at hb
    rw [Bool.eq_iff_iff, covB_cov, I.cov b hb]
    refine ⟨fun k => k.2, fun k => ⟨?_, k⟩⟩
    by_cases z : x < b
    · exact z
    · exfalso
      have gen : ∀ {l : List (Int × Int)}, (∀ p ∈ l, p.1 ∈ pl ∧ p.2 ∈ pl) → covB l x = false := fun {l} h => by
        cases q : covB l x with
        | false => rfl
        | true =>
          obtain ⟨p, hp', k1, k2⟩ := covB_cov.mp q
          obtain ⟨i, hi, e⟩ := List.mem_iff_getElem.mp (h p hp').2
          have hpi : pl[i]? = some p.2 := by rw [List.getElem?_eq_getElem hi, e]
          exfalso
          by_cases c : i = pl.length - 1
          · rw [c, hb] at hpi; cases hpi; omega
          · have := at_lt (show i < pl.length - 1 by omega) hpi hb; omega
      rw [gen pIn, gen qIn, hK] at k
      cases k

theorem inc_nodup {a : List Int} (h : Inc a) : a.Nodup := h.imp fun h e => by omega
theorem inc_eq {a b : List Int} (ha : Inc a) (hb : Inc b) (h : ∀ x, x ∈ a ↔ x ∈ b) : a = b :=
  List.Perm.eq_of_pairwise (le := (· < ·)) (fun x y _ _ h1 h2 => by omega) ha hb ((List.perm_ext_iff_of_nodup (inc_nodup ha) (inc_nodup hb)).mpr h)

/-- spans, and the places that they cover -/
structure Ones (one : List (Int × Int)) (pl : List Int) : Prop where
  nm : Nm one
  pl : pl = (rngI (-3) 14).filter (covB one)
  bd : ∀ x, Cov one x → -3 ≤ x ∧ x ≤ 10
  len : one.length ≤ 4

theorem Ones.mem {one : List (Int × Int)} {pl : List Int} (h : Ones one pl) (x : Int) : x ∈ pl ↔ Cov one x := by
  rw [h.pl, List.mem_filter, covB_cov, rngI_mem]
  exact ⟨fun k => k.2, fun k => ⟨by have := h.bd x k; omega, k⟩⟩
theorem Ones.inc {one : List (Int × Int)} {pl : List Int} (h : Ones one pl) : Inc pl := h.pl ▸ (inc_rng _ _).filter _
theorem Ones.eq {one : List (Int × Int)} {pl : List Int} (h : Ones one pl) : one = spansF pl :=
  nm_uniq h.nm (nm_spans h.inc) fun x => by rw [cov_spans h.inc, h.mem]
theorem Ones.any {one : List (Int × Int)} {pl : List Int} (h : Ones one pl) (x : Int) : (pl.any fun z => z == x) = covB one x := by
  rw [Bool.eq_iff_iff, covB_cov, ← h.mem, List.any_eq_true]
  constructor
  · rintro ⟨z, hz, e⟩
    have : z = x := by simpa using e
    rw [← this]; exact hz
  · intro hx
    exact ⟨x, hx, by simp⟩
theorem Ones.plen {one : List (Int × Int)} {pl : List Int} (h : Ones one pl) : pl.length ≤ 17 := by
  rw [h.pl]
  have := List.length_filter_le (covB one) (rngI (-3) 14)
  rw [rngI_length] at this
  exact this

theorem ones_of {ps : List (Int × Int)} (h : OkPs ps) : Ones (nf ps) (placesF ps) := by
  refine ⟨nm_nf ps, ?_, fun x hx => ?_, Nat.le_trans (nf_len ps) h.1⟩
  · unfold placesF
    congr 1
    funext x
    exact (covB_nf ps x).symm
  · obtain ⟨p, hp, k1, k2⟩ := (cov_nf ps x).mp hx
    have := h.2 p hp
    omega

/-! the set operations -/
theorem put_eq {K : Bool → Bool → Bool} (hK : K false false = false) {one other : List (Int × Int)} {p1 p2 : List Int} (h1 : Ones one p1) (h2 : Ones other p2) {xs : List Int} (hx : Inc xs) (hm : ∀ x, x ∈ xs ↔ K (covB one x) (covB other x) = true) : putF K one other = spansF xs := by
  obtain ⟨a, b⟩ := putF_spec hK h1.nm h2.nm
  exact nm_uniq a (nm_spans hx) fun x => by rw [cov_spans hx, hm, ← covB_cov, b]

section
variable {one other : List (Int × Int)} {p1 p2 : List Int}

theorem union_eq (h1 : Ones one p1) (h2 : Ones other p2) : putF (fun a b => a || b) one other = spansF ((rngI (-3) 14).filter fun x => (p1.any fun z => z == x) || (p2.any fun z => z == x)) := by
  refine put_eq rfl h1 h2 ((inc_rng _ _).filter _) fun x => ?_
  rw [List.mem_filter, rngI_mem, h1.any, h2.any]
  refine ⟨fun k => k.2, fun k => ⟨?_, k⟩⟩
  rcases Bool.or_eq_true_iff.mp k with k | k
  · have := h1.bd x (covB_cov.mp k); omega
  · have := h2.bd x (covB_cov.mp k); omega
theorem common_eq (h1 : Ones one p1) (h2 : Ones other p2) : putF (fun a b => a && b) one other = spansF (p1.filter fun x => p2.any fun z => z == x) := by
  refine put_eq rfl h1 h2 (h1.inc.filter _) fun x => ?_
  rw [List.mem_filter, h2.any, h1.mem, ← covB_cov, Bool.and_eq_true]
theorem less_eq (h1 : Ones one p1) (h2 : Ones other p2) : putF (fun a b => a && !b) one other = spansF (p1.filter fun x => !p2.any fun z => z == x) := by
  refine put_eq rfl h1 h2 (h1.inc.filter _) fun x => ?_
  rw [List.mem_filter, h2.any, h1.mem, ← covB_cov, Bool.and_eq_true]
theorem exclusive_eq (h1 : Ones one p1) (h2 : Ones other p2) : putF (fun a b => a != b) one other = spansF ((rngI (-3) 14).filter fun x => (p1.any fun z => z == x) != (p2.any fun z => z == x)) := by
  refine put_eq rfl h1 h2 ((inc_rng _ _).filter _) fun x => ?_
  rw [List.mem_filter, rngI_mem, h1.any, h2.any]
  refine ⟨fun k => k.2, fun k => ⟨?_, k⟩⟩
  cases c1 : covB one x with
  | true => have := h1.bd x (covB_cov.mp c1); omega
  | false =>
    cases c2 : covB other x with
    | true => have := h2.bd x (covB_cov.mp c2); omega
    | false => simp only [c1, c2] at k; cases k
theorem within_eq (h1 : Ones one p1) (h2 : Ones other p2) : decide (putF (fun a b => a && !b) one other = []) = decide ((p1.filter fun x => !p2.any fun z => z == x) = []) := by
  rw [less_eq h1 h2]
  have hi := h1.inc.filter fun x => !p2.any fun z => z == x
  generalize (p1.filter fun x => !p2.any fun z => z == x) = xs at *
  rw [Bool.eq_iff_iff, decide_eq_true_iff, decide_eq_true_iff]
  constructor
  · intro e
    cases xs with
    | nil => rfl
    | cons x r =>
      have := (cov_spans hi x).mpr List.mem_cons_self
      rw [e] at this
      exact (cov_nil this).elim
  · rintro rfl; rfl

/-! one window -/
theorem nm_two {lo hi : Int} : Nm (nf [(lo, hi)]) := nm_nf _
theorem cov_two {lo hi x : Int} : covB (nf [(lo, hi)]) x = (decide (lo ≤ x) && decide (x < hi)) := by
  rw [covB_nf]; unfold covB; simp
theorem cut_eq (h1 : Ones one p1) {lo hi : Int} : putF (fun a b => a && b) one (nf [(lo, hi)]) = spansF (p1.filter fun x => decide (lo ≤ x) && decide (x < hi)) := by
  obtain ⟨a, b⟩ := putF_spec (K := fun a b => a && b) rfl h1.nm (nm_two (lo := lo) (hi := hi))
  refine nm_uniq a (nm_spans (h1.inc.filter _)) fun x => ?_
  rw [cov_spans (h1.inc.filter _), ← covB_cov, b, List.mem_filter, cov_two, h1.mem, ← covB_cov, Bool.and_eq_true]
theorem gaps_eq (h1 : Ones one p1) {lo hi : Int} : putF (fun a b => a && !b) (nf [(lo, hi)]) one = spansF ((rngI lo hi).filter fun x => !p1.any fun z => z == x) := by
  obtain ⟨a, b⟩ := putF_spec (K := fun a b => a && !b) rfl (nm_two (lo := lo) (hi := hi)) h1.nm
  refine nm_uniq a (nm_spans ((inc_rng _ _).filter _)) fun x => ?_
  rw [cov_spans ((inc_rng _ _).filter _), ← covB_cov, b, List.mem_filter, cov_two, h1.any, rngI_mem]
  simp only [Bool.and_eq_true, decide_eq_true_iff]

/-! counting -/
theorem countP_disj {f g : Int → Bool} : ∀ (l : List Int), (∀ x, ¬ (f x = true ∧ g x = true)) → (l.filter fun x => f x || g x).length = (l.filter f).length + (l.filter g).length
  | [], _ => rfl
  | x :: l, h => by
    have ih := countP_disj l h
    have hx := h x
    simp only [List.filter_cons]
    cases e1 : f x <;> cases e2 : g x <;> simp_all <;> omega

theorem filt_rng {m n a b : Int} (h1 : m ≤ a) (h2 : b ≤ n) : (rngI m n).filter (fun x => decide (a ≤ x) && decide (x < b)) = rngI a b := by
  refine inc_eq ((inc_rng _ _).filter _) (inc_rng _ _) fun x => ?_
  rw [List.mem_filter, rngI_mem, rngI_mem]
  simp only [Bool.and_eq_true, decide_eq_true_iff]
  constructor
  · exact fun k => k.2
  · exact fun k => ⟨by omega, k⟩

theorem cntF_eq {lo hi : Int} : ∀ {ps : List (Int × Int)} (t : Int), Nm ps → (∀ p ∈ ps, -3 ≤ p.1 ∧ p.2 ≤ 14) → ps.foldl (fun t p => t + cnt lo hi p) t = t + (((rngI (-3) 14).filter fun x => covB ps x && (decide (lo ≤ x) && decide (x < hi))).length : Int)
  | [], t, _, _ => by
    have : ((rngI (-3) 14).filter fun x => covB [] x && (decide (lo ≤ x) && decide (x < hi))) = [] := List.filter_eq_nil_iff.mpr fun x _ => by simp [covB]
    rw [this]; simp
  | p :: r, t, hN, hb => by
    obtain ⟨n1, n2, n3⟩ := nm_cons.mp hN
    have hp := hb p List.mem_cons_self
    rw [List.foldl_cons, cntF_eq (t + cnt lo hi p) n3 fun q hq => hb q (List.mem_cons_of_mem _ hq)]
    have e1 : ((rngI (-3) 14).filter fun x => covB (p :: r) x && (decide (lo ≤ x) && decide (x < hi))) =
        ((rngI (-3) 14).filter fun x => ((decide (p.1 ≤ x) && decide (x < p.2)) && (decide (lo ≤ x) && decide (x < hi))) || (covB r x && (decide (lo ≤ x) && decide (x < hi)))) := by
      congr 1
      funext x
      unfold covB
      rw [List.any_cons, Bool.and_or_distrib_right]
    have e2 : (rngI (-3) 14).filter (fun x => (decide (p.1 ≤ x) && decide (x < p.2)) && (decide (lo ≤ x) && decide (x < hi))) = rngI (if lo > p.1 then lo else p.1) (if hi < p.2 then hi else p.2) := by
      rw [← filt_rng (m := -3) (n := 14) (a := if lo > p.1 then lo else p.1) (b := if hi < p.2 then hi else p.2) (by split <;> omega) (by split <;> omega)]
      congr 1
      funext x
      rw [Bool.eq_iff_iff]
      simp only [Bool.and_eq_true, decide_eq_true_iff]
      split <;> split <;> omega
    have hd : ∀ x, ¬ (((decide (p.1 ≤ x) && decide (x < p.2)) && (decide (lo ≤ x) && decide (x < hi))) = true ∧ (covB r x && (decide (lo ≤ x) && decide (x < hi))) = true) := fun x ⟨k1, k2⟩ => by
      simp only [Bool.and_eq_true, decide_eq_true_iff] at k1 k2
      obtain ⟨q, hq, k3, k4⟩ := covB_cov.mp k2.1
      have := n2 q hq
      omega
    rw [e1, countP_disj _ hd, e2, rngI_length]
    have : cnt lo hi p = (((if hi < p.2 then hi else p.2) - (if lo > p.1 then lo else p.1)).toNat : Int) := by
      unfold cnt
      simp only
      split <;> omega
    rw [this]
    push_cast
    omega

theorem Ones.bds (h : Ones one p1) : ∀ p ∈ one, -3 ≤ p.1 ∧ p.2 ≤ 11 := fun p hp => by
  have h1 := h.nm.1 p hp
  have k1 := h.bd p.1 ⟨p, hp, by omega, h1⟩
  have k2 := h.bd (p.2 - 1) ⟨p, hp, by omega, by omega⟩
  omega

theorem count_eq (h1 : Ones one p1) {lo hi : Int} : cntF lo hi one = ((p1.filter fun x => decide (lo ≤ x) && decide (x < hi)).length : Int) := by
  have := cntF_eq (lo := lo) (hi := hi) (ps := one) 0 h1.nm fun p hp => by have := h1.bds p hp; omega
  rw [show cntF lo hi one = one.foldl (fun t p => t + cnt lo hi p) 0 from rfl, this, h1.pl, List.filter_filter, Int.zero_add]
  congr 2
  congr 1
  funext x
  rw [Bool.and_comm]

theorem length_eq (h1 : Ones one p1) : lenF one = (p1.length : Int) := by
  have h := count_eq h1 (lo := -3) (hi := 14)
  have e1 : (p1.filter fun x => decide (-3 ≤ x) && decide (x < 14)) = p1 := by
    refine List.filter_eq_self.mpr fun x hx => ?_
    have := h1.bd x ((h1.mem x).mp hx)
    simp only [Bool.and_eq_true, decide_eq_true_iff]; omega
  rw [e1] at h
  rw [← h]
  have gen : ∀ (l : List (Int × Int)) (t : Int), (∀ p ∈ l, p.1 < p.2 ∧ -3 ≤ p.1 ∧ p.2 ≤ 11) → l.foldl (fun t p => t + (p.2 - p.1)) t = l.foldl (fun t p => t + cnt (-3) 14 p) t := by
    intro l
    induction l with
    | nil => intro t _; rfl
    | cons p r ih =>
      intro t hb
      rw [List.foldl_cons, List.foldl_cons]
      have hp := hb p List.mem_cons_self
      have : cnt (-3) 14 p = p.2 - p.1 := by
        unfold cnt; simp only
        rw [if_neg (show ¬ (14 : Int) < p.2 by omega), if_neg (show ¬ (-3 : Int) > p.1 by omega), if_pos (by omega)]
      rw [this]
      exact ih _ fun q hq => hb q (List.mem_cons_of_mem _ hq)
  exact gen one 0 fun p hp => ⟨h1.nm.1 p hp, h1.bds p hp⟩

theorem moved_eq (h1 : Ones one p1) {c : Int} : (one.map fun p => (p.1 + c, p.2 + c)) = spansF (p1.map fun x => x + c) := by
  have hi : Inc (p1.map fun x => x + c) := by
    unfold Inc
    rw [List.pairwise_map]
    exact List.Pairwise.imp (fun h => by omega) h1.inc
  have hn : Nm (one.map fun p => (p.1 + c, p.2 + c)) := by
    refine ⟨fun p hp => ?_, ?_⟩
    · obtain ⟨q, hq, rfl⟩ := List.mem_map.mp hp
      have := h1.nm.1 q hq
      simp only; omega
    · rw [List.pairwise_map]
      exact List.Pairwise.imp (fun h => by simp only; omega) h1.nm.2
  refine nm_uniq hn (nm_spans hi) fun x => ?_
  rw [cov_spans hi]
  constructor
  · rintro ⟨p, hp, k1, k2⟩
    obtain ⟨q, hq, rfl⟩ := List.mem_map.mp hp
    exact List.mem_map.mpr ⟨x - c, (h1.mem _).mpr ⟨q, hq, by simp only at k1; omega, by simp only at k2; omega⟩, by omega⟩
  · intro hx
    obtain ⟨y, hy, rfl⟩ := List.mem_map.mp hx
    obtain ⟨q, hq, k1, k2⟩ := (h1.mem _).mp hy
    exact ⟨_, List.mem_map.mpr ⟨q, hq, rfl⟩, by simp only; omega, by simp only; omega⟩

theorem ends_nil (h1 : Ones one p1) (h : p1 = []) : endsF one = none := by
  cases one with
  | nil => rfl
  | cons p r =>
    have := (h1.mem p.1).mpr (cov_cons.mpr (.inl ⟨Int.le_refl _, (nm_cons.mp h1.nm).1⟩))
    rw [h] at this; cases this
theorem ends_some (h1 : Ones one p1) {a b : Int} (ha : p1.head? = some a) (hb : p1.getLast? = some b) : endsF one = some (a, b + 1) := by
  have hi := h1.inc
  have ma : a ∈ p1 := List.mem_of_head? ha
  have mb : b ∈ p1 := List.mem_of_getLast? hb
  have lo : ∀ y ∈ p1, a ≤ y := fun y hy => by
    cases p1 with
    | nil => cases hy
    | cons z r =>
      simp only [List.head?_cons, Option.some.injEq] at ha
      subst ha
      rcases List.mem_cons.mp hy with rfl | hy
      · exact Int.le_refl _
      · have := (List.pairwise_cons.mp hi).1 y hy; omega
  have up : ∀ y ∈ p1, y ≤ b := fun y hy => by
    obtain ⟨ys, rfl⟩ := List.getLast?_eq_some_iff.mp hb
    unfold Inc at hi
    rw [List.pairwise_append] at hi
    rcases List.mem_append.mp hy with hy | hy
    · have := hi.2.2 y hy b (by simp); omega
    · rw [List.mem_singleton] at hy; subst hy; exact Int.le_refl _
  cases one with
  | nil => exact (cov_nil ((h1.mem a).mp ma)).elim
  | cons p r =>
    obtain ⟨n1, n2, n3⟩ := nm_cons.mp h1.nm
    have e1 : a = p.1 := by
      have k1 := lo p.1 ((h1.mem _).mpr (cov_cons.mpr (.inl ⟨Int.le_refl _, n1⟩)))
      obtain ⟨q, hq, k2, k3⟩ := (h1.mem a).mp ma
      rcases List.mem_cons.mp hq with rfl | hq
      · omega
      · have := n2 q hq; omega
    obtain ⟨q, hq⟩ : ∃ q, (p :: r).getLast? = some q := ⟨_, List.getLast?_eq_some_getLast (by simp)⟩
    have e2 : b + 1 = q.2 := by
      have mq : q ∈ p :: r := List.mem_of_getLast? hq
      have k0 := h1.nm.1 q mq
      have k1 := up (q.2 - 1) ((h1.mem _).mpr ⟨q, mq, by omega, by omega⟩)
      obtain ⟨z, hz, k2, k3⟩ := (h1.mem b).mp mb
      obtain ⟨ys, e⟩ := List.getLast?_eq_some_iff.mp hq
      have hN := h1.nm
      rw [e] at hN hz
      obtain ⟨m1, m2, m3⟩ := nm_snoc.mp hN
      rcases List.mem_append.mp hz with hz | hz
      · have := m3 z hz; omega
      · rw [List.mem_singleton] at hz; subst hz; omega
    unfold endsF
    rw [hq, List.head?_cons]
    simp only
    rw [e1, e2]

/-! wider, narrower -/
theorem wide_eq (h1 : Ones one p1) {c : Int} (hc : 0 ≤ c) (hc' : c ≤ 2) : nf (one.map fun p => (p.1 - c, p.2 + c)) = spansF ((rngI (-6) 17).filter fun x => !decide (((rngI (x - c) (x + c + 1)).filter fun y => p1.any fun z => z == y) = [])) := by
  have hi := (inc_rng (-6) 17).filter fun x => !decide (((rngI (x - c) (x + c + 1)).filter fun y => p1.any fun z => z == y) = [])
  refine nm_uniq (nm_nf _) (nm_spans hi) fun x => ?_
  rw [cov_nf, cov_spans hi, List.mem_filter, rngI_mem]
  have ex : (!decide (((rngI (x - c) (x + c + 1)).filter fun y => p1.any fun z => z == y) = [])) = true ↔ ∃ y, x - c ≤ y ∧ y < x + c + 1 ∧ Cov one y := by
    rw [Bool.not_eq_true', decide_eq_false_iff_not, List.filter_eq_nil_iff]
    constructor
    · intro h
      refine Classical.byContradiction fun k => h fun y hy hz => k ⟨y, (rngI_mem.mp hy).1, (rngI_mem.mp hy).2, ?_⟩
      rw [h1.any] at hz
      exact covB_cov.mp hz
    · rintro ⟨y, k1, k2, k3⟩ h
      exact h y (rngI_mem.mpr ⟨k1, k2⟩) (by rw [h1.any]; exact covB_cov.mpr k3)
  rw [ex]
  constructor
  · rintro ⟨p, hp, k1, k2⟩
    obtain ⟨q, hq, rfl⟩ := List.mem_map.mp hp
    simp only at k1 k2
    have hb := h1.bds q hq
    have hn := h1.nm.1 q hq
    refine ⟨by omega, ?_⟩
    by_cases z : x < q.1
    · exact ⟨q.1, by omega, by omega, q, hq, by omega, by omega⟩
    · by_cases z2 : x < q.2
      · exact ⟨x, by omega, by omega, q, hq, by omega, z2⟩
      · exact ⟨q.2 - 1, by omega, by omega, q, hq, by omega, by omega⟩
  · rintro ⟨_, y, k1, k2, q, hq, k3, k4⟩
    exact ⟨_, List.mem_map.mpr ⟨q, hq, rfl⟩, by simp only; omega, by simp only; omega⟩

/-- a run of covered places lies in one span -/
theorem Nm.run {ps : List (Int × Int)} (h : Nm ps) {a b : Int} (hab : a < b) (hc : ∀ y, a ≤ y → y < b → Cov ps y) : ∃ p ∈ ps, p.1 ≤ a ∧ b ≤ p.2 := by
  obtain ⟨p, hp, k1, k2⟩ := hc a (Int.le_refl _) hab
  refine ⟨p, hp, k1, ?_⟩
  by_cases z : b ≤ p.2
  · exact z
  · exfalso
    obtain ⟨q, hq, k3, k4⟩ := hc p.2 (by omega) (by omega)
    obtain ⟨i, hi, rfl⟩ := List.mem_iff_getElem.mp hp
    obtain ⟨j, hj, rfl⟩ := List.mem_iff_getElem.mp hq
    have hpi : ps[i]? = some ps[i] := List.getElem?_eq_getElem hi
    have hqj : ps[j]? = some ps[j] := List.getElem?_eq_getElem hj
    have e1 := h.pos hpi
    have e2 := h.pos hqj
    by_cases c : i < j
    · have := h.lt c hpi hqj; omega
    · by_cases c2 : i = j
      · subst c2; omega
      · have := h.lt (show j < i by omega) hqj hpi; omega

theorem narrow_eq (h1 : Ones one p1) {c : Int} (hc : 0 ≤ c) : nf (one.map fun p => (p.1 + c, p.2 - c)) = spansF (p1.filter fun x => decide (((rngI (x - c) (x + c + 1)).filter fun y => !p1.any fun z => z == y) = [])) := by
  have hi := h1.inc.filter fun x => decide (((rngI (x - c) (x + c + 1)).filter fun y => !p1.any fun z => z == y) = [])
  refine nm_uniq (nm_nf _) (nm_spans hi) fun x => ?_
  rw [cov_nf, cov_spans hi, List.mem_filter, h1.mem, decide_eq_true_iff, List.filter_eq_nil_iff]
  have ex : (∀ y ∈ rngI (x - c) (x + c + 1), ¬ (!p1.any fun z => z == y) = true) ↔ ∀ y, x - c ≤ y → y < x + c + 1 → Cov one y := by
    constructor
    · intro h y k1 k2
      have := h y (rngI_mem.mpr ⟨k1, k2⟩)
      rw [h1.any] at this
      exact covB_cov.mp (by simpa using this)
    · intro h y hy
      rw [h1.any, covB_cov.mpr (h y (rngI_mem.mp hy).1 (rngI_mem.mp hy).2)]
      decide
  rw [ex]
  constructor
  · rintro ⟨p, hp, k1, k2⟩
    obtain ⟨q, hq, rfl⟩ := List.mem_map.mp hp
    simp only at k1 k2
    exact ⟨⟨q, hq, by omega, by omega⟩, fun y e1 e2 => ⟨q, hq, by omega, by omega⟩⟩
  · rintro ⟨_, h⟩
    obtain ⟨q, hq, k1, k2⟩ := h1.nm.run (show x - c < x + c + 1 by omega) h
    exact ⟨_, List.mem_map.mpr ⟨q, hq, rfl⟩, by simp only; omega, by simp only; omega⟩

/-! dots -/
theorem fdiv_le {a f d : Int} (hf : 0 < f) : Int.fdiv a f ≤ d ↔ a < (d + 1) * f := by
  rw [Int.fdiv_eq_ediv_of_nonneg _ (by omega)]
  constructor
  · intro h
    exact Int.lt_mul_of_ediv_lt hf (by omega)
  · intro h
    have := Int.ediv_lt_of_lt_mul hf h
    omega
theorem le_fdiv {a f d : Int} (hf : 0 < f) : d ≤ Int.fdiv a f ↔ d * f ≤ a := by
  rw [Int.fdiv_eq_ediv_of_nonneg _ (by omega)]
  exact Int.le_ediv_iff_mul_le hf
theorem touch_eq (h1 : Ones one p1) {f : Int} (hf : 0 < f) (hf' : f ≤ 3) : nf (one.map fun p => (Int.fdiv p.1 f, -(Int.fdiv (-p.2) f))) = spansF ((rngI (-4) 15).filter fun d => !decide (((rngI (d * f) ((d + 1) * f)).filter fun y => p1.any fun z => z == y) = [])) := by
  have hi := (inc_rng (-4) 15).filter fun d => !decide (((rngI (d * f) ((d + 1) * f)).filter fun y => p1.any fun z => z == y) = [])
  refine nm_uniq (nm_nf _) (nm_spans hi) fun d => ?_
  rw [cov_nf, cov_spans hi, List.mem_filter, rngI_mem]
  have ex : (!decide (((rngI (d * f) ((d + 1) * f)).filter fun y => p1.any fun z => z == y) = [])) = true ↔ ∃ y, d * f ≤ y ∧ y < (d + 1) * f ∧ Cov one y := by
    rw [Bool.not_eq_true', decide_eq_false_iff_not, List.filter_eq_nil_iff]
    constructor
    · intro h
      refine Classical.byContradiction fun k => h fun y hy hz => k ⟨y, (rngI_mem.mp hy).1, (rngI_mem.mp hy).2, ?_⟩
      rw [h1.any] at hz
      exact covB_cov.mp hz
    · rintro ⟨y, k1, k2, k3⟩ h
      exact h y (rngI_mem.mpr ⟨k1, k2⟩) (by rw [h1.any]; exact covB_cov.mpr k3)
  rw [ex]
  have hmul : (d + 1) * f = d * f + f := by rw [Int.add_mul, Int.one_mul]
  have cv : Cov (one.map fun p => (Int.fdiv p.1 f, -(Int.fdiv (-p.2) f))) d ↔ ∃ q ∈ one, q.1 < (d + 1) * f ∧ d * f < q.2 := by
    constructor
    · rintro ⟨p, hp, k1, k2⟩
      obtain ⟨q, hq, rfl⟩ := List.mem_map.mp hp
      simp only at k1 k2
      refine ⟨q, hq, (fdiv_le hf).mp k1, ?_⟩
      have : ¬ (-d) ≤ Int.fdiv (-q.2) f := by omega
      rw [le_fdiv hf, Int.neg_mul] at this
      omega
    · rintro ⟨q, hq, k1, k2⟩
      refine ⟨_, List.mem_map.mpr ⟨q, hq, rfl⟩, (fdiv_le hf).mpr k1, ?_⟩
      simp only
      have : ¬ (-d) ≤ Int.fdiv (-q.2) f := by rw [le_fdiv hf, Int.neg_mul]; omega
      omega
  rw [cv]
  have h3 : f = 1 ∨ f = 2 ∨ f = 3 := by omega
  constructor
  · rintro ⟨q, hq, k1, k2⟩
    have hb := h1.bds q hq
    have hn := h1.nm.1 q hq
    refine ⟨by rcases h3 with rfl | rfl | rfl <;> omega, ?_⟩
    by_cases z : q.1 ≤ d * f
    · exact ⟨d * f, Int.le_refl _, by omega, q, hq, z, k2⟩
    · exact ⟨q.1, by omega, k1, q, hq, Int.le_refl _, hn⟩
  · rintro ⟨_, y, k1, k2, q, hq, k3, k4⟩
    exact ⟨q, hq, by omega, by omega⟩

theorem filt_len {l : List Int} {p : Int → Bool} : (l.filter p).length = l.length ↔ ∀ x ∈ l, p x = true := List.length_filter_eq_length_iff

theorem whole_eq (h1 : Ones one p1) {f : Int} (hf : 0 < f) (hf' : f ≤ 3) : nf (one.map fun p => (-(Int.fdiv (-p.1) f), Int.fdiv p.2 f)) = spansF ((rngI (-4) 15).filter fun d => (((rngI (d * f) ((d + 1) * f)).filter fun y => p1.any fun z => z == y).length : Int) == f) := by
  have hi := (inc_rng (-4) 15).filter fun d => (((rngI (d * f) ((d + 1) * f)).filter fun y => p1.any fun z => z == y).length : Int) == f
  refine nm_uniq (nm_nf _) (nm_spans hi) fun d => ?_
  rw [cov_nf, cov_spans hi, List.mem_filter, rngI_mem]
  have hmul : (d + 1) * f = d * f + f := by rw [Int.add_mul, Int.one_mul]
  have ex : ((((rngI (d * f) ((d + 1) * f)).filter fun y => p1.any fun z => z == y).length : Int) == f) = true ↔ ∀ y, d * f ≤ y → y < (d + 1) * f → Cov one y := by
    have hl : (rngI (d * f) ((d + 1) * f)).length = f.toNat := by rw [rngI_length]; congr 1; omega
    have : ((((rngI (d * f) ((d + 1) * f)).filter fun y => p1.any fun z => z == y).length : Int) == f) = true ↔ ((rngI (d * f) ((d + 1) * f)).filter fun y => p1.any fun z => z == y).length = (rngI (d * f) ((d + 1) * f)).length := by
      rw [hl, beq_iff_eq]; omega
    rw [this, filt_len]
    constructor
    · intro h y k1 k2
      have := h y (rngI_mem.mpr ⟨k1, k2⟩)
      rw [h1.any] at this
      exact covB_cov.mp this
    · intro h y hy
      rw [h1.any]
      exact covB_cov.mpr (h y (rngI_mem.mp hy).1 (rngI_mem.mp hy).2)
  rw [ex]
  have cv : Cov (one.map fun p => (-(Int.fdiv (-p.1) f), Int.fdiv p.2 f)) d ↔ ∃ q ∈ one, q.1 ≤ d * f ∧ (d + 1) * f ≤ q.2 := by
    constructor
    · rintro ⟨p, hp, k1, k2⟩
      obtain ⟨q, hq, rfl⟩ := List.mem_map.mp hp
      simp only at k1 k2
      refine ⟨q, hq, ?_, (le_fdiv hf).mp (by omega)⟩
      have : (-d) ≤ Int.fdiv (-q.1) f := by omega
      rw [le_fdiv hf, Int.neg_mul] at this
      omega
    · rintro ⟨q, hq, k1, k2⟩
      refine ⟨_, List.mem_map.mpr ⟨q, hq, rfl⟩, ?_, ?_⟩
      · simp only
        have : (-d) ≤ Int.fdiv (-q.1) f := by rw [le_fdiv hf, Int.neg_mul]; omega
        omega
      · simp only
        have := (le_fdiv (a := q.2) (d := d + 1) hf).mpr k2
        omega
  rw [cv]
  have h3 : f = 1 ∨ f = 2 ∨ f = 3 := by omega
  constructor
  · rintro ⟨q, hq, k1, k2⟩
    have hb := h1.bds q hq
    exact ⟨by rcases h3 with rfl | rfl | rfl <;> omega, fun y e1 e2 => ⟨q, hq, by omega, by omega⟩⟩
  · rintro ⟨_, h⟩
    exact h1.nm.run (show d * f < (d + 1) * f by omega) h
end

/-! is_normal -/
theorem isN_iff : ∀ (ps : List (Int × Int)) (ah : Option Int), isN ps ah = true ↔ Nm ps ∧ ∀ a, ah = some a → ∀ p ∈ ps, a < p.1
  | [], ah => by
    rw [isN]
    exact ⟨fun _ => ⟨nm_nil, fun _ _ _ h => by cases h⟩, fun _ => rfl⟩
  | p :: r, ah => by
    unfold isN
    have ih := isN_iff r (some p.2)
    by_cases h1 : p.2 ≤ p.1
    · rw [if_pos h1]
      exact ⟨fun z => (by cases z), fun z => absurd (nm_cons.mp z.1).1 (by omega)⟩
    · rw [if_neg h1]
      have core : isN r (some p.2) = true ↔ Nm r ∧ ∀ q ∈ r, p.2 < q.1 := by
        rw [ih]; exact ⟨fun k => ⟨k.1, k.2 _ rfl⟩, fun k => ⟨k.1, fun a e => by cases e; exact k.2⟩⟩
      cases ah with
      | none =>
        rw [if_neg (by simp), core, nm_cons]
        exact ⟨fun k => ⟨⟨by omega, k.2, k.1⟩, fun a e => by cases e⟩, fun k => ⟨k.1.2.2, k.1.2.1⟩⟩
      | some a =>
        by_cases h2 : p.1 ≤ a
        · rw [if_pos (by simpa using h2)]
          exact ⟨fun z => (by cases z), fun z => absurd (z.2 a rfl p List.mem_cons_self) (by omega)⟩
        · rw [if_neg (by simpa using h2), core, nm_cons]
          refine ⟨fun k => ⟨⟨by omega, k.2, k.1⟩, fun b e q hq => ?_⟩, fun k => ⟨k.1.2.2, k.1.2.1⟩⟩
          cases e
          rcases List.mem_cons.mp hq with rfl | hq
          · omega
          · have := k.2 q hq; omega
theorem nf_of_nm {ps : List (Int × Int)} (h : Nm ps) : nf ps = ps := nm_uniq (nm_nf ps) h fun x => cov_nf ps x
theorem isN_eq (ps : List (Int × Int)) : isN ps none = decide (ps = nf ps) := by
  rw [Bool.eq_iff_iff, isN_iff, decide_eq_true_iff]
  constructor
  · exact fun k => (nf_of_nm k.1).symm
  · intro e
    exact ⟨by rw [e]; exact nm_nf ps, fun a z => by cases z⟩
theorem isN_nf (ps : List (Int × Int)) : isN (nf ps) none = true := (isN_iff _ _).mpr ⟨nm_nf ps, fun a z => by cases z⟩
theorem first_ok : nf [(3, 4), (0, 1), (1, 2)] = [(0, 2), (3, 4)] := by
  refine nm_uniq (nm_nf _) ⟨by simp, by simp⟩ fun x => ?_
  rw [cov_nf]
  rw [cov_cons, cov_cons, cov_one, cov_cons, cov_one]
  simp only
  omega

section
variable {w : World} {h₀ : Heap} {n : Nat} {σ : List AO} {Φ : PV → List AO → Prop}

theorem ins_map (l : List Int) : l.map PV.int = ins l := rfl

set_option maxRecDepth 100000 in
set_option maxHeartbeats 4000000 in
theorem c_sets (G : (cx w h₀ tabsC).Ok) {k1 k2 k3 k4 : Nat} {one other : List (Int × Int)} {p1 p2 : List Int} (e1 : σ[k1]? = some (.lst (prs one))) (e2 : σ[k2]? = some (.lst (prs other))) (e3 : σ[k3]? = some (.lst (ins p1))) (e4 : σ[k4]? = some (.lst (ins p2)))
    (o1 : Ones one p1) (o2 : Ones other p2) (h : ∀ σ', Ext σ σ' → Φ (.bool true) σ') : ACc (cx w h₀ tabsC) (n + 6) (.con (.ref 222)) [.obj k1, .obj k2, .obj k3, .obj k4] σ Φ := by
  have z1 := o1.len
  have z2 := o2.len
  have y1 := o1.plen
  have y2 := o2.plen
  k_extra "my def"
  k_extra "my go"
  -- union
  refine (c_union G e1 e2 (by omega) (by omega) fun ja sa xa hja eja => ?_).ac
  k_extra "my go"
  refine aw_comp1 (fun x => (p1.any fun z => z == x) || (p2.any fun z => z == x)) PV.int (compOk rfl (by decide) rfl rfl) (.inl rfl) ?_ (fun _ _ => rfl)
  k_extra "my go"
  refine ⟨rngI (-3) 14, items_rng (by omega) (by omega) (by omega) (by omega), by rw [rngI_length, sizeLine_eq]; omega, fun x hx s xs => ?_, fun j s xs hj ej => ?_⟩
  · have f3 := xs _ _ (xa _ _ e3)
    have f4 := xs _ _ (xa _ _ e4)
    k_extra "my go"
    refine ite_of (fun q => ?_) fun q => ?_
    · refine ⟨by rw [q]; rfl, .refl _, fun _ => ?_⟩
      k_extra "my go"
      exact ⟨rfl, .refl _⟩
    · k_extra "my go"
      refine ite_of (fun q' => ?_) fun q' => ?_
      · refine ⟨by rw [q']; simp, .refl _, fun _ => ?_⟩
        k_extra "my go"
        exact ⟨rfl, .refl _⟩
      · k_extra "my go"
        exact ⟨by rw [q, q']; rfl, .refl _, fun z => by rw [q, q'] at z; cases z⟩
  have hl1 := List.length_filter_le (fun x => (p1.any fun z => z == x) || (p2.any fun z => z == x)) (rngI (-3) 14)
  rw [rngI_length] at hl1
  k_extra "my go"
  refine (c_spans G ej (by omega) fun jb sb xb hjb ejb => ?_).ac
  have ejl := xb _ _ (xs _ _ eja)
  k_extra "my go"
  refine ite_of (fun q => absurd q (by rw [union_eq o1 o2]; simp)) fun _ => ?_
  have X1 := xa.trans (xs.trans xb)
  clear ejl ej eja ejb hja hj hjb
  k_extra "my go"
  -- common
  refine (c_common G (X1 _ _ e1) (X1 _ _ e2) (by omega) (by omega) fun ja sa xa hja eja => ?_).ac
  k_extra "my go"
  refine aw_comp1 (fun x => p2.any fun z => z == x) PV.int (compOk rfl (by decide) rfl rfl) (.inl rfl) ?_ (fun _ _ => rfl)
  k_extra "my go"
  refine ⟨p1, xa _ _ (X1 _ _ e3), by rw [sizeLine_eq]; omega, fun x hx s xs => ?_, fun j s xs hj ej => ?_⟩
  · have f4 := xs _ _ (xa _ _ (X1 _ _ e4))
    k_extra "my go"
    refine ⟨rfl, .refl _, fun _ => ?_⟩
    k_extra "my go"
    exact ⟨rfl, .refl _⟩
  have hl1 := List.length_filter_le (fun x => p2.any fun z => z == x) p1
  k_extra "my go"
  refine (c_spans G ej (by omega) fun jb sb xb hjb ejb => ?_).ac
  have ejl := xb _ _ (xs _ _ eja)
  k_extra "my go"
  refine ite_of (fun q => absurd q (by rw [common_eq o1 o2]; simp)) fun _ => ?_
  have X2 := X1.trans (xa.trans (xs.trans xb))
  clear ejl ej eja ejb hja hj hjb
  k_extra "my go"
  -- less
  refine (c_less G (X2 _ _ e1) (X2 _ _ e2) (by omega) (by omega) fun ja sa xa hja eja => ?_).ac
  k_extra "my go"
  refine aw_comp1 (fun x => !p2.any fun z => z == x) PV.int (compOk rfl (by decide) rfl rfl) (.inl rfl) ?_ (fun _ _ => rfl)
  k_extra "my go"
  refine ⟨p1, xa _ _ (X2 _ _ e3), by rw [sizeLine_eq]; omega, fun x hx s xs => ?_, fun j s xs hj ej => ?_⟩
  · have f4 := xs _ _ (xa _ _ (X2 _ _ e4))
    k_extra "my go"
    refine ⟨rfl, .refl _, fun _ => ?_⟩
    k_extra "my go"
    exact ⟨rfl, .refl _⟩
  have hl1 := List.length_filter_le (fun x => !p2.any fun z => z == x) p1
  k_extra "my go"
  refine (c_spans G ej (by omega) fun jb sb xb hjb ejb => ?_).ac
  have ejl := xb _ _ (xs _ _ eja)
  k_extra "my go"
  refine ite_of (fun q => absurd q (by rw [less_eq o1 o2]; simp)) fun _ => ?_
  have X3 := X2.trans (xa.trans (xs.trans xb))
  clear ejl ej eja ejb hja hj hjb
  k_extra "my go"
  -- exclusive
  refine (c_exclusive G (X3 _ _ e1) (X3 _ _ e2) (by omega) (by omega) fun ja sa xa hja eja => ?_).ac
  k_extra "my go"
  refine aw_comp1 (fun x => (p1.any fun z => z == x) != (p2.any fun z => z == x)) PV.int (compOk rfl (by decide) rfl rfl) (.inl rfl) ?_ (fun _ _ => rfl)
  k_extra "my go"
  refine ⟨rngI (-3) 14, items_rng (by omega) (by omega) (by omega) (by omega), by rw [rngI_length, sizeLine_eq]; omega, fun x hx s xs => ?_, fun j s xs hj ej => ?_⟩
  · have f3 := xs _ _ (xa _ _ (X3 _ _ e3))
    have f4 := xs _ _ (xa _ _ (X3 _ _ e4))
    k_extra "my go"
    refine ⟨rfl, .refl _, fun _ => ?_⟩
    k_extra "my go"
    exact ⟨rfl, .refl _⟩
  have hl1 := List.length_filter_le (fun x => (p1.any fun z => z == x) != (p2.any fun z => z == x)) (rngI (-3) 14)
  rw [rngI_length] at hl1
  k_extra "my go"
  refine (c_spans G ej (by omega) fun jb sb xb hjb ejb => ?_).ac
  have ejl := xb _ _ (xs _ _ eja)
  k_extra "my go"
  refine ite_of (fun q => absurd q (by rw [exclusive_eq o1 o2]; simp)) fun _ => ?_
  have X4 := X3.trans (xa.trans (xs.trans xb))
  clear ejl ej eja ejb hja hj hjb
  k_extra "my go"
  -- is_within
  refine (c_within G (X4 _ _ e1) (X4 _ _ e2) (by omega) (by omega) fun sa xa => ?_).ac
  k_extra "my go"
  refine aw_comp1 (fun x => !p2.any fun z => z == x) PV.int (compOk rfl (by decide) rfl rfl) (.inl rfl) ?_ (fun _ _ => rfl)
  k_extra "my go"
  refine ⟨p1, xa _ _ (X4 _ _ e3), by rw [sizeLine_eq]; omega, fun x hx s xs => ?_, fun j s xs hj ej => ?_⟩
  · have f4 := xs _ _ (xa _ _ (X4 _ _ e4))
    k_extra "my go"
    refine ⟨rfl, .refl _, fun _ => ?_⟩
    k_extra "my go"
    exact ⟨rfl, .refl _⟩
  rw [ins_map] at ej
  k_extra "my go"
  rw [within_eq o1 o2, beq_self_eq_true]
  exact h _ (X4.trans (xa.trans (xs.pushr _)))
end

section
variable {w : World} {h₀ : Heap} {n : Nat} {σ : List AO} {Φ : PV → List AO → Prop}

set_option maxRecDepth 100000 in
set_option maxHeartbeats 8000000 in
theorem c_oner (G : (cx w h₀ tabsC).Ok) {ks k1 k2 : Nat} {a b : Int} {one : List (Int × Int)} {p1 : List Int} (es : σ[ks]? = some (.lst [.int a, .int b])) (e1 : σ[k1]? = some (.lst (prs one))) (e2 : σ[k2]? = some (.lst (ins p1))) (hk1 : k1 ≠ ks) (hk2 : k2 ≠ ks) (hs : Src a b)
    (o1 : Ones one p1) (h : ∀ a' b' σ', Src a' b' → ExtB ks σ σ' → σ'[ks]? = some (.lst [.int a', .int b']) → Φ (.bool true) σ') : ACc (cx w h₀ tabsC) (n + 6) (.con (.ref 227)) [.obj ks, .obj k1, .obj k2] σ Φ := by
  have z1 := o1.len
  have y1 := o1.plen
  k_extra "my def"
  refine sq_tup [("low", _), ("wide", _), ("by", _)] rfl (by decide) (fun _ _ _ _ => rfl) (fun _ _ _ _ => rfl) ?_
  k_extra "my go"
  refine (c_take G es hs (by omega) (by omega) fun r1 a1 b1 r1a r1b hs1 => ?_).ac
  k_extra "my go"
  refine (c_take G (get_set es) hs1 (by omega) (by omega) fun wide a2 b2 r2a r2b hs2 => ?_).ac
  k_extra "my go"
  refine (c_take G (get_set (get_set es)) hs2 (by omega) (by omega) fun by' a3 b3 r3a r3b hs3 => ?_).ac
  have X0 : ExtB ks σ (((σ.set ks (.lst [.int a1, .int b1])).set ks (.lst [.int a2, .int b2])).set ks (.lst [.int a3, .int b3])) := (((ExtB.ofExt (.refl σ)).set _).set _).set _
  have S0 := get_set (o := .lst [.int a3, .int b3]) (get_set (o := .lst [.int a2, .int b2]) (get_set (o := .lst [.int a1, .int b1]) es))
  generalize (((σ.set ks (.lst [.int a1, .int b1])).set ks (.lst [.int a2, .int b2])).set ks (.lst [.int a3, .int b3])) = s0 at X0 S0
  k_extra "my go"
  refine ⟨_, rfl, rfl, ?_⟩
  k_extra "my norm"
  generalize hlo : r1 - 3 = low
  -- inner
  refine sq_comp1 (fun x => decide (low ≤ x) && decide (x < low + wide)) PV.int (compOk rfl (by decide) rfl rfl) (.inl rfl) rfl (fun _ _ _ _ => rfl) (fun _ _ => rfl) ?_
  k_extra "my go"
  refine ⟨p1, X0 _ _ hk2 e2, by rw [sizeLine_eq]; omega, fun x hx s xs => ?_, fun ji s xs hji eji => ?_⟩
  · k_extra "my go"
    refine ite_of (fun q1 => ?_) fun q1 => ?_
    · k_extra "my go"
      refine ⟨by rw [q1]; rfl, .refl _, fun _ => ?_⟩
      k_extra "my go"
      exact ⟨rfl, .refl _⟩
    · exact ⟨by rw [q1]; rfl, .refl _, fun z => by rw [q1] at z; cases z⟩
  rw [ins_map] at eji
  have hli := List.length_filter_le (fun x => decide (low ≤ x) && decide (x < low + wide)) p1
  have X1 := X0.trans (.ofExt xs)
  have S1 := xs _ _ S0
  clear S0
  k_extra "my go"
  -- cut_to, count_in
  refine (c_cut G (X1 _ _ hk1 e1) (by omega) fun ja sa xa hja eja => ?_).ac
  have eji1 := xa _ _ eji
  k_extra "my go"
  refine (c_spans G eji1 (by omega) fun jb sb xb hjb ejb => ?_).ac
  have eja1 := xb _ _ eja
  have eji2 := xb _ _ eji1
  k_extra "my go"
  refine ite_of (fun q => absurd q (by rw [cut_eq o1]; simp)) fun _ => ?_
  have X2 := X1.trans (.ofExt (xa.trans xb))
  have S2 := xb _ _ (xa _ _ S1)
  clear eja eja1 ejb S1
  k_extra "my go"
  refine (c_count_in G (X2 _ _ hk1 e1) ?_).ac
  k_extra "my go"
  refine ite_of (fun q => absurd q (by rw [count_eq o1]; simp)) fun _ => ?_
  clear eji eji1 eji2
  k_extra "my go"
  -- gaps
  refine (c_gaps G (X2 _ _ hk1 e1) (by omega) fun ja sa' xa hja eja => ?_).ac
  k_extra "my go"
  refine aw_comp1 (fun x => !p1.any fun z => z == x) PV.int (compOk rfl (by decide) rfl rfl) (.inl rfl) ?_ (fun _ _ => rfl)
  k_extra "my go"
  refine ⟨rngI low (low + wide), items_rng (by omega) (by omega) (by omega) (by omega), by rw [rngI_length, sizeLine_eq]; omega, fun x hx s xs => ?_, fun j s xs hj ej => ?_⟩
  · have f3 := xs _ _ (xa _ _ (X2 _ _ hk2 e2))
    k_extra "my go"
    refine ⟨rfl, .refl _, fun _ => ?_⟩
    k_extra "my go"
    exact ⟨rfl, .refl _⟩
  have hl1 := List.length_filter_le (fun x => !p1.any fun z => z == x) (rngI low (low + wide))
  rw [rngI_length] at hl1
  k_extra "my go"
  refine (c_spans G ej (by omega) fun jb sb' xb hjb ejb => ?_).ac
  have eja1 := xb _ _ (xs _ _ eja)
  k_extra "my go"
  refine ite_of (fun q => absurd q (by rw [gaps_eq o1]; simp)) fun _ => ?_
  have X3 := X2.trans (.ofExt (xa.trans (xs.trans xb)))
  have S3 := xb _ _ (xs _ _ (xa _ _ S2))
  clear eja eja1 ejb S2 ej
  k_extra "my go"
  -- moved, length
  refine (c_moved G (X3 _ _ hk1 e1) (by omega) fun ja sa'' xa hja eja => ?_).ac
  k_extra "my go"
  refine aw_comp1 (fun _ => true) (fun x => PV.int (x + by' - 1)) (compOk rfl (by decide) rfl rfl) (.inl rfl) ?_ (fun _ _ => rfl)
  k_extra "my go"
  refine ⟨p1, xa _ _ (X3 _ _ hk2 e2), by rw [sizeLine_eq]; omega, fun x hx s xs => ?_, fun j s xs hj ej => ?_⟩
  · k_extra "my go"
    exact ⟨rfl, .refl _⟩
  have ej1 : s[j]? = some (.lst (ins (p1.map fun x => x + (by' - 1)))) := by
    rw [ej, filt_true]
    show _ = some (AO.lst (List.map PV.int (List.map _ p1)))
    rw [List.map_map]
    congr 2
    refine List.map_congr_left fun x _ => ?_
    show PV.int (x + by' - 1) = PV.int (x + (by' - 1))
    congr 1; omega
  clear ej
  k_extra "my go"
  refine (c_spans G ej1 (by rw [List.length_map]; omega) fun jb sb'' xb hjb ejb => ?_).ac
  have eja1 := xb _ _ (xs _ _ eja)
  k_extra "my go"
  refine ite_of (fun q => absurd q (by rw [moved_eq o1]; simp)) fun _ => ?_
  have X4 := X3.trans (.ofExt (xa.trans (xs.trans xb)))
  have S4 := xb _ _ (xs _ _ (xa _ _ S3))
  clear eja eja1 ejb S3 ej1
  k_extra "my go"
  refine (c_length G (X4 _ _ hk1 e1) ?_).ac
  have e24 := X4 _ _ hk2 e2
  k_extra "my go"
  refine ite_of (fun q => absurd q (by rw [length_eq o1]; simp)) fun _ => ?_
  k_extra "my go"
  -- ends
  refine (c_ends G (X4 _ _ hk1 e1) (by omega) fun sc xc => ?_).ac
  have e25 := xc _ _ e24
  have X5 := X4.trans (.ofExt xc)
  have S5 := xc _ _ S4
  clear S4 e24
  refine AW.mono (Φ := fun v s' => Ext sc s' ∧ v = endsPV (endsF one)) ?_ ?_
  · k_extra "my go"
    refine ite_of (fun q => ?_) fun q => ?_
    · have q' : p1 ≠ [] := by simpa using q
      obtain ⟨hd', tl', hp1⟩ := List.exists_cons_of_ne_nil q'
      have ha : p1.head? = some hd' := by rw [hp1]; rfl
      have ha0 : p1[(0 : Int).toNat]? = some hd' := by rw [hp1]; rfl
      obtain ⟨lst', hlst⟩ : ∃ y, p1.getLast? = some y := ⟨_, List.getLast?_eq_some_getLast q'⟩
      k_extra "my go"
      refine op_itemI (get_push e25) (by omega) ha0 (by omega) (fun _ _ => rfl) ?_
      k_extra "my go"
      exact ⟨.push _ _, by rw [ends_some o1 ha hlst]; rfl⟩
    · have q' : p1 = [] := by simpa using q
      k_extra "my go"
      exact ⟨.push _ _, by rw [ends_nil o1 q']; rfl⟩
  rintro v sd ⟨xd, rfl⟩
  refine opC_neEnds ?_
  k_extra "my go"
  refine ite_of (fun q => absurd q (by simp)) fun _ => ?_
  have X6 := X5.trans (.ofExt xd)
  have S6 := xd _ _ S5
  clear S5 e25
  k_extra "my go"
  -- near
  refine sq_comp1 (fun x => !decide (((rngI (x - by') (x + by' + 1)).filter fun y => p1.any fun z => z == y) = [])) PV.int (compOk rfl (by decide) rfl rfl) (.inl rfl) rfl (fun _ _ _ _ => rfl) (fun _ _ => rfl) ?_
  k_extra "my go"
  refine ⟨rngI (-6) 17, items_rng (by omega) (by omega) (by omega) (by omega), by rw [rngI_length, sizeLine_eq]; omega, fun x hx s xs => ?_, fun jn sn xn hjn ejn => ?_⟩
  · have hxb := rngI_mem.mp hx
    k_extra "my go"
    refine aw_comp1 (fun y => p1.any fun z => z == y) PV.int (compOk rfl (by decide) rfl rfl) (.inl rfl) ?_ (fun _ _ => rfl)
    k_extra "my go"
    refine ⟨rngI (x - by') (x + by' + 1), items_rng (by omega) (by omega) (by omega) (by omega), by rw [rngI_length, sizeLine_eq]; omega, fun y hy s2 xs2 => ?_, fun j s2 xs2 hj ej => ?_⟩
    · have f3 := xs2 _ _ (xs _ _ (X6 _ _ hk2 e2))
      k_extra "my go"
      refine ⟨rfl, .refl _, fun _ => ?_⟩
      k_extra "my go"
      exact ⟨rfl, .refl _⟩
    · rw [ins_map] at ej
      k_extra "my go"
      refine ⟨rfl, xs2.pushr _, fun _ => ?_⟩
      k_extra "my go"
      exact ⟨rfl, .refl _⟩
  rw [ins_map] at ejn
  have hl2 := List.length_filter_le (fun x => !decide (((rngI (x - by') (x + by' + 1)).filter fun y => p1.any fun z => z == y) = [])) (rngI (-6) 17)
  rw [rngI_length] at hl2
  have X7 := X6.trans (.ofExt xn)
  have S7 := xn _ _ S6
  clear S6
  k_extra "my go"
  refine (c_widened G (X7 _ _ hk1 e1) (by omega) fun ja sa3 xa hja eja => ?_).ac
  have ejn1 := xa _ _ ejn
  k_extra "my go"
  refine (c_spans G ejn1 (by omega) fun jb sb3 xb hjb ejb => ?_).ac
  have eja1 := xb _ _ eja
  k_extra "my go"
  refine ite_of (fun q => absurd q (by rw [wide_eq o1 (by omega) (by omega)]; simp)) fun _ => ?_
  have X8 := X7.trans (.ofExt (xa.trans xb))
  have S8 := xb _ _ (xa _ _ S7)
  clear eja eja1 ejb S7 ejn ejn1
  k_extra "my go"
  -- sure
  refine sq_comp1 (fun x => decide (((rngI (x - by') (x + by' + 1)).filter fun y => !p1.any fun z => z == y) = [])) PV.int (compOk rfl (by decide) rfl rfl) (.inl rfl) rfl (fun _ _ _ _ => rfl) (fun _ _ => rfl) ?_
  k_extra "my go"
  refine ⟨p1, X8 _ _ hk2 e2, by rw [sizeLine_eq]; omega, fun x hx s xs => ?_, fun jn sn' xn hjn ejn => ?_⟩
  · have hxb := o1.bd x ((o1.mem x).mp hx)
    k_extra "my go"
    refine aw_comp1 (fun y => !p1.any fun z => z == y) PV.int (compOk rfl (by decide) rfl rfl) (.inl rfl) ?_ (fun _ _ => rfl)
    k_extra "my go"
    refine ⟨rngI (x - by') (x + by' + 1), items_rng (by omega) (by omega) (by omega) (by omega), by rw [rngI_length, sizeLine_eq]; omega, fun y hy s2 xs2 => ?_, fun j s2 xs2 hj ej => ?_⟩
    · have f3 := xs2 _ _ (xs _ _ (X8 _ _ hk2 e2))
      k_extra "my go"
      refine ⟨rfl, .refl _, fun _ => ?_⟩
      k_extra "my go"
      exact ⟨rfl, .refl _⟩
    · rw [ins_map] at ej
      k_extra "my go"
      refine ⟨rfl, xs2.pushr _, fun _ => ?_⟩
      k_extra "my go"
      exact ⟨rfl, .refl _⟩
  rw [ins_map] at ejn
  have hl3 := List.length_filter_le (fun x => decide (((rngI (x - by') (x + by' + 1)).filter fun y => !p1.any fun z => z == y) = [])) p1
  have X9 := X8.trans (.ofExt xn)
  have S9 := xn _ _ S8
  clear S8
  k_extra "my go"
  refine (c_narrowed G (X9 _ _ hk1 e1) (by omega) fun ja sa4 xa hja eja => ?_).ac
  have ejn1 := xa _ _ ejn
  k_extra "my go"
  refine (c_spans G ejn1 (by omega) fun jb sb4 xb hjb ejb => ?_).ac
  have eja1 := xb _ _ eja
  k_extra "my go"
  refine ite_of (fun q => absurd q (by rw [narrow_eq o1 (by omega)]; simp)) fun _ => ?_
  have X10 := X9.trans (.ofExt (xa.trans xb))
  have S10 := xb _ _ (xa _ _ S9)
  clear eja eja1 ejb S9 ejn ejn1
  k_extra "my go"
  -- holds
  refine (c_take G S10 hs3 (by omega) (by omega) fun x a4 b4 rxa rxb hs4 => ?_).ac
  have X11 := X10.set (.lst [.int a4, .int b4])
  have S11 := get_set (o := .lst [.int a4, .int b4]) S10
  generalize sb4.set ks (.lst [.int a4, .int b4]) = sf at X11 S11
  k_extra "my go"
  refine (c_holds G (X11 _ _ hk1 e1) (by omega) o1.nm ?_).ac
  have e26 := X11 _ _ hk2 e2
  k_extra "my go"
  rw [o1.any, beq_self_eq_true]
  exact h _ _ _ hs4 X11 S11
end

theorem filt_snoc (d : List Int) (q : Int) (p : Int → Bool) : (d ++ [q]).filter p = d.filter p ++ (if p q = true then [q] else []) := by
  rw [List.filter_append, List.filter_cons]
  cases p q <;> simp
theorem rep_dot (q : Int) (b : Bool) : (List.replicate (if b = true then (1 : Int) else 0).toNat [PV.int q]).flatten = ins (if b = true then [q] else []) := by
  cases b <;> rfl

section
variable {C : Cx} {n : Nat} {σ : List AO} {Φ : PV → List AO → Prop}
theorem opB_dot {i : Nat} {q : Int} {c : Bool} (e : σ[i]? = some (.lst [.int q])) (h : Φ (.obj σ.length) (σ ++ [.lst (ins (if c = true then [q] else []))])) : Op2 C n (binaryOp .Mult) (.obj i) (.int (if c = true then 1 else 0)) σ Φ :=
  opB_mulL e (by simp) (by cases c <;> decide) (by cases c <;> decide) (by cases c <;> simp) (by rw [rep_dot]; exact h)
theorem opB_addI {i j : Nat} {a b : List Int} (e1 : σ[i]? = some (.lst (ins a))) (e2 : σ[j]? = some (.lst (ins b))) (hz : a.length + b.length ≤ 1000) (h : Φ (.obj σ.length) (σ ++ [.lst (ins (a ++ b))])) : Op2 C n (binaryOp .Add) (.obj i) (.obj j) σ Φ :=
  opB_addL e1 e2 (by rw [List.length_map, List.length_map, sizeLine_eq]; omega) (by rw [← List.map_append]; exact h)
end

section
variable {w : World} {h₀ : Heap} {n : Nat} {σ : List AO} {Φ : PV → List AO → Prop}

set_option maxRecDepth 100000 in
set_option maxHeartbeats 8000000 in
theorem c_dots (G : (cx w h₀ tabsC).Ok) {ks k1 k2 : Nat} {a b : Int} {one : List (Int × Int)} {p1 : List Int} (es : σ[ks]? = some (.lst [.int a, .int b])) (e1 : σ[k1]? = some (.lst (prs one))) (e2 : σ[k2]? = some (.lst (ins p1))) (hk1 : k1 ≠ ks) (hk2 : k2 ≠ ks) (hs : Src a b)
    (o1 : Ones one p1) (h : ∀ a' b' σ', Src a' b' → ExtB ks σ σ' → σ'[ks]? = some (.lst [.int a', .int b']) → Φ (.bool true) σ') : ACc (cx w h₀ tabsC) (n + 6) (.con (.ref 232)) [.obj ks, .obj k1, .obj k2] σ Φ := by
  have z1 := o1.len
  have y1 := o1.plen
  have hks := lt_get es
  k_extra "my def"
  k_extra "my st"
  k_extra "my aw"
  k_extra "my aw"
  k_extra "my go"
  refine (c_take G es hs (by omega) (by omega) fun r1 a1 b1 r1a r1b hs1 => ?_).ac
  have X0 : ExtB ks σ (σ.set ks (.lst [.int a1, .int b1])) := (ExtB.ofExt (.refl σ)).set _
  have S0 := get_set (o := .lst [.int a1, .int b1]) es
  have L0 : (σ.set ks (.lst [.int a1, .int b1])).length = σ.length := List.length_set
  generalize (σ.set ks (.lst [.int a1, .int b1])) = s0 at X0 S0 L0
  k_extra "my op"
  generalize hf : 1 + r1 = f
  refine sq_tupS ["some", "every"] (by decide) (fun _ _ _ _ => rfl) (fun _ _ _ _ => rfl) ?_
  k_extra "my go"
  refine ⟨_, rfl, rfl, ?_⟩
  k_extra "my norm"
  k_extra "my go"
  refine ⟨rngI (-4) 15, fun d l s => ∃ js je, ExtB ks σ s ∧ s[ks]? = some (.lst [.int a1, .int b1]) ∧ l "spans" = some (.obj k1) ∧ l "places" = some (.obj k2) ∧ l "fine" = some (.int f) ∧ l "some" = some (.obj js) ∧ l "every" = some (.obj je) ∧
      s[js]? = some (.lst (ins (d.filter fun d => !decide (((rngI (d * f) ((d + 1) * f)).filter fun y => p1.any fun z => z == y) = [])))) ∧
      s[je]? = some (.lst (ins (d.filter fun d => (((rngI (d * f) ((d + 1) * f)).filter fun y => p1.any fun z => z == y).length : Int) == f))), ⟨_, _, (X0.push _).push _, get_push (get_push S0), by k_extra "my loc", by k_extra "my loc", by k_extra "my loc", by k_extra "my loc", by k_extra "my loc",
      get_push (get_new _ _), get_new _ _⟩, fun d l s j => items_rng (by omega) (by omega) (by omega) (by omega), fun d q r l s hu j => ?_, fun l s j => ?_⟩
  · obtain ⟨js, je, X, S, l1, l2, l3, l4, l5, g1, g2⟩ := j
    have hq : -4 ≤ q ∧ q < 15 := rngI_mem.mp (by rw [hu]; simp)
    have hlen := len_app hu
    rw [rngI_length] at hlen
    have hmul : (q + 1) * f = q * f + f := by rw [Int.add_mul, Int.one_mul]
    have h3 : f = 1 ∨ f = 2 ∨ f = 3 := by omega
    have hqf : -12 ≤ q * f ∧ q * f ≤ 42 := by rcases h3 with h3 | h3 | h3 <;> rw [h3] <;> omega
    refine sq_comp1 (fun y => p1.any fun z => z == y) PV.int (compOk rfl (by decide) rfl rfl) (.inl rfl) rfl (fun _ _ _ _ => rfl) (fun _ _ => rfl) ?_
    k_extra "my go"
    refine opB_mul ?_ (mulR (by omega) (by omega))
    k_extra "my go"
    refine opB_mul ?_ (mulR (by omega) (by omega))
    k_extra "my go"
    have hrl : (rngI (q * f) ((q + 1) * f)).length = f.toNat := by rw [rngI_length]; congr 1; omega
    refine ⟨rngI (q * f) ((q + 1) * f), items_rng (by omega) (by omega) (by omega) (by omega), by rw [hrl, sizeLine_eq]; omega, fun x hx s2 xs2 => ?_, fun ji si xi hji eji => ?_⟩
    · have f3 := xs2 _ _ (X _ _ hk2 e2)
      k_extra "my go"
      refine ⟨rfl, .refl _, fun _ => ?_⟩
      k_extra "my go"
      exact ⟨rfl, .refl _⟩
    rw [ins_map] at eji
    have hil := List.length_filter_le (fun y => p1.any fun z => z == y) (rngI (q * f) ((q + 1) * f))
    rw [hrl] at hil
    have g1i := xi _ _ g1
    have g2i := xi _ _ g2
    have Xi := X.trans (.ofExt xi)
    have Si := xi _ _ S
    have hsl := filt_snoc d q fun d => !decide (((rngI (d * f) ((d + 1) * f)).filter fun y => p1.any fun z => z == y) = [])
    have hel := filt_snoc d q fun d => (((rngI (d * f) ((d + 1) * f)).filter fun y => p1.any fun z => z == y).length : Int) == f
    have hd1 := List.length_filter_le (fun d => !decide (((rngI (d * f) ((d + 1) * f)).filter fun y => p1.any fun z => z == y) = [])) d
    have hd2 := List.length_filter_le (fun d => (((rngI (d * f) ((d + 1) * f)).filter fun y => p1.any fun z => z == y).length : Int) == f) d
    generalize (d.filter fun d => !decide (((rngI (d * f) ((d + 1) * f)).filter fun y => p1.any fun z => z == y) = [])) = dS at *
    generalize (d.filter fun d => (((rngI (d * f) ((d + 1) * f)).filter fun y => p1.any fun z => z == y).length : Int) == f) = dE at *
    generalize ((rngI (q * f) ((q + 1) * f)).filter fun y => p1.any fun z => z == y) = inn at *
    have lq : ∀ c : Bool, (if c = true then [q] else []).length ≤ 1 := fun c => by cases c <;> simp
    k_extra "my go"
    refine opB_dot (get_push (get_new _ _)) ?_
    refine opB_addI (get_push (get_push (get_push g1i))) (get_new _ _) (by have := lq (!decide (inn = [])); omega) ?_
    rw [← hsl]
    have gn : ∀ (s : List AO) (A : AO), (s ++ [A])[s.length]? = some A := get_new
    generalize hT : si ++ [AO.lst [PV.int q]] ++ [AO.lst []] ++ [AO.lst (ins (if (!decide (inn = [])) = true then [q] else []))] = T1
    have xT : Ext si T1 := by rw [← hT]; exact ((Ext.push _ _).pushr _).pushr _
    have eji1 := get_push (o := AO.lst (ins ((d ++ [q]).filter fun d => !decide (((rngI (d * f) ((d + 1) * f)).filter fun y => p1.any fun z => z == y) = [])))) (xT _ _ eji)
    have g1n := get_new T1 (AO.lst (ins ((d ++ [q]).filter fun d => !decide (((rngI (d * f) ((d + 1) * f)).filter fun y => p1.any fun z => z == y) = []))))
    have g2n := get_push (o := AO.lst (ins ((d ++ [q]).filter fun d => !decide (((rngI (d * f) ((d + 1) * f)).filter fun y => p1.any fun z => z == y) = [])))) (xT _ _ g2i)
    have XT := Xi.trans (.ofExt (xT.trans (.push T1 (AO.lst (ins ((d ++ [q]).filter fun d => !decide (((rngI (d * f) ((d + 1) * f)).filter fun y => p1.any fun z => z == y) = [])))))))
    have ST := get_push (o := AO.lst (ins ((d ++ [q]).filter fun d => !decide (((rngI (d * f) ((d + 1) * f)).filter fun y => p1.any fun z => z == y) = [])))) (xT _ _ Si)
    generalize T1 ++ [AO.lst (ins ((d ++ [q]).filter fun d => !decide (((rngI (d * f) ((d + 1) * f)).filter fun y => p1.any fun z => z == y) = [])))] = T2 at *
    k_extra "my go"
    refine opB_dot (get_new _ _) ?_
    refine opB_addI (get_push (get_push g2n)) (get_new _ _) (by have := lq ((inn.length : Int) == f); omega) ?_
    rw [← hel]
    k_extra "my go"
    exact ⟨_, _, ((XT.push _).push _).push _, get_push (get_push (get_push ST)), by k_extra "my loc", by k_extra "my loc", by k_extra "my loc", by k_extra "my loc", by k_extra "my loc", get_push (get_push (get_push g1n)), get_new _ _⟩
  · obtain ⟨js, je, X, S, l1, l2, l3, l4, l5, g1, g2⟩ := j
    have hd1 := List.length_filter_le (fun d => !decide (((rngI (d * f) ((d + 1) * f)).filter fun y => p1.any fun z => z == y) = [])) (rngI (-4) 15)
    have hd2 := List.length_filter_le (fun d => (((rngI (d * f) ((d + 1) * f)).filter fun y => p1.any fun z => z == y).length : Int) == f) (rngI (-4) 15)
    rw [rngI_length] at hd1 hd2
    k_extra "my go"
    refine (c_touched G (X _ _ hk1 e1) (by omega) (by omega) (by omega) fun ja sa xa hja eja => ?_).ac
    have g1a := xa _ _ g1
    k_extra "my go"
    refine (c_spans G g1a (by omega) fun jb sb xb hjb ejb => ?_).ac
    have eja1 := xb _ _ eja
    k_extra "my go"
    refine ite_of (fun _ => ?_) fun q => absurd q (by rw [touch_eq o1 (by omega) (by omega)]; simp)
    have X1 := X.trans (.ofExt (xa.trans xb))
    have S1 := xb _ _ (xa _ _ S)
    have g2a := xb _ _ (xa _ _ g2)
    clear eja eja1 ejb
    k_extra "my go"
    refine (c_whole G (X1 _ _ hk1 e1) (by omega) (by omega) (by omega) fun ja sc xc hja eja => ?_).ac
    have g2c := xc _ _ g2a
    k_extra "my go"
    refine (c_spans G g2c (by omega) fun jb sd xd hjb ejb => ?_).ac
    have eja1 := xd _ _ eja
    k_extra "my go"
    rw [whole_eq o1 (by omega) (by omega), decide_eq_true rfl]
    exact h _ _ _ hs1 (X1.trans (.ofExt (xc.trans xd))) (xd _ _ (xc _ _ S1))
end

theorem ax_use {C : Cx} {n : Nat} {se : SE} {b : List Stmt} {loc : Loc} {σ : List AO} {Φ : AFl → Loc → List AO → Prop} {A : Around} {env : Env} {s : Shared} {ρ : List Addr} {Q : Flow → Shared → Prop} {E : Value → Shared → Prop}
    (h : AX C n se b loc σ Φ) (ha : AOk n A) (hr : Rep C se env loc s.heap ρ) (hs : SR C s.heap ρ σ)
    (hQ : ∀ f g h' tk ρ' loc' σ', SR C h' ρ' σ' → FlR h' ρ' f g → Φ g loc' σ' → Q f { s with heap := h', toks := tk }) : wpAny (model C.prog C.w) A (execs b env) Q E s :=
  h A env s ρ Q E ha hr hs fun f g h' tk ρ' loc' σ' _ _ b c d => hQ f g h' tk ρ' loc' σ' b c d

theorem no_cells {names : List (Str × NameKind)} (h : names.all (fun p => p.2 != .cell && p.2 != .free) = true) (x : Str) : ¬ (names.lookup x = some .cell ∨ names.lookup x = some .free) := by
  intro k
  rcases k with k | k
  · have := List.all_eq_true.mp h _ (mem_of_lookup k); simp at this
  · have := List.all_eq_true.mp h _ (mem_of_lookup k); simp at this

theorem tabsC_pp : tabsC.map (·.p) = [98, 91, 84, 77] := rfl

theorem law_use {w : World} {h₀ h₁ : Heap} {L fa a : Addr} {cd : Value} {name : Str} {scope : Scope} {body : List Stmt} {vs : List Value} {ns : List Int} {p : Program} {loose : List Str} {mean : ExcName → Option Value} {mg mb : Str → Option Value} {Q : Flow → Shared → Prop} {E : Value → Shared → Prop} {g : Array GenState} {d : Drawn} {t : Nat} {os : OsState}
    (hk : scope.kind = .function) (hc : scope.names.all (fun p => p.2 != .cell && p.2 != .free) = true)
    (F : Fr h₀ L h₁ fun x => List.lookup x [(("script" : Str), Value.ref a)].reverse) (N : News h₀ L h₁ [(98, tabObj #[]), (91, tabObj #[]), (84, tabObj #[]), (77, tabObj #[])])
    (X : (hd.heap_39 w.params).In h₀) (T : Top p loose mean mg mb h₀) (c1 : CodeHd h₀ 102 98) (c2 : CodeHd h₀ 95 91) (c3 : CodeHd h₀ 88 84) (c4 : CodeHd h₀ 81 77)
    (hl : 98 < L ∧ 91 < L ∧ 84 < L ∧ 77 < L) (hb : h₀.IsList a vs.toArray) (hI : IntsAre vs ns) (hz : ns.length ≤ 1000)
    (walk : (cx w h₀ tabsC).Ok → AX (cx w h₀ tabsC) 20 ⟨scope, cd, name ++ ".<locals>."⟩ body (up (fun _ => none) "script" (.con (.ref a))) [] (Ret fun v _ => v = .bool true))
    (hQ : ∀ h' tk, Kp h₀ h' → (∀ q ∈ tabsC, TabOk h' q) → Q (.ret (.bool true)) ⟨h', g, d, tk, os⟩) :
    wpAny (model PySem.Challenge.rw_nu0009_01.row.prog w) (callerA.deeper (envOf name scope L fa cd)) (execs body (envOf name scope L fa cd)) Q E ⟨h₁, g, d, t, os⟩ := by
  have n98 := N _ (.head _)
  have n91 := N _ (.tail _ (.head _))
  have n84 := N _ (.tail _ (.tail _ (.head _)))
  have n77 := N _ (.tail _ (.tail _ (.tail _ (.head _))))
  have G : (cx w h₀ tabsC).Ok := by
    refine ⟨X, ⟨_, _, _, _, _, T⟩, fun q hq => ?_, fun q hq => ?_, by rw [tabsC_pp]; decide⟩
    · simp only [List.mem_cons, List.not_mem_nil, or_false] at hq
      rcases hq with rfl | rfl | rfl | rfl
      · exact c1
      · exact c2
      · exact c3
      · exact c4
    · simp only [List.mem_cons, List.not_mem_nil, or_false] at hq
      rcases hq with rfl | rfl | rfl | rfl
      · exact n98.2.2
      · exact n91.2.2
      · exact n84.2.2
      · exact n77.2.2
  have S : SR (cx w h₀ tabsC) h₁ [] [] := by
    refine ⟨rfl, .nil, fun i a o e => by simp at e, F.keep, fun a ha => (by cases ha), fun q hq => ⟨?_, by simp⟩⟩
    simp only [List.mem_cons, List.not_mem_nil, or_false] at hq
    rcases hq with rfl | rfl | rfl | rfl
    · exact ⟨#[], n98.1, .inl rfl⟩
    · exact ⟨#[], n91.1, .inl rfl⟩
    · exact ⟨#[], n84.1, .inl rfl⟩
    · exact ⟨#[], n77.1, .inl rfl⟩
  have hL0 : h₀.get? L = none := Heap.get?_none_of_le F.above
  have R : Rep (cx w h₀ tabsC) ⟨scope, cd, name ++ ".<locals>."⟩ (envOf name scope L fa cd) (up (fun _ => none) "script" (.con (.ref a))) h₁ [] := by
    refine ⟨⟨rfl, hk, rfl, rfl, rfl, rfl⟩, ⟨_, F.ns, fun x v hx hv => ?_⟩, fun x hx => absurd hx (no_cells hc x), ⟨by simp, hL0, ?_⟩, fun x c hx => (by cases hx), fun x y c h1 h2 => by cases h1⟩
    · unfold up at hv
      by_cases q : x = "script"
      · rw [if_pos q] at hv; cases hv
        subst q
        exact ⟨_, rfl, .con _⟩
      · rw [if_neg q] at hv; cases hv
    · show L ∉ tabsC.map (·.p)
      rw [tabsC_pp]
      simp only [List.mem_cons, List.not_mem_nil, or_false, not_or]
      exact ⟨Nat.ne_of_gt hl.1, Nat.ne_of_gt hl.2.1, Nat.ne_of_gt hl.2.2.1, Nat.ne_of_gt hl.2.2.2⟩
  refine ax_use (C := cx w h₀ tabsC) (n := 20) (s := ⟨h₁, g, d, t, os⟩) (walk G) ⟨rfl, by show callerA.depth + 1 + 2 * 20 + 3 < recursionLimit; decide, by show callerA.units + 3 + 32 * 20 + 300 < cLine; decide⟩ R S fun f gg h' tk ρ' loc' σ' S' x φ => ?_
  cases gg with
  | ret v =>
    have hv : v = .bool true := φ
    subst hv
    cases f with
    | ret V =>
      have : VR h' ρ' V (.bool true) := x
      rw [this.bool_inv]
      exact hQ h' tk S'.base fun q hq => (S'.tab q hq).1
    | _ => exact x.elim
  | _ => exact absurd (show PV.none = .bool true from φ) (by intro z; cases z)

set_option maxRecDepth 100000 in
set_option maxHeartbeats 8000000 in
theorem t : PySem.Challenge.rw_nu0009_01.Holds := hd (by
  k_go0
  all_goals try k_fold
  rename (Fr _ _ _ _) => hF
  rename (News _ _ _ _) => hN
  rename (Frag.In _ _) => hX
  rename (Top _ _ _ _ _ _) => hT
  rename (IntsAre _ _) => hI
  rename (¬ _ < _) => hlen
  rename (_ < _ ∧ _) => hl0
  rename (_ = #[]) => hg
  rename_i c1 c2 c3
  refine law_use ?kk ?kc hF hN hX hT c1 c2 c3 codeHd hl0 lifted hI ?hz ?walk ?post
  case kk => rfl
  case kc => rfl
  case hz => omega
  case walk =>
    intro G
    dsimp only
    k_extra "my go"
    refine (c_normal (ps := [(3, 4), (0, 1), (1, 2)]) G (get_new _ _) (by simp) fun j0 s0 x0 hj0 ej0 => ?_).ac
    k_extra "my go"
    refine opC_neP (a := nf [(3, 4), (0, 1), (1, 2)]) (b := [(0, 2), (3, 4)]) (get_push ej0) (get_new _ _) ?_
    k_extra "my go"
    refine ite_of (fun q => absurd q (by rw [first_ok]; simp)) fun _ => ?_
    k_extra "my go"
    have hvl := hI.length
    refine ac_lenC lifted (by omega) ?_
    k_extra "my go"
    generalize hM : (if (if ((List.length _ : Nat) : Int) < 2 then ((List.length _ : Nat) : Int) else 2) > 1 then (if ((List.length _ : Nat) : Int) < 2 then ((List.length _ : Nat) : Int) else 2) else 1) = M
    have hM1 : 1 ≤ M ∧ M ≤ 2 := by rw [← hM]; split <;> split at * <;> omega
    k_extra "my go"
    refine ⟨rngI 0 M, fun d l s => l "script" = some (.con (.ref _)), by k_extra "my loc", fun d l s j => items_rng (by omega) (by omega) (by omega) (by omega), fun d q r l s hu j => ?_, fun l s j => ?_⟩
    · have hq := rngI_mem.mp (show q ∈ rngI 0 M by rw [hu]; simp)
      k_extra "my go"
      refine (c_pool G lifted hI (by omega) hq.1 (by omega) fun a b hs js sA xA hjs es => ?_).ac
      k_extra "my go"
      refine sq_tupS ["pairs", "others"] (by dsimp only; decide) (fun _ _ _ _ => rfl) (fun _ _ _ _ => rfl) ?_
      k_extra "my go"
      refine (c_pairs G es hs fun ps a1 b1 jp sB okp hs1 xB esB hjp ep => ?_).ac
      k_extra "my go"
      refine (c_pairs G esB hs1 fun qs a2 b2 jq sC okq hs2 xC esC hjq eq => ?_).ac
      have hjsl := lt_get es
      have hjpl := lt_get ep
      have epC := xC _ _ (by omega) ep
      k_extra "my go"
      refine ⟨_, rfl, rfl, ?_⟩
      k_extra "my norm"
      refine sq_tup [("one", _), ("other", _), ("places", _), ("second", _)] rfl (by dsimp only; decide) (fun _ _ _ _ => rfl) (fun _ _ _ _ => rfl) ?_
      k_extra "my go"
      have o1 := ones_of okp
      have o2 := ones_of okq
      -- normal twice, places twice
      refine (c_normal G epC okp.1 fun j1 s1 x1 hj1 e1 => ?_).ac
      k_extra "my go"
      have eq1 := x1 _ _ eq
      refine (c_normal G eq1 okq.1 fun j2 s2 x2 hj2 e2 => ?_).ac
      k_extra "my go"
      have ep2 := x2 _ _ (x1 _ _ epC)
      refine (c_places G ep2 (by have := okp.1; omega) fun j3 s3 x3 hj3 e3 => ?_).ac
      k_extra "my go"
      have eq3 := x3 _ _ (x2 _ _ eq1)
      refine (c_places G eq3 (by have := okq.1; omega) fun j4 s4 x4 hj4 e4 => ?_).ac
      k_extra "my go"
      refine ⟨_, rfl, rfl, ?_⟩
      k_extra "my norm"
      have S4 := x4 _ _ (x3 _ _ (x2 _ _ (x1 _ _ esC)))
      have P4 := x4 _ _ (x3 _ _ ep2)
      have E1 := x4 _ _ (x3 _ _ (x2 _ _ e1))
      have E2 := x4 _ _ (x3 _ _ e2)
      have E3 := x4 _ _ e3
      have n1 := lt_get ep
      have n2 := lt_get epC
      have n3 := lt_get esC
      have n4 := x1.le
      have n5 := x2.le
      have n6 := x3.le
      clear es esB esC ep epC eq eq1 eq3 ep2 e1 e2 e3
      generalize hone : nf ps = one at *
      generalize hoth : nf qs = other at *
      have z1 := o1.len
      have z2 := o2.len
      have y1 := o1.plen
      have y2 := o2.plen
      have hn1 : isN one none = true := by rw [← hone]; exact isN_nf ps
      have hn2 : isN ps none = decide (ps = one) := by rw [← hone]; exact isN_eq ps
      have hn3 : nf one = one := nf_of_nm o1.nm
      generalize placesF ps = p1 at *
      generalize placesF qs = p2 at *
      k_extra "my go"
      refine (c_spans G E3 (by omega) fun ja sa xa hja eja => ?_).ac
      have E1a := xa _ _ E1
      k_extra "my go"
      refine ite_of (fun q => absurd q (by rw [decide_eq_true o1.eq]; simp)) fun _ => ?_
      k_extra "my go"
      refine (c_spans G (xa _ _ e4) (by omega) fun jb sb xb hjb ejb => ?_).ac
      have E2b := xb _ _ (xa _ _ E2)
      k_extra "my go"
      refine ite_of (fun q => absurd q (by rw [decide_eq_true o2.eq]; simp)) fun _ => ?_
      k_extra "my go"
      refine (c_is_normal G (xb _ _ E1a) ?_).ac
      k_extra "my go"
      refine ite_of (fun q => absurd q (by rw [hn1]; simp)) fun _ => ?_
      have X1 := xa.trans xb
      clear E1a eja ejb E2b
      k_extra "my go"
      -- second
      have P5 := X1 _ _ P4
      have E5 := X1 _ _ E1
      refine (c_is_normal G P5 ?_).ac
      k_extra "my go"
      refine ite_of (fun q => absurd q (by rw [hn2]; simp)) fun _ => ?_
      k_extra "my go"
      refine (c_normal G E5 z1 fun jc sc xc hjc ejc => ?_).ac
      have E6 := xc _ _ E5
      k_extra "my go"
      refine ite_of (fun q => absurd q (by rw [decide_eq_true hn3]; simp)) fun _ => ?_
      have X2 := X1.trans xc
      clear P5 E5 ejc E6
      k_extra "my go"
      -- the sets
      refine (c_sets G (X2 _ _ E1) (X2 _ _ E2) (X2 _ _ E3) (X2 _ _ e4) o1 o2 fun sd xd => ?_).ac
      k_extra "my go"
      refine ite_of (fun q => absurd q (by simp)) fun _ => ?_
      have X3 := X2.trans xd
      k_extra "my go"
      -- the rest
      have m1 := lt_get (X3 _ _ E1)
      refine (c_oner G (X3 _ _ S4) (X3 _ _ E1) (X3 _ _ E3) (by omega) (by omega) hs2 o1 fun a3 b3 se hs3 xe Se => ?_).ac
      k_extra "my go"
      refine ite_of (fun q => absurd q (by simp)) fun _ => ?_
      k_extra "my go"
      refine (c_dots G Se (xe _ _ (by omega) (X3 _ _ E1)) (xe _ _ (by omega) (X3 _ _ E3)) (by omega) (by omega) hs3 o1 fun a4 b4 sf hs4 xf Sf => ?_).ac
      k_extra "my go"
      refine ite_of (fun q => absurd q (by simp)) fun _ => ?_
      k_extra "my go"
      k_extra "my loc"
    · k_extra "my go"
      rfl
  case post =>
    intro h' tk hkp htab
    refine ⟨⟨.inl ⟨.bool true, _, [], rfl, fun _ => rfl, ReadsW.bool true, by kernel_rfl, fun _ => ⟨.nil, fun a ha => (by cases ha)⟩⟩, hkp, rfl, hg⟩, ?_⟩
    exact ⟨(htab tE (by simp)).elim fun ps h => ⟨ps, h.1⟩, (htab tL (by simp)).elim fun ps h => ⟨ps, h.1⟩, (htab tC (by simp)).elim fun ps h => ⟨ps, h.1⟩, (htab tU (by simp)).elim fun ps h => ⟨ps, h.1⟩, trivial⟩)

end Mine

theorem PySem.Challenge.cw_nu0009_01_holds : PySem.Challenge.rw_nu0009_01.Holds :=
  Mine.t
