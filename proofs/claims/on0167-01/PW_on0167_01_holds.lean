import PyProof.Rows.All
import Wide.All
import OpenK.AllK
import Wide.FinOn
import Lean
import PySem.Challenge.RW_on0167_01
open PySem PySem.W PyProof.Rows PySem.Spec PySem.Calls
set_option Elab.async false
set_option maxRecDepth 100000
namespace Mine
/-- a run over a tree of objects -/
def goT (thr ok : Thread → Bool) (st : SharedT → Thread → Option (SharedT × Thread)) : Nat → SharedT → Thread → Option SharedT
  | 0, _, _ => none
  | n + 1, s, t => match thr t with
    | true => some s
    | false => match ok t with
      | false => none
      | true => match st s t with
        | some (s', t') => goT thr ok st n s' t'
        | none => none
theorem goT_spec {tb : String → Option Builtin} {p : Program} {w : World} {m : Nat} {ann : Option Value} : ∀ {n : Nat} {s s' : SharedT} {t : Thread}, goT through (stepOk m ann) (stepT (denote tb) p w) n s t = some s' → topRun tb p w m ann n s.abs t = some s'.abs
  | 0, _, _, _, h => by cases h
  | n + 1, s, s', t, h => by
    unfold goT at h
    unfold topRun
    cases ht : through t with
    | true => rw [ht] at h; cases h; rfl
    | false =>
      rw [ht] at h
      cases hk : stepOk m ann t with
      | false => rw [hk] at h; cases h
      | true =>
        rw [hk] at h
        cases hs : stepT (denote tb) p w s t with
        | none => rw [hs] at h; cases h
        | some r => obtain ⟨s₂, t₂⟩ := r; rw [hs] at h; dsimp only; rw [stepT_spec hs]; exact goT_spec h
/-- a list of objects as a tree -/
def plant : BT → Nat → List Obj → BT
  | T, _, [] => T
  | T, n, o :: r => plant (T.ins n o) (n + 1) r
def rooted : BT → Nat → List Obj → Bool
  | _, _, [] => true
  | T, n, o :: r => match ((T.ins n o).get n).isSome with
    | true => rooted (T.ins n o) (n + 1) r
    | false => false
theorem plant_abs {life : Life} : ∀ (l : List Obj) (T : BT) (n : Nat), rooted T n l = true → absHeap (plant T n l) (n + l.length) life = ⟨(absHeap T n life).objs ++ l.toArray, life⟩
  | [], T, n, _ => by simp only [plant, List.length_nil, Nat.add_zero, Array.append_empty, List.toArray]; rfl
  | o :: r, T, n, h => by
    unfold rooted at h
    cases g : ((T.ins n o).get n).isSome with
    | false => rw [g] at h; cases h
    | true =>
      rw [g] at h
      have e := plant_abs (life := life) r (T.ins n o) (n + 1) h
      rw [absHeap_ins g] at e
      rw [show n + (o :: r).length = n + 1 + r.length by rw [List.length_cons]; omega]
      refine e.trans ?_
      show (⟨(absHeap T n life).objs.push o ++ r.toArray, life⟩ : Heap) = _
      congr 1
      simp
/-- the top's run from the booted state on, over a tree -/
theorem left_of_tree {p q : Program} {loose : List Str} {Xt : Shared → Bool} {α : Type} {Yf : Shared → α} {Ya : World → α} {N m : Nat} {life : Life} {ann : Option Value} (run : World → OsState → Option SharedT) (e : opening p = plainProg p.main.scope.names) (hN : Nat.ble 600 N = true) (f : ∀ s, fenceModules? p s = some s)
    (hm : ∀ P, (boot_heap P).objs.toList.length = m) (hl : ∀ P, (boot_heap P).life = life) (hr : ∀ P, rooted .nil 0 (boot_heap P).objs.toList = true) (hi : ∀ P, (boot_heap P).isNs mainGlobals = true) (ha : ∀ P, (boot_heap P).nsMap mainGlobals "__annotations__" = ann)
    (hrun : ∀ w os, run w os = goT through (stepOk m ann) (stepT (denote treeTable) p w) N ⟨plant .nil 0 (boot_heap w.params).objs.toList, m, life, Array.mk [], boot_drawn, boot_toks, os⟩ (topStub p))
    (h1 : ∀ w os, (run w os).map (fun s => (staticsOk (importedModules p.main.body) (boot_heap w.params) s.abs.heap && namesBound p s.abs.heap && gensDone s.abs && laidKept (boot_heap w.params) s.abs.heap, openSeen q loose (importedModules p.main.body) Xt true s.abs)) = some (true, openGood q loose))
    (h3 : ∀ w os, (run w os).map (fun s => Yf s.abs) = some (Ya w)) : LeftO p q loose Xt Yf Ya N := fun w => by
  obtain ⟨⟨hb, gs, d, k, os⟩, e1, e2⟩ := Option.map_eq_some_iff.mp (boot_open e hN f w)
  obtain ⟨rfl, rfl, rfl, rfl⟩ : hb = boot_heap w.params ∧ gs = Array.mk [] ∧ d = boot_drawn ∧ k = boot_toks := by simpa using e2
  unfold openEnds
  rw [e1]
  have eH : absHeap (plant .nil 0 (boot_heap w.params).objs.toList) m life = boot_heap w.params := by
    have z := plant_abs (life := life) _ _ _ (hr w.params)
    rw [Nat.zero_add, hm] at z
    rw [z, ← hl w.params]
    show (⟨(absHeap BT.nil 0 _).objs ++ (boot_heap w.params).objs.toList.toArray, _⟩ : Heap) = _
    have : (absHeap BT.nil 0 (boot_heap w.params).life).objs = #[] := rfl
    rw [this, Array.empty_append]
  obtain ⟨s, g1, c1⟩ := Option.map_eq_some_iff.mp (h1 w os)
  obtain ⟨b1, b2⟩ := Prod.mk.inj c1
  have c3 := h3 w os
  rw [g1] at c3
  have c3 := Option.some.inj c3
  have r := goT_spec ((hrun w os).symm.trans g1)
  have sz : (boot_heap w.params).objs.size = m := (Array.length_toList).symm.trans (hm w.params)
  show (topFrom treeTable p w N ⟨boot_heap w.params, Array.mk [], boot_drawn, boot_toks, os⟩).map _ = _
  unfold topFrom
  have r' : topRun treeTable p w (boot_heap w.params).objs.size ((boot_heap w.params).nsMap mainGlobals "__annotations__") N ⟨boot_heap w.params, Array.mk [], boot_drawn, boot_toks, os⟩ (topStub p) = some s.abs := by
    rw [sz, ha, ← r]
    unfold SharedT.abs
    rw [eH]
  simp only [hi w.params]
  show ((topRun treeTable p w (boot_heap w.params).objs.size ((boot_heap w.params).nsMap mainGlobals "__annotations__") N ⟨boot_heap w.params, Array.mk [], boot_drawn, boot_toks, os⟩ (topStub p)).bind _).map _ = _
  rw [r']
  show Option.map _ (match staticsOk (importedModules p.main.body) (boot_heap w.params) s.abs.heap && namesBound p s.abs.heap && gensDone s.abs && laidKept (boot_heap w.params) s.abs.heap with | true => some s.abs | false => none) = _
  rw [b1]
  exact congrArg some (Prod.ext b2 c3)
/-- the text's statements but the stores of the module's name -/
abbrev viewOf {s0 s1 s2 s3 s4 s5 s6 s7 s8 s9 s10 s11 s12 s13 s14 s15 s16 s17 s18 s19 s20 s21 s22 : Stmt} (_ : PySem.Challenge.pw_on0167_01.main.body = [s0, s1, s2, s3, s4, s5, s6, s7, s8, s9, s10, s11, s12, s13, s14, s15, s16, s17, s18, s19, s20, s21, s22]) : Program :=
  { PySem.Challenge.pw_on0167_01 with main := { PySem.Challenge.pw_on0167_01.main with body := [s0, s2, s3, s5, s6, s7, s8, s9, s10, s11, s12, s14, s15, s17, s18, s19, s20, s21, s22] } }
noncomputable def viewQ : Program := viewOf rfl
theorem said : PySem.Challenge.rw_on0167_01.wellSaid = true := by
  rw [PySem.W.Fast.te9446332074065402090]
  kernel_rfl
local macro_rules | `(tactic| o_law) => `(tactic| refine holds_law said fun _ => ?_)
/-- the top's run -/
noncomputable def runQ (w : World) (os : OsState) : Option SharedT := goT through (stepOk 11 (some (.ref 6))) (stepT (denote treeTable) PySem.Challenge.pw_on0167_01 w) 5248 ⟨plant .nil 0 (boot_heap w.params).objs.toList, 11, {}, Array.mk [], boot_drawn, boot_toks, os⟩ (topStub PySem.Challenge.pw_on0167_01)
set_option maxHeartbeats 0 in
theorem looks (w : World) (os : OsState) : (runQ w os).map (fun s => (staticsOk (importedModules PySem.Challenge.pw_on0167_01.main.body) (boot_heap w.params) s.abs.heap && namesBound PySem.Challenge.pw_on0167_01 s.abs.heap && gensDone s.abs && laidKept (boot_heap w.params) s.abs.heap, openSeen viewQ [Str.ofString "ToolError", Str.ofString "ACCEPT", Str.ofString "BARRED"] (importedModules PySem.Challenge.pw_on0167_01.main.body) (fun s => xlAt viewQ [(Str.ofString "ACCEPT", WData.int 1048576), (Str.ofString "BARRED", WData.int (-1048576))] s && recOk (RowW.records PySem.Challenge.rw_on0167_01.row.toRowW) s) true s.abs)) = some (true, openGood viewQ [Str.ofString "ToolError", Str.ofString "ACCEPT", Str.ofString "BARRED"]) := by
  unfold runQ
  rw [PySem.W.Fast.te14364793385576792824, PySem.W.Fast.te10156331382660048174, PySem.W.Fast.te11892475500146522536, PySem.W.Fast.te6613529449190102663, PySem.W.Fast.te5923862056798008813, PySem.W.Fast.te4187177175401517315]
  kernel_rfl
theorem left_mine {H : Hook} (h : ∀ (w : World) (os : OsState), (runQ w os).map (fun s => H.obs s.abs) = some (H.val w)) :
    LeftO PySem.Challenge.rw_on0167_01.row.toRowW.prog viewQ [Str.ofString "ToolError", Str.ofString "ACCEPT", Str.ofString "BARRED"] (fun s => xlAt viewQ [(Str.ofString "ACCEPT", WData.int 1048576), (Str.ofString "BARRED", WData.int (-1048576))] s && recOk (RowW.records PySem.Challenge.rw_on0167_01.row.toRowW) s) (Hook.obs H) (Hook.val H) 5248 :=
  left_of_tree (p := PySem.Challenge.pw_on0167_01) (m := 11) (life := {}) (ann := some (.ref 6)) runQ (by kernel_rfl) (by kernel_rfl) (fun s => by kernel_rfl) (fun P => by kernel_rfl) (fun P => by kernel_rfl) (fun P => by kernel_rfl) (fun P => by kernel_rfl) (fun P => by kernel_rfl) (fun _ _ => rfl) looks h
theorem open_mine {H : Hook} {d : DefRec} {kwd : List (Str × Expr)} (hl : LeftO PySem.Challenge.rw_on0167_01.row.toRowW.prog viewQ [Str.ofString "ToolError", Str.ofString "ACCEPT", Str.ofString "BARRED"] (fun s => xlAt viewQ [(Str.ofString "ACCEPT", WData.int 1048576), (Str.ofString "BARRED", WData.int (-1048576))] s && recOk (RowW.records PySem.Challenge.rw_on0167_01.row.toRowW) s) (Hook.obs H) (Hook.val H) 5248)
    (hdef : defOf viewQ PySem.Challenge.rw_on0167_01.row.name = some (d, kwd)) (hp : PySem.Challenge.rw_on0167_01.row.prog.theDef PySem.Challenge.rw_on0167_01.row.name = some (d.params, d.body, d.scope)) (hk : kwWritten? d.params.kwonlyargs d.params.kw_defaults = some kwd) (hs : PySem.Challenge.rw_on0167_01.row.wellSaid = true) (hw : PySem.Challenge.rw_on0167_01.row.toRowW.promised)
    (hc : WalkO viewQ [Str.ofString "ToolError", Str.ofString "ACCEPT", Str.ofString "BARRED"] (XL viewQ [(Str.ofString "ACCEPT", WData.int 1048576), (Str.ofString "BARRED", WData.int (-1048576))]) (Hook.says H) PySem.Challenge.rw_on0167_01.row.toRowW d kwd fun f vs => PySem.call f vs) : PySem.Challenge.rw_on0167_01.row.Holds :=
  holds_open hl (Hook.of H) (Hook.keeps H) (fun s e => xl_of s (Bool.and_eq_true_iff.mp e).1) XL.keeps hdef hp hk (fun s e => recFacts_of (Bool.and_eq_true_iff.mp e).2) (by rfl) hs (by decide +kernel) ⟨rfl, rfl, rfl, rfl, rfl, by decide +kernel⟩ hw hc
local macro_rules | `(tactic| o_head $H) => `(tactic| refine open_mine (H := $H) (left_mine fun w os => by
      unfold runQ
      rw [PySem.W.Fast.te14364793385576792824, PySem.W.Fast.te10156331382660048174, PySem.W.Fast.te11892475500146522536, PySem.W.Fast.te6613529449190102663]
      kernel_rfl) (by rfl) (by rfl) (by rfl) (by assumption) ?hw ?hc)
set_option maxHeartbeats 0 in
open_top hd for PySem.Challenge.rw_on0167_01
theorem fill_x : PySem.Challenge.rw_on0167_01 = PySem.Challenge.rw_on0167_01 ∧ hd.heap_1 = hd.heap_1 := by
  k_fill
  exact ⟨rfl, rfl⟩
theorem fresh_base : True := by
  w_top off
  trivial
abbrev pr : Program := PySem.Challenge.rw_on0167_01.row.prog
/-- what stands stays as it is -/
abbrev Kp (h h' : Heap) : Prop := ∀ b o, h.get? b = some o → h'.get? b = some o
theorem sub_nil {α : Type} {m : List α} : ∀ p ∈ ([] : List α), p ∈ m := fun _ h => nomatch h
theorem sub_cons {α : Type} {a : α} {l m : List α} (h : a ∈ m) (k : ∀ p ∈ l, p ∈ m) : ∀ p ∈ a :: l, p ∈ m := List.forall_mem_cons.mpr ⟨h, k⟩
/-- a goal that no line takes -/
structure Held (P : Prop) : Prop where
  out : P
abbrev AA (dp un : Nat) (gd : Option (List Code)) (outer : List Env) : Around := { handled := none, depth := dp, frames := some outer, guards := gd, units := un }

/-- where a def of the text's may be called -/
structure Stt (K : Frag) (p : Program) (loose : List Str) (mean : ExcName → Option Value) (mg mb : Str → Option Value) (A : Around) (base : Heap) (outer : List Env) (h : Heap) : Prop where
  B : Below A base outer h
  X : K.In h
  T : Top p loose mean mg mb h

section
variable {prog : Program} {w : World} {A : Around} {K : Frag} {p : Program} {loose : List Str} {mean : ExcName → Option Value} {mg mb : Str → Option Value} {base : Heap} {outer : List Env} {s : Shared} {Q E : Value → Shared → Prop}
  {name qual : Str} {params : Arguments} {body : List Stmt} {scope : Scope} {dV kV doc pm cdv ct oc : Value} {an od : Option Addr} {osl : Array (Option Value)} {f : Addr} {pos : List Value} {kw : List (Str × Value)} {binds : List (Str × Value)}

theorem Stt.of {h₀ h : Heap} {L : Addr} {m : Str → Option Value} {env : Env} (F : Fr h₀ L h m) (B : Below A base outer h₀) (X : K.In h₀) (T : Top p loose mean mg mb h₀) (hf : env.frame = some L) (hk : env.scope.kind = .function) :
    Stt K p loose mean mg mb (A.deeper env) base (env :: outer) h := ⟨pushX B F hf hk, X.keeps F.keep, T.keeps F.keep⟩
theorem Stt.keeps {h h' : Heap} (S : Stt K p loose mean mg mb A base outer h) (k : Kp h h') : Stt K p loose mean mg mb A base outer h' :=
  ⟨⟨S.B.stack, fun b o e => k b o (S.B.stays b o e), S.B.frames.of_keeps fun b o e _ => ⟨o, k b o e, rfl⟩⟩, S.X.keeps k, S.T.keeps k⟩

/-- a call of a def of the text's that changes nothing that stands -/
theorem enterP (S : Stt K p loose mean mg mb A base outer s.heap) (binds : List (Str × Value))
    (ho : K.lookup f = some ⟨oc, od, .func (fnOf name qual params body scope dV kV doc pm an cdv ct), osl⟩) (hcd : codeIn K cdv qual = true) (hroom : A.depth < recursionLimit)
    (hbind : BindsTo s (fnOf name qual params body scope dV kV doc pm an cdv ct) ⟨pos, kw⟩ binds) (hloc : ∀ y ∈ binds, scope.names.lookup y.1 = some .local)
    (hco : scope.isCoroutine = false) (hgen : scope.isGenerator = false) (hk : scope.kind = .function)
    (hcell : ∀ x ∈ scope.names, x.2 ≠ .cell)
    (h : ∀ g L' h₁ tk, Kp s.heap g → Fr g L' h₁ (fun y => binds.reverse.lookup y) → News g L' h₁ [] → Below A base outer g → K.In g → Top p loose mean mg mb g →
      wpAny (model prog w) (A.deeper (envOf qual scope L' f cdv)) (execs body (envOf qual scope L' f cdv))
        (fun fl s' => Q (match fl with | .ret v => v | _ => .none) s') (fun _ _ => False) { s with heap := h₁, toks := tk }) :
    wpAny (model prog w) A (call (.ref f) pos kw) Q E s := by
  refine wpAny_call ?_
  refine codeAny_call_def (fd := fnOf name qual params body scope dV kV doc pm an cdv ct) (body := body) (binds := binds) hroom (S.X _ _ ho) rfl S.T.nolimit (codeRec_of S.X hcd) rfl hbind hcell hloc (fun h₁ hns hk₁ => ?_) hco hgen hk
  exact wpAny_mono (h s.heap s.heap.objs.size h₁ _ (fun _ _ e => e) ⟨hns, hk₁, Nat.le_refl _⟩ (fun _ hp => nomatch hp) S.B S.X S.T) (fun _ _ q => q) fun _ _ x => x.elim
end
theorem fresh_model : True := by
  w_top off
  trivial
/-- the plain plan -/
structure Pl where
  rows : List (List Int)
  gotos : List (Int → Option Int)
  defs : List Int
  rules : List (Int × Int)
def CellOk (v c : Int) : Prop := v = -1048576 ∨ v = 1048576 ∨ (-4 ≤ v ∧ v ≤ c)
structure PlOk (P : Pl) (n : Nat) : Prop where
  n1 : 1 ≤ n
  n4 : n ≤ 4
  rows : P.rows.length = n
  row : ∀ r ∈ P.rows, r.length = 5 ∧ ∀ c ∈ r, CellOk c n
  gotos : P.gotos.length = n
  goto : ∀ f ∈ P.gotos, ∀ k g, f k = some g → 0 ≤ g ∧ g < (n : Int)
  defs : P.defs.length = n
  dflt : ∀ d ∈ P.defs, 0 ≤ d ∧ d < 5
  rules : P.rules.length = 4
  rule : ∀ r ∈ P.rules, (r.1 = 6 ∨ r.1 = 7) ∧ 0 ≤ r.2 ∧ r.2 ≤ 2
def cellAt (P : Pl) (st t : Int) : Int := (P.rows.getD st.toNat []).getD t.toNat 0
def dfltAt (P : Pl) (st : Int) : Int := P.defs.getD st.toNat 0
def gotoAt (P : Pl) (st k : Int) : Option Int := (P.gotos.getD st.toNat fun _ => none) k
def leftAt (P : Pl) (r : Int) : Int := (5 :: P.rules.map (·.1)).getD r.toNat 0
def sizeAt (P : Pl) (r : Int) : Int := (2 :: P.rules.map (·.2)).getD r.toNat 0
/-- what action tells -/
def toldAt (P : Pl) (st t : Int) : Int := if cellAt P st t = -1048576 then 0 else if cellAt P st t = 0 then -dfltAt P st else cellAt P st t
def topOf (st : List Int) : Int := st.getD (-1 + (st.length : Int)).toNat 0
inductive Out where
  | yes | no | go (st : List Int)
def stepP (P : Pl) (t : Int) (st : List Int) : Out :=
  let told := toldAt P (topOf st) t
  if 0 ≤ told then (if 0 < told then .yes else .no)
  else if (st.length : Int) ≤ sizeAt P (-told) then .no
  else
    let st' := st.take ((st.length : Int) - sizeAt P (-told)).toNat
    match gotoAt P (topOf st') (leftAt P (-told)) with
    | none => .no
    | some g => .go (st' ++ [g])
def takes (P : Pl) (t : Int) : Nat → List Int → Bool
  | 0, _ => false
  | k + 1, st => match stepP P t st with
    | .yes => true
    | .no => false
    | .go st' => takes P t k st'
def need (P : Pl) (t : Int) : Nat → Int → List Int → Int
  | 0, _, _ => 0
  | k + 1, l, st => match stepP P t st with
    | .yes => l
    | .no => 0
    | .go st' => need P t k (l + 1) st'
theorem need_bounds (P : Pl) (t : Int) : ∀ (k : Nat) (l : Int) (st : List Int), 1 ≤ l → need P t k l st = 0 ∨ (l ≤ need P t k l st ∧ need P t k l st < l + k)
  | 0, l, st, h => .inl rfl
  | k + 1, l, st, h => by
    unfold need
    split
    · right; omega
    · left; rfl
    · rename_i st' _
      rcases need_bounds P t k (l + 1) st' (by omega) with e | e
      · left; exact e
      · right; omega
/-- the two agree -/
theorem takes_iff (P : Pl) (t : Int) : ∀ (k m : Nat) (l : Int) (st : List Int), 1 ≤ l → m ≤ k → takes P t m st = decide (0 < need P t k l st ∧ need P t k l st < l + m)
  | k, 0, l, st, h, _ => by
    have := need_bounds P t k l st h
    show false = _
    symm
    rw [decide_eq_false_iff_not]
    omega
  | 0, m + 1, _, _, _, hm => absurd hm (by omega)
  | k + 1, m + 1, l, st, h, hm => by
    unfold takes need
    split
    · symm; rw [decide_eq_true_iff]; omega
    · simp
    · rename_i st' _
      rw [takes_iff P t k m (l + 1) st' (by omega) (by omega)]
      congr 1
      have := need_bounds P t k (l + 1) st' (by omega)
      simp only [eq_iff_iff]
      omega

def StOk (n : Nat) (st : List Int) : Prop := st ≠ [] ∧ ∀ x ∈ st, 0 ≤ x ∧ x < (n : Int)
theorem getD_all {α : Type} {Pr : α → Prop} {l : List α} {d : α} (h : ∀ x ∈ l, Pr x) {i : Nat} (hi : i < l.length) : Pr (l.getD i d) := by
  rw [List.getD_eq_getElem?_getD, List.getElem?_eq_getElem hi]
  exact h _ (List.getElem_mem hi)
theorem StOk.top {n : Nat} {st : List Int} (h : StOk n st) : 0 ≤ topOf st ∧ topOf st < (n : Int) := by
  have : 0 < st.length := List.length_pos_iff.mpr h.1
  exact getD_all (Pr := fun x => 0 ≤ x ∧ x < (n : Int)) h.2 (by omega)
section
variable {P : Pl} {n : Nat} (H : PlOk P n) {st t : Int} (h0 : 0 ≤ st) (h1 : st < n)
include H h0 h1
theorem PlOk.dfltAt : 0 ≤ dfltAt P st ∧ dfltAt P st < 5 := getD_all (Pr := fun x => 0 ≤ x ∧ x < 5) H.dflt (by have := H.defs; omega)
theorem PlOk.cellAt (t0 : 0 ≤ t) (t5 : t < 5) : CellOk (cellAt P st t) n := by
  have hr := getD_all (d := []) H.row (i := st.toNat) (by have := H.rows; omega)
  exact getD_all (Pr := fun c => CellOk c n) hr.2 (by have := hr.1; omega)
theorem PlOk.toldAt (t0 : 0 ≤ t) (t5 : t < 5) : -4 ≤ toldAt P st t := by
  have hc := PlOk.cellAt H h0 h1 t0 t5
  have hd := PlOk.dfltAt H h0 h1
  unfold Mine.toldAt CellOk at *
  split
  · omega
  · split <;> omega
theorem PlOk.gotoAt {k g : Int} (e : gotoAt P st k = some g) : 0 ≤ g ∧ g < (n : Int) :=
  getD_all (Pr := fun f => ∀ k g, f k = some g → 0 ≤ g ∧ g < (n : Int)) (d := fun _ => none) H.goto (i := st.toNat) (by have := H.gotos; omega) k g e
end
theorem PlOk.sizeAt {P : Pl} {n : Nat} (H : PlOk P n) {r : Int} (h0 : 1 ≤ r) (h1 : r ≤ 4) : 0 ≤ sizeAt P r ∧ sizeAt P r ≤ 2 := by
  obtain ⟨k, rfl⟩ : ∃ k : Nat, r = (k : Int) + 1 := ⟨(r - 1).toNat, by omega⟩
  have e : ((k : Int) + 1).toNat = k + 1 := by omega
  unfold Mine.sizeAt
  rw [e, List.getD_cons_succ]
  exact getD_all (Pr := fun x => 0 ≤ x ∧ x ≤ 2) (fun x hx => by obtain ⟨q, hq, rfl⟩ := List.mem_map.mp hx; exact (H.rule q hq).2) (by rw [List.length_map, H.rules]; omega)
theorem stepP_go {P : Pl} {n : Nat} (H : PlOk P n) {t : Int} {st st' : List Int} (t0 : 0 ≤ t) (t5 : t < 5) (h : StOk n st) (e : stepP P t st = .go st') : StOk n st' ∧ st'.length ≤ st.length + 1 := by
  unfold stepP at e
  have ht := h.top
  have hl := PlOk.toldAt H ht.1 ht.2 t0 t5
  simp only at e
  split at e
  · split at e <;> cases e
  · rename_i h1
    split at e
    · cases e
    · rename_i h2
      have hs := PlOk.sizeAt H (r := -toldAt P (topOf st) t) (by omega) (by omega)
      have hne : st.take ((st.length : Int) - Mine.sizeAt P (-toldAt P (topOf st) t)).toNat ≠ [] := by
        rw [ne_eq, List.take_eq_nil_iff]
        have := h.1
        have : 0 < st.length := List.length_pos_iff.mpr h.1
        simp only [h.1, or_false]
        omega
      have hS : StOk n (st.take ((st.length : Int) - Mine.sizeAt P (-toldAt P (topOf st) t)).toNat) := ⟨hne, fun x hx => h.2 x (List.mem_of_mem_take hx)⟩
      split at e
      · cases e
      · rename_i g hg
        cases e
        have hb := PlOk.gotoAt H hS.top.1 hS.top.2 hg
        refine ⟨⟨by simp, fun x hx => ?_⟩, ?_⟩
        · rcases List.mem_append.mp hx with hx | hx
          · exact hS.2 x hx
          · rw [List.mem_singleton.mp hx]; exact hb
        · simp only [List.length_append, List.length_take, List.length_singleton]
          omega
theorem StOk.cut {P : Pl} {n : Nat} (H : PlOk P n) {t : Int} {st : List Int} (t0 : 0 ≤ t) (t5 : t < 5) (h : StOk n st) (h1 : ¬ 0 ≤ toldAt P (topOf st) t) (h2 : ¬ (st.length : Int) ≤ sizeAt P (-toldAt P (topOf st) t)) : StOk n (st.take ((st.length : Int) - sizeAt P (-toldAt P (topOf st) t)).toNat) := by
  have ht := h.top
  have hl := PlOk.toldAt H ht.1 ht.2 t0 t5
  refine ⟨?_, fun x hx => h.2 x (List.mem_of_mem_take hx)⟩
  rw [ne_eq, List.take_eq_nil_iff]
  simp only [h.1, or_false]
  omega
section
variable {P : Pl} {t : Int} {st : List Int} {k : Nat}
theorem takes_told (h1 : 0 ≤ toldAt P (topOf st) t) : takes P t (k + 1) st = decide (0 < toldAt P (topOf st) t) := by
  unfold takes stepP
  simp only [if_pos h1]
  split <;> rename_i h <;> split at h <;> first | cases h; done | simp_all
theorem takes_short (h1 : ¬ 0 ≤ toldAt P (topOf st) t) (h2 : (st.length : Int) ≤ sizeAt P (-toldAt P (topOf st) t)) : takes P t (k + 1) st = false := by
  unfold takes stepP
  simp only [if_neg h1, if_pos h2]
theorem takes_none (h1 : ¬ 0 ≤ toldAt P (topOf st) t) (h2 : ¬ (st.length : Int) ≤ sizeAt P (-toldAt P (topOf st) t))
    (h3 : gotoAt P (topOf (st.take ((st.length : Int) - sizeAt P (-toldAt P (topOf st) t)).toNat)) (leftAt P (-toldAt P (topOf st) t)) = none) : takes P t (k + 1) st = false := by
  unfold takes stepP
  simp only [if_neg h1, if_neg h2, h3]
theorem takes_go {g : Int} (h1 : ¬ 0 ≤ toldAt P (topOf st) t) (h2 : ¬ (st.length : Int) ≤ sizeAt P (-toldAt P (topOf st) t))
    (h3 : gotoAt P (topOf (st.take ((st.length : Int) - sizeAt P (-toldAt P (topOf st) t)).toNat)) (leftAt P (-toldAt P (topOf st) t)) = some g) : takes P t (k + 1) st = takes P t k (st.take ((st.length : Int) - sizeAt P (-toldAt P (topOf st) t)).toNat ++ [g]) := by
  conv => lhs; unfold takes stepP
  simp only [if_neg h1, if_neg h2, h3]
end
theorem none_of_neg {o : Option Int} (h : ∀ g, o = some g → 0 ≤ g) (hn : o.getD (-1) < 0) : o = none := by
  cases o with
  | none => rfl
  | some g => have := h g rfl; simp only [Option.getD_some] at hn; omega
theorem some_of_nn {o : Option Int} (h : ¬ o.getD (-1) < 0) : o = some (o.getD (-1)) := by
  cases o with
  | none => exact absurd (by decide) h
  | some g => rfl
def expd (P : Pl) (m : Nat) (st : List Int) : Nat → List Int
  | 0 => []
  | i + 1 => if (i : Int) ≠ 1 ∧ (i : Int) ≠ 2 ∧ takes P i m st = true then expd P m st i ++ [(i : Int)] else expd P m st i
def ruleOf (P : Pl) (r : Int) : Int × Int := P.rules.getD (r - 1).toNat (0, 0)
theorem sizeAt_rule {P : Pl} {r : Int} (h : 0 < r) : sizeAt P r = (ruleOf P r).2 := by
  obtain ⟨k, rfl⟩ : ∃ k : Nat, r = (k : Int) + 1 := ⟨(r - 1).toNat, by omega⟩
  have e : ((k : Int) + 1).toNat = k + 1 := by omega
  have e2 : ((k : Int) + 1 - 1).toNat = k := by omega
  unfold sizeAt ruleOf
  rw [e, e2, List.getD_cons_succ]
  simp only [List.getD_eq_getElem?_getD, List.getElem?_map]
  cases P.rules[k]? <;> rfl
theorem leftAt_rule {P : Pl} {r : Int} (h : 0 < r) : leftAt P r = (ruleOf P r).1 := by
  obtain ⟨k, rfl⟩ : ∃ k : Nat, r = (k : Int) + 1 := ⟨(r - 1).toNat, by omega⟩
  have e : ((k : Int) + 1).toNat = k + 1 := by omega
  have e2 : ((k : Int) + 1 - 1).toNat = k := by omega
  unfold leftAt ruleOf
  rw [e, e2, List.getD_cons_succ]
  simp only [List.getD_eq_getElem?_getD, List.getElem?_map]
  cases P.rules[k]? <;> rfl
section
variable {P : Pl} {t l : Int} {st : List Int} {k : Nat}
theorem need_barred (h : cellAt P (topOf st) t = -1048576) : need P t (k + 1) l st = 0 := by
  unfold need stepP toldAt
  simp [h]
theorem need_yes (h : cellAt P (topOf st) t ≠ -1048576) (h0 : 0 < cellAt P (topOf st) t) : need P t (k + 1) l st = l := by
  have e : toldAt P (topOf st) t = cellAt P (topOf st) t := by unfold toldAt; rw [if_neg h, if_neg (by omega)]
  unfold need stepP
  simp only [e, if_pos h0, if_pos (Int.le_of_lt h0)]
theorem need_zero (h : cellAt P (topOf st) t = 0) (h0 : dfltAt P (topOf st) = 0) : need P t (k + 1) l st = 0 := by
  unfold need stepP toldAt
  simp [h, h0]
theorem told_dflt (h : cellAt P (topOf st) t = 0) : toldAt P (topOf st) t = -dfltAt P (topOf st) := by
  unfold toldAt
  simp [h]
theorem told_cell (h : cellAt P (topOf st) t ≠ -1048576) (h0 : cellAt P (topOf st) t < 0) : toldAt P (topOf st) t = -(-cellAt P (topOf st) t) := by
  unfold toldAt
  rw [if_neg h, if_neg (by omega), Int.neg_neg]
variable {r : Int}
theorem need_short (e : toldAt P (topOf st) t = -r) (hr : 0 < r) (h2 : (st.length : Int) ≤ (ruleOf P r).2) : need P t (k + 1) l st = 0 := by
  have h1 : ¬ 0 ≤ toldAt P (topOf st) t := by omega
  have e2 : -toldAt P (topOf st) t = r := by omega
  unfold need stepP
  simp only [if_neg h1, e2, sizeAt_rule hr, if_pos h2]
theorem need_none (e : toldAt P (topOf st) t = -r) (hr : 0 < r) (h2 : ¬ (st.length : Int) ≤ (ruleOf P r).2)
    (h3 : gotoAt P (topOf (st.take ((st.length : Int) - (ruleOf P r).2).toNat)) (ruleOf P r).1 = none) : need P t (k + 1) l st = 0 := by
  have h1 : ¬ 0 ≤ toldAt P (topOf st) t := by omega
  have e2 : -toldAt P (topOf st) t = r := by omega
  unfold need stepP
  simp only [if_neg h1, e2, sizeAt_rule hr, leftAt_rule hr, if_neg h2, h3]
theorem need_go {g : Int} (e : toldAt P (topOf st) t = -r) (hr : 0 < r) (h2 : ¬ (st.length : Int) ≤ (ruleOf P r).2)
    (h3 : gotoAt P (topOf (st.take ((st.length : Int) - (ruleOf P r).2).toNat)) (ruleOf P r).1 = some g) : need P t (k + 1) l st = need P t k (l + 1) (st.take ((st.length : Int) - (ruleOf P r).2).toNat ++ [g]) := by
  have h1 : ¬ 0 ≤ toldAt P (topOf st) t := by omega
  have e2 : -toldAt P (topOf st) t = r := by omega
  conv => lhs; unfold need stepP
  simp only [if_neg h1, e2, sizeAt_rule hr, leftAt_rule hr, if_neg h2, h3]
theorem cut_rule {n : Nat} (H : PlOk P n) (t0 : 0 ≤ t) (t5 : t < 5) (h : StOk n st) (e : toldAt P (topOf st) t = -r) (hr : 0 < r) (h2 : ¬ (st.length : Int) ≤ (ruleOf P r).2) : StOk n (st.take ((st.length : Int) - (ruleOf P r).2).toNat) := by
  have h1 : ¬ 0 ≤ toldAt P (topOf st) t := by omega
  have e2 : -toldAt P (topOf st) t = r := by omega
  have := StOk.cut H t0 t5 h h1 (by rw [e2, sizeAt_rule hr]; exact h2)
  rwa [e2, sizeAt_rule hr] at this
end
theorem top_any {n : Nat} (n1 : 1 ≤ n) {l : List Int} (h : ∀ x ∈ l, 0 ≤ x ∧ x < (n : Int)) : 0 ≤ topOf l ∧ topOf l < (n : Int) := by
  unfold topOf
  by_cases hi : (-1 + (l.length : Int)).toNat < l.length
  · exact getD_all (Pr := fun x => 0 ≤ x ∧ x < (n : Int)) h hi
  · rw [List.getD_eq_getElem?_getD, List.getElem?_eq_none (by omega)]; simp; omega
theorem isSome_of_not {b : Bool} (h : (!b) = false) : b = true := by cases b <;> simp_all
theorem isSome_of_not' {b : Bool} (h : ¬ (!b) = true) : b = true := by cases b <;> simp_all
theorem none_of_not {o : Option Int} (h : (!o.isSome) = true) : o = none := by cases o <;> simp_all
theorem some_getD {o : Option Int} (h : o.isSome = true) : o = some (o.getD 0) := by cases o <;> simp_all
theorem none_of_false {o : Option Int} (h : o.isSome = false) : o = none := by cases o <;> simp_all
theorem fresh_at : True := by
  w_top off
  trivial
-- _law_at: an int from nought, below many 
set_option maxHeartbeats 8000000 in
theorem at_spec {w : World} {p : Program} {loose : List Str} {mean : ExcName → Option Value} {mg mb : Str → Option Value} {base : Heap} {outer : List Env} {dp un : Nat} {gd : Option (List Code)} {s : Shared} {Q E : Value → Shared → Prop}
    {l : Addr} {vs : List Value} {ns : List Int} {k m : Int} {tk tm : Tok} (S : Stt (hd.heap_1 w.params) p loose mean mg mb (AA dp un gd outer) base outer s.heap) (hd : dp + 2 < recursionLimit)
    (hl : s.heap.IsList l vs.toArray) (hi : IntsAre vs ns) (hlen : ns.length ≤ 63) (hk0 : 0 ≤ k) (hk1 : k < 1000) (hm0 : 0 < m) (hm1 : m < 1000)
    (ret : ∀ v t h' tk, 0 ≤ v → v < m → Kp s.heap h' → Q (.int v t) { s with heap := h', toks := tk }) :
    wpAny (model pr w) (AA dp un gd outer) (call (.ref 324) [.ref l, .int k tk, .int m tm]) Q E s := by
  k_dflt (refine' enterP S [(Str.ofString "script", .ref l), (Str.ofString "k", .int k tk), (Str.ofString "many", .int m tm)] ?k6 ?k7 ?k8 ?k9 ?kB ?c2 ?c3 ?c4 ?c5 ?_; (case k6 => k_is); (case k7 => k_is); (case k8 => (dsimp only [AA]; omega)); (case k9 => exact BindsTo.of_eq rfl); (case c5 => decide); (case kB => exact locs rfl); (case c2 => exact rfl); (case c3 => exact rfl); (case c4 => exact rfl); k_whole)
  intro g L' h₁ tk₁ kG F N B' X' T'
  replace hl : g.IsList l vs.toArray := hl.at fun o e => kG _ _ e
  try dsimp only
  try k_fold
  k_steps
  all_goals exact ret _ _ _ _ (Int.fmod_nonneg_of_pos _ hm0) (Int.fmod_lt_of_pos _ hm0) (fun b o e => Fr.keep (by assumption) _ _ (kG _ _ e))
-- two words that the lines below share
local macro_rules | `(tactic| ktr_unf) => `(tactic| (rename_i kp'; (try dsimp only); (with_reducible rename Fr _ _ _ _ => kF); (with_reducible rename News _ _ _ _ => kN); (have F' := kF.keeps kp'); (have N' := kN.grown kp'); clear kp'; (try k_sweep); (try k_fold)))
local macro_rules | `(tactic| ktr_rel) => `(tactic| first | assumption | exact Heap.IsList.at (by assumption) fun o e => Fr.keep (by k_asm) _ _ e | decide | omega | (dsimp only [AA]; omega))
local macro_rules | `(tactic| walk_at "call ref") => `(tactic| (k_here; (with_reducible show wpAny _ _ (call (Value.ref 324) _ _) _ _ _); k_dflt ((refine' at_spec (Stt.of (by k_asm) (by k_asm) (by k_asm) (by k_asm) rfl rfl) ?d ?l ?i ?e ?k0 ?k1 ?m0 ?m1 ?_); (case d | l | i | e | k0 | k1 | m0 | m1 => ktr_rel); k_whole); intro v' t' h' tk' hv0' hv1' kp'; ktr_unf))
theorem fresh_cell : True := by
  w_top off
  trivial
-- _law_cell: a cell of a row 
set_option maxHeartbeats 8000000 in
theorem cell_spec {w : World} {p : Program} {loose : List Str} {mean : ExcName → Option Value} {mg mb : Str → Option Value} {base : Heap} {outer : List Env} {dp un : Nat} {gd : Option (List Code)} {s : Shared} {Q E : Value → Shared → Prop}
    {l : Addr} {vs : List Value} {ns : List Int} {k m : Int} {tk tm : Tok} (S : Stt (hd.heap_1 w.params) p loose mean mg mb (AA dp un gd outer) base outer s.heap) (hd : dp + 3 < recursionLimit)
    (hl : s.heap.IsList l vs.toArray) (hi : IntsAre vs ns) (hlen : ns.length ≤ 63) (hk0 : 0 ≤ k) (hk1 : k < 900) (hm0 : 0 < m) (hm1 : m < 1000)
    (ret : ∀ v t h' tk, CellOk v m → Kp s.heap h' → Q (.int v t) { s with heap := h', toks := tk }) :
    wpAny (model pr w) (AA dp un gd outer) (call (.ref 331) [.ref l, .int k tk, .int m tm]) Q E s := by
  k_dflt (refine' enterP S [(Str.ofString "script", .ref l), (Str.ofString "k", .int k tk), (Str.ofString "count", .int m tm)] ?k6 ?k7 ?k8 ?k9 ?kB ?c2 ?c3 ?c4 ?c5 ?_; (case k6 => k_is); (case k7 => k_is); (case k8 => (dsimp only [AA]; omega)); (case k9 => exact BindsTo.of_eq rfl); (case c5 => decide); (case kB => exact locs rfl); (case c2 => exact rfl); (case c3 => exact rfl); (case c4 => exact rfl); k_whole)
  intro g L' h₁ tk₁ kG F N B' X' T'
  replace hl : g.IsList l vs.toArray := hl.at fun o e => kG _ _ e
  try dsimp only
  try k_fold
  k_steps
  all_goals refine ret _ _ _ _ ?_ (fun b o e => Fr.keep (by assumption) _ _ (kG _ _ e))
  all_goals first
    | exact .inl rfl
    | exact .inr (.inl rfl)
    | (refine .inr (.inr ?_); first
      | (constructor <;> omega)
      | (have h1 := Int.fmod_nonneg_of_pos (b := 4) ‹Int› (by decide); have h2 := Int.fmod_lt_of_pos (b := 4) ‹Int› (by decide); constructor <;> omega))
local macro_rules | `(tactic| walk_at "call ref") => `(tactic| (k_here; (with_reducible show wpAny _ _ (call (Value.ref 331) _ _) _ _ _); k_dflt ((refine' cell_spec (Stt.of (by k_asm) (by k_asm) (by k_asm) (by k_asm) rfl rfl) ?d ?l ?i ?e ?k0 ?k1 ?m0 ?m1 ?_); (case d | l | i | e | k0 | k1 | m0 | m1 => ktr_rel); k_whole); intro v' t' h' tk' hok' kp'; ktr_unf))
theorem fresh_base2 : True := by
  w_top off
  trivial
section
variable {prog : Program} {w : World} {A : Around} {K : Frag} {p : Program} {loose : List Str} {mean : ExcName → Option Value} {mg mb : Str → Option Value} {base : Heap} {outer : List Env} {s : Shared} {Q E : Value → Shared → Prop}
  {name qual : Str} {params : Arguments} {body : List Stmt} {scope : Scope} {dV kV doc pm cdv ct oc : Value} {an od : Option Addr} {osl : Array (Option Value)} {f : Addr} {pos : List Value} {kw : List (Str × Value)}

/-- the same, a def that has cells -/
theorem enterPC (S : Stt K p loose mean mg mb A base outer s.heap) (binds : List (Str × Value))
    (ho : K.lookup f = some ⟨oc, od, .func (fnOf name qual params body scope dV kV doc pm an cdv ct), osl⟩) (hcd : codeIn K cdv qual = true) (hroom : A.depth < recursionLimit)
    (hbind : BindsTo s (fnOf name qual params body scope dV kV doc pm an cdv ct) ⟨pos, kw⟩ binds) (hkind : (binds.all fun y => scope.names.lookup y.1 == some .local || scope.names.lookup y.1 == some .cell) = true)
    (hnd : ((cellsFrom 0 scope.names []).map (·.1)).Nodup) (hco : scope.isCoroutine = false) (hgen : scope.isGenerator = false) (hk : scope.kind = .function)
    (h : ∀ g L' h₁ tk cells, Kp s.heap g → Fr g L' h₁ (bindL (envOfC qual scope L' f cdv).kindOf binds fun _ => none) → News g L' h₁ cells →
      CellsAre (bindC (envOfC qual scope L' f cdv).kindOf binds fun _ => none) (cellsFrom (L' + 1) scope.names []) cells → Below A base outer g → K.In g → Top p loose mean mg mb g →
      wpAny (model prog w) (A.deeper (envOfC qual scope L' f cdv)) (execs body (envOfC qual scope L' f cdv))
        (fun fl s' => Q (match fl with | .ret v => v | _ => .none) s') (fun _ _ => False) { s with heap := h₁, toks := tk }) :
    wpAny (model prog w) A (call (.ref f) pos kw) Q E s := by
  refine wpAny_call (codeAny_call_function hroom (S.X _ _ ho) rfl hco hgen rfl (codeRec_of S.X hcd) (hbind _ _ _ _ (wpAny_newFunctionEnv_cells hk (kindsX hkind _) fun env' he s' x => ?_)))
  subst he
  refine ⟨S.T.nolimit.keeps x.toInCall.keep, codeAny_func ?_⟩
  obtain ⟨h₁, tk, rfl, _⟩ := x.done
  obtain ⟨cells, NC, Y⟩ := Cl.news (h₀ := s.heap) (Nat.le_refl _) fun n c hm => ⟨x.cell n c (lookup_of_mem_nodup (cellsFrom_names scope.names 0 (s.heap.objs.size + 1) [] [] rfl ▸ hnd) hm), x.above n c hm⟩
  exact wpAny_mono (h s.heap s.heap.objs.size h₁ tk cells (fun _ _ e => e) ⟨x.toInCall.ns, x.toInCall.keep, Nat.le_refl _⟩ NC Y S.B S.X S.T) (fun _ _ q => q) fun _ _ z => z.elim
end

/-- item by item -/
inductive Al2 {α β : Type} (R : α → β → Prop) : List α → List β → Prop where
  | nil : Al2 R [] []
  | cons {x y xs ys} : R x y → Al2 R xs ys → Al2 R (x :: xs) (y :: ys)
namespace Al2
variable {α β : Type} {R R' : α → β → Prop}
theorem mono {xs : List α} {ys : List β} (h : Al2 R xs ys) (k : ∀ x y, R x y → R' x y) : Al2 R' xs ys := by
  induction h with
  | nil => exact .nil
  | cons a _ ih => exact .cons (k _ _ a) ih
theorem length {xs : List α} {ys : List β} (h : Al2 R xs ys) : xs.length = ys.length := by
  induction h with
  | nil => rfl
  | cons _ _ ih => simp [ih]
theorem snoc {xs : List α} {ys : List β} {x : α} {y : β} (h : Al2 R xs ys) (a : R x y) : Al2 R (xs ++ [x]) (ys ++ [y]) := by
  induction h with
  | nil => exact .cons a .nil
  | cons b _ ih => exact .cons b ih
theorem get {xs : List α} {ys : List β} (h : Al2 R xs ys) : ∀ i, i < ys.length → ∃ x y, xs[i]? = some x ∧ ys[i]? = some y ∧ R x y := by
  induction h with
  | nil => intro i hi; exact absurd hi (Nat.not_lt_zero _)
  | cons a _ ih =>
    intro i hi
    cases i with
    | zero => exact ⟨_, _, rfl, rfl, a⟩
    | succ i => exact ih i (by simpa using hi)
end Al2

section
variable {prog : Program} {w : World} {A : Around} {E : Value → Shared → Prop} {s : Shared} {h₀ : Heap} {L : Addr} {m : Str → Option Value} {env : Env}
open LCg

/-- a comprehension of any length by what holds of its items so far -/
theorem rest_inv {elt : Expr} {x : Str} {scope : Scope} {cl : List (Str × Addr)} {S : List (Addr × Obj) → Prop} {P : Nat → Value → Prop} {Fin : List Value → List (Addr × Obj) → Prop} {n : Nat} (J : Nat → List Value → List (Addr × Obj) → Prop)
    (turn : ∀ i ys news, i < n → J i ys news → ∀ v I oI C oC D m₂ h tk (E' : Value → Shared → Prop), P i v → NsObj oC m₂ → m₂ x = some v → Fr h₀ L h m → News h₀ L h ((I, oI) :: (C, oC) :: (D, lst ys) :: news) → Off3 I C D news → ((@Ne Nat I C) ∧ (@Ne Nat I D) ∧ (@Ne Nat C D)) →
      wpAny (model prog w) A (eval elt (compEnvC scope cl C env)) (CompEnd h₀ L m { s with heap := h, toks := tk } I oI C oC D (lst ys) S (fun y news' => J (i + 1) (ys ++ [y]) news')) E' { s with heap := h, toks := tk })
    (fin : ∀ ys news, J n ys news → Fin ys news) : ∀ k i ys news, i + k = n → J i ys news → CompRest prog w A h₀ L m env elt x scope cl s S P Fin k i ys news
  | 0, i, ys, news, e, j => fin ys news (by have e' : i = n := e; exact e' ▸ j)
  | k + 1, i, ys, news, e, j => fun v I oI C oC D m₂ h tk E' hP hC hx F N off ne =>
      wpAny_mono (turn i ys news (by omega) j v I oI C oC D m₂ h tk E' hP hC hx F N off ne) (fun y s' hy => by
        obtain ⟨h', tk', news', e1, F', N', off', hS, r⟩ := hy
        exact ⟨h', tk', news', e1, F', N', off', hS, rest_inv J turn fin k (i + 1) (ys ++ [y]) news' (by omega) r⟩) fun _ _ z => z

theorem comp_H {elt iter : Expr} {x : Str} {px : Pos} {scope : Scope} {cl : List (Str × Addr)} {pos : Pos} {Q : Value → Shared → Prop} (F₀ : Fr h₀ L s.heap m)
    (hclos : closureFor scope env = pure cl) (hcell : ∀ y ∈ scope.names, y.2 ≠ .cell) (hkind : scope.kind = .function)
    (hnames : ∀ y ∈ scope.names, y.2 = .local → scope.names.lookup y.1 = some .local) (hx : scope.names.lookup x = some .local)
    (h : wpAny (model prog w) A (eval iter env) (fun xv s₁ => Held (CompSrc prog w A h₀ L m env elt x scope cl (fun s₂ => FinE h₀ L m s₂ Q) xv s₁)) E s)
    (hs : ∀ x, foldedSetIterable iter env x = pure x := by intro _; rfl) :
    wpAny (model prog w) A (eval (.ListComp elt [⟨.Name x px, iter, [], 0⟩] scope pos) env) Q E s :=
  ListComp_U F₀ hclos hcell hkind hnames hx (wpAny_mono h (fun _ _ z => z.out) fun _ _ z => z) hs
theorem acomp_H {elt iter : Expr} {x y : Str} {px py : Pos} {scope : Scope} {cl : List (Str × Addr)} {pos spos : Pos} {Q : Flow → Shared → Prop} (F₀ : Fr h₀ L s.heap m) (hLe : env.locals = L)
    (hsw : swapsWith (.ListComp elt [⟨.Name x px, iter, [], 0⟩] scope pos) (some (.Name y py)) spos.line env = pure true)
    (hclos : closureFor scope env = pure cl) (hcell : ∀ z ∈ scope.names, z.2 ≠ .cell) (hkind : scope.kind = .function)
    (hnames : ∀ z ∈ scope.names, z.2 = .local → scope.names.lookup z.1 = some .local) (hx : scope.names.lookup x = some .local)
    (hy : env.kindOf y = some .local) (hp : (env.scope.kind == .class || (env.scope.kind == .module && env.locals != env.globals)) = false)
    (h : wpAny (model prog w) A (eval iter env) (fun xv s₁ => Held (CompSrc prog w A h₀ L m env elt x scope cl (fun s₂ => FinA h₀ L m s₂ y Q) xv s₁)) E s)
    (hs : ∀ x, foldedSetIterable iter env x = pure x := by intro _; rfl) :
    wpAny (model prog w) A (exec (.Assign [.Name y py] (.ListComp elt [⟨.Name x px, iter, [], 0⟩] scope pos) spos) env) Q E s :=
  Assign_ListComp_U F₀ hLe hsw hclos hcell hkind hnames hx hy hp (wpAny_mono h (fun _ _ z => z.out) fun _ _ z => z) hs

theorem For_H {x : Str} {px pos : Pos} {iter : Expr} {body : List Stmt} {Q : Flow → Shared → Prop} (F₀ : Fr h₀ env.locals s.heap m) (hx : env.kindOf x = some .local)
    (hp : (env.scope.kind == .class || (env.scope.kind == .module && env.locals != env.globals)) = false)
    (hE : PassesOwn (model prog w) A env E)
    (h : wpAny (model prog w) A (eval iter env) (fun xv s₁ => Held (wpAny (model prog w) A (pyIter xv) (fun it s₂ => LoopAtV prog w A h₀ env x body Q E it s₂) E s₁)) E s)
    (hs : ∀ x, foldedSetIterable iter env x = pure x := by intro _; rfl) :
    wpAny (model prog w) A (exec (.For (.Name x px) iter body [] pos) env) Q E s :=
  let _ := F₀; For_invV h₀ hx hp (wpAny_mono h (fun _ _ z => z.out) fun _ _ z => z) hs hE
theorem passes_false {M : Model} : PassesOwn M A env (fun _ _ => False) := fun _ _ h => h.elim

/-- a block that has the one cell x of its own -/
theorem newEnv_cell {M : Model} {scope : Scope} {globals : Addr} {cl : List (Str × Addr)} {qual x : Str} {Q : Env → Shared → Prop} (hcs : ∀ n, cellsFrom n scope.names cl = (x, n) :: cl)
    (hpc : ∀ h, pushCells h scope.names = h.push { cls := .type "cell", data := .cell none })
    (h : Q { scope := scope, locals := s.heap.objs.size, globals := globals, cells := (x, s.heap.objs.size + 1) :: cl, qual := qual, func := none, code := env.code, frame := env.frame, builtins := env.builtins }
      { s with heap := (s.heap.push { cls := .type "dict", data := .dict #[] }).push { cls := .type "cell", data := .cell none } }) :
    wpAny M A (newFunctionEnv scope globals cl [] qual none .none (some env)) Q E s := by
  simp only [newFunctionEnv, Option.isSome_some, if_true]
  refine wpAny_bind (wpAny_alloc ?_)
  refine wpAny_bind (wpAny_layCells _ (fun name kind cells => by cases hkc : kind == NameKind.cell <;> simp [hkc]) _ _ _ _ ?_)
  rw [hcs, hpc]
  refine wpAny_bind ?_
  rw [List.forIn_nil]
  refine wpAny_pure (wpAny_pure ?_)
  rw [show ({ s with heap := s.heap.push { cls := .type "dict", data := .dict #[] } } : Shared).heap.objs.size = s.heap.objs.size + 1 from Heap.size_push ..]
  exact h
end
local macro_rules | `(tactic| walk_at "exec For Name Call cons nil") => `(tactic| (k_here; (first | (with_reducible show wpAny _ _ (exec (Stmt.For (Expr.Name (PySem.Str.ofString "state") _) _ _ _ _) _) _ _ _) | (with_reducible show wpAny _ _ (exec (Stmt.For (Expr.Name (PySem.Str.ofString "turn") _) _ _ _ _) _) _ _ _) | (with_reducible show wpAny _ _ (exec (Stmt.For (Expr.Name (PySem.Str.ofString "looks") _) _ _ _ _) _) _ _ _) | (with_reducible show wpAny _ _ (exec (Stmt.For (Expr.Name (PySem.Str.ofString "terminal") _) _ _ _ _) _) _ _ _)); k_dflt (refine' For_H ?F ?x ?p ?E ?_; (case F => k_asm); (case x => rfl); (case p => rfl); (case E => exact passes_false)); (try k_fold)))
local macro_rules | `(tactic| walk_at "exec For Name Tuple cons nil") => `(tactic| (k_here; (with_reducible show wpAny _ _ (exec (Stmt.For (Expr.Name _ _) (Expr.Tuple _ _ _) _ _ _) _) _ _ _); k_dflt (refine' For_H ?F ?x ?p ?E ?_; (case F => k_asm); (case x => rfl); (case p => rfl); (case E => exact passes_false)); (try k_fold)))
theorem fresh_ccell : True := by
  w_top off
  trivial
section
variable {prog : Program} {w : World} {A : Around} {E : Value → Shared → Prop} {s : Shared} {h₀ : Heap} {L : Addr} {m : Str → Option Value} {env : Env}
open LCg

def Off4 (I C c D : Addr) (news : List (Addr × Obj)) : Prop := ∀ p ∈ news, p.1 ≠ I ∧ p.1 ≠ C ∧ p.1 ≠ c ∧ p.1 ≠ D

structure CellTurn (h₀ : Heap) (L : Addr) (m : Str → Option Value) (I C c D : Addr) (oI oC oc : Obj) (ys : List Value) (s₂ : Shared) (J : List Value → List (Addr × Obj) → Prop) (y : Value) (s₄ : Shared) : Prop where
  out : ∃ h' tk' news'', s₄ = { s₂ with heap := h', toks := tk' } ∧ Fr h₀ L h' m ∧ News h₀ L h' ((I, oI) :: (C, oC) :: (c, oc) :: (D, lst ys) :: news'') ∧ Off4 I C c D news'' ∧ J (ys ++ [y]) news''

/-- [elt for x in range(..)] bound to a name, x a cell of the block's own -/
theorem comp_cell {elt iter : Expr} {x y : Str} {px py : Pos} {scope : Scope} {cl : List (Str × Addr)} {pos spos : Pos} {Q : Flow → Shared → Prop} {n : Nat} {a : Int} (J : Nat → List Value → List (Addr × Obj) → Prop)
    (hLe : env.locals = L) (hsw : swapsWith (.ListComp elt [⟨.Name x px, iter, [], 0⟩] scope pos) (some (.Name y py)) spos.line env = pure true)
    (hclos : closureFor scope env = pure cl) (hkind : scope.kind = .function) (hnames : ∀ z ∈ scope.names, z.2 = .local → scope.names.lookup z.1 = some .local)
    (hxc : (relabel scope env).names.lookup x = some .cell) (hcs : ∀ n, cellsFrom n scope.names cl = (x, n) :: cl) (hpc : ∀ h, pushCells h scope.names = h.push { cls := .type "cell", data := .cell none })
    (hy : env.kindOf y = some .local) (hp : (env.scope.kind == .class || (env.scope.kind == .module && env.locals != env.globals)) = false)
    (h : wpAny (model prog w) A (eval iter env) (fun xv s₁ => Held (∃ r b t u v news, xv = .ref r ∧ A.handled = none ∧ Fr h₀ L s₁.heap m ∧ News h₀ L s₁.heap news ∧ IsRange s₁.heap r a b 1 t u v ∧ Builtin.Range.small a b 1 = true ∧ Builtin.Range.rangeSize a b 1 = ((n : Nat) : Int) ∧ n ≤ sizeLine ∧ J 0 [] news ∧
      (∀ i ys news' I oI C oC c oc D h tk t (E' : Value → Shared → Prop), i < n → J i ys news' → oc.data = .cell (some (.int (a + (i : Int)) t)) → Fr h₀ L h m → News h₀ L h ((I, oI) :: (C, oC) :: (c, oc) :: (D, lst ys) :: news') → Off4 I C c D news' →
        ((@Ne Nat I C) ∧ (@Ne Nat I c) ∧ (@Ne Nat I D) ∧ (@Ne Nat C c) ∧ (@Ne Nat C D) ∧ (@Ne Nat c D)) →
        wpAny (model prog w) A (eval elt (compEnvC scope ((x, c) :: cl) C env)) (CellTurn h₀ L m I C c D oI oC oc ys { s₁ with heap := h, toks := tk } (J (i + 1))) E' { s₁ with heap := h, toks := tk }) ∧
      (∀ D ys h tk news', J n ys news' → Fr h₀ L h (fun z => if z = y then some (.ref D) else m z) → News h₀ L h ((D, lst ys) :: news') → (∀ p ∈ news', p.1 ≠ D) → Q .next { s₁ with heap := h, toks := tk }))) E s)
    (hs : ∀ x, foldedSetIterable iter env x = pure x := by intro _; rfl) :
    wpAny (model prog w) A (exec (.Assign [.Name y py] (.ListComp elt [⟨.Name x px, iter, [], 0⟩] scope pos) spos) env) Q E s := by
  subst hLe
  rw [exec_Assign_Name_used _ _ _ _ hsw]
  refine wpAny_bind (wpAny_standAt (wpAny_bind ?_))
  show wpAny _ A (do let _ ← comprehension (.ListComp elt [⟨.Name x px, iter, [], 0⟩] scope pos) scope env _ (newList []) false (eval iter env) (some (assign (.Name y py) env))) _ _ s
  refine wpAny_bind (wpAny_mono (wpAny_comprehension_free (use := some (assign (.Name y py) env)) (Q := fun _ s' => Q .next s') rfl hs hclos hkind hnames
    (wpAny_mono h (fun xv s₁ h₁ => ?_) fun _ _ e => e)) (fun _ s' hq => wpAny_pure (wpAny_pure hq)) fun _ _ e => e)
  obtain ⟨r, b, t, u, v, news, rfl, hh, F, N, hr, hsm, hn, hsz, j0, turn, done⟩ := h₁.out
  refine wpAny_pyIter_range hr hsm ?_
  have W := range_walks (prog := prog) (w := w) (I := s₁.heap.objs.size) hh a n
  have hst : IsRangeIter (s₁.heap.push { cls := .type "range_iterator", data := .fields #[rawInt a, rawInt (Builtin.Range.rangeSize a b 1), rawInt 1] }) s₁.heap.objs.size (a + ((0 : Nat) : Int) * 1) ((n : Int) - ((0 : Nat) : Int)) 1 := by
    show IsRangeIter _ _ _ _ _
    rw [hn]; simpa using Heap.get?_push_size _ rfl
  have F₂ : Fr h₀ env.locals (s₁.heap.push { cls := .type "range_iterator", data := .fields #[rawInt a, rawInt (Builtin.Range.rangeSize a b 1), rawInt 1] }) m := F.push _
  have N₂ : News h₀ env.locals (s₁.heap.push { cls := .type "range_iterator", data := .fields #[rawInt a, rawInt (Builtin.Range.rangeSize a b 1), rawInt 1] }) news := N.grown fun _ _ e => Heap.get?_push_of_some _ e
  have hI₀ : h₀.get? s₁.heap.objs.size = none := next_is_new F
  have hIL : env.locals ≠ s₁.heap.objs.size := Nat.ne_of_lt F.ns.lt
  have offI : ∀ p ∈ news, p.1 ≠ s₁.heap.objs.size := fun p hp => Nat.ne_of_lt (Heap.lt_size (N p hp).1)
  have hIlt : s₁.heap.objs.size < (s₁.heap.push { cls := .type "range_iterator", data := .fields #[rawInt a, rawInt (Builtin.Range.rangeSize a b 1), rawInt 1] }).objs.size := by rw [Heap.size_push]; exact Nat.lt_succ_self _
  generalize s₁.heap.push { cls := .type "range_iterator", data := .fields #[rawInt a, rawInt (Builtin.Range.rangeSize a b 1), rawInt 1] } = H1 at hst F₂ N₂ hIlt ⊢
  generalize s₁.heap.objs.size = I at W hst hI₀ hIL offI hIlt ⊢
  refine wpAny_newObj_type (newEnv_cell hcs hpc ?_)
  dsimp only
  generalize hH2 : H1.push { cls := .type "list", dict := none, data := .seq ([] : List Value).toArray } = H2
  generalize hH3 : H2.push { cls := .type "dict", data := .dict #[] } = H3
  generalize hH4 : H3.push { cls := .type "cell", data := .cell none } = H4
  have z2 : H2.objs.size = H1.objs.size + 1 := by rw [← hH2, Heap.size_push]
  have z3 : H3.objs.size = H2.objs.size + 1 := by rw [← hH3, Heap.size_push]
  have up4 : ∀ b o, H1.get? b = some o → H4.get? b = some o := fun b o e => hH4 ▸ Heap.get?_push_of_some _ (hH3 ▸ Heap.get?_push_of_some _ (hH2 ▸ Heap.get?_push_of_some _ e))
  have eD : H4.get? H1.objs.size = some (lst []) := hH4 ▸ Heap.get?_push_of_some _ (hH3 ▸ Heap.get?_push_of_some _ (hH2 ▸ Heap.get?_push_size _ rfl))
  have eC : H4.Ns H2.objs.size (fun _ => none) := (hH3 ▸ Heap.Ns.new H2 (.type "dict") : H3.Ns H2.objs.size (fun _ => none)).keeps fun b o e => hH4 ▸ Heap.get?_push_of_some _ e
  have ec : H4.IsCell (H2.objs.size + 1) none := ⟨_, by rw [← z3, ← hH4]; exact Heap.get?_push_size _ rfl, rfl⟩
  have hLlt : @LT.lt Nat _ env.locals H1.objs.size := F₂.ns.lt
  have hL0 : h₀.objs.size ≤ env.locals := F₂.above
  have fresh : ∀ q, H1.objs.size ≤ q → h₀.get? q = none := fun q hq => Heap.get?_none_of_le (Nat.le_trans hL0 (Nat.le_trans (Nat.le_of_lt hLlt) hq))
  have hD₀ := fresh H1.objs.size (Nat.le_refl _)
  have hC₀ := fresh H2.objs.size (by omega)
  have hc₀ := fresh (H2.objs.size + 1) (by omega)
  have off₀ : Off4 I H2.objs.size (H2.objs.size + 1) H1.objs.size news := fun p hp => by
    have h1 : @LT.lt Nat _ p.1 H1.objs.size := Heap.lt_size (N₂ p hp).1
    exact ⟨offI p hp, by refine Nat.ne_of_lt ?_; omega, by refine Nat.ne_of_lt ?_; omega, Nat.ne_of_lt h1⟩
  have F₄ := F₂.keeps up4
  have N₄ := N₂.grown up4
  have hst₄ : IsRangeIter H4 I (a + ((0 : Nat) : Int) * 1) ((n : Int) - ((0 : Nat) : Int)) 1 := W.frame 0 _ _ hst fun q _ o e => up4 q o e
  have dIC : I ≠ H2.objs.size := by refine Nat.ne_of_lt ?_; omega
  have dIc : I ≠ H2.objs.size + 1 := by refine Nat.ne_of_lt ?_; omega
  have dID : I ≠ H1.objs.size := Nat.ne_of_lt hIlt
  have dCc : H2.objs.size ≠ H2.objs.size + 1 := Nat.ne_of_lt (Nat.lt_succ_self _)
  have dCD : H2.objs.size ≠ H1.objs.size := by refine Nat.ne_of_gt ?_; omega
  have dcD : H2.objs.size + 1 ≠ H1.objs.size := by refine Nat.ne_of_gt ?_; omega
  have dCL : H2.objs.size ≠ env.locals := by refine Nat.ne_of_gt ?_; omega
  have dcL : H2.objs.size + 1 ≠ env.locals := by refine Nat.ne_of_gt ?_; omega
  have dDL : H1.objs.size ≠ env.locals := Nat.ne_of_gt hLlt
  clear z2 z3 up4 hLlt hL0 fresh hH2 hH3 hH4 hIlt F₂ N₂ hst offI
  generalize H2.objs.size + 1 = c at *
  generalize H2.objs.size = C at *
  generalize H1.objs.size = D at *
  clear H3 H2 H1 hr
  have loop : ∀ s₃ : Shared, s₃ = { s₁ with heap := H4 } →
      codeAny (model prog w) A (.compLoop (.ListComp elt [⟨.Name x px, iter, [], 0⟩] scope pos) 0 (.ref I) (.ref D) (compEnvC scope ((x, c) :: cl) C env))
        (compPost (model prog w) A E (some (assign (.Name y py) env)) (fun _ s' => Q .next s') (.ref D) C) s₃ := by
    rintro s₃ rfl
    refine codeAny_compLoop_tests
      (fun k s' => ∃ h' tk i ys news', s' = { s₁ with heap := h', toks := tk } ∧ i ≤ n ∧ k = n + 1 - i ∧ ys.length = i ∧ IsRangeIter h' I (a + (i : Nat) * 1) ((n : Int) - (i : Nat)) 1 ∧ Fr h₀ env.locals h' m ∧ h'.Ns C (fun _ => none) ∧ (∃ cv, h'.IsCell c cv) ∧
        News h₀ env.locals h' ((D, lst ys) :: news') ∧ Off4 I C c D news' ∧ J i ys news') ?_ (n + 1)
      ⟨H4, _, 0, [], news, rfl, Nat.zero_le _, rfl, rfl, hst₄, F₄, eC, ⟨_, ec⟩, fun p hp => ?_, off₀, j0⟩
    · rintro k s' ⟨h', tk, i, ys, news', rfl, hi, rfl, hyl, hst', F', hn', ⟨cv, hc'⟩, N', off', j⟩
      by_cases hlt : i < n
      · refine W.item i _ _ _ hlt hst' fun vv h₂ tk₂ hPv hst₂ hk₂ => ?_
        obtain ⟨tv, rfl⟩ := hPv
        have hc₂ : h₂.IsCell c cv := by obtain ⟨o, e, q⟩ := hc'; exact ⟨o, hk₂ _ o (by simpa using Ne.symm dIc) e, q⟩
        have hn₂ : h₂.Ns C (fun _ => none) := hn'.at' fun o e => hk₂ _ o (by simpa using Ne.symm dIC) e
        have F₂ : Fr h₀ env.locals h₂ m := fr_but F' hk₂ hIL hI₀
        have N₂ : News h₀ env.locals h₂ ((D, lst ys) :: news') := news_but N' hk₂ fun p hp => by
          rcases List.mem_cons.mp hp with rfl | hp
          · exact Ne.symm dID
          · exact (off' p hp).1
        refine wpAny_assign_Name (wpAny_storeName_cell (env := compEnvC scope ((x, c) :: cl) C env) hkind hxc (by simp [compEnvC]) hc₂ fun h₃ hc₃ hs₃ => ?_)
        refine wpAny_tests_nil ?_
        simp only [if_true]
        have hst₃ : IsRangeIter h₃ I (a + ((i + 1 : Nat) : Int) * 1) ((n : Int) - ((i + 1 : Nat) : Int)) 1 := W.frame (i + 1) _ _ hst₂ fun b hb o e => hs₃.extBut b o (by rw [List.mem_singleton.mp hb]; exact dIc) e
        have hn₃ := hn₂.sameBut hs₃ dCc
        have F₃ : Fr h₀ env.locals h₃ m := F₂.change hs₃ dcL hc₀
        obtain ⟨oC, heC, hoC⟩ := ns_obj hn₃
        obtain ⟨oc, hec, hoc⟩ := hc₃
        have heI : h₃.get? I = some _ := hst₃
        have N₃ : News h₀ env.locals h₃ ((I, _) :: (C, oC) :: (c, oc) :: (D, lst ys) :: news') := fun p hp => by
          rcases List.mem_cons.mp hp with rfl | hp
          · exact ⟨heI, Ne.symm hIL, hI₀⟩
          · rcases List.mem_cons.mp hp with rfl | hp
            · exact ⟨heC, dCL, hC₀⟩
            · rcases List.mem_cons.mp hp with rfl | hp
              · exact ⟨hec, dcL, hc₀⟩
              · have z := N₂ p hp
                refine ⟨hs₃.extBut _ _ ?_ z.1, z.2⟩
                rcases List.mem_cons.mp hp with rfl | hp
                · exact Ne.symm dcD
                · exact (off' p hp).2.2.1
        refine wpAny_mono (turn i ys news' I _ C oC c oc D h₃ _ tv _ hlt j hoc F₃ N₃ off' ⟨dIC, dIc, dID, dCc, dCD, dcD⟩) (fun yv s₄ h₉ => ?_) fun _ _ e => e
        obtain ⟨h₄, tk₄, news₄, rfl, F₄, N₄, off₄, j₄⟩ := h₉.out
        have zI := (N₄ _ List.mem_cons_self).1
        have zC := (N₄ (C, oC) (List.mem_cons_of_mem _ List.mem_cons_self)).1
        have zc := (N₄ (c, oc) (List.mem_cons_of_mem _ (List.mem_cons_of_mem _ List.mem_cons_self))).1
        have zD := (N₄ (D, lst ys) (List.mem_cons_of_mem _ (List.mem_cons_of_mem _ (List.mem_cons_of_mem _ List.mem_cons_self)))).1
        have N₄' : News h₀ env.locals h₄ news₄ := fun p hp => N₄ p (List.mem_cons_of_mem _ (List.mem_cons_of_mem _ (List.mem_cons_of_mem _ (List.mem_cons_of_mem _ hp))))
        refine append_at (hsz := by show ys.toArray.size ≤ sizeLine; rw [List.size_toArray, hyl]; exact Nat.le_trans hi hsz) zD fun h₅ hs₅ hD₅ => ?_
        refine ⟨n + 1 - (i + 1), by omega, h₅, tk₄, i + 1, ys ++ [yv], news₄, rfl, hlt, rfl, by rw [List.length_append, List.length_singleton, hyl], hs₅.extBut _ _ dID zI, F₄.change hs₅ dDL hD₀,
          (hoC.ns zC).sameBut hs₅ dCD, ⟨_, oc, hs₅.extBut _ _ dcD zc, hoc⟩, fun p hp => ?_, off₄, j₄⟩
        rcases List.mem_cons.mp hp with rfl | hp
        · exact ⟨hD₅.trans (congrArg some (lst_snoc ys yv)), dDL, hD₀⟩
        · exact ⟨hs₅.extBut _ _ (off₄ p hp).2.2.2 (N₄' p hp).1, (N₄' p hp).2⟩
      · obtain rfl : i = n := Nat.le_antisymm hi (Nat.not_lt.mp hlt)
        refine W.done _ _ _ hst' fun h₂ tk₂ hk₂ => ?_
        have F₂ : Fr h₀ env.locals h₂ m := fr_but F' hk₂ hIL hI₀
        have N₂ : News h₀ env.locals h₂ ((D, lst ys) :: news') := news_but N' hk₂ fun p hp => by
          rcases List.mem_cons.mp hp with rfl | hp
          · exact Ne.symm dID
          · exact (off' p hp).1
        have hn₂ : h₂.Ns C (fun _ => none) := hn'.at' fun o e => hk₂ _ o (by simpa using Ne.symm dIC) e
        show wpAny _ A (assign (.Name y py) env (.ref D)) _ _ _
        refine wpAny_assign_Name (wpAny_storeName_local hy F₂.ns (fun h₃ hn₃ hs₃ => ?_) hp)
        have hL₀ : h₀.get? env.locals = none := Heap.get?_none_of_le F₂.above
        have F₃ : Fr h₀ env.locals h₃ (fun z => if z = y then some (.ref D) else m z) := ⟨hn₃, fun b o e => hs₃.extBut b o (fun q => by rw [q, hL₀] at e; cases e) (F₂.keep b o e), F₂.above⟩
        refine ⟨_, hn₂.sameBut hs₃ dCL, fun h'' hs'' => done D ys h'' _ news' j (F₃.change hs'' dCL hC₀) (fun p hp => ?_) fun p hp => (off' p hp).2.2.2⟩
        have z : h₃.get? p.1 = some p.2 := hs₃.extBut _ _ (N₂ p hp).2.1 (N₂ p hp).1
        refine ⟨hs''.extBut _ _ ?_ z, (N₂ p hp).2⟩
        rcases List.mem_cons.mp hp with rfl | hp
        · exact Ne.symm dCD
        · exact (off' p hp).2.1
    · rcases List.mem_cons.mp hp with rfl | hp
      · exact ⟨eD, dDL, hD₀⟩
      · exact N₄ p hp
  exact codeAny_compStart_list (loop _ rfl) (W.self 0 _ _ _ hst₄ (loop _ rfl))
end
theorem fresh_loops : True := by
  w_top off
  trivial
section
variable {prog : Program} {w : World} {A : Around} {E : Value → Shared → Prop} {s : Shared} {h₀ : Heap} {env : Env} {x : Str} {body : List Stmt} {Q : Flow → Shared → Prop}

/-- a loop over a sequence that stands aside, by what holds between the turns -/
theorem seq_loop {I a : Addr} {n : Nat} {P : Nat → Value → Prop} {St : Nat → Heap → Prop} {m₀ : Str → Option Value} {news : List (Addr × Obj)} (J : Nat → (Str → Option Value) → List (Addr × Obj) → Prop)
    (W : Walks prog w A I [I, a] [I] n P St) (hsI : ∀ i h, St i h → ∃ o, h.get? I = some o) (hsa : ∀ i h, St i h → ∃ o, h.get? a = some o) (haL : a ≠ env.locals) (hIL : I ≠ env.locals) (hI₀ : h₀.get? I = none)
    (hna : ∀ p ∈ news, p.1 ≠ a) (hnI : ∀ p ∈ news, p.1 ≠ I) (hst : St 0 s.heap) (F : Fr h₀ env.locals s.heap m₀) (N : News h₀ env.locals s.heap news) (hj : J 0 m₀ news)
    (turn : ∀ i v m₁ nx h tk own, i < n → P i v → TbOff own nx → J i m₁ nx → Fr h₀ env.locals h (fun y => if y = x then some v else m₁ y) → News h₀ env.locals h (nx ++ own) →
      wpAny (model prog w) A (execs body env) (TbPost h₀ env.locals (J (i + 1)) own { s with heap := h, toks := tk } Q) E { s with heap := h, toks := tk })
    (done : ∀ m₁ nx h tk, J n m₁ nx → Fr h₀ env.locals h m₁ → News h₀ env.locals h nx → Q .next { s with heap := h, toks := tk }) :
    LoopAtV prog w A h₀ env x body Q E (.ref I) s := by
  refine ⟨I, [I, a], [I], n, P, St, m₀, news, fun i m nx => J i m nx ∧ ∀ p ∈ nx, p.1 ≠ a, rfl, W, ?_, ?_, ?_, hst, F, N, ⟨hj, hna⟩, ?_, ?_⟩
  · intro hm
    simp only [List.mem_cons, List.not_mem_nil, or_false] at hm
    rcases hm with e | e
    · exact hIL e.symm
    · exact haL e.symm
  · intro b hb
    rw [List.mem_singleton.mp hb]; exact hI₀
  · intro p hp hI
    exact hnI p hp (List.mem_singleton.mp hI)
  · rintro i v m₁ nx s₁ own ⟨hh', tk', rfl⟩ hin hP ⟨hJ, hnx⟩ hoff hown _ hmem hst' F₁ N₁
    have hsep : TbOff own nx := by
      intro p hp q hq e
      have h1 := hown p hp
      simp only [List.mem_cons, List.not_mem_nil, or_false] at h1
      rcases h1 with h1 | h1
      · exact hoff q hq (List.mem_singleton.mpr (by rw [← e, h1]))
      · exact hnx q hq (by rw [← e, h1])
    obtain ⟨oI, hoI⟩ := hsI _ _ hst'
    obtain ⟨oa, hoa⟩ := hsa _ _ hst'
    have hI : (I, oI) ∈ own := hmem I (by simp) hI₀ oI hoI
    have N₂ : News h₀ env.locals hh' (nx ++ own) := fun p hp => N₁ p ((List.mem_append.mp hp).elim (fun h => List.mem_append.mpr (.inr h)) fun h => List.mem_append.mpr (.inl h))
    refine wpAny_mono (turn i v m₁ nx hh' tk' own hin hP hsep hJ F₁ N₂) (fun f s₂ p => ?_) fun _ _ e => e
    have fin : TbEnd h₀ env.locals (J (i + 1)) own { s with heap := hh', toks := tk' } s₂ → LoopStepU h₀ env.locals [I] own (fun m nx => J (i + 1) m nx ∧ ∀ p ∈ nx, p.1 ≠ a) { s with heap := hh', toks := tk' } .next s₂ := by
      rintro ⟨h', tk, m', news', nx', e, F', N', hn, ho, hao, hm⟩
      refine ⟨rfl, h', tk, m', nx', e, F', fun p hp => N' p ((List.mem_append.mp hp).elim (ho p) (hn p)), fun p hp hq => hao _ hI p hp (List.mem_singleton.mp hq).symm, hm, fun p hp e => ?_⟩
      cases q : h₀.get? a with
      | some o => have := (N' p (hn p hp)).2.2; rw [e, q] at this; cases this
      | none => exact hao _ (hmem a (by simp) q oa hoa) p hp e.symm
    cases f with
    | ret v => exact .ret p
    | brk => exact .brk p
    | next => exact .next (fin p)
    | cont => exact .cont (fin p)
  · rintro h' tk m' news' F' N' _ ⟨hJ, _⟩
    exact done m' news' h' tk hJ F' N'

theorem not_frame {h : Heap} {L a : Addr} {m : Str → Option Value} {o : Obj} (F : Fr h₀ L h m) (e : h.get? a = some o) (hd : ∀ es n, o.data ≠ .dict es n) : a ≠ L := by
  rintro rfl
  obtain ⟨oL, es, ep, ho, hd', _⟩ := F.ns
  rw [e] at ho; cases ho
  exact hd _ _ hd'

/-- over a tuple -/
theorem tup_loop {t : Addr} {vs : List Value} {m₀ : Str → Option Value} {news : List (Addr × Obj)} (J : Nat → (Str → Option Value) → List (Addr × Obj) → Prop)
    (hh : A.handled = none) (ht : s.heap.IsTuple t vs.toArray) (F : Fr h₀ env.locals s.heap m₀) (N : News h₀ env.locals s.heap news) (hna : ∀ p ∈ news, p.1 ≠ t) (hj : J 0 m₀ news)
    (turn : ∀ i v m₁ nx h tk own, i < vs.length → vs[i]? = some v → TbOff own nx → J i m₁ nx → Fr h₀ env.locals h (fun y => if y = x then some v else m₁ y) → News h₀ env.locals h (nx ++ own) →
      wpAny (model prog w) A (execs body env) (TbPost h₀ env.locals (J (i + 1)) own { s with heap := h, toks := tk } Q) E { s with heap := h, toks := tk })
    (done : ∀ m₁ nx h tk, J vs.length m₁ nx → Fr h₀ env.locals h m₁ → News h₀ env.locals h nx → Q .next { s with heap := h, toks := tk }) :
    wpAny (model prog w) A (pyIter (.ref t)) (fun it s₂ => LoopAtV prog w A h₀ env x body Q E it s₂) E s := by
  obtain ⟨ot, hot, hct, nt, hdt⟩ := id ht
  refine wpAny_pyIter_tuple ht ?_
  have hlt : t < s.heap.objs.size := Heap.lt_size hot
  have W := Walks.tuple (prog := prog) (w := w) hh s.heap.objs.size t (Nat.ne_of_lt hlt) vs.toArray
  rw [List.size_toArray] at W
  refine seq_loop J W (fun i h st => ?_) (fun i h st => ?_) (not_frame F hot (by rw [hdt]; intro _ _ e; cases e)) (Nat.ne_of_gt F.ns.lt) (next_is_new F) hna (fun p hp => Nat.ne_of_lt (Heap.lt_size (N p hp).1))
    ⟨⟨_, Heap.get?_push_size _ rfl, rfl, rfl⟩, ht.at fun o e => Heap.get?_push_of_some _ e⟩ (F.push _) (fun p hp => ⟨Heap.get?_push_of_some _ (N p hp).1, (N p hp).2⟩) hj (fun i v m₁ nx h tk own hi hP => turn i v m₁ nx h tk own hi (by simpa using hP)) done
  · obtain ⟨o, e, _⟩ := st.1; exact ⟨o, e⟩
  · obtain ⟨o, e, _⟩ := st.2; exact ⟨o, e⟩

/-- over a list that stood before the frame -/
theorem list_loop {l : Addr} {vs : List Value} {m₀ : Str → Option Value} {news : List (Addr × Obj)} (J : Nat → (Str → Option Value) → List (Addr × Obj) → Prop)
    (hh : A.handled = none) (hl : h₀.IsList l vs.toArray) (F : Fr h₀ env.locals s.heap m₀) (N : News h₀ env.locals s.heap news) (hj : J 0 m₀ news)
    (turn : ∀ i v m₁ nx h tk own, i < vs.length → vs[i]? = some v → TbOff own nx → J i m₁ nx → Fr h₀ env.locals h (fun y => if y = x then some v else m₁ y) → News h₀ env.locals h (nx ++ own) →
      wpAny (model prog w) A (execs body env) (TbPost h₀ env.locals (J (i + 1)) own { s with heap := h, toks := tk } Q) E { s with heap := h, toks := tk })
    (done : ∀ m₁ nx h tk, J vs.length m₁ nx → Fr h₀ env.locals h m₁ → News h₀ env.locals h nx → Q .next { s with heap := h, toks := tk }) :
    wpAny (model prog w) A (pyIter (.ref l)) (fun it s₂ => LoopAtV prog w A h₀ env x body Q E it s₂) E s := by
  obtain ⟨ol, hol, hcl, nl, hdl⟩ := id hl
  have hls : s.heap.IsList l vs.toArray := hl.at fun o e => F.keep l o e
  have hol' := F.keep _ _ hol
  refine wpAny_pyIter_list hls ?_
  have hlt : l < s.heap.objs.size := Heap.lt_size hol'
  have W := Walks.list (prog := prog) (w := w) hh s.heap.objs.size l (Nat.ne_of_lt hlt) vs.toArray
  rw [List.size_toArray] at W
  refine seq_loop J W (fun i h st => ?_) (fun i h st => ?_) (not_frame F hol' (by rw [hdl]; intro _ _ e; cases e)) (Nat.ne_of_gt F.ns.lt) (next_is_new F) (fun p hp e => by have := (N p hp).2.2; rw [e, hol] at this; cases this) (fun p hp => Nat.ne_of_lt (Heap.lt_size (N p hp).1))
    ⟨⟨_, Heap.get?_push_size _ rfl, rfl, rfl⟩, hls.at fun o e => Heap.get?_push_of_some _ e⟩ (F.push _) (fun p hp => ⟨Heap.get?_push_of_some _ (N p hp).1, (N p hp).2⟩) hj (fun i v m₁ nx h tk own hi hP => turn i v m₁ nx h tk own hi (by simpa using hP)) done
  · obtain ⟨o, e, _⟩ := st.1; exact ⟨o, e⟩
  · obtain ⟨o, e, _⟩ := st.2; exact ⟨o, e⟩
end
theorem tboff_adr {own nx : List (Addr × Obj)} (h : TbOff own nx) {adr : List Addr} (k : ∀ b ∈ adr, ∃ o, (b, o) ∈ nx) : OwnOff own adr := fun p hp b hb => let ⟨_, hm⟩ := k b hb; h p hp _ hm
theorem tb_mk {h₀ h' : Heap} {L : Addr} {J : (Str → Option Value) → List (Addr × Obj) → Prop} {own all nx : List (Addr × Obj)} {m' : Str → Option Value} {s₁ : Shared} {tk : Nat} (F : Fr h₀ L h' m') (N : News h₀ L h' all) (hn : ∀ p ∈ nx, p ∈ all) (ho : ∀ p ∈ own, p ∈ all) (hoff : TbOff own nx) (hj : J m' nx) :
    TbEnd h₀ L J own s₁ { s₁ with heap := h', toks := tk } := ⟨h', tk, m', all, nx, rfl, F, N, hn, ho, hoff, hj⟩
theorem mem_app_l {l r : List (Addr × Obj)} : ∀ p ∈ l, p ∈ l ++ r := fun _ h => List.mem_append_left _ h
theorem mem_app_r {l r : List (Addr × Obj)} : ∀ p ∈ r, p ∈ l ++ r := fun _ h => List.mem_append_right _ h
theorem tboff_heads {own nx : List (Addr × Obj)} (h : TbOff own nx) : OwnOff own (nx.map (·.1)) := fun p hp b hb => by
  obtain ⟨q, hq, rfl⟩ := List.mem_map.mp hb
  exact h p hp q hq
theorem off_take {own : List (Addr × Obj)} {adr r : List Addr} (h : OwnOff own (adr ++ r)) : OwnOff own adr := fun p hp b hb => h p hp b (List.mem_append_left _ hb)
theorem tb_close {h₀ h' : Heap} {L : Addr} {J : (Str → Option Value) → List (Addr × Obj) → Prop} {m' : Str → Option Value} {s₁ : Shared} {tk : Nat} (hd old : List (Addr × Obj)) {tail own : List (Addr × Obj)} (F : Fr h₀ L h' m') (N : News h₀ L h' (hd ++ (tail ++ own))) (hoff : TbOff own (old ++ tail)) (he : old.map (·.1) = hd.map (·.1)) (hj : J m' (hd ++ tail)) :
    TbEnd h₀ L J own s₁ { s₁ with heap := h', toks := tk } := by
  refine tb_mk F N (nx := hd ++ tail) (fun p hp => ?_) (fun p hp => List.mem_append_right _ (List.mem_append_right _ hp)) (fun p hp q hq => ?_) hj
  · rcases List.mem_append.mp hp with hp | hp
    · exact List.mem_append_left _ hp
    · exact List.mem_append_right _ (List.mem_append_left _ hp)
  · rcases List.mem_append.mp hq with hq | hq
    · have : q.1 ∈ old.map (·.1) := he ▸ List.mem_map_of_mem hq
      obtain ⟨q', hq', e⟩ := List.mem_map.mp this
      rw [← e]; exact hoff p hp q' (List.mem_append_left _ hq')
    · exact hoff p hp q (List.mem_append_right _ hq)
theorem tb_new {h₀ h' : Heap} {L D : Addr} {J : (Str → Option Value) → List (Addr × Obj) → Prop} {own rest : List (Addr × Obj)} {o : Obj} {m' : Str → Option Value} {s₁ : Shared} {tk : Nat} (F : Fr h₀ L h' m') (N : News h₀ L h' ((D, o) :: rest)) (ho : ∀ p ∈ own, p ∈ rest) (hl : ∀ p ∈ own, p.1 ≠ D) (hj : J m' [(D, o)]) :
    TbEnd h₀ L J own s₁ { s₁ with heap := h', toks := tk } :=
  tb_mk F N (fun p hp => by rw [List.mem_singleton.mp hp]; exact .head _) (fun p hp => .tail _ (ho p hp)) (fun p hp q hq => by rw [List.mem_singleton.mp hq]; exact hl p hp) hj
theorem fresh_rel : True := by
  w_top off
  trivial
abbrev Rl := Addr → Obj → Prop
abbrev atH (h : Heap) : Rl := fun a o => h.get? a = some o
abbrev inL (l : List (Addr × Obj)) : Rl := fun a o => (a, o) ∈ l
def ListR (R : Rl) (a : Addr) (vs : List Value) : Prop := ∃ o, R a o ∧ o.cls = .type "list" ∧ ∃ n, o.data = .seq vs.toArray n
def TupR (R : Rl) (a : Addr) (vs : List Value) : Prop := ∃ o, R a o ∧ o.cls = .type "tuple" ∧ ∃ n, o.data = .seq vs.toArray n
def RowR (R : Rl) (n : Nat) (v : Value) (row : List Int) : Prop := ∃ r ws, v = .ref r ∧ ListR R r ws ∧ IntsAre ws row ∧ row.length = 5 ∧ ∀ c ∈ row, CellOk c n
def DictO (w : World) (b : Nat) (o : Obj) (f : Int → Option Int) : Prop := ∃ kvs, o.IsDictOf (intKind pr w) kvs ∧ kvs.length ≤ b ∧ (∀ k g, f k = some g → ∃ t, valueAt kvs k = some (.int g t)) ∧ ∀ k, f k = none → valueAt kvs k = none
def DictR (w : World) (R : Rl) (d : Addr) (f : Int → Option Int) : Prop := ∃ o, R d o ∧ (d == sysModules) = false ∧ DictO w 2 o f
def GotoR (w : World) (R : Rl) (n : Nat) (v : Value) (f : Int → Option Int) : Prop := ∃ d, v = .ref d ∧ DictR w R d f ∧ ∀ k g, f k = some g → 0 ≤ g ∧ g < n
def RuleR (R : Rl) (v : Value) (r : Int × Int) : Prop := ∃ t tl ts, v = .ref t ∧ TupR R t [.int r.1 tl, .int r.2 ts] ∧ (r.1 = 6 ∨ r.1 = 7) ∧ 0 ≤ r.2 ∧ r.2 ≤ 2
structure PlanR (w : World) (R : Rl) (P : Pl) (n : Nat) (rows gotos defs rules : Addr) : Prop where
  n1 : 1 ≤ n
  n4 : n ≤ 4
  rows : ∃ vs, ListR R rows vs ∧ Al2 (RowR R n) vs P.rows ∧ P.rows.length = n
  gotos : ∃ vs, ListR R gotos vs ∧ Al2 (GotoR w R n) vs P.gotos ∧ P.gotos.length = n
  defs : ∃ vs, ListR R defs vs ∧ IntsAre vs P.defs ∧ P.defs.length = n ∧ ∀ d ∈ P.defs, 0 ≤ d ∧ d < 5
  rules : ∃ vs, ListR R rules vs ∧ Al2 (RuleR R) vs P.rules ∧ P.rules.length = 4

section
variable {R R' : Rl} (k : ∀ a o, R a o → R' a o)
include k
theorem ListR.mono {a vs} (x : ListR R a vs) : ListR R' a vs := let ⟨o, h, q⟩ := x; ⟨o, k _ _ h, q⟩
theorem TupR.mono {a vs} (x : TupR R a vs) : TupR R' a vs := let ⟨o, h, q⟩ := x; ⟨o, k _ _ h, q⟩
theorem RowR.mono {n v row} (x : RowR R n v row) : RowR R' n v row := let ⟨r, ws, e, h, q⟩ := x; ⟨r, ws, e, h.mono k, q⟩
theorem DictR.mono {w d f} (x : DictR w R d f) : DictR w R' d f := let ⟨o, h, q⟩ := x; ⟨o, k _ _ h, q⟩
theorem GotoR.mono {w n v f} (x : GotoR w R n v f) : GotoR w R' n v f := let ⟨d, e, h, q⟩ := x; ⟨d, e, h.mono k, q⟩
theorem RuleR.mono {v r} (x : RuleR R v r) : RuleR R' v r := let ⟨t, tl, ts, e, h, q⟩ := x; ⟨t, tl, ts, e, h.mono k, q⟩
theorem PlanR.mono {w P n a b c d} (x : PlanR w R P n a b c d) : PlanR w R' P n a b c d where
  n1 := x.n1
  n4 := x.n4
  rows := let ⟨vs, h, q, e⟩ := x.rows; ⟨vs, h.mono k, q.mono fun _ _ z => z.mono k, e⟩
  gotos := let ⟨vs, h, q, e⟩ := x.gotos; ⟨vs, h.mono k, q.mono fun _ _ z => z.mono k, e⟩
  defs := let ⟨vs, h, q⟩ := x.defs; ⟨vs, h.mono k, q⟩
  rules := let ⟨vs, h, q, e⟩ := x.rules; ⟨vs, h.mono k, q.mono fun _ _ z => z.mono k, e⟩
end
theorem ListR.isList {h : Heap} {a vs} (x : ListR (atH h) a vs) : h.IsList a vs.toArray := x
theorem TupR.isTup {h : Heap} {a vs} (x : TupR (atH h) a vs) : IsTup h a vs.toArray := x
/-- new objects -/
def NewIn (h h' : Heap) (tl : List (Addr × Obj)) : Prop := ∀ p ∈ tl, h'.get? p.1 = some p.2 ∧ h.get? p.1 = none
theorem NewIn.news {h₀ h h' : Heap} {L : Addr} {m : Str → Option Value} {news tl : List (Addr × Obj)} (F : Fr h₀ L h m) (N : News h₀ L h news) (k : Kp h h') (x : NewIn h h' tl) : News h₀ L h' (news ++ tl) := fun p hp => by
  rcases List.mem_append.mp hp with hp | hp
  · exact ⟨k _ _ (N p hp).1, (N p hp).2⟩
  · refine ⟨(x p hp).1, fun e => ?_, ?_⟩
    · obtain ⟨o, _, _, ho, _⟩ := F.ns
      have := (x p hp).2
      rw [e, ho] at this; cases this
    · cases q : h₀.get? p.1 with
      | none => rfl
      | some o => have := F.keep _ _ q; rw [(x p hp).2] at this; cases this
def AllGt (d : Nat) (l : List (Addr × Obj)) : Prop := ∀ p ∈ l, @LT.lt Nat _ d p.1
theorem small_le {n : Nat} (h : n ≤ 5) : Builtin.Range.small 0 (n : Int) 1 = true := by
  rcases (show n = 0 ∨ n = 1 ∨ n = 2 ∨ n = 3 ∨ n = 4 ∨ n = 5 by omega) with rfl | rfl | rfl | rfl | rfl | rfl <;> decide
theorem size_le {n : Nat} (h : n ≤ 5) : Builtin.Range.rangeSize 0 (n : Int) 1 = (n : Int) := by
  rcases (show n = 0 ∨ n = 1 ∨ n = 2 ∨ n = 3 ∨ n = 4 ∨ n = 5 by omega) with rfl | rfl | rfl | rfl | rfl | rfl <;> decide
theorem line_le {n : Nat} (h : n ≤ 5) : n ≤ sizeLine := Nat.le_trans h (by rw [sizeLine_eq]; decide)
theorem ints_snoc {vs : List Value} {ns : List Int} (h : IntsAre vs ns) (i : Int) (t : Tok) : IntsAre (vs ++ [.int i t]) (ns ++ [i]) := by
  induction h with
  | nil => exact .cons _ _ .nil
  | cons _ _ _ ih => exact .cons _ _ ih
theorem all_snoc {α : Type} {P : α → Prop} {l : List α} {a : α} (h : ∀ x ∈ l, P x) (ha : P a) : ∀ x ∈ l ++ [a], P x := fun x hx => by
  rcases List.mem_append.mp hx with hx | hx
  · exact h x hx
  · rw [List.mem_singleton.mp hx]; exact ha
theorem as1 {m : Str → Option Value} {x : Str} {a : Value} (hx : m x = some a) : m = fun z => if z = x then some a else m z := by
  funext z
  by_cases h : z = x
  · subst h; simp [hx]
  · simp [h]
theorem as2 {m : Str → Option Value} {x y : Str} {a b : Value} (hx : m x = some a) (hy : m y = some b) : m = fun z => if z = x then some a else if z = y then some b else m z := by
  funext z
  by_cases h : z = x
  · subst h; simp [hx]
  · by_cases h' : z = y
    · subst h'; simp [h, hy]
    · simp [h, h']
theorem allLt_ne {d : Addr} {l : List (Addr × Obj)} (h : AllLt d l) : ∀ p ∈ l, p.1 ≠ d := fun p hp => Nat.ne_of_lt (tb_ltOf h p hp)
theorem off_cons {own : List (Addr × Obj)} {d : Addr} {adr : List Addr} (h : ∀ p ∈ own, p.1 ≠ d) (r : OwnOff own adr) : OwnOff own (d :: adr) := fun p hp b hb => by
  rcases List.mem_cons.mp hb with rfl | hb
  · exact h p hp
  · exact r p hp b hb
theorem off_add {own : List (Addr × Obj)} {q : Addr × Obj} {adr : List Addr} (h : ∀ b ∈ adr, q.1 ≠ b) (r : OwnOff own adr) : OwnOff (q :: own) adr := fun p hp b hb => by
  rcases List.mem_cons.mp hp with rfl | hp
  · exact h b hb
  · exact r p hp b hb
theorem off_app {l r : List (Addr × Obj)} {adr : List Addr} (h : OwnOff l adr) (k : OwnOff r adr) : OwnOff (l ++ r) adr := fun p hp b hb => by
  rcases List.mem_append.mp hp with hp | hp
  · exact h p hp b hb
  · exact k p hp b hb
theorem as3 {m : Str → Option Value} {x y z' : Str} {a b c : Value} (hx : m x = some a) (hy : m y = some b) (hz : m z' = some c) : m = fun z => if z = x then some a else if z = y then some b else if z = z' then some c else m z := by
  funext z
  repeat' split
  all_goals first | rfl | simp_all
theorem as4 {m : Str → Option Value} {x y z' u : Str} {a b c d : Value} (hx : m x = some a) (hy : m y = some b) (hz : m z' = some c) (hu : m u = some d) : m = fun z => if z = x then some a else if z = y then some b else if z = z' then some c else if z = u then some d else m z := by
  funext z
  repeat' split
  all_goals first | rfl | simp_all
abbrev tupO (vs : List Value) : Obj := { cls := .type "tuple", data := .seq vs.toArray 0 }
theorem newIn_of {h g h' : Heap} {L : Addr} {news tl : List (Addr × Obj)} (k : Kp h g) (N : News g L h' news) (sub : ∀ p ∈ tl, p ∈ news) : NewIn h h' tl := fun p hp => ⟨(N p (sub p hp)).1, by
  cases q : h.get? p.1 with
  | none => rfl
  | some o => have := (N p (sub p hp)).2.2; rw [k _ _ q] at this; cases this⟩
theorem PlanR.ok {w : World} {R : Rl} {P : Pl} {n : Nat} {a b c d : Addr} (x : PlanR w R P n a b c d) : PlOk P n where
  n1 := x.n1
  n4 := x.n4
  rows := let ⟨_, _, _, e⟩ := x.rows; e
  row := fun r hr => by
    obtain ⟨vs, _, h, _⟩ := x.rows
    obtain ⟨i, hi, rfl⟩ := List.mem_iff_getElem.mp hr
    obtain ⟨v, y, _, e, q⟩ := h.get i hi
    rw [List.getElem?_eq_getElem hi] at e; cases e
    obtain ⟨_, _, _, _, _, h5, hc⟩ := q
    exact ⟨h5, hc⟩
  gotos := let ⟨_, _, _, e⟩ := x.gotos; e
  goto := fun r hr => by
    obtain ⟨vs, _, h, _⟩ := x.gotos
    obtain ⟨i, hi, rfl⟩ := List.mem_iff_getElem.mp hr
    obtain ⟨v, y, _, e, q⟩ := h.get i hi
    rw [List.getElem?_eq_getElem hi] at e; cases e
    obtain ⟨_, _, _, hc⟩ := q
    exact hc
  defs := let ⟨_, _, _, e, _⟩ := x.defs; e
  dflt := let ⟨_, _, _, _, e⟩ := x.defs; e
  rules := let ⟨_, _, _, e⟩ := x.rules; e
  rule := fun r hr => by
    obtain ⟨vs, _, h, _⟩ := x.rules
    obtain ⟨i, hi, rfl⟩ := List.mem_iff_getElem.mp hr
    obtain ⟨v, y, _, e, q⟩ := h.get i hi
    rw [List.getElem?_eq_getElem hi] at e; cases e
    obtain ⟨_, _, _, _, _, hc⟩ := q
    exact hc
theorem Al2.at {α β : Type} {R : α → β → Prop} {xs : List α} {ys : List β} (h : Al2 R xs ys) {i : Nat} (hi : i < ys.length) (d : β) : ∃ x, xs[i]? = some x ∧ R x (ys.getD i d) := by
  obtain ⟨x, y, h1, h2, h3⟩ := h.get i hi
  exact ⟨x, h1, by rw [List.getD_eq_getElem?_getD, h2]; exact h3⟩
theorem as6 {m : Str → Option Value} {x1 x2 x3 x4 x5 x6 : Str} {a1 a2 a3 a4 a5 a6 : Value} (h1 : m x1 = some a1) (h2 : m x2 = some a2) (h3 : m x3 = some a3) (h4 : m x4 = some a4) (h5 : m x5 = some a5) (h6 : m x6 = some a6) :
    m = fun z => if z = x1 then some a1 else if z = x2 then some a2 else if z = x3 then some a3 else if z = x4 then some a4 else if z = x5 then some a5 else if z = x6 then some a6 else m z := by
  funext z
  repeat' split
  all_goals first | rfl | simp_all
theorem fresh_make : True := by
  w_top off
  trivial
/-- what the end of an __init__ owes -/
structure EndM (g h₀ : Heap) (L' L : Addr) (m : Str → Option Value) (news : List (Addr × Obj)) (x : Addr) (Q : Value → Shared → Prop) (v : Value) (s' : Shared) : Prop where
  out : v = .none ∧ ∃ m' news', Fr g L' s'.heap m' ∧ News g L' s'.heap news' ∧ (Fr h₀ L s'.heap m → News h₀ L s'.heap (news' ++ news) → Q (.ref x) s')
section
variable {prog : Program} {w : World} {A₀ A : Around} {K : Frag} {p : Program} {loose : List Str} {mean : ExcName → Option Value} {mg mb : Str → Option Value} {base h₀ : Heap} {outer : List Env} {s : Shared} {Q E : Value → Shared → Prop}
  {name qual : Str} {params : Arguments} {body : List Stmt} {scope : Scope} {dV kV doc pm cdv ct oc : Value} {an od : Option Addr} {osl : Array (Option Value)} {C fI L : Addr} {m : Str → Option Value} {news : List (Addr × Obj)} {env : Env} {pos : List Value} {kw : List (Str × Value)}
theorem endM_of {g : Heap} {L' x dx : Addr} {v : Value} {s' : Shared} (st : ∀ b o, h₀.get? b = some o → g.get? b = some o) (hn : ∀ q ∈ news, g.get? q.1 = some q.2) (N₀ : ∀ q ∈ news, q.1 ≠ L ∧ h₀.get? q.1 = none)
    (hx : EndM g h₀ L' L m news x Q v s') : LeaveK h₀ L m g (InitBack x fun r s' => match r with | .ok (.ret v) => Q v s' | .ok _ => False | .error e => E e s') v s' := by
  obtain ⟨rfl, m', news', F', N', k⟩ := hx.out
  refine leaveK_ F' N' fun F N => ⟨rfl, k F fun q hq => ?_⟩
  rcases List.mem_append.mp hq with hq | hq
  · exact N q hq
  · exact ⟨F'.keep _ _ (hn q hq), (N₀ q hq).1, (N₀ q hq).2⟩
/-- a made object, its __init__ walked over it alone -/
theorem enterM (B : Below A₀ base outer h₀) (F : Fr h₀ L s.heap m) (X : K.In h₀) (N : News h₀ L s.heap news) (T : Top p loose mean mg mb h₀) (hA : A.frames = some (env :: outer)) (hf : env.frame = some L) (hke : env.scope.kind = .function)
    (hroom : (A.under (.builtin "type.__call__" ⟨.ref C :: pos, kw⟩)).depth < recursionLimit) (hm : makesIn K C = true) (hi : findIn K (.ref C) "__init__" = some (some (.ref fI))) (hff : isFn K (.ref fI) = true)
    (ho : K.lookup fI = some ⟨oc, od, .func (fnOf name qual params body scope dV kV doc pm an cdv ct), osl⟩) (hcd : codeIn K cdv qual = true) (binds : Addr → List (Str × Value))
    (hbind : ∀ x s, K.In s.heap → BindsTo s (fnOf name qual params body scope dV kV doc pm an cdv ct) ⟨.ref x :: pos, kw⟩ (binds x)) (hloc : ∀ x, ∀ y ∈ binds x, scope.names.lookup y.1 = some .local)
    (hco : scope.isCoroutine = false) (hgen : scope.isGenerator = false) (hk : scope.kind = .function) (hcell : ∀ x ∈ scope.names, x.2 ≠ .cell)
    (h : ∀ x dx g L' h₁ tk, (∀ b o, h₀.get? b = some o → g.get? b = some o) → (∀ q ∈ news, g.get? q.1 = some q.2) → (∀ q ∈ news, @LT.lt Nat _ q.1 dx) → @LT.lt Nat _ dx x → Fr g L' h₁ (fun y => (binds x).reverse.lookup y) → News g L' h₁ [(x, instObj C dx), (dx, dictOf [] 0)] →
      Below (A.under (.builtin "type.__call__" ⟨.ref C :: pos, kw⟩)) base (env :: outer) g → K.In g → Top p loose mean mg mb g →
      ∀ Z : Flow → Shared → Prop, (∀ fl s', EndM g h₀ L' L m news x Q (match fl with | .ret v => v | _ => .none) s' → Z fl s') →
      wpAny (model prog w) ((A.under (.builtin "type.__call__" ⟨.ref C :: pos, kw⟩)).deeper (envOf qual scope L' fI cdv)) (execs body (envOf qual scope L' fI cdv))
        Z (fun _ _ => False) { s with heap := h₁, toks := tk }) :
    wpAny (model prog w) A (call (.ref C) pos kw) Q E s := by
  refine call_cls F X N hm hi hff fun x dx h' F' N' l1 l2 => ?_
  have N₂ : News h₀ L h' [(x, instObj C dx), (dx, dictOf [] 0)] := fun q hq => N' q (by simp only [List.mem_cons, List.not_mem_nil, or_false] at hq ⊢; rcases hq with h | h <;> simp [h])
  refine code_defG (s := { s with heap := h' }) (K := K) (binds := binds x) B F' X N₂ T hA hf hke ho hcd hroom (hbind _ _ (X.keeps F'.keep)) (hloc x) (fun g L' h₁ FG F₁ N₁ B₁ X₁ T₁ kG => ?_) hco hgen hk hcell
  have hn : ∀ q ∈ news, g.get? q.1 = some q.2 := fun q hq => kG _ _ (N' q (.tail _ (.tail _ hq))).1 (by
    have := l1 q hq
    simp only [List.map_cons, List.map_nil, List.mem_cons, List.not_mem_nil, or_false]
    rintro (e | e)
    · rw [e] at this; exact absurd l2 (Nat.lt_asymm this)
    · rw [e] at this; exact Nat.lt_irrefl _ this)
  exact wpAny_mono (h x dx g L' h₁ _ (fun b o e => FG.keep b o e) hn l1 l2 F₁ N₁ B₁ X₁ T₁ _ fun _ _ q => q) (fun fl s' q => endM_of (dx := dx) (fun b o e => FG.keep b o e) hn (fun q hq => ⟨(N' q (.tail _ (.tail _ hq))).2.1, (N' q (.tail _ (.tail _ hq))).2.2⟩) q) fun _ _ z => z.elim
end
theorem inst_keeps {h h' : Heap} {x C : Addr} {ox : Obj} {od : Option Obj} (I : InstAt h x ox C od) (k : Kp h h') : InstAt h' x ox C od := by
  refine ⟨k _ _ I.at_, I.cls, I.no, ?_⟩
  have := I.dict
  revert this
  cases ox.dict <;> cases od <;> intro this <;> first | exact this | exact k _ _ this
section
variable {prog : Program} {w : World} {A : Around} {E : Value → Shared → Prop} {s : Shared} {h₀ : Heap} {L D b : Addr} {m : Str → Option Value} {news news' : List (Addr × Obj)} {its its2 : Array Value} {n n2 : Nat} {Q : Value → Shared → Prop}
theorem extend_K (F : Fr h₀ L s.heap m) (N : News h₀ L s.heap news) (hb : (b, W.listOf its2 n2) ∈ news) (hne : 0 < its2.size) (U : Upd D (W.listOf its n) (W.listOf (its.toList ++ its2.toList).toArray (n + 1)) news news') (hz : its.size + its2.size ≤ 100)
    (h : ∀ h', Fr h₀ L h' m → News h₀ L h' news' → Q .none { s with heap := h' }) : wpAny (model prog w) A (call (.builtin "list.extend") [.ref D, .ref b]) Q E s :=
  kl_extend F N hb rfl (by have : its2.toList.length = its2.size := by simp
                           omega) U (by
    have hs : sizeLine = 16777216 := by rw [sizeLine_eq]
    have : Builtin.List.listTooLong (its.size + its2.size) = false := by unfold Builtin.List.listTooLong; rw [decide_eq_false_iff_not]; omega
    rw [this, Bool.and_false]; exact Bool.false_ne_true) (by rw [sizeLine_eq]; have : its.toList.length = its.size := by simp
                                                             omega) (by rw [sizeLine_eq]; omega) h
theorem len_tup {a : Addr} {vs : List Value} (F : Fr h₀ L s.heap m) (ht : IsTup h₀ a vs.toArray) (hz : vs.toArray.size ≤ 9) (h : Q (.int vs.toArray.size (s.toks + 1)) { s with toks := s.toks + 1 + 1 }) :
    wpAny (model prog w) A (call (.builtin "len") [.ref a]) Q E s := kun_lenT (show IsTup s.heap a vs.toArray from let ⟨o, e, q⟩ := ht; ⟨o, F.keep _ _ e, q⟩) rfl (by omega) h
theorem item_led {a : Addr} {its : Array Value} {c : Nat} {k : Int} {u : Tok} {v : Value} {value slice : Expr} (F : Fr h₀ L s.heap m) (N : News h₀ L s.heap news) (hm : (a, W.listOf its c) ∈ news) (hx : its[k.toNat]? = some v) (h0 : 0 ≤ k) (hhi : k < 2 ^ 63) (h : Q v s)
    (hs : subscripted slice false (.ref a) (.int k u) = operate [.ref a, .int k u] (getItem (.ref a) (.int k u)) := by with_unfolding_all rfl) :
    wpAny (model prog w) A (subscriptTail value slice (.ref a) (.int k u)) Q E s := by
  let _ := F
  have hL : s.heap.IsList a its := News.isList N hm
  exact tail_any hL.typeIs slot_list_getitem.lookup (wpAny_getItem_list hL h0 hhi hx h) hs
end
theorem tb_shut {h₀ h' : Heap} {L : Addr} {J : (Str → Option Value) → List (Addr × Obj) → Prop} {m' : Str → Option Value} {s₁ : Shared} {tk : Nat} (hd old : List (Addr × Obj)) {all own : List (Addr × Obj)} (F : Fr h₀ L h' m') (N : News h₀ L h' all) (hm : ∀ p ∈ hd, p ∈ all) (ho : ∀ p ∈ own, p ∈ all) (hoff : TbOff own old) (he : old.map (·.1) = hd.map (·.1)) (hj : J m' hd) :
    TbEnd h₀ L J own s₁ { s₁ with heap := h', toks := tk } :=
  tb_mk F N (nx := hd) hm ho (fun p hp q hq => by
    have : q.1 ∈ old.map (·.1) := he ▸ List.mem_map_of_mem hq
    obtain ⟨q', hq', e⟩ := List.mem_map.mp this
    rw [← e]; exact hoff p hp q' hq') hj
local macro_rules | `(tactic| k_all) => `(tactic| (apply allLt_ne; iterate 15 (first | assumption | apply And.right); done))
local macro_rules | `(tactic| walk_at "call builtin:list.append") => `(tactic| (k_here; (with_reducible show wpAny _ _ (call (Value.builtin _) [Value.ref _, _]) _ _ _); k_dflt (refine' append_K ?k1 ?k2 ?k3 ?_ ?z; (case k1 => k_asm); (case k2 => k_asm); (case k3 => k_upd); (case z => assumption); k_whole); intro h' F' N'; (try k_sweep)))
local macro_rules | `(tactic| walk_at "exec Assign cons ListComp") => `(tactic| (k_here; k_dflt (refine acomp_H (F₀ := by k_asm) (by rfl) (by with_unfolding_all rfl) (by with_unfolding_all rfl) (by decide) (by rfl) (by decide) (by rfl) (by rfl) (by rfl) ?_); (try k_fold)))
local macro_rules | `(tactic| walk_at "eval ListComp") => `(tactic| (k_here; k_dflt (refine comp_H (F₀ := by k_asm) (by with_unfolding_all rfl) (by decide) (by rfl) (by decide) (by rfl) ?_); (try k_fold)))
local macro_rules | `(tactic| walk_at "exec For Name Attribute cons nil") => `(tactic| (k_here; (with_reducible show wpAny _ _ (exec (Stmt.For (Expr.Name (PySem.Str.ofString "rule") _) _ _ _ _) _) _ _ _); k_dflt (refine' For_H ?F ?x ?p ?E ?_; (case F => k_asm); (case x => rfl); (case p => rfl); (case E => exact passes_false)); (try k_fold)))
local macro_rules | `(tactic| walk_at "getAttr ref") => `(tactic| (k_here; k_dflt (refine' get_own ?k1 ?k2 ?k3 ?k4 ?k5 ?k6 ?k7 ?k8 ?k9 ?_; (case k1 => k_asm); (case k2 => k_asm); (case k3 => first | exact inst_keeps (by assumption) (Fr.keep (by k_asm)) | k_inst); (case k4 => k_is); (case k5 => k_is); (case k6 => k_is); (case k7 => k_is); (case k8 => assumption); (case k9 => k_handed); k_whole)))
local macro_rules | `(tactic| walk_at "call builtin:list.extend") => `(tactic| (k_here; (with_reducible show wpAny _ _ (call (Value.builtin _) [Value.ref _, Value.ref _]) _ _ _); (with_reducible rename (@LE.le Int _ 0 _ → _) => e9); (have e9' := e9 (by omega)); k_dflt (refine' extend_K ?F ?N ?b ?ne ?U ?z ?_; (case F => k_asm); (case N => k_asm); (case b => k_mem); (case ne => omega); (case U => k_upd); (case z => omega); k_whole); intro h' F' N'; (try dsimp only at N'); (try k_sweep)))
local macro_rules | `(tactic| walk_at "call builtin:len") => `(tactic| (k_here; (with_reducible show wpAny _ _ (call (Value.builtin "len") [Value.ref _]) _ _ _); k_dflt (refine' len_tup ?F ?t ?z ?_; (case F => k_asm); (case t => assumption); (case z => assumption); k_whole)))
local macro_rules | `(tactic| walk_at "subscriptTail") => `(tactic| (k_here; (with_reducible show wpAny _ _ (subscriptTail _ _ (Value.ref _) (Value.int _ _)) _ _ _); k_dflt (refine' item_led ?F ?N ?l ?x ?a ?b ?_; (case F => k_asm); (case N => k_asm); (case l => k_mem); (case x => assumption); (case a => omega); (case b => omega); k_whole)))
theorem fresh_gram : True := by
  w_top off
  trivial
--a rule's object
structure RuleO (R : Rl) (v : Value) (r : Int × Int) : Prop where
  out : ∃ x d es k rt its num tn tl bf tb, v = .ref x ∧ R x (instObj 231 d) ∧ R d (dictOf es k) ∧ getL (Str.ofString "left") es = some (some (.int r.1 tl)) ∧ getL (Str.ofString "number") es = some (some (.int num tn)) ∧
    getL (Str.ofString "right") es = some (some (.ref rt)) ∧ getL (Str.ofString "before") es = some (some (.int bf tb)) ∧ TupR R rt its ∧ (its.length : Int) = r.2
  l5 : 5 ≤ r.1
  l7 : r.1 ≤ 7
  s2 : r.2 ≤ 2
theorem RuleO.mono {R R' : Rl} (k : ∀ a o, R a o → R' a o) {v : Value} {r : Int × Int} (x : RuleO R v r) : RuleO R' v r :=
  ⟨let ⟨a, b, c, d, e, f, g, h, i, j, j', p, q, r, s, t, u, v, z, y⟩ := x.out; ⟨a, b, c, d, e, f, g, h, i, j, j', p, k _ _ q, k _ _ r, s, t, u, v, z.mono k, y⟩, x.l5, x.l7, x.s2⟩
theorem line8 (a b c d e f g h : Value) : #[a, b, c, d, e, f, g, h].size ≤ sizeLine := by rw [sizeLine_eq]; show 8 ≤ _; decide
theorem News.sub {h₀ h : Heap} {L : Addr} {news l : List (Addr × Obj)} (N : News h₀ L h news) (k : ∀ p ∈ l, p ∈ news) : News h₀ L h l := fun p hp => N p (k p hp)
theorem News.two {h₀ h : Heap} {L : Addr} {news : List (Addr × Obj)} {a b : Addr × Obj} (N : News h₀ L h news) (ha : a ∈ news) (hb : b ∈ news) : News h₀ L h [a, b] := fun p hp => N p (by
  simp only [List.mem_cons, List.not_mem_nil, or_false] at hp
  rcases hp with rfl | rfl
  · exact ha
  · exact hb)
--Grammar(...)
set_option maxHeartbeats 4000000 in
theorem gram_spec {w : World} {A₀ : Around} {p : Program} {loose : List Str} {mean : ExcName → Option Value} {mg mb : Str → Option Value} {base h₀ : Heap} {outer : List Env} {env : Env} {dp un : Nat} {gd : Option (List Code)} {s : Shared} {Q E : Value → Shared → Prop}
    {L : Addr} {m : Str → Option Value} {news : List (Addr × Obj)} (B : Below A₀ base outer h₀) (F : Fr h₀ L s.heap m) (X : (hd.heap_1 w.params).In h₀) (N : News h₀ L s.heap news) (T : Top p loose mean mg mb h₀) (hf : env.frame = some L) (hke : env.scope.kind = .function)
    (hdp : dp + 10 < recursionLimit) (hun : un + 100 < cLine)
    {na ma lv : Addr} {t5 t6 : Tok} {a0 a1 a2 a3 a4 a5 a6 a7 : Value} {vs : List Value} {rs : List (Int × Int)} (hna : ListR (inL news) na [a0, a1, a2, a3, a4, a5, a6, a7]) (hma : ListR (inL news) ma vs) (hrs : Al2 (RuleO (inL news)) vs rs) (hl5 : rs.length = 5)
    (ret : ∀ x dx es k h' tk, Fr h₀ L h' m → News h₀ L h' ((x, instObj 313 dx) :: (dx, dictOf es k) :: news) → AllLt dx news → @LT.lt Nat _ dx x → getL (Str.ofString "rules") es = some (some (.ref ma)) → getL (Str.ofString "names") es = some (some (.ref na)) → getL (Str.ofString "terminal_count") es = some (some (.int 5 t5)) →
      Q (.ref x) { s with heap := h', toks := tk }) :
    wpAny (model pr w) (AA dp un gd (env :: outer)) (call (.ref 313) [.ref na, .int 5 t5, .ref ma, .ref lv, .none, .int 6 t6]) Q E s := by
  k_dflt (refine' enterM (env := env) (outer := outer) B F X N T rfl hf hke ?room ?mk ?fi ?ff ?ho ?hcd (fun x => [(Str.ofString "self", .ref x), (Str.ofString "names", .ref na), (Str.ofString "terminal_count", .int 5 t5), (Str.ofString "rules", .ref ma), (Str.ofString "levels", .ref lv), (Str.ofString "expect", .none), (Str.ofString "start", .int 6 t6)]) ?hb ?hl ?co ?ge ?hk ?hc ?_; (case mk => k_is); (case fi => k_is); (case ff => k_is); (case ho => k_is); (case hcd => k_is); (case room => simp only [depth_under_kw]; omega); (case hb => exact fun x s X => BindsTo.of_eq rfl); (case hl => exact fun x => locs rfl); (case co => exact rfl); (case ge => exact rfl); (case hk => exact rfl); (case hc => decide); k_whole)
  intro x dx g L' h₁ tk₁ kG kN lx ldx F1 N1 B' X' T' Z hZ
  have hmono : ∀ a o, inL news a o → atH g a o := fun a o h => kN _ h
  replace hna : g.IsList na [a0, a1, a2, a3, a4, a5, a6, a7].toArray := hna.mono hmono
  replace hma : g.IsList ma vs.toArray := hma.mono hmono
  replace hrs := hrs.mono fun _ _ z => z.mono hmono
  clear hmono
  try dsimp only
  try k_fold
  k_steps
  rename_i F3 N3
  refine ⟨?_⟩
  refine LCg.CompSrc.base (by rfl) F3 N3 hna (line8 _ _ _ _ _ _ _ _) ?_
  intro g'
  generalize hes : [_, _, _, _, _, _] = es at N3
  refine rest_inv (n := 8) (fun i ys nw => ∃ ls : List Addr, ys = ls.map Value.ref ∧ ls.length = i ∧ nw = (x, instObj 313 dx) :: (dx, dictOf es 6) :: (ls.map fun l => (l, W.listOf #[] 0)).reverse ∧ ls.Pairwise (fun a b => @LT.lt Nat _ a b) ∧ ∀ l ∈ ls, @LT.lt Nat _ x l ∧ @LT.lt Nat _ dx l) ?turn ?fin 8 0 [] _ rfl ⟨[], rfl, rfl, rfl, .nil, fun _ h => nomatch h⟩
  case turn =>
    clear F3 N3 qk
    rintro j ys' _ hj ⟨ls, rfl, hll, rfl, hp, hgt⟩ v' I' oI' C' oC' D' m₂ h' tk' E₂ hv' hC' hx' F' N' off' ne'
    generalize hnw : (ls.map fun l => (l, W.listOf #[] 0)).reverse = tail at N' off'
    try dsimp only
    try k_fold
    k_steps
    rename_i l h9 F9 N9 l1
    subst hnw
    obtain ⟨q1, q2, q3, q4, q5, q6⟩ := l1
    refine LCg.CompEnd.intro F9 N9 ((x, instObj 313 dx) :: (dx, dictOf es 6) :: (l, W.listOf #[] 0) :: (ls.map fun l => (l, W.listOf #[] 0)).reverse) (fun p hp => ?_) ⟨off'.1, off'.2.1, ⟨Nat.ne_of_gt q1, Nat.ne_of_gt q2, Nat.ne_of_gt q3⟩, off'.2.2⟩ (.inl hna)
      ⟨ls ++ [l], by simp, by simp [hll], by simp, List.pairwise_append.mpr ⟨hp, .cons (fun _ h => nomatch h) .nil, fun a ha b hb => ?_⟩, fun b hb => ?_⟩
    · simp only [List.mem_cons] at hp ⊢
      grind
    · rw [List.mem_singleton.mp hb]
      exact tb_ltOf q6 (a, _) (List.mem_reverse.mpr (List.mem_map_of_mem ha))
    · rcases List.mem_append.mp hb with hb | hb
      · exact hgt b hb
      · rw [List.mem_singleton.mp hb]; exact ⟨q4, q5⟩
  case fin =>
    clear F3 N3 qk
    rintro ys' _ ⟨ls, rfl, hll, rfl, hp, hgt⟩
    intro D1 h1 tk1 F3 N3 o1
    obtain ⟨l0, l1, l2, l3, l4, l5, l6, l7, rfl⟩ : ∃ l0 l1 l2 l3 l4 l5 l6 l7 : Addr, ls = [l0, l1, l2, l3, l4, l5, l6, l7] := by
      match ls, hll with
      | [l0, l1, l2, l3, l4, l5, l6, l7], _ => exact ⟨_, _, _, _, _, _, _, _, rfl⟩
    simp only [List.map_cons, List.map_nil, List.reverse_cons, List.reverse_nil, List.nil_append, List.cons_append] at N3 o1
    have M3 := News.sub N3 (l := (D1, LCg.lst [.ref l0, .ref l1, .ref l2, .ref l3, .ref l4, .ref l5, .ref l6, .ref l7]) :: (l7, W.listOf #[] 0) :: (l6, W.listOf #[] 0) :: (l5, W.listOf #[] 0) :: (x, instObj 313 dx) :: (dx, dictOf es 6) :: []) (by (repeat' (first | exact sub_nil | refine sub_cons (by first | with_reducible k_mem | k_mem) ?_ | (intro p hp; repeat' (first | exact hp | refine List.Mem.tail _ ?_)))))
    obtain ⟨x5, d5⟩ := hgt l5 (by simp)
    obtain ⟨x6, d6⟩ := hgt l6 (by simp)
    obtain ⟨x7, d7⟩ := hgt l7 (by simp)
    obtain ⟨o1x, o1d, dl7, dl6, dl5, _⟩ := o1
    replace o1x : @Ne Nat x D1 := o1x
    replace o1d : @Ne Nat dx D1 := o1d
    replace dl5 : @Ne Nat l5 D1 := dl5
    replace dl6 : @Ne Nat l6 D1 := dl6
    replace dl7 : @Ne Nat l7 D1 := dl7
    simp only [List.pairwise_cons, List.mem_cons, List.not_mem_nil, or_false] at hp
    have p56 : @LT.lt Nat _ l5 l6 := hp.2.2.2.2.2.1 _ (.inl rfl)
    have p67 : @LT.lt Nat _ l6 l7 := hp.2.2.2.2.2.2.1 _ rfl
    clear N3 hp hgt hll
    subst hes
    try dsimp only
    try k_fold
    k_steps
    rename_i h5 tk5 OF h6 lf h7 tk7 OW h8 lw h9 F9 N9
    refine ⟨?_⟩
    generalize hes : [_, _, _, _, _, _, _, _, _] = es at N9
    obtain ⟨J, hJ⟩ : ∃ J : Nat → (Str → Option Value) → List (Addr × Obj) → Prop, ∀ i nm nx, J i nm nx ↔ (nm (Str.ofString "self") = some (.ref x) ∧ ∃ b5 b6 b7 bo bw k5 k6 k7 ko kw, nx = [(OW, W.listOf bw kw), (OF, W.listOf bo ko), (D1, LCg.lst [.ref l0, .ref l1, .ref l2, .ref l3, .ref l4, .ref l5, .ref l6, .ref l7]), (l7, W.listOf b7 k7), (l6, W.listOf b6 k6), (l5, W.listOf b5 k5), (x, instObj 313 dx), (dx, dictOf es 9)] ∧
      b5.size ≤ i ∧ b6.size ≤ i ∧ b7.size ≤ i ∧ bo.size ≤ i ∧ bw.size ≤ 3 * i) := ⟨_, fun _ _ _ => Iff.rfl⟩
    refine' list_loop (vs := vs) J rfl hma F9 N9 ((hJ _ _ _).mpr ⟨rfl, #[], #[], #[], #[], #[], 0, 0, 0, 0, 0, rfl, by simp, by simp, by simp, by simp, by simp⟩) ?turn2 ?done2
    case turn2 =>
      clear F9 N9 qk
      rintro i v m₁ nx h tk own hi hv hoI hj F7 N7
      obtain ⟨hm1, b5, b6, b7, bo, bw, k5, k6, k7, ko, kw, rfl, s5, s6, s7, so, sw⟩ := (hJ _ _ _).mp hj
      clear hj
      have hi5 : i < 5 := by have := hrs.length; omega
      obtain ⟨_, r, e1, e2, hR⟩ := hrs.get i (by omega)
      rw [hv] at e1; cases e1
      obtain ⟨⟨ro, rd, res, rk, rt, its, num, tn, tl, bf, tb, rfl, hr1, hr2, hrl, hrn, hrr, hrb, hrt, hrz⟩, hl5', hl7, hs2⟩ := hR
      have hI : InstAt g ro (instObj 231 rd) 231 (some (dictOf res rk)) := ⟨hr1, rfl, rfl, hr2⟩
      replace hrt : IsTup g rt its.toArray := hrt
      change Fr g L' h _ at F7
      change News g L' h _ at N7
      rw [as1 hm1] at F7
      simp only [List.cons_append, List.nil_append] at N7
      have hoJ : OwnOff own [OW, OF, D1, l7, l6, l5, x, dx] := tboff_heads hoI
      have hg1 : getL (Str.ofString "by_left") es = some (some (.ref D1)) := by rw [← hes]; k_get
      have hg2 : getL (Str.ofString "offsets") es = some (some (.ref OF)) := by rw [← hes]; k_get
      have hg3 : getL (Str.ofString "owners") es = some (some (.ref OW)) := by rw [← hes]; k_get
      clear hes
      obtain ⟨r1, r2⟩ := r
      dsimp only at hrl hl5' hl7 hs2 hrz
      have hz9 : its.toArray.size ≤ 9 := by rw [List.size_toArray]; omega
      have hz2 : its.toArray.size ≤ 2 := by rw [List.size_toArray]; omega
      have hline : bo.size ≤ sizeLine := line_le (by omega)
      obtain ⟨la, ba, ka, lb, bb, kb, lc, bc, kc, hkey⟩ : ∃ la ba ka lb bb kb lc bc kc, (r1 = 5 ∧ la = l5 ∧ ba = b5 ∧ ka = k5 ∧ lb = l6 ∧ bb = b6 ∧ kb = k6 ∧ lc = l7 ∧ bc = b7 ∧ kc = k7) ∨ (r1 = 6 ∧ la = l6 ∧ ba = b6 ∧ ka = k6 ∧ lb = l5 ∧ bb = b5 ∧ kb = k5 ∧ lc = l7 ∧ bc = b7 ∧ kc = k7) ∨ (r1 = 7 ∧ la = l7 ∧ ba = b7 ∧ ka = k7 ∧ lb = l6 ∧ bb = b6 ∧ kb = k6 ∧ lc = l5 ∧ bc = b5 ∧ kc = k5) := by
        rcases (show r1 = 5 ∨ r1 = 6 ∨ r1 = 7 by omega) with e | e | e
        · exact ⟨_, _, _, _, _, _, _, _, _, .inl ⟨e, rfl, rfl, rfl, rfl, rfl, rfl, rfl, rfl, rfl⟩⟩
        · exact ⟨_, _, _, _, _, _, _, _, _, .inr (.inl ⟨e, rfl, rfl, rfl, rfl, rfl, rfl, rfl, rfl, rfl⟩)⟩
        · exact ⟨_, _, _, _, _, _, _, _, _, .inr (.inr ⟨e, rfl, rfl, rfl, rfl, rfl, rfl, rfl, rfl, rfl⟩)⟩
      have hx : #[Value.ref l0, .ref l1, .ref l2, .ref l3, .ref l4, .ref l5, .ref l6, .ref l7][r1.toNat]? = some (.ref la) := by
        rcases hkey with ⟨rfl, rfl, _⟩ | ⟨rfl, rfl, _⟩ | ⟨rfl, rfl, _⟩ <;> rfl
      have hla : ba.size ≤ sizeLine := line_le (by rcases hkey with ⟨_, _, e, _⟩ | ⟨_, _, e, _⟩ | ⟨_, _, e, _⟩ <;> subst e <;> omega)
      obtain ⟨a1, a2, a3, a4, a5, a6, a7, c1, c2, c3, c4, c5, c6, c7, c8, c9⟩ : @Ne Nat la lb ∧ @Ne Nat la lc ∧ @Ne Nat lb lc ∧ @Ne Nat la x ∧ @Ne Nat la dx ∧ @Ne Nat la D1 ∧ @LT.lt Nat _ la OF ∧ @LT.lt Nat _ lb OF ∧ @LT.lt Nat _ lc OF ∧ @LT.lt Nat _ la OW ∧ @LT.lt Nat _ lb OW ∧ @LT.lt Nat _ lc OW ∧ @LT.lt Nat _ OF OW ∧ @LT.lt Nat _ D1 OF ∧ @LT.lt Nat _ dx OF ∧ @LT.lt Nat _ x OF := by
        rcases hkey with ⟨_, rfl, _, _, rfl, _, _, rfl, _⟩ | ⟨_, rfl, _, _, rfl, _, _, rfl, _⟩ | ⟨_, rfl, _, _, rfl, _, _, rfl, _⟩ <;> refine ⟨?_, ?_, ?_, ?_, ?_, ?_, ?_, ?_, ?_, ?_, ?_, ?_, ?_, ?_, ?_, ?_⟩ <;> omega
      have N8 := News.sub N7 (l := (OW, W.listOf bw kw) :: (OF, W.listOf bo ko) :: (D1, LCg.lst [.ref l0, .ref l1, .ref l2, .ref l3, .ref l4, .ref l5, .ref l6, .ref l7]) :: (la, W.listOf ba ka) :: (lb, W.listOf bb kb) :: (lc, W.listOf bc kc) :: (x, instObj 313 dx) :: (dx, dictOf es 9) :: own) (by
        rcases hkey with ⟨_, rfl, rfl, rfl, rfl, rfl, rfl, rfl, rfl, rfl⟩ | ⟨_, rfl, rfl, rfl, rfl, rfl, rfl, rfl, rfl, rfl⟩ | ⟨_, rfl, rfl, rfl, rfl, rfl, rfl, rfl, rfl, rfl⟩ <;> (repeat' (first | exact sub_nil | refine sub_cons (by first | with_reducible k_mem | k_mem) ?_ | (intro p hp; repeat' (first | exact hp | refine List.Mem.tail _ ?_)))))
      have hoJ' : OwnOff own [OW, OF, D1, la, lb, lc, x, dx] := fun p hp b hb => hoJ p hp b (by
        revert b
        rcases hkey with ⟨_, rfl, _, _, rfl, _, _, rfl, _⟩ | ⟨_, rfl, _, _, rfl, _, _, rfl, _⟩ | ⟨_, rfl, _, _, rfl, _, _, rfl, _⟩ <;> (repeat' (first | exact sub_nil | refine sub_cons (by first | with_reducible k_mem | k_mem) ?_ | (intro p hp; repeat' (first | exact hp | refine List.Mem.tail _ ?_)))))
      clear N7 hoJ
      try dsimp only
      try k_fold
      k_steps
      rename_i hA tkA hB tkB l hC q1 D hD i1 n1 z1 e1 e2' e9 q2 e9b hE F9 N9
      have hsz : (bw.toList ++ (List.replicate ((its.toArray.size : Int) + 1).toNat [Value.int num tn]).flatten).toArray.size ≤ 3 * (i + 1) := by
        rw [List.size_toArray, List.length_append, Array.length_toList]
        rw [List.size_toArray] at z1
        omega
      have hoz : (bo.push (Value.int bw.size (tkA + 1 + 1 + 1))).size ≤ i + 1 := by rw [Array.size_push]; omega
      rcases hkey with ⟨_, rfl, rfl, rfl, rfl, rfl, rfl, rfl, rfl, rfl⟩ | ⟨_, rfl, rfl, rfl, rfl, rfl, rfl, rfl, rfl, rfl⟩ | ⟨_, rfl, rfl, rfl, rfl, rfl, rfl, rfl, rfl, rfl⟩
      · refine tb_shut [(OW, W.listOf (bw.toList ++ (List.replicate ((its.toArray.size : Int) + 1).toNat [Value.int num tn]).flatten).toArray (kw + 1)), (OF, W.listOf (bo.push (Value.int bw.size (tkA + 1 + 1 + 1))) (ko + 1)), (D1, LCg.lst [.ref l0, .ref l1, .ref l2, .ref l3, .ref l4, .ref la, .ref lb, .ref lc]), (lc, W.listOf bc kc), (lb, W.listOf bb kb), (la, W.listOf (ba.push (Value.int num tn)) (ka + 1)), (x, instObj 313 dx), (dx, dictOf es 9)] _ F9 N9 (fun p hp => ?_) (fun p hp => ?_) hoI rfl
          ((hJ _ _ _).mpr ⟨rfl, _, _, _, _, _, _, _, _, _, _, rfl, by rw [Array.size_push]; omega, by omega, by omega, hoz, hsz⟩)
        · revert p; (repeat' (first | exact sub_nil | refine sub_cons (by first | with_reducible k_mem | k_mem) ?_ | (intro p hp; repeat' (first | exact hp | refine List.Mem.tail _ ?_))))
        · simp only [List.mem_cons, hp, or_true]
      · refine tb_shut [(OW, W.listOf (bw.toList ++ (List.replicate ((its.toArray.size : Int) + 1).toNat [Value.int num tn]).flatten).toArray (kw + 1)), (OF, W.listOf (bo.push (Value.int bw.size (tkA + 1 + 1 + 1))) (ko + 1)), (D1, LCg.lst [.ref l0, .ref l1, .ref l2, .ref l3, .ref l4, .ref lb, .ref la, .ref lc]), (lc, W.listOf bc kc), (la, W.listOf (ba.push (Value.int num tn)) (ka + 1)), (lb, W.listOf bb kb), (x, instObj 313 dx), (dx, dictOf es 9)] _ F9 N9 (fun p hp => ?_) (fun p hp => ?_) hoI rfl
          ((hJ _ _ _).mpr ⟨rfl, _, _, _, _, _, _, _, _, _, _, rfl, by omega, by rw [Array.size_push]; omega, by omega, hoz, hsz⟩)
        · revert p; (repeat' (first | exact sub_nil | refine sub_cons (by first | with_reducible k_mem | k_mem) ?_ | (intro p hp; repeat' (first | exact hp | refine List.Mem.tail _ ?_))))
        · simp only [List.mem_cons, hp, or_true]
      · refine tb_shut [(OW, W.listOf (bw.toList ++ (List.replicate ((its.toArray.size : Int) + 1).toNat [Value.int num tn]).flatten).toArray (kw + 1)), (OF, W.listOf (bo.push (Value.int bw.size (tkA + 1 + 1 + 1))) (ko + 1)), (D1, LCg.lst [.ref l0, .ref l1, .ref l2, .ref l3, .ref l4, .ref lc, .ref lb, .ref la]), (la, W.listOf (ba.push (Value.int num tn)) (ka + 1)), (lb, W.listOf bb kb), (lc, W.listOf bc kc), (x, instObj 313 dx), (dx, dictOf es 9)] _ F9 N9 (fun p hp => ?_) (fun p hp => ?_) hoI rfl
          ((hJ _ _ _).mpr ⟨rfl, _, _, _, _, _, _, _, _, _, _, rfl, by omega, by omega, by rw [Array.size_push]; omega, hoz, hsz⟩)
        · revert p; (repeat' (first | exact sub_nil | refine sub_cons (by first | with_reducible k_mem | k_mem) ?_ | (intro p hp; repeat' (first | exact hp | refine List.Mem.tail _ ?_))))
        · simp only [List.mem_cons, hp, or_true]
    case done2 =>
      clear F9 N9 qk
      rintro m₁ nx h tk hj F7 N7
      obtain ⟨hm1, b5, b6, b7, bo, bw, k5, k6, k7, ko, kw, rfl, s5, s6, s7, so, sw⟩ := (hJ _ _ _).mp hj
      clear hj hJ
      have hv5 : vs.length ≤ 5 := by have := hrs.length; omega
      have hline : bw.size ≤ sizeLine := Nat.le_trans (show bw.size ≤ 15 by omega) (by rw [sizeLine_eq]; decide)
      have hz9 : bw.size ≤ 15 := by omega
      change Fr g L' h _ at F7
      change News g L' h _ at N7
      rw [as1 hm1] at F7
      subst hes
      try dsimp only
      try k_fold
      k_steps
      rename_i hX F9 N9
      refine hZ _ _ (EndM.mk ⟨rfl, _, _, F9, News.two N9 (.tail _ (.tail _ (.tail _ (.tail _ (.tail _ (.tail _ (.head _))))))) (.tail _ (.tail _ (.tail _ (.tail _ (.tail _ (.tail _ (.tail _ (.head _)))))))), fun F' N' => ret x dx _ _ _ _ F' N' (allLt_of lx) ldx ?_ ?_ ?_⟩)
      all_goals k_get
theorem fresh_itat : True := by
  w_top off
  trivial
/-- an item of a list that stood before the frame -/
theorem item_at {prog : Program} {w : World} {A : Around} {E : Value → Shared → Prop} {s : Shared} {h₀ : Heap} {L a : Addr} {m : Str → Option Value} {vs : List Value} {k : Int} {u : Tok} {v : Value} {value slice : Expr} {Q : Value → Shared → Prop}
    (F : Fr h₀ L s.heap m) (hl : h₀.IsList a vs.toArray) (hx : vs[k.toNat]? = some v) (h0 : 0 ≤ k) (hhi : k < 2 ^ 63) (h : Q v s)
    (hs : subscripted slice false (.ref a) (.int k u) = operate [.ref a, .int k u] (getItem (.ref a) (.int k u)) := by with_unfolding_all rfl) :
    wpAny (model prog w) A (subscriptTail value slice (.ref a) (.int k u)) Q E s := by
  have hL : s.heap.IsList a vs.toArray := hl.at fun o e => F.keep _ _ e
  exact tail_any hL.typeIs slot_list_getitem.lookup (wpAny_getItem_list hL h0 hhi (by simpa using hx) h) hs
local macro_rules | `(tactic| k_room) => `(tactic| ((try simp only [depth_under_make, depth_under_kw, depth_in1, depth_deeper]); (try dsimp only [AA]); omega))
local macro_rules | `(tactic| walk_at "subscriptTail") => `(tactic| (k_here; (with_reducible show wpAny _ _ (subscriptTail _ _ (Value.ref _) (Value.int _ _)) _ _ _); k_dflt (refine' item_at ?F ?l ?x ?a ?b ?_; (case F => k_asm); (case l => exact Heap.IsList.at (by assumption) (fun o e => Fr.keep (by assumption) _ _ e)); (case x => rfl); (case a => omega); (case b => omega); k_whole)))
theorem fresh_ptab : True := by
  w_top off
  trivial
section
variable {prog : Program} {w : World} {A₀ A : Around} {s : Shared} {base h₀ : Heap} {outer : List Env} {L : Addr} {m mg mb : Str → Option Value} {env : Env} {news : List (Addr × Obj)} {K : Frag} {p : Program} {loose : List Str} {mean : ExcName → Option Value}
  {R : Result → Shared → Prop} {name qual : Str} {params : Arguments} {body : List Stmt} {scope : Scope} {dV kV doc pm cdv ct oc : Value} {an od : Option Addr} {osl : Array (Option Value)} {f cc : Addr} {args : Args} {binds : List (Str × Value)}
theorem code_superG (B : Below A₀ base outer h₀) (F : Fr h₀ L s.heap m) (X₀ : K.In h₀) (N : News h₀ L s.heap news) (T : Top p loose mean mg mb h₀) (hA : A.frames = some (env :: outer)) (hf : env.frame = some L) (hke : env.scope.kind = .function)
    (ho : K.lookup f = some ⟨oc, od, .func (ksFn name qual params body scope dV kV doc pm an cdv ct cc), osl⟩) (hcd : codeIn K cdv qual = true) (hroom : A.depth < recursionLimit)
    (hbind : BindsTo s (ksFn name qual params body scope dV kV doc pm an cdv ct cc) args binds) (hloc : ∀ y ∈ binds, scope.names.lookup y.1 = some .local)
    (h : ∀ g L' h₁, Fr h₀ L g m → Fr g L' h₁ (fun y => binds.reverse.lookup y) → News g L' h₁ news → Below A base (env :: outer) g → K.In g → Top p loose mean mg mb g → GSub s.heap g (news.map (·.1)) →
      _root_.PySem.wpAt (model prog w) (A.deeper (ksEnv qual scope L' f cdv cc)) (.func body (ksEnv qual scope L' f cdv cc)) (execs body (ksEnv qual scope L' f cdv cc))
        (fun fl s' => LeaveK h₀ L m g R (match fl with | .ret v => v | _ => .none) s')
        (fun _ _ => False) { s with heap := h₁, toks := s.toks + binds.length })
    (hcell : ∀ x ∈ scope.names, x.2 ≠ .cell) (hco : scope.isCoroutine = false) (hgen : scope.isGenerator = false) (hk : scope.kind = .function) : codeAny (model prog w) A (.call (.ref f) args) R s := by
  obtain ⟨FG, BG, st, lv⟩ := groundX (R := R) B F N hA hf hke
  refine ks_codeAny_call_defAt (fd := ksFn name qual params body scope dV kV doc pm an cdv ct cc) (body := body) (binds := binds) hroom ((X₀.keeps F.keep) _ _ ho) rfl (T.nolimit.keeps F.keep) (codeRec_of (X₀.keeps F.keep) hcd) rfl hbind hcell hloc (fun h₁ hns hk₁ => ?_) hco hgen hk
  exact ks_wpAt_mono (h _ s.heap.objs.size h₁ FG ⟨hns, fun b o e => hk₁ b o (of_hideAll _ e), Nat.le_of_eq (hideAll_size _ _)⟩
    (fun p hp => ⟨hk₁ _ _ (N p hp).1, Nat.ne_of_lt (Heap.lt_size (N p hp).1), hideAll_none _ (List.mem_map_of_mem hp)⟩) BG (X₀.keeps st) (T.keeps st) (fun b o e n => hideAll_get _ e n)) (fun fl s' hl => lv _ _ hl) fun _ _ y => y.elim
end
section
variable {prog : Program} {w : World} {A₀ A : Around} {K : Frag} {p : Program} {loose : List Str} {mean : ExcName → Option Value} {mg mb : Str → Option Value} {base h₀ : Heap} {outer : List Env} {s : Shared} {Q E : Value → Shared → Prop}
  {name qual : Str} {params : Arguments} {body : List Stmt} {scope : Scope} {dV kV doc pm cdv ct oc : Value} {an od : Option Addr} {osl : Array (Option Value)} {C fI cc L : Addr} {m : Str → Option Value} {news : List (Addr × Obj)} {env : Env} {pos : List Value} {kw : List (Str × Value)}
/-- a made object, its __init__, which names its class, walked over it alone -/
theorem enterMS (B : Below A₀ base outer h₀) (F : Fr h₀ L s.heap m) (X : K.In h₀) (N : News h₀ L s.heap news) (T : Top p loose mean mg mb h₀) (hA : A.frames = some (env :: outer)) (hf : env.frame = some L) (hke : env.scope.kind = .function)
    (hroom : (A.under (.builtin "type.__call__" ⟨.ref C :: pos, kw⟩)).depth < recursionLimit) (hm : makesIn K C = true) (hi : findIn K (.ref C) "__init__" = some (some (.ref fI))) (hff : isFn K (.ref fI) = true)
    (ho : K.lookup fI = some ⟨oc, od, .func (ksFn name qual params body scope dV kV doc pm an cdv ct cc), osl⟩) (hcd : codeIn K cdv qual = true) (binds : Addr → List (Str × Value))
    (hbind : ∀ x s, K.In s.heap → BindsTo s (ksFn name qual params body scope dV kV doc pm an cdv ct cc) ⟨.ref x :: pos, kw⟩ (binds x)) (hloc : ∀ x, ∀ y ∈ binds x, scope.names.lookup y.1 = some .local)
    (hco : scope.isCoroutine = false) (hgen : scope.isGenerator = false) (hk : scope.kind = .function) (hcell : ∀ x ∈ scope.names, x.2 ≠ .cell)
    (h : ∀ x dx g L' h₁ tk, (∀ b o, h₀.get? b = some o → g.get? b = some o) → (∀ q ∈ news, g.get? q.1 = some q.2) → (∀ q ∈ news, @LT.lt Nat _ q.1 dx) → @LT.lt Nat _ dx x → Fr g L' h₁ (fun y => (binds x).reverse.lookup y) → News g L' h₁ [(x, instObj C dx), (dx, dictOf [] 0)] →
      Below (A.under (.builtin "type.__call__" ⟨.ref C :: pos, kw⟩)) base (env :: outer) g → K.In g → Top p loose mean mg mb g →
      ∀ Z : Flow → Shared → Prop, (∀ fl s', EndM g h₀ L' L m news x Q (match fl with | .ret v => v | _ => .none) s' → Z fl s') →
      _root_.PySem.wpAt (model prog w) ((A.under (.builtin "type.__call__" ⟨.ref C :: pos, kw⟩)).deeper (ksEnv qual scope L' fI cdv cc)) (.func body (ksEnv qual scope L' fI cdv cc)) (execs body (ksEnv qual scope L' fI cdv cc))
        Z (fun _ _ => False) { s with heap := h₁, toks := tk }) :
    wpAny (model prog w) A (call (.ref C) pos kw) Q E s := by
  refine call_cls F X N hm hi hff fun x dx h' F' N' l1 l2 => ?_
  have N₂ : News h₀ L h' [(x, instObj C dx), (dx, dictOf [] 0)] := fun q hq => N' q (by simp only [List.mem_cons, List.not_mem_nil, or_false] at hq ⊢; rcases hq with h | h <;> simp [h])
  refine code_superG (s := { s with heap := h' }) (K := K) (binds := binds x) B F' X N₂ T hA hf hke ho hcd hroom (hbind _ _ (X.keeps F'.keep)) (hloc x) (fun g L' h₁ FG F₁ N₁ B₁ X₁ T₁ kG => ?_) hcell hco hgen hk
  have hn : ∀ q ∈ news, g.get? q.1 = some q.2 := fun q hq => kG _ _ (N' q (.tail _ (.tail _ hq))).1 (by
    have := l1 q hq
    simp only [List.map_cons, List.map_nil, List.mem_cons, List.not_mem_nil, or_false]
    rintro (e | e)
    · rw [e] at this; exact absurd l2 (Nat.lt_asymm this)
    · rw [e] at this; exact Nat.lt_irrefl _ this)
  exact ks_wpAt_mono (h x dx g L' h₁ _ (fun b o e => FG.keep b o e) hn l1 l2 F₁ N₁ B₁ X₁ T₁ _ fun _ _ q => q) (fun fl s' q => endM_of (dx := dx) (fun b o e => FG.keep b o e) hn (fun q hq => ⟨(N' q (.tail _ (.tail _ hq))).2.1, (N' q (.tail _ (.tail _ hq))).2.2⟩) q) fun _ _ z => z.elim
end
theorem ints_take {vs : List Value} {ns : List Int} {j : Nat} {i : Int} {t : Tok} (h : IntsAre vs (ns.take j)) (e : ns[j]? = some i) : IntsAre (vs ++ [.int i t]) (ns.take (j + 1)) := by
  rw [List.take_succ, e]
  exact ints_snoc h i t
theorem ints_all {vs : List Value} {ns : List Int} {j : Nat} (h : IntsAre vs (ns.take j)) (e : ns.length ≤ j) : IntsAre vs ns := by rwa [List.take_of_length_le e] at h
theorem News.four {h₀ h : Heap} {L : Addr} {news : List (Addr × Obj)} {a b c d : Addr × Obj} (N : News h₀ L h news) (ha : a ∈ news) (hb : b ∈ news) (hc : c ∈ news) (hd : d ∈ news) : News h₀ L h [a, b, c, d] := fun p hp => N p (by
  simp only [List.mem_cons, List.not_mem_nil, or_false] at hp
  rcases hp with rfl | rfl | rfl | rfl
  · exact ha
  · exact hb
  · exact hc
  · exact hd)
--ParseTables(...)
set_option maxHeartbeats 4000000 in
theorem ptab_spec {w : World} {A₀ : Around} {p : Program} {loose : List Str} {mean : ExcName → Option Value} {mg mb : Str → Option Value} {base h₀ : Heap} {outer : List Env} {env : Env} {dp un : Nat} {gd : Option (List Code)} {s : Shared} {Q E : Value → Shared → Prop}
    {L : Addr} {m : Str → Option Value} {news : List (Addr × Obj)} (B : Below A₀ base outer h₀) (F : Fr h₀ L s.heap m) (X : (hd.heap_1 w.params).In h₀) (N : News h₀ L s.heap news) (T : Top p loose mean mg mb h₀) (hf : env.frame = some L) (hke : env.scope.kind = .function)
    (hdp : dp + 10 < recursionLimit) (hun : un + 100 < cLine)
    {G dG na ma lr lg ld c1 c2 : Addr} {t5 ts : Tok} {u0 u1 u2 u3 u4 : Tok} {a5 a6 a7 : Value} {ges : List DictEntry} {gk : Nat} {vs : List Value} {rs : List (Int × Int)}
    (hG : (G, instObj 313 dG) ∈ news) (hGd : (dG, dictOf ges gk) ∈ news) (g1 : getL (Str.ofString "rules") ges = some (some (.ref ma))) (g2 : getL (Str.ofString "names") ges = some (some (.ref na))) (g3 : getL (Str.ofString "terminal_count") ges = some (some (.int 5 t5)))
    (hna : ListR (inL news) na [.str (Str.ofString "$end") u0, .str (Str.ofString "error") u1, .str (Str.ofString "$undefined") u2, .str (Str.ofString "a") u3, .str (Str.ofString "b") u4, a5, a6, a7]) (hma : ListR (inL news) ma vs) (hrs : Al2 (RuleO (inL news)) vs rs) (hl5 : rs.length = 5)
    (ret : ∀ x dx es k lf lvs ln nvs h' tk, Fr h₀ L h' m → News h₀ L h' ((x, instObj 197 dx) :: (dx, dictOf es k) :: (lf, LCg.lst lvs) :: (ln, LCg.lst nvs) :: news) → IntsAre lvs (rs.map (·.1)) → IntsAre nvs (rs.map (·.2)) →
      getL (Str.ofString "rows") es = some (some (.ref lr)) → getL (Str.ofString "gotos") es = some (some (.ref lg)) → getL (Str.ofString "defaults") es = some (some (.ref ld)) → getL (Str.ofString "lefts") es = some (some (.ref lf)) → getL (Str.ofString "lengths") es = some (some (.ref ln)) →
      getL (Str.ofString "terminal_count") es = some (some (.int 5 t5)) → getL (Str.ofString "action") es = some none → getL (Str.ofString "explicit") es = some none → getL (Str.ofString "length") es = some none → getL (Str.ofString "left") es = some none → getL (Str.ofString "default") es = some none → getL (Str.ofString "goto") es = some none →
      Q (.ref x) { s with heap := h', toks := tk }) :
    wpAny (model pr w) (AA dp un gd (env :: outer)) (call (.ref 197) [.ref G, .ref lr, .ref lg, .ref ld, .ref c1, .ref c2, .str (Str.ofString "lalr") ts]) Q E s := by
  k_dflt (refine' enterMS (env := env) (outer := outer) B F X N T rfl hf hke ?room ?mk ?fi ?ff ?ho ?hcd (fun x => [(Str.ofString "self", .ref x), (Str.ofString "grammar", .ref G), (Str.ofString "rows", .ref lr), (Str.ofString "gotos", .ref lg), (Str.ofString "defaults", .ref ld), (Str.ofString "conflicts", .ref c1), (Str.ofString "settled", .ref c2), (Str.ofString "mode", .str (Str.ofString "lalr") ts)]) ?hb ?hl ?co ?ge ?hk ?hc ?_; (case mk => k_is); (case fi => k_is); (case ff => k_is); (case ho => k_is); (case hcd => k_is); (case room => simp only [depth_under_kw]; omega); (case hb => exact fun x s X => BindsTo.of_eq rfl); (case hl => exact fun x => locs rfl); (case co => exact rfl); (case ge => exact rfl); (case hk => exact rfl); (case hc => decide); k_whole)
  intro x dx g L' h₁ tk₁ kG kN lx ldx F1 N1 B' X' T' Z hZ
  have hmono : ∀ a o, inL news a o → atH g a o := fun a o h => kN _ h
  have hGI : InstAt g G (instObj 313 dG) 313 (some (dictOf ges gk)) := ⟨kN _ hG, rfl, rfl, kN _ hGd⟩
  replace hna := hna.mono hmono
  replace hma : g.IsList ma vs.toArray := hma.mono hmono
  replace hrs := hrs.mono fun _ _ z => z.mono hmono
  clear hmono hG hGd
  try dsimp only
  try k_fold
  k_steps
  have hvl : vs.toArray.size = 5 := by rw [List.size_toArray, hrs.length, hl5]
  have hsz : vs.toArray.size ≤ sizeLine := line_le (by omega)
  refine ⟨?_⟩
  refine LCg.CompSrc.base (by rfl) F1 N1 hma hsz ?_
  intro gq
  refine rest_inv (n := vs.toArray.size) (fun i ys nw => nw = [(x, instObj 197 dx), (dx, dictOf [] 0)] ∧ IntsAre ys ((rs.map (·.1)).take i)) ?turn1 ?fin1 _ 0 [] _ (Nat.zero_add _) ⟨rfl, .nil⟩
  case turn1 =>
    clear F1 N1 qk
    rintro j ys' _ hj ⟨rfl, hys⟩ v' I' oI' C' oC' D' m₂ h' tk' E₂ hv' hC' hx' F' N' off' ne'
    rw [List.getElem?_toArray] at hv'
    obtain ⟨_, r, e1, e2, hR⟩ := hrs.get j (by rw [hvl] at hj; omega)
    rw [hv'] at e1; cases e1
    have e3 : (rs.map (·.1))[j]? = some r.1 := by rw [List.getElem?_map, e2]; rfl
    obtain ⟨⟨ro, rd, res, rk, rt, its, num, tn, tl, bf, tb, rfl, hr1, hr2, hrl, hrn, hrr, hrb, hrt, hrz⟩, hl5', hl7, hs2⟩ := hR
    have hI : InstAt g ro (instObj 231 rd) 231 (some (dictOf res rk)) := ⟨hr1, rfl, rfl, hr2⟩
    replace hrt : IsTup g rt its.toArray := hrt
    have hz9 : its.toArray.size ≤ 9 := by rw [List.size_toArray]; omega
    try dsimp only
    try k_fold
    k_steps
    exact LCg.CompEnd.intro F' N' _ (fun _ hh => hh) off' (.inl hma) ⟨rfl, ints_take hys e3⟩
  case fin1 =>
    clear F1 N1 qk
    rintro ys1 _ ⟨rfl, hys1⟩
    intro D1 h1 tk1 F1 N1 o1
    try dsimp only
    try k_fold
    k_steps
    refine ⟨?_⟩
    refine LCg.CompSrc.base (by rfl) F1 N1 hma hsz ?_
    intro gq
    refine rest_inv (n := vs.toArray.size) (fun i ys nw => nw = [(D1, LCg.lst ys1), (x, instObj 197 dx), (dx, dictOf [] 0)] ∧ IntsAre ys ((rs.map (·.2)).take i)) ?turn2 ?fin2 _ 0 [] _ (Nat.zero_add _) ⟨rfl, .nil⟩
    case turn2 =>
      clear F1 N1 qk
      rintro j ys' _ hj ⟨rfl, hys⟩ v' I' oI' C' oC' D' m₂ h' tk' E₂ hv' hC' hx' F' N' off' ne'
      rw [List.getElem?_toArray] at hv'
      obtain ⟨_, r, e1, e2, hR⟩ := hrs.get j (by rw [hvl] at hj; omega)
      rw [hv'] at e1; cases e1
      have e3 : (rs.map (·.2))[j]? = some r.2 := by rw [List.getElem?_map, e2]; rfl
      obtain ⟨⟨ro, rd, res, rk, rt, its, num, tn, tl, bf, tb, rfl, hr1, hr2, hrl, hrn, hrr, hrb, hrt, hrz⟩, hl5', hl7, hs2⟩ := hR
      have hI : InstAt g ro (instObj 231 rd) 231 (some (dictOf res rk)) := ⟨hr1, rfl, rfl, hr2⟩
      replace hrt : IsTup g rt its.toArray := hrt
      have hz9 : its.toArray.size ≤ 9 := by rw [List.size_toArray]; omega
      try dsimp only
      try k_fold
      k_steps
      exact LCg.CompEnd.intro F' N' _ (fun _ hh => hh) off' (.inl hma) ⟨rfl, ints_take hys (by rw [e3, ← hrz]; rfl)⟩
    case fin2 =>
      clear F1 N1 qk
      rintro ys2 _ ⟨rfl, hys2⟩
      intro D2 h2 tk2 F2 N2 o2
      try dsimp only
      try k_fold
      k_steps
      refine ⟨?_⟩
      refine LCg.CompSrc.base (by rfl) F2 N2 hma hsz ?_
      intro gq
      refine rest_inv (n := vs.toArray.size) (fun i ys nw => nw = [(D2, LCg.lst ys2), (D1, LCg.lst ys1), (x, instObj 197 dx), (dx, dictOf [] 0)] ∧ True) ?turn3 ?fin3 _ 0 [] _ (Nat.zero_add _) ⟨rfl, trivial⟩
      case turn3 =>
        clear F2 N2 qk
        rintro j ys' _ hj ⟨rfl, hys⟩ v' I' oI' C' oC' D' m₂ h' tk' E₂ hv' hC' hx' F' N' off' ne'
        rw [List.getElem?_toArray] at hv'
        obtain ⟨_, r, e1, e2, hR⟩ := hrs.get j (by rw [hvl] at hj; omega)
        rw [hv'] at e1; cases e1
        obtain ⟨⟨ro, rd, res, rk, rt, its, num, tn, tl, bf, tb, rfl, hr1, hr2, hrl, hrn, hrr, hrb, hrt, hrz⟩, hl5', hl7, hs2⟩ := hR
        have hI : InstAt g ro (instObj 231 rd) 231 (some (dictOf res rk)) := ⟨hr1, rfl, rfl, hr2⟩
        replace hrt : IsTup g rt its.toArray := hrt
        have hz9 : its.toArray.size ≤ 9 := by rw [List.size_toArray]; omega
        try dsimp only
        try k_fold
        k_steps
        exact LCg.CompEnd.intro F' N' _ (fun _ hh => hh) off' (.inl hma) ⟨rfl, trivial⟩
      case fin3 =>
        clear F2 N2 qk
        rintro ys3 _ ⟨rfl, hys3⟩
        intro D3 h3 tk3 F3 N3 o3
        try dsimp only
        try k_fold
        obtain ⟨q1, q2, _⟩ := o1
        obtain ⟨q3, q4, q5, _⟩ := o2
        obtain ⟨q6, q7, q8, q9, _⟩ := o3
        replace q1 : @Ne Nat x D1 := q1
        replace q2 : @Ne Nat dx D1 := q2
        replace q3 : @Ne Nat D1 D2 := q3
        replace q4 : @Ne Nat x D2 := q4
        replace q5 : @Ne Nat dx D2 := q5
        replace q6 : @Ne Nat D2 D3 := q6
        replace q7 : @Ne Nat D1 D3 := q7
        replace q8 : @Ne Nat x D3 := q8
        replace q9 : @Ne Nat dx D3 := q9
        have hna' : g.IsList na [.str (Str.ofString "$end") u0, .str (Str.ofString "error") u1, .str (Str.ofString "$undefined") u2, .str (Str.ofString "a") u3, .str (Str.ofString "b") u4, a5, a6, a7].toArray := hna
        show _root_.PySem.wpAt _ _ _ (execs _ _) _ _ _
        refine ks_wpAt_execs_cons ?_
        refine ks_wpAt_Expr_any ?_
        refine ks_wpAt_MethodCall ?_
        k_steps
        rename_i hX F9 N9
        refine hZ _ _ (EndM.mk ⟨rfl, _, _, F9, News.four N9 (.tail _ (.tail _ (.tail _ (.tail _ (.tail _ (.tail _ (.tail _ (.head _)))))))) (.tail _ (.tail _ (.tail _ (.tail _ (.tail _ (.tail _ (.tail _ (.tail _ (.head _)))))))))
          (.tail _ (.tail _ (.tail _ (.tail _ (.tail _ (.tail _ (.head _))))))) (.tail _ (.tail _ (.tail _ (.tail _ (.tail _ (.head _)))))), fun F' N' => ret x dx _ _ D1 ys1 D2 ys2 _ _ F' N' (ints_all hys1 (by rw [List.length_map, hl5, hvl]; omega)) (ints_all hys2 (by rw [List.length_map, hl5, hvl]; omega)) ?_ ?_ ?_ ?_ ?_ ?_ ?_ ?_ ?_ ?_ ?_ ?_⟩)
        all_goals k_get
theorem fresh_tslice : True := by
  w_top off
  trivial
section
variable {prog : Program} {w : World} {A : Around} {E : Value → Shared → Prop} {s : Shared} {h₀ : Heap} {L : Addr} {m : Str → Option Value} {news : List (Addr × Obj)}
theorem adjust_to (b n : Nat) (hb : b ≤ n) : Builtin.Slice.sliceAdjust none (some (b : Int)) 1 (n : Int) = (0, (b : Int)) := by
  unfold Builtin.Slice.sliceAdjust
  have h1 : ¬ ((1 : Int) < 0) := by omega
  have h2 : ¬ ((b : Int) < 0) := by omega
  simp only [h1, h2, if_false]
  congr 1
  omega
theorem places_to (b : Nat) : Builtin.Slice.slicePlaces 0 (b : Int) 1 = b := by
  unfold Builtin.Slice.slicePlaces
  have h1 : (1 : Int) > 0 := by omega
  simp only [h1, if_true, Int.ediv_one]
  split <;> omega
theorem sliceApplied_to {sl : Addr} {b n : Nat} {u : Tok} {Q : Int × Int × Nat → Shared → Prop} (hs : s.heap.IsSliceOf sl .none (.int b u) .none) (hb : b ≤ n) (h : Q (0, 1, b) s) :
    wpAny (model prog w) A (Builtin.Slice.sliceApplied (.ref sl) (pure (n : Int))) Q E s := by
  obtain ⟨os, hos, hcs, hds⟩ := id hs
  unfold Builtin.Slice.sliceApplied Builtin.Slice.sliceFields
  refine wpAny_bind (wpAny_bind (wpAny_field hos hds (x := .none) rfl (wpAny_bind (wpAny_field hos hds (x := .int b u) rfl (wpAny_bind (wpAny_field hos hds (x := .none) rfl (wpAny_pure ?_)))))))
  refine wpAny_bind (slicePart_none ?_)
  show wpAny _ _ (if ((1 : Int) == 0) = true then _ else _) _ _ s
  rw [if_neg (by decide)]
  refine wpAny_bind (slicePart_none (wpAny_bind (slicePart_int (wpAny_bind (wpAny_pure ?_)))))
  show wpAny _ _ (match Builtin.Slice.sliceAdjust none (some (b : Int)) 1 (n : Int) with | (lo, hi) => pure (lo, (1 : Int), Builtin.Slice.slicePlaces lo hi 1)) _ _ s
  rw [adjust_to b n hb]
  show wpAny _ _ (pure ((0 : Int), (1 : Int), Builtin.Slice.slicePlaces 0 (b : Int) 1)) _ _ s
  rw [places_to b]
  exact wpAny_pure h
theorem pick_to (xs : Array Value) (b : Nat) : ((List.range b).filterMap fun (k : Nat) => xs[((0 : Int) + (k : Int) * 1).toNat]?).toArray = (xs.toList.take b).toArray := by
  have e : (fun (k : Nat) => xs[((0 : Int) + (k : Int) * 1).toNat]?) = fun k => xs[0 + k]? := by
    funext k
    have : ((0 : Int) + (k : Int) * 1).toNat = 0 + k := by omega
    rw [this]
  rw [e]
  have := pick_run xs 0 b
  rw [List.filterMap_map] at this
  have e2 : ((fun x => xs[x]?) ∘ fun x => 0 + x) = fun k => xs[0 + k]? := rfl
  rw [e2] at this
  rw [this, List.drop_zero]
theorem getItem_tuple_to {t sl : Addr} {items : Array Value} {b : Nat} {u : Tok} {Q : Value → Shared → Prop} (ht : IsTup s.heap t items) (hs : s.heap.IsSliceOf sl .none (.int b u) .none) (hb : b < items.size)
    (h : Q (.ref s.heap.objs.size) { s with heap := s.heap.push { cls := .type "tuple", data := .seq (items.toList.take b).toArray } })
    (hsz : items.size ≤ sizeLine) : wpAny (model prog w) A (getItem (.ref t) (.ref sl)) Q E s := by
  have hdrop : sizeOk (.seq (items.toList.take b).toArray) := by
    show (items.toList.take b).toArray.size ≤ sizeLine
    rw [List.size_toArray, List.length_take, Array.length_toList]
    omega
  obtain ⟨os, hos, hcs, hds⟩ := id hs
  have hTs : s.TypeIs (.ref sl) "slice" := ⟨os, hos, hcs⟩
  unfold getItem
  try with_reducible refine wpAny_holding ?_
  first | refine wpAny_bind (wpAny_pure ?_) | skip
  refine wpAny_bind (wpAny_sequenceKey ht.typeIs (by decide) ?_)
  refine wpAny_bind (wpAny_callSpecial?_slot (name := Str.ofString "__getitem__") ht.typeIs slot_tuple_getitem
    (wpAny_call_entry slot_tuple_getitem ht.typeIs entry_tuple_getitem ?_ (args_tuple_getitem _ _)))
  show wpAny _ _ (Builtin.Tuple.tupleItemsOf (.ref t) >>= _) _ _ s
  refine wpAny_bind (tupleItemsOf_ ht ?_)
  refine wpAny_bind (wpAny_typeOf hTs ?_)
  rw [if_pos (by decide)]
  refine wpAny_bind (sliceApplied_to hs (Nat.le_of_lt hb) ?_)
  have hno : ¬ (((0 : Int) == 0 && (1 : Int) == 1 && b == items.size) = true) := by
    have : (b == items.size) = false := by rw [beq_eq_false_iff_ne]; omega
    rw [this]; simp
  show wpAny _ _ (if ((0 : Int) == 0 && (1 : Int) == 1 && b == items.size) = true then _ else _) _ _ s
  rw [if_neg hno, pick_to items b]
  first
    | exact wpAny_bind (m := Builtin.Tuple.tupleExact _) (wpAny_newObj_type (wpAny_pure ⟨_, rfl, wpAny_pure h⟩) hdrop)
    | exact wpAny_bind (m := Builtin.Tuple.tupleExact _) (wpAny_newObj_type (wpAny_bind (wpAny_pure (wpAny_pure ⟨_, rfl, wpAny_pure h⟩))) hdrop)
    | exact wpAny_bind (wpAny_bind (m := Builtin.Tuple.tupleExact _) (wpAny_newObj_type (wpAny_pure (wpAny_pure ⟨_, rfl, wpAny_pure h⟩)) hdrop))
    | exact wpAny_bind (wpAny_bind (m := Builtin.Tuple.tupleExact _) (wpAny_newObj_type (wpAny_pure ⟨_, rfl, wpAny_pure h⟩) hdrop))
theorem getItem_tuple_whole {t sl : Addr} {items : Array Value} {b : Nat} {u : Tok} {Q : Value → Shared → Prop} (ht : IsTup s.heap t items) (hs : s.heap.IsSliceOf sl .none (.int b u) .none) (hb : b = items.size)
    (h : Q (.ref t) s) : wpAny (model prog w) A (getItem (.ref t) (.ref sl)) Q E s := by
  obtain ⟨os, hos, hcs, hds⟩ := id hs
  have hTs : s.TypeIs (.ref sl) "slice" := ⟨os, hos, hcs⟩
  unfold getItem
  try with_reducible refine wpAny_holding ?_
  first | refine wpAny_bind (wpAny_pure ?_) | skip
  refine wpAny_bind (wpAny_sequenceKey ht.typeIs (by decide) ?_)
  refine wpAny_bind (wpAny_callSpecial?_slot (name := Str.ofString "__getitem__") ht.typeIs slot_tuple_getitem
    (wpAny_call_entry slot_tuple_getitem ht.typeIs entry_tuple_getitem ?_ (args_tuple_getitem _ _)))
  show wpAny _ _ (Builtin.Tuple.tupleItemsOf (.ref t) >>= _) _ _ s
  refine wpAny_bind (tupleItemsOf_ ht ?_)
  refine wpAny_bind (wpAny_typeOf hTs ?_)
  rw [if_pos (by decide)]
  refine wpAny_bind (sliceApplied_to hs (Nat.le_of_eq hb) ?_)
  show wpAny _ _ (if ((0 : Int) == 0 && (1 : Int) == 1 && b == items.size) = true then _ else _) _ _ s
  rw [if_pos (by rw [hb]; simp)]
  refine wpAny_bind (m := Builtin.Tuple.tupleIsExact _) ?_
  unfold Builtin.Tuple.tupleIsExact
  refine wpAny_bind (wpAny_typeOf ht.typeIs (wpAny_pure ?_))
  rw [if_pos (by decide)]
  exact wpAny_bind (wpAny_rule (wpAny_pure ⟨_, rfl, wpAny_pure h⟩))
theorem slice_tuple_to {value slice : Expr} {t : Addr} {items : Array Value} {c b : Nat} {u : Tok} {Q : Value → Shared → Prop}
    (F : Fr h₀ L s.heap m) (N : News h₀ L s.heap news) (hm : (t, ({ cls := .type "tuple", data := .seq items c } : Obj)) ∈ news) (hb : b < items.size) (hsz : items.size ≤ sizeLine)
    (h : ∀ T h', Fr h₀ L h' m → News h₀ L h' ((T, tupO (items.toList.take b)) :: news) → (∀ p ∈ news, p.1 < T) → Q (.ref T) { s with heap := h' })
    (hs : subscripted slice false (.ref t) (.ref s.heap.objs.size) = operate [.ref s.heap.objs.size, .ref t] (getItem (.ref t) (.ref s.heap.objs.size)) := by with_unfolding_all rfl)
    (hg : ∀ r, letTemporaryGo value (.ref t) r = pure () := by intro _; with_unfolding_all rfl) :
    wpAny (model prog w) A (subscriptTail value slice (.ref t) (.ref s.heap.objs.size)) Q E { s with heap := s.heap.push { cls := .type "slice", data := .fields #[.none, .int b u, .none] } } := by
  have ht : IsTup s.heap t items := ⟨_, (N _ hm).1, rfl, _, rfl⟩
  have ht' : IsTup (s.heap.push { cls := .type "slice", data := .fields #[.none, .int b u, .none] }) t items := ht.keeps fun _ _ e => Heap.get?_push_of_some _ e
  refine subscriptTail_ops (s := { s with heap := s.heap.push { cls := .type "slice", data := .fields #[.none, .int b u, .none] } }) ht'.typeIs slot_tuple_getitem.lookup
    (getItem_tuple_to ht' (Heap.IsSliceOf.new ..) hb ?_ hsz) hs hg
  have N1 := News.push (F.push { cls := .type "slice", data := .fields #[.none, .int b u, .none] }) (N.grown fun _ _ e => Heap.get?_push_of_some _ e) { cls := .type "tuple", data := .seq (items.toList.take b).toArray }
  rw [Heap.size_push] at N1
  show Q (.ref (s.heap.push _).objs.size) _
  rw [Heap.size_push]
  exact h _ _ ((F.push _).push _) N1 fun p hp => Nat.lt_succ_of_lt (Heap.lt_size (N p hp).1)
theorem slice_tuple_whole {value slice : Expr} {t : Addr} {items : Array Value} {c b : Nat} {u : Tok} {Q : Value → Shared → Prop}
    (F : Fr h₀ L s.heap m) (N : News h₀ L s.heap news) (hm : (t, ({ cls := .type "tuple", data := .seq items c } : Obj)) ∈ news) (hb : b = items.size)
    (h : ∀ h', Fr h₀ L h' m → News h₀ L h' news → Q (.ref t) { s with heap := h' })
    (hs : subscripted slice false (.ref t) (.ref s.heap.objs.size) = operate [.ref s.heap.objs.size, .ref t] (getItem (.ref t) (.ref s.heap.objs.size)) := by with_unfolding_all rfl)
    (hg : ∀ r, letTemporaryGo value (.ref t) r = pure () := by intro _; with_unfolding_all rfl) :
    wpAny (model prog w) A (subscriptTail value slice (.ref t) (.ref s.heap.objs.size)) Q E { s with heap := s.heap.push { cls := .type "slice", data := .fields #[.none, .int b u, .none] } } := by
  have ht : IsTup s.heap t items := ⟨_, (N _ hm).1, rfl, _, rfl⟩
  have ht' : IsTup (s.heap.push { cls := .type "slice", data := .fields #[.none, .int b u, .none] }) t items := ht.keeps fun _ _ e => Heap.get?_push_of_some _ e
  refine subscriptTail_ops (s := { s with heap := s.heap.push { cls := .type "slice", data := .fields #[.none, .int b u, .none] } }) ht'.typeIs slot_tuple_getitem.lookup
    (getItem_tuple_whole ht' (Heap.IsSliceOf.new ..) hb ?_) hs hg
  exact h _ (F.push _) (N.grown fun _ _ e => Heap.get?_push_of_some _ e)
end
theorem fresh_loops2 : True := by
  w_top off
  trivial
section
variable {prog : Program} {w : World} {A : Around} {E : Value → Shared → Prop} {s : Shared} {h₀ : Heap} {env : Env} {target : Expr} {body : List Stmt} {Q : Flow → Shared → Prop}
/-- over a list that stood before the frame, any target -/
theorem list_turns {l : Addr} {vs : List Value} {m₀ : Str → Option Value} {news : List (Addr × Obj)} (J : Nat → (Str → Option Value) → List (Addr × Obj) → Prop)
    (hh : A.handled = none) (hl : h₀.IsList l vs.toArray) (F : Fr h₀ env.locals s.heap m₀) (N : News h₀ env.locals s.heap news) (hj : J 0 m₀ news)
    (turn : ∀ i v m₁ nx h tk own, i < vs.length → vs[i]? = some v → TbOff own nx → J i m₁ nx → Fr h₀ env.locals h m₁ → News h₀ env.locals h (nx ++ own) →
      wpAny (model prog w) A (assign target env v) (fun _ s₃ => wpAny (model prog w) A (execs body env) (TbPost h₀ env.locals (J (i + 1)) own { s with heap := h, toks := tk } Q) E s₃) E { s with heap := h, toks := tk })
    (done : ∀ m₁ nx h tk, J vs.length m₁ nx → Fr h₀ env.locals h m₁ → News h₀ env.locals h nx → Q .next { s with heap := h, toks := tk }) :
    wpAny (model prog w) A (pyIter (.ref l)) (fun it s₂ => TurnsAt prog w A h₀ env target body Q E it s₂) E s := by
  obtain ⟨ol, hol, hcl, nl, hdl⟩ := id hl
  have hls : s.heap.IsList l vs.toArray := hl.at fun o e => F.keep l o e
  have hol' := F.keep _ _ hol
  refine wpAny_pyIter_list hls ?_
  have hlt : l < s.heap.objs.size := Heap.lt_size hol'
  have W := Walks.list (prog := prog) (w := w) hh s.heap.objs.size l (Nat.ne_of_lt hlt) vs.toArray
  rw [List.size_toArray] at W
  have haL := not_frame F hol' (by rw [hdl]; intro _ _ e; cases e)
  have hIL : s.heap.objs.size ≠ env.locals := Nat.ne_of_gt F.ns.lt
  have hI₀ := next_is_new F
  refine ⟨s.heap.objs.size, [s.heap.objs.size, l], [s.heap.objs.size], vs.length, _, _, _, m₀, news, fun i m nx => J i m nx ∧ ∀ p ∈ nx, p.1 ≠ l, rfl,
    KTurns.ofWalks W (fun i v s Q E st q => letGo_listiter st.1 q), ?_, ?_, ?_, ⟨⟨_, Heap.get?_push_size _ rfl, rfl, rfl⟩, hls.at fun o e => Heap.get?_push_of_some _ e⟩, F.push _, (fun p hp => ⟨Heap.get?_push_of_some _ (N p hp).1, (N p hp).2⟩), ⟨hj, fun p hp e => by have := (N p hp).2.2; rw [e, hol] at this; cases this⟩, ?_, ?_⟩
  · intro hm
    simp only [List.mem_cons, List.not_mem_nil, or_false] at hm
    rcases hm with e | e
    · exact hIL e.symm
    · exact haL e.symm
  · intro b hb
    rw [List.mem_singleton.mp hb]; exact hI₀
  · intro p hp hI
    exact Nat.ne_of_lt (Heap.lt_size (N p hp).1) (List.mem_singleton.mp hI)
  · rintro i v m₁ nx hh' tk' own hin hP ⟨hJ, hnx⟩ hoff hown _ hmem hst' F₁ N₁
    have hsep : TbOff own nx := by
      intro p hp q hq e
      have h1 := hown p hp
      simp only [List.mem_cons, List.not_mem_nil, or_false] at h1
      rcases h1 with h1 | h1
      · exact hoff q hq (List.mem_singleton.mpr (by rw [← e, h1]))
      · exact hnx q hq (by rw [← e, h1])
    obtain ⟨oI, hoI, _⟩ := hst'.1
    have hI : (s.heap.objs.size, oI) ∈ own := hmem s.heap.objs.size (by simp) hI₀ oI hoI
    have N₂ : News h₀ env.locals hh' (nx ++ own) := fun p hp => N₁ p ((List.mem_append.mp hp).elim (fun h => List.mem_append.mpr (.inr h)) fun h => List.mem_append.mpr (.inl h))
    refine wpAny_mono (turn i v m₁ nx hh' tk' own hin (by simpa using hP) hsep hJ F₁ N₂) (fun _ s₃ w₃ => wpAny_mono w₃ (fun f s₂ p => ?_) fun _ _ e => e) fun _ _ e => e
    have fin : TbEnd h₀ env.locals (J (i + 1)) own { s with heap := hh', toks := tk' } s₂ → LoopStepU h₀ env.locals [s.heap.objs.size] own (fun m nx => J (i + 1) m nx ∧ ∀ p ∈ nx, p.1 ≠ l) { s with heap := hh', toks := tk' } .next s₂ := by
      rintro ⟨h', tk, m', news', nx', e, F', N', hn, ho, hao, hm⟩
      refine ⟨rfl, h', tk, m', nx', e, F', fun p hp => N' p ((List.mem_append.mp hp).elim (ho p) (hn p)), fun p hp hq => hao _ hI p hp (List.mem_singleton.mp hq).symm, hm, fun p hp e => ?_⟩
      have := (N' p (hn p hp)).2.2
      rw [e, hol] at this; cases this
    cases f with
    | ret v => exact p
    | brk => exact p
    | next => exact fin p
    | cont => exact fin p
  · rintro h' tk m' news' F' N' _ ⟨hJ, _⟩
    exact done m' news' h' tk hJ F' N'
/-- the loop, its source's value told -/
theorem ForT_H {iter : Expr} {pos : Pos} {m : Str → Option Value} (F₀ : Fr h₀ env.locals s.heap m) (hE : PassesOwn (model prog w) A env E)
    (h : wpAny (model prog w) A (eval iter env) (fun xv s₁ => Held (wpAny (model prog w) A (pyIter xv) (fun it s₂ => TurnsAt prog w A h₀ env target body Q E it s₂) E s₁)) E s)
    (hs : ∀ x, foldedSetIterable iter env x = pure x := by intro _; rfl) :
    wpAny (model prog w) A (exec (.For target iter body [] pos) env) Q E s :=
  For_turns F₀ (wpAny_mono h (fun _ _ z => z.out) fun _ _ z => z) hs hE
end
theorem line2 (a b : Value) : #[a, b].size ≤ sizeLine := by rw [sizeLine_eq]; show 2 ≤ _; decide
local macro_rules | `(tactic| walk_at "call ref") => `(tactic| (k_here; (first | (with_reducible show wpAny _ _ (call (Value.ref 313) _ _) _ _ _) | (with_reducible show wpAny _ _ (call (Value.ref 197) _ _) _ _ _)); refine Held.out ?_))
local macro_rules | `(tactic| walk_at "exec For Tuple Name cons nil") => `(tactic| (k_here; (with_reducible show wpAny _ _ (exec (Stmt.For (Expr.Tuple _ _ _) (Expr.Name (PySem.Str.ofString "rules") _) _ _ _) _) _ _ _); k_dflt (refine' ForT_H ?F ?E ?_; (case F => k_asm); (case E => exact passes_false)); (try k_fold)))
local macro_rules | `(tactic| walk_at "subscriptTail") => `(tactic| (k_here; (with_reducible show wpAny _ _ (subscriptTail _ (Expr.Slice none _ none _) (Value.ref _) (Value.ref _)) _ _ _); k_dflt (first | (refine' slice_tuple_to (s := ⟨_, _, _, _, _⟩) (b := 0) ?F ?N ?l ?x ?z ?_; (case F => k_asm); (case N => k_asm); (case l => k_mem); (case x => exact Nat.succ_pos _); (case z => exact line2 _ _); k_whole; intro T' h' F' N' l1; (try k_lt l1)) | (refine' slice_tuple_to (s := ⟨_, _, _, _, _⟩) (b := 1) ?F ?N ?l ?x ?z ?_; (case F => k_asm); (case N => k_asm); (case l => k_mem); (case x => exact Nat.lt_succ_self _); (case z => exact line2 _ _); k_whole; intro T' h' F' N' l1; (try k_lt l1)) | (refine' slice_tuple_whole (s := ⟨_, _, _, _, _⟩) (b := 2) ?F ?N ?l ?x ?_; (case F => k_asm); (case N => k_asm); (case l => k_mem); (case x => exact rfl); k_whole; intro h' F' N'))))
theorem fresh_tabs : True := by
  w_top off
  trivial
theorem tabs_close {g h' : Heap} {L M NA x2 d2 T2 : Addr} {own' own all : List (Addr × Obj)} {J : (Str → Option Value) → List (Addr × Obj) → Prop} {m' : Str → Option Value} {s₁ : Shared} {tk : Nat} {oN : Obj} {its : Array Value} {k i : Nat} {rs : List (Int × Int)} {r1 r2 : Int} {es : List DictEntry} {ws : List Value} {num : Int} {tn tl tb : Tok}
    (F : Fr g L h' m') (N : News g L h' all) (hM : (M, W.listOf (its.push (.ref x2)) (k + 1)) ∈ all) (hN : (NA, oN) ∈ all) (hx : (x2, instObj 231 d2) ∈ all) (hd : (d2, dictOf es 7) ∈ all) (hT : (T2, tupO ws) ∈ all) (hin : ∀ p ∈ own' ++ own, p ∈ all)
    {oM : Obj} (hoI : TbOff own ((M, oM) :: (NA, oN) :: own')) (hA : Al2 (RuleO (inL own')) its.toList ((5, 2) :: rs.take i)) (hoff : OwnOff own' [M, NA]) (e2 : rs[i]? = some (r1, r2)) (hws : (ws.length : Int) = r2) (h5 : 5 ≤ r1) (h7 : r1 ≤ 7) (h2 : r2 ≤ 2)
    (g1 : getL (Str.ofString "left") es = some (some (.int r1 tl))) (g2 : getL (Str.ofString "number") es = some (some (.int num tn))) (g3 : getL (Str.ofString "right") es = some (some (.ref T2))) (g4 : getL (Str.ofString "before") es = some (some (.int 0 tb)))
    (aT : AllLt T2 (own' ++ own)) (ad : AllLt d2 (own' ++ own)) (xd : @LT.lt Nat _ d2 x2) (MT : @LT.lt Nat _ M T2) (NT : @LT.lt Nat _ NA T2) (Md : @LT.lt Nat _ M d2) (Nd : @LT.lt Nat _ NA d2)
    (hJ : ∀ own'', Al2 (RuleO (inL own'')) (its.push (.ref x2)).toList ((5, 2) :: rs.take (i + 1)) → OwnOff own'' [M, NA] → J m' ((M, W.listOf (its.push (.ref x2)) (k + 1)) :: (NA, oN) :: own'')) :
    TbEnd g L J own s₁ { s₁ with heap := h', toks := tk } := by
  refine tb_mk F N (nx := (M, W.listOf (its.push (.ref x2)) (k + 1)) :: (NA, oN) :: (x2, instObj 231 d2) :: (d2, dictOf es 7) :: (T2, tupO ws) :: own') (fun p hp => ?_) (fun p hp => hin p (List.mem_append_right _ hp)) (fun p hp q hq => ?_) (hJ _ ?_ ?_)
  · simp only [List.mem_cons] at hp
    rcases hp with rfl | rfl | rfl | rfl | rfl | hp
    · exact hM
    · exact hN
    · exact hx
    · exact hd
    · exact hT
    · exact hin p (List.mem_append_left _ hp)
  · have l1 := tb_ltOf aT p (List.mem_append_right _ hp)
    have l2 := tb_ltOf ad p (List.mem_append_right _ hp)
    simp only [List.mem_cons] at hq
    rcases hq with rfl | rfl | rfl | rfl | rfl | hq
    · exact hoI p hp (M, oM) (.head _)
    · exact hoI p hp _ (.tail _ (.head _))
    · exact Nat.ne_of_lt (Nat.lt_trans l2 xd)
    · exact Nat.ne_of_lt l2
    · exact Nat.ne_of_lt l1
    · exact hoI p hp _ (.tail _ (.tail _ hq))
  · rw [Array.toList_push, List.take_succ, e2]
    refine Al2.snoc (hA.mono fun _ _ z => z.mono fun _ _ hm => .tail _ (.tail _ (.tail _ hm))) (y := (r1, r2)) ⟨⟨x2, d2, es, 7, T2, ws, num, tn, tl, 0, tb, rfl, .head _, .tail _ (.head _), g1, g2, g3, g4, ⟨_, .tail _ (.tail _ (.head _)), rfl, _, rfl⟩, hws⟩, h5, h7, h2⟩
  · intro p hp b hb
    simp only [List.mem_cons, List.not_mem_nil, or_false] at hp hb
    rcases hp with rfl | rfl | rfl | hp
    · rcases hb with rfl | rfl
      · exact Nat.ne_of_gt (Nat.lt_trans Md xd)
      · exact Nat.ne_of_gt (Nat.lt_trans Nd xd)
    · rcases hb with rfl | rfl
      · exact Nat.ne_of_gt Md
      · exact Nat.ne_of_gt Nd
    · rcases hb with rfl | rfl
      · exact Nat.ne_of_gt MT
      · exact Nat.ne_of_gt NT
    · exact hoff p hp b (by simpa using hb)
--_law_tables
set_option maxHeartbeats 4000000 in
theorem tabs_spec {w : World} {p : Program} {loose : List Str} {mean : ExcName → Option Value} {mg mb : Str → Option Value} {base : Heap} {outer : List Env} {dp un : Nat} {gd : Option (List Code)} {s : Shared} {Q E : Value → Shared → Prop}
    {lr lg ld lu : Addr} {uvs : List Value} {rs : List (Int × Int)} (S : Stt (hd.heap_1 w.params) p loose mean mg mb (AA dp un gd outer) base outer s.heap) (hd : dp + 20 < recursionLimit) (hu : un + 200 < cLine)
    (hl : s.heap.IsList lu uvs.toArray) (hrs : Al2 (RuleR (atH s.heap)) uvs rs) (hl4 : rs.length = 4)
    (ret : ∀ x dx es k lf lvs ln nvs h' tk, Kp s.heap h' → NewIn s.heap h' [(x, instObj 197 dx), (dx, dictOf es k), (lf, LCg.lst lvs), (ln, LCg.lst nvs)] → IntsAre lvs (5 :: rs.map (·.1)) → IntsAre nvs (2 :: rs.map (·.2)) →
      getL (Str.ofString "rows") es = some (some (.ref lr)) → getL (Str.ofString "gotos") es = some (some (.ref lg)) → getL (Str.ofString "defaults") es = some (some (.ref ld)) → getL (Str.ofString "lefts") es = some (some (.ref lf)) → getL (Str.ofString "lengths") es = some (some (.ref ln)) →
      (∃ t, getL (Str.ofString "terminal_count") es = some (some (.int 5 t))) → getL (Str.ofString "action") es = some none → getL (Str.ofString "explicit") es = some none → getL (Str.ofString "length") es = some none → getL (Str.ofString "left") es = some none → getL (Str.ofString "default") es = some none → getL (Str.ofString "goto") es = some none →
      Q (.ref x) { s with heap := h', toks := tk }) :
    wpAny (model pr w) (AA dp un gd outer) (call (.ref 343) [.ref lr, .ref lg, .ref ld, .ref lu]) Q E s := by
  k_dflt (refine' enterP S [(Str.ofString "rows", .ref lr), (Str.ofString "gotos", .ref lg), (Str.ofString "defaults", .ref ld), (Str.ofString "rules", .ref lu)] ?k6 ?k7 ?k8 ?k9 ?kB ?c2 ?c3 ?c4 ?c5 ?_; (case k6 => k_is); (case k7 => k_is); (case k8 => (dsimp only [AA]; omega)); (case k9 => exact BindsTo.of_eq rfl); (case c5 => decide); (case kB => exact locs rfl); (case c2 => exact rfl); (case c3 => exact rfl); (case c4 => exact rfl); k_whole)
  intro g L' h₁ tk₁ kG F N B' X' T'
  replace hl : g.IsList lu uvs.toArray := hl.at fun o e => kG _ _ e
  replace hrs := hrs.mono (R' := RuleR (atH g)) fun _ _ z => z.mono kG
  try dsimp only
  try k_fold
  k_steps
  rename_i NA _ _ _ tkA D _ oD x d _ o1 o2 _ _ _ _ _ _ _ _ tkB _ _ _ _ _ _ _ _ _ _ _ M _ oM h6 F6 N6
  refine ⟨?_⟩
  generalize hes : [_, _, _, _, _, _, _] = es at N6
  generalize hNL : #[_, _, _, _, _, _, _, _] = NL at N6
  have e1 : getL (Str.ofString "left") es = some (some (.int 5 (tkA + 1))) := by rw [← hes]; k_get
  have e2 : getL (Str.ofString "number") es = some (some (.int 0 tkA)) := by rw [← hes]; k_get
  have e3 : getL (Str.ofString "right") es = some (some (.ref D)) := by rw [← hes]; k_get
  have e4 : getL (Str.ofString "before") es = some (some (.int 0 495)) := by rw [← hes]; k_get
  clear hes
  have N7 := News.sub N6 (l := (M, W.listOf #[.ref x] 0) :: (NA, W.listOf NL 0) :: (x, instObj 231 d) :: (d, dictOf es 7) :: (D, tupO [.int 6 (tkA + 1 + 1), .int 0 (tkA + 1 + 1 + 1)]) :: []) (by (repeat' (first | exact sub_nil | refine sub_cons (by first | with_reducible k_mem | k_mem) ?_ | (intro p hp; repeat' (first | exact hp | refine List.Mem.tail _ ?_)))))
  clear N6
  obtain ⟨J, hJ⟩ : ∃ J : Nat → (Str → Option Value) → List (Addr × Obj) → Prop, ∀ i nm nx, J i nm nx ↔ (nm (Str.ofString "made") = some (.ref M) ∧ nm (Str.ofString "names") = some (.ref NA) ∧ nm (Str.ofString "rows") = some (.ref lr) ∧ nm (Str.ofString "gotos") = some (.ref lg) ∧ nm (Str.ofString "defaults") = some (.ref ld) ∧ nm (Str.ofString "rules") = some (.ref lu) ∧
    ∃ its k own', nx = (M, W.listOf its k) :: (NA, W.listOf NL 0) :: own' ∧ Al2 (RuleO (inL own')) its.toList ((5, 2) :: rs.take i) ∧ OwnOff own' [M, NA]) := ⟨_, fun _ _ _ => Iff.rfl⟩
  refine' list_turns (vs := uvs) J rfl hl F6 N7
    ((hJ _ _ _).mpr ⟨rfl, rfl, rfl, rfl, rfl, rfl, #[.ref x], 0, _, rfl, .cons ⟨⟨x, d, es, 7, D, _, 0, tkA, tkA + 1, 0, 495, rfl, .head _, .tail _ (.head _), e1, e2, e3, e4, ⟨_, .tail _ (.tail _ (.head _)), rfl, _, rfl⟩, rfl⟩, by decide, by decide, by decide⟩ .nil, ?own⟩) ?turn ?done
  case own =>
    intro p hp b hb
    simp only [List.mem_cons, List.not_mem_nil, or_false] at hp hb
    rcases hp with rfl | rfl | rfl <;> rcases hb with rfl | rfl <;> k_ne
  case turn =>
    clear F6 N7 e1 e2 e3 e4 oD o1 o2
    rintro i v m₁ nx h tk own hi hv hoI hj9 F7 N7
    obtain ⟨hm1, hm2, hm3, hm4, hm5, hm6, its, k, own', rfl, hA, hoff⟩ := (hJ _ _ _).mp hj9
    clear hj9
    obtain ⟨_, r, e1, e2, t, tl, ts, rfl, ht, hr1, hr2, hr3⟩ := hrs.get i (by have := hrs.length; omega)
    rw [hv] at e1; cases e1
    obtain ⟨r1, r2⟩ := r
    dsimp only at ht hr1 hr2 hr3
    have hi4 : i < 4 := by have := hrs.length; omega
    replace ht : IsTup g t [.int r1 tl, .int r2 ts].toArray := ht
    change Fr g L' h _ at F7
    change News g L' h _ at N7
    rw [as6 hm1 hm2 hm3 hm4 hm5 hm6] at F7
    simp only [List.cons_append, List.nil_append] at N7
    have hoI' : OwnOff own [M, NA] := off_take (adr := [M, NA]) (tboff_heads hoI)
    have hoff' := off_app hoff hoI'
    generalize hU : (own' ++ own) = tail at N7 hoff'
    have hsz : its.size ≤ 5 := by
      have := hA.length
      rw [Array.length_toList, List.length_cons, List.length_take] at this
      omega
    have hline : its.size ≤ sizeLine := line_le hsz
    have o3 : @LT.lt Nat _ NA M := oM.2.2.2
    clear oM
    rcases (show r2 = 0 ∨ r2 = 1 ∨ r2 = 2 by omega) with rfl | rfl | rfl
    · try dsimp only
      try k_fold
      k_steps
      rename_i tkC D2 _ p1 T2 _ p2 x2 d2 _ p3 p4 _ _ _ _ _ _ tkB _ _ _ _ _ _ _ _ _ _ _ h9 F9 N9
      subst hU
      refine tabs_close (T2 := T2) F9 N9 (.tail _ (.tail _ (.tail _ (.tail _ (.head _))))) (.tail _ (.tail _ (.tail _ (.tail _ (.tail _ (.head _)))))) (.head _) (.tail _ (.head _)) (.tail _ (.tail _ (.head _))) (fun p hp => .tail _ (.tail _ (.tail _ (.tail _ (.tail _ (.tail _ hp))))))
        hoI hA hoff e2 rfl (by omega) (by omega) (by omega) (by k_get) (by k_get) (by k_get) (by k_get) p2.2.2.2 p3.2.2.2.2 p4 p2.2.1 p2.2.2.1 p3.2.2.1 p3.2.2.2.1 (fun own'' a b => (hJ _ _ _).mpr ⟨rfl, rfl, rfl, rfl, rfl, rfl, _, _, own'', rfl, a, b⟩)
    · try dsimp only
      try k_fold
      k_steps
      rename_i tkC D2 _ p1 T2 _ p2 x2 d2 _ p3 p4 _ _ _ _ _ _ tkB _ _ _ _ _ _ _ _ _ _ _ h9 F9 N9
      subst hU
      refine tabs_close (T2 := T2) F9 N9 (.tail _ (.tail _ (.tail _ (.tail _ (.head _))))) (.tail _ (.tail _ (.tail _ (.tail _ (.tail _ (.head _)))))) (.head _) (.tail _ (.head _)) (.tail _ (.tail _ (.head _))) (fun p hp => .tail _ (.tail _ (.tail _ (.tail _ (.tail _ (.tail _ hp))))))
        hoI hA hoff e2 rfl (by omega) (by omega) (by omega) (by k_get) (by k_get) (by k_get) (by k_get) p2.2.2.2 p3.2.2.2.2 p4 p2.2.1 p2.2.2.1 p3.2.2.1 p3.2.2.2.1 (fun own'' a b => (hJ _ _ _).mpr ⟨rfl, rfl, rfl, rfl, rfl, rfl, _, _, own'', rfl, a, b⟩)
    · try dsimp only
      try k_fold
      k_steps
      rename_i tkC D2 _ p1 _ x2 d2 _ p3 p4 _ _ _ _ _ _ tkB _ _ _ _ _ _ _ _ _ _ _ h9 F9 N9
      subst hU
      refine tabs_close (T2 := D2) F9 N9 (.tail _ (.tail _ (.tail _ (.head _)))) (.tail _ (.tail _ (.tail _ (.tail _ (.head _))))) (.head _) (.tail _ (.head _)) (.tail _ (.tail _ (.head _))) (fun p hp => .tail _ (.tail _ (.tail _ (.tail _ (.tail _ hp)))))
        hoI hA hoff e2 rfl (by omega) (by omega) (by omega) (by k_get) (by k_get) (by k_get) (by k_get) p1.2.2 p3.2.2.2 p4 p1.1 p1.2.1 p3.2.1 p3.2.2.1 (fun own'' a b => (hJ _ _ _).mpr ⟨rfl, rfl, rfl, rfl, rfl, rfl, _, _, own'', rfl, a, b⟩)
  case done =>
    clear F6 N7 e1 e2 e3 e4 oD o1 o2
    rintro m₁ nx h tk hj9 F7 N7
    obtain ⟨hm1, hm2, hm3, hm4, hm5, hm6, its, k, own', rfl, hA, hoff⟩ := (hJ _ _ _).mp hj9
    clear hj9 hJ
    change Fr g L' h _ at F7
    change News g L' h _ at N7
    rw [as6 hm1 hm2 hm3 hm4 hm5 hm6] at F7
    rw [List.take_of_length_le (by have := hrs.length; omega)] at hA
    have o3 : @LT.lt Nat _ NA M := oM.2.2.2
    clear oM
    try dsimp only
    try k_fold
    k_steps
    rename_i dd hh od F8 N8 lo hs fs hi fi l1
    refine ⟨?_⟩
    have hmn : ∀ a o, inL own' a o → inL ((dd, od) :: (M, W.listOf its k) :: (NA, W.listOf NL 0) :: own') a o := fun a o hm => .tail _ (.tail _ (.tail _ hm))
    subst hNL
    refine gram_spec B' F8 X' N8 T' rfl rfl (by show dp + 1 + 10 < _; omega) (by show un + 3 + 100 < _; omega) (na := NA) (ma := M) (lv := dd) ⟨_, .tail _ (.tail _ (.head _)), rfl, _, rfl⟩ (vs := its.toList) ⟨_, .tail _ (.head _), rfl, _, rfl⟩ (hA.mono fun _ _ z => z.mono hmn) (by rw [List.length_cons]; omega) ?_
    intro x9 dx9 es9 k9 h9 tk9 F9 N9 l9 ld9 g1 g2 g3
    try dsimp only
    try k_fold
    k_steps
    rename_i c1 _ p1 c2 h10 F10 N10 p2
    refine ⟨?_⟩
    have hmn : ∀ a o, inL own' a o → inL ((c2, W.listOf #[] 0) :: (c1, W.listOf #[] 0) :: (x9, instObj 313 dx9) :: (dx9, dictOf es9 k9) :: (dd, od) :: (M, W.listOf its k) :: (NA, W.listOf #[.str (Str.ofString "$end") tk₁, .str (Str.ofString "error") (tk₁ + 1), .str (Str.ofString "$undefined") (tk₁ + 1 + 1), .str (Str.ofString "a") (tk₁ + 1 + 1 + 1), .str (Str.ofString "b") (tk₁ + 1 + 1 + 1 + 1), .str (Str.ofString "$accept") (tk₁ + 1 + 1 + 1 + 1 + 1), .str (Str.ofString "S") (tk₁ + 1 + 1 + 1 + 1 + 1 + 1), .str (Str.ofString "A") (tk₁ + 1 + 1 + 1 + 1 + 1 + 1 + 1)] 0) :: own') a o := fun a o hm => .tail _ (.tail _ (.tail _ (.tail _ (.tail _ (.tail _ (.tail _ hm))))))
    refine ptab_spec B' F10 X' N10 T' rfl rfl (by show dp + 1 + 10 < _; omega) (by show un + 3 + 100 < _; omega) (G := x9) (dG := dx9) (na := NA) (ma := M) (ges := es9) (gk := k9) (.tail _ (.tail _ (.head _))) (.tail _ (.tail _ (.tail _ (.head _)))) g1 g2 g3
      ⟨_, .tail _ (.tail _ (.tail _ (.tail _ (.tail _ (.tail _ (.head _)))))), rfl, _, rfl⟩ (vs := its.toList) ⟨_, .tail _ (.tail _ (.tail _ (.tail _ (.tail _ (.head _))))), rfl, _, rfl⟩ (hA.mono fun _ _ z => z.mono hmn) (by rw [List.length_cons]; omega) ?_
    intro x11 dx11 es11 k11 lf lvs ln nvs h11 tk11 F11 N11 i1 i2 q1 q2 q3 q4 q5 q6 q7 q8 q9 q10 q11 q12
    exact ret x11 dx11 es11 k11 lf lvs ln nvs h11 tk11 (fun b o e => F11.keep b o (kG b o e)) (newIn_of kG N11 (by (repeat' (first | exact sub_nil | refine sub_cons (by first | with_reducible k_mem | k_mem) ?_ | (intro p hp; repeat' (first | exact hp | refine List.Mem.tail _ ?_)))))) i1 i2 q1 q2 q3 q4 q5 ⟨_, q6⟩ q7 q8 q9 q10 q11 q12
theorem fresh_dict : True := by
  w_top off
  trivial
theorem valueAt_put {K : Type} [DecidableEq K] (kvs : List (K × Value)) (k k' : K) (v : Value) : valueAt (stored kvs k v) k' = if k' = k then some v else valueAt kvs k' := by
  unfold stored
  split
  · rename_i h
    induction kvs with
    | nil => simp at h
    | cons p r ih =>
      by_cases hp : p.1 = k
      · by_cases e : k' = k
        · subst e; simp [valueAt, hp]
        · have h1 : ¬ p.1 = k' := fun q => e (q.symm.trans hp)
          by_cases hr : (r.any fun kv => decide (kv.1 = k)) = true
          · have := ih hr
            simp only [if_neg e] at this
            simp only [valueAt, List.map_cons, hp, if_true, List.find?_cons, if_neg e] at this ⊢
            have h2 : decide (k = k') = false := by simp [Ne.symm e]
            simp only [h2]
            exact this
          · have hr' : ∀ kv ∈ r, ¬ kv.1 = k := fun kv hkv e => hr (List.any_eq_true.mpr ⟨kv, hkv, by simp [e]⟩)
            have e2 : r.map (fun kv => if kv.1 = k then (kv.1, v) else kv) = r := by
              conv => rhs; rw [← List.map_id r]
              exact List.map_congr_left fun kv hkv => by simp [hr' kv hkv]
            have h2 : decide (k = k') = false := by simp [Ne.symm e]
            simp only [valueAt, List.map_cons, hp, if_true, List.find?_cons, if_neg e, e2, h2]
      · have hr : (r.any fun kv => decide (kv.1 = k)) = true := by simpa [hp] using h
        have := ih hr
        by_cases e : p.1 = k'
        · have h3 : ¬ k' = k := fun q => hp (e.trans q)
          simp [valueAt, hp, e, h3]
        · simp only [valueAt, List.map_cons, if_neg hp, List.find?_cons] at this ⊢
          have h2 : decide (p.1 = k') = false := by simp [e]
          simp only [h2]
          exact this
  · rename_i h
    have h' : ∀ kv ∈ kvs, ¬ kv.1 = k := fun kv hkv e => h (List.any_eq_true.mpr ⟨kv, hkv, by simp [e]⟩)
    by_cases e : k' = k
    · subst e
      have : kvs.find? (fun kv => decide (kv.1 = k')) = none := by simpa using h'
      simp [valueAt, List.find?_append, this]
    · have h2 : decide (k = k') = false := by simp [Ne.symm e]
      simp only [valueAt, List.find?_append, if_neg e, List.find?_cons, h2, List.find?_nil]
      cases kvs.find? (fun kv => decide (kv.1 = k')) <;> rfl

theorem dictO_nil {w : World} {o : Obj} (h : o.IsDictOf (intKind pr w) []) : DictO w 0 o (fun _ => none) := ⟨[], h, by simp, fun _ _ e => (nomatch e), fun _ _ => rfl⟩
theorem dictR_mapOf {w : World} {h : Heap} {d : Addr} {f : Int → Option Int} (x : DictR w (atH h) d f) : ∃ kvs, h.MapOf (intKind pr w) d (valueAt kvs) ∧ h.DictOf (intKind pr w) d kvs ∧ (d == sysModules) = false ∧ (∀ k g, f k = some g → ∃ t, valueAt kvs k = some (.int g t)) ∧ ∀ k, f k = none → valueAt kvs k = none :=
  let ⟨o, ho, lo, kvs, hd, _, hs, hn⟩ := x
  have hD := Heap.dictOf_iff.mpr ⟨o, ho, hd⟩
  ⟨kvs, hD.mapOf, hD, lo, hs, hn⟩

section
variable {w : World} {A : Around} {E : Value → Shared → Prop} {s : Shared} {h₀ : Heap} {L d : Addr} {m : Str → Option Value} {news : List (Addr × Obj)} {o : Obj} {f : Int → Option Int} {k g : Int} {tk tg : Tok} {b : Nat}
/-- held[symbol] = goal, held the ledger's own -/
theorem put_held {G : Obj → List (Addr × Obj)} {Q : Unit → Shared → Prop} (F : Fr h₀ L s.heap m) (N : News h₀ L s.heap news) (U : UpdF d o news G) (hd : DictO w b o f) (hb : b ≤ 8)
    (h : ∀ h' o', Fr h₀ L h' m → News h₀ L h' (G o') → DictO w (b + 1) o' (fun z => if z = k then some g else f z) → Q () { s with heap := h', toks := s.toks + 1 }) : wpAny (model pr w) A (setItem (.ref d) (.int k tk) (.int g tg)) Q E s := by
  obtain ⟨kvs, hdd, hl, hs, hn⟩ := hd
  refine kda_set (knd := intKind pr w) F N U hdd (intKind_is _ _ _ _) (Nat.le_trans hl (Nat.le_trans hb (by rw [sizeLine_eq]; decide))) fun h' o' F' N' hd' => h h' o' F' N' ⟨_, hd', Nat.le_trans (stored_length_le _ _ _) (Nat.succ_le_succ hl), fun k' g' e => ?_, fun k' e => ?_⟩
  · rw [valueAt_put]
    by_cases q : k' = k
    · simp only [if_pos q] at e ⊢
      cases e; exact ⟨tg, rfl⟩
    · simp only [if_neg q] at e ⊢
      exact hs _ _ e
  · rw [valueAt_put]
    by_cases q : k' = k
    · simp only [if_pos q] at e; cases e
    · simp only [if_neg q] at e ⊢
      exact hn _ e
theorem notin_dict {Q : Value → Shared → Prop} (x : DictR w (atH s.heap) d f) (h : Q (.bool (!(f k).isSome)) { s with toks := s.toks + 1 }) : wpAny (model pr w) A (compareOp .NotIn (.int k tk) (.ref d)) Q E s := by
  obtain ⟨kvs, hm, _, lo, hs, hn⟩ := dictR_mapOf x
  refine wpAny_notIn_of (intKind_is _ _ _ _) lo hm ?_
  cases e : f k with
  | none => rw [hn _ e]; rw [e] at h; exact h
  | some g => obtain ⟨t, q⟩ := hs _ _ e; rw [q]; rw [e] at h; exact h
theorem item_dict {value slice : Expr} {Q : Value → Shared → Prop} (x : DictR w (atH s.heap) d f) (e : f k = some g) (h : ∀ t, Q (.int g t) { s with toks := s.toks + 1 })
    (hs : subscripted slice false (.ref d) (.int k tk) = operate [.ref d, .int k tk] (getItem (.ref d) (.int k tk)) := by with_unfolding_all rfl) : wpAny (model pr w) A (subscriptTail value slice (.ref d) (.int k tk)) Q E s := by
  obtain ⟨kvs, hm, hD, lo, hv, hn⟩ := dictR_mapOf x
  obtain ⟨t, q⟩ := hv _ _ e
  exact tail_any hD.typeIs slot_dict_getitem.lookup (wpAny_getItem_of (intKind_is _ _ _ _) hm q (h t)) hs
theorem item_dict' {value slice : Expr} {Q : Value → Shared → Prop} (x : DictR w (atH s.heap) d f) (e : (f k).isSome = true) (h : ∀ t, Q (.int ((f k).getD 0) t) { s with toks := s.toks + 1 })
    (hs : subscripted slice false (.ref d) (.int k tk) = operate [.ref d, .int k tk] (getItem (.ref d) (.int k tk)) := by with_unfolding_all rfl) : wpAny (model pr w) A (subscriptTail value slice (.ref d) (.int k tk)) Q E s := item_dict x (some_getD e) h hs
theorem get_dict {Q : Value → Shared → Prop} {z : Int} {tz : Tok} (x : DictR w (atH s.heap) d f) (h : ∀ t, Q (.int ((f k).getD z) t) { s with toks := s.toks + 1 }) : wpAny (model pr w) A (call (.builtin "dict.get") [.ref d, .int k tk, .int z tz]) Q E s := by
  obtain ⟨kvs, hm, hD, lo, hv, hn⟩ := dictR_mapOf x
  refine call_meetsIn PySem.F.slot_dict_get hD.typeIs PySem.F.entry_dict_get (PySem.F.args_dict_get_3 _ _ _) (meets_dict_get_default (intKind pr w) d (intKind_is _ _ _ _) lo (.int z tz)) ⟨_, hm, ?_⟩
  cases e : f k with
  | none => rw [hn _ e]; have := h tz; rw [e] at this; exact this
  | some g => obtain ⟨t, q⟩ := hv _ _ e; rw [q]; have := h t; rw [e] at this; exact this
theorem method_dict_get {pl : Sem Bool} {Q : Value × List Value → Shared → Prop} (x : DictR w (atH s.heap) d f) (h : Q (.builtin "dict.get", [.ref d]) s) : wpAny (model pr w) A (getMethod (.ref d) "get" pl) Q E s := by
  obtain ⟨kvs, hm, hD, lo, hv, hn⟩ := dictR_mapOf x
  exact getMethod_builtin hD.typeIs PySem.F.plainAttrs_dict PySem.F.slot_dict_get PySem.F.type_dict_get hD.mapOf.noDict h
end
local macro_rules | `(tactic| walk_at "setItem ref int") => `(tactic| (k_here; k_dflt (refine' put_held ?F ?N ?U ?d ?b ?_; (case F => k_asm); (case N => k_asm); (case U => k_updF); (case d => assumption); (case b => omega); k_whole); intro h' o' F' N' hd'; (try dsimp only at N'); (try k_sweep)))
theorem fresh_plan : True := by
  w_top off
  trivial
--_law_plan
set_option maxHeartbeats 4000000 in
theorem plan_spec {w : World} {p : Program} {loose : List Str} {mean : ExcName → Option Value} {mg mb : Str → Option Value} {base : Heap} {outer : List Env} {dp un : Nat} {gd : Option (List Code)} {s : Shared} {Q E : Value → Shared → Prop}
    {l : Addr} {vs : List Value} {ns : List Int} (S : Stt (hd.heap_1 w.params) p loose mean mg mb (AA dp un gd outer) base outer s.heap) (hd : dp + 5 < recursionLimit) (hu : un + 100 < cLine)
    (hl : s.heap.IsList l vs.toArray) (hi : IntsAre vs ns) (hlen : ns.length ≤ 63)
    (ret : ∀ P n t h' tk tl rows gotos defs rules, Kp s.heap h' → NewIn s.heap h' tl → TupR (inL tl) t [.ref rows, .ref gotos, .ref defs, .ref rules] → PlanR w (inL tl) P n rows gotos defs rules → Q (.ref t) { s with heap := h', toks := tk }) :
    wpAny (model pr w) (AA dp un gd outer) (call (.ref 336) [.ref l]) Q E s := by
  k_dflt (refine' enterPC S [(Str.ofString "script", .ref l)] ?k6 ?k7 ?k8 ?k9 ?kB ?kD ?c2 ?c3 ?c4 ?_; (case k6 => k_is); (case k7 => k_is); (case k8 => (dsimp only [AA]; omega)); (case k9 => exact BindsTo.of_eq rfl); (case kB => exact rfl); (case kD => decide +kernel); (case c2 => exact rfl); (case c3 => exact rfl); (case c4 => exact rfl); k_whole)
  intro g L' h₁ tk₁ cells kG F N Y B' X' T'
  replace hl : g.IsList l vs.toArray := hl.at fun o e => kG _ _ e
  k_cells Y
  rename_i oc os dc ds
  replace F : Fr g L' h₁ (fun _ => none) := F
  replace dc : oc.data = .cell none := dc
  replace ds : os.data = .cell (some (.ref l)) := ds
  try dsimp only
  try k_fold
  k_steps
  rename_i v tv h2 tk2 hv0 hv1 h3 oc3 F3 N3 dc3
  obtain ⟨n, hn⟩ : ∃ n : Nat, 1 + v = (n : Int) := ⟨(1 + v).toNat, by omega⟩
  rw [hn] at dc3
  have hn1 : 1 ≤ n := by omega
  have hn4 : n ≤ 4 := by omega
  k_dflt (refine' comp_cell (n := n) (a := 0) (h₀ := g) (L := L') (m := fun _ => none) (fun i ys news' => ∃ Rs own, news' = (L' + 1 + 1, oc3) :: (L' + 1, os) :: own ∧ Al2 (RowR (inL own) n) ys Rs ∧ Rs.length = i ∧ OwnOff own [L' + 1 + 1, L' + 1]) ?hLe ?hsw ?hclos ?hkind ?hnames ?hxc ?hcs ?hpc ?hy ?hp ?h)
  case hLe => exact rfl
  case hclos => with_unfolding_all rfl
  case hkind => rfl
  case hnames => decide
  case hxc => rfl
  case hcs => intro _; rfl
  case hpc => intro _; rfl
  case hy => rfl
  case hp => rfl
  case hsw => with_unfolding_all rfl
  try k_fold
  k_steps
  rename_i hF4 hN4 hK4
  refine ⟨_, _, _, _, _, _, rfl, rfl, hF4, hN4, by assumption, small_le (by omega), size_le (by omega), line_le (by omega), ⟨[], [], rfl, .nil, rfl, fun _ h => nomatch h⟩, ?_, ?_⟩
  · clear hF4 hN4 hK4 qk
    intro i ys news' I oI C oC c oc' D h tk t E' hi ⟨Rs, own, hown, hA, hRl, hgt⟩ hoc hF hN off hne
    subst hown
    try dsimp only
    k_dflt (refine comp_H (F₀ := by k_asm) (by with_unfolding_all rfl) (by decide) (by rfl) (by decide) (by rfl) ?_)
    try k_fold
    k_steps
    refine ⟨?_⟩
    refine LCg.CompSrc.range (n := 5) (by rfl) (by k_asm) (by k_asm) (by assumption) (by decide) (by rfl) (line_le (by omega)) ?_
    intro g'
    refine rest_inv (n := 5) (fun j ys' news' => news' = (I, oI) :: (C, oC) :: (c, oc') :: (D, LCg.lst ys) :: (L' + 1 + 1, oc3) :: (L' + 1, os) :: own ∧ ∃ row, IntsAre ys' row ∧ row.length = j ∧ ∀ z ∈ row, CellOk z n) ?_ ?_ 5 0 [] _ rfl ⟨rfl, [], .nil, rfl, fun _ h => nomatch h⟩
    · rintro j ys' _ hj ⟨rfl, row, hrow, hrl, hrc⟩ v' I' oI' C' oC' D' m₂ h' tk' E₂ ⟨t', rfl⟩ hC' hx' F' N' off' ne'
      try dsimp only
      try k_fold
      k_steps
      rename_i v1 t1 h1 k1 ok1 F1 N1
      exact LCg.CompEnd.intro F1 N1 _ (fun _ hh => hh) off' trivial ⟨rfl, row ++ [v1], ints_snoc hrow v1 t1, by simp [hrl], all_snoc hrc ok1⟩
    · rintro ys' _ ⟨rfl, row, hrow, hrl, hrc⟩
      intro D1 h1 tk1 F1 N1 o1
      obtain ⟨q1, q2, q3, q4, q5, q6, q7⟩ := o1
      refine ⟨h1, tk1, (L' + 1 + 1, oc3) :: (L' + 1, os) :: (D1, LCg.lst ys') :: own, rfl, F1, fun p hp => N1 p (by simp only [List.mem_cons] at hp ⊢; grind), fun p hp => ?_, Rs ++ [row], (D1, LCg.lst ys') :: own, rfl, (hA.mono fun _ _ z => z.mono fun _ _ hm => List.mem_cons_of_mem _ hm).snoc ⟨D1, ys', rfl, ⟨LCg.lst ys', List.mem_cons_self, rfl, _, rfl⟩, hrow, hrl, hrc⟩, by simp [hRl], ?_⟩
      · have ho := off p
        simp only [List.mem_cons] at hp ho
        rcases hp with hp | hp | rfl | hp
        · exact ho (.inl hp)
        · exact ho (.inr (.inl hp))
        · exact ⟨Ne.symm q1, Ne.symm q2, Ne.symm q3, Ne.symm q4⟩
        · exact ho (.inr (.inr hp))
      · exact off_add (fun b hb => by
          simp only [List.mem_cons, List.not_mem_nil, or_false] at hb
          rcases hb with rfl | rfl
          · exact Ne.symm q5
          · exact Ne.symm q6) hgt
  · intro D ys h tk news' ⟨Rs, own, hown, hA, hRl, hgt⟩ hF hN hD
    subst hown
    clear hF4 hN4 hK4 qk
    try dsimp only
    try k_fold
    k_steps
    rename_i gl hG1 lG hG2 F5 N5 h6 tk6 ta tb tc hr F6 N6 K6
    refine ⟨?_⟩
    refine' tbr_invG (n := n) (fun i m nx => m (Str.ofString "gotos") = some (.ref gl) ∧ m (Str.ofString "rows") = some (.ref D) ∧ ∃ its k own' fs, nx = (gl, W.listOf its k) :: (D, LCg.lst ys) :: (L' + 1 + 1, oc3) :: (L' + 1, os) :: own' ∧ Al2 (RowR (inL own') n) ys Rs ∧ Al2 (GotoR w (inL own') n) its.toList fs ∧ its.size = i ∧ OwnOff own' [gl, D, L' + 1 + 1, L' + 1]) rfl ?r (small_le (by omega)) (size_le (by omega)) F6 N6 ?j ?turn ?done
    case r => assumption
    case j => exact ⟨rfl, rfl, #[], 0, own, [], rfl, hA, .nil, rfl, off_cons (allLt_ne lG.2.2.2) (off_cons (fun p hp => hD p (by simp [hp])) hgt)⟩
    case turn =>
      clear F5 N5 hG1 F6 N6 K6 hr ta tb tc
      rintro i k t m₁ _ h tk ownI hk hoI ⟨hm1, hm2, its, ke, own', fs, rfl, hA', hG', hsz, hoff⟩ F7 N7
      obtain ⟨hk0, hk1⟩ := mem_rangeKs (List.mem_of_getElem? hk)
      rw [as2 hm1 hm2] at F7
      simp only [List.cons_append] at N7
      have hoI' : OwnOff ownI [gl, D, L' + 1 + 1, L' + 1] := off_take (adr := [gl, D, L' + 1 + 1, L' + 1]) (tboff_heads hoI)
      have hoff' := off_app hoff hoI'
      generalize hU : (own' ++ ownI) = tail at N7 hoff'
      try dsimp only
      try k_fold
      k_steps
      rename_i dd hh1 od Fd Nd lo1 hs1 fs1 hi1 fi1 l1 hh2 tt hh3 F8 N8 l2
      refine ⟨?_⟩
      refine' tup_loop (vs := [.int 6 (tk + 1), .int 7 (tk + 1 + 1)]) (fun i m nx => m (Str.ofString "held") = some (.ref dd) ∧ m (Str.ofString "gotos") = some (.ref gl) ∧ m (Str.ofString "rows") = some (.ref D) ∧ m (Str.ofString "state") = some (.int k t) ∧
        ∃ o f, nx = (dd, o) :: (gl, W.listOf its ke) :: (D, LCg.lst ys) :: (L' + 1 + 1, oc3) :: (L' + 1, os) :: tail ∧ DictO w i o f ∧ ∀ k g, f k = some g → 0 ≤ g ∧ g < n) rfl ?ht F8 (news := (dd, od) :: (gl, W.listOf its ke) :: (D, LCg.lst ys) :: (L' + 1 + 1, oc3) :: (L' + 1, os) :: tail) (fun p hp => N8 p (.tail _ hp)) ?hna ?j2 ?turn2 ?done2
      case ht => exact ⟨_, (N8 _ (.head _)).1, rfl, _, rfl⟩
      case hna => exact fun p hp => Nat.ne_of_lt (tb_ltOf (l := (dd, od) :: (gl, W.listOf its ke) :: (D, LCg.lst ys) :: (L' + 1 + 1, oc3) :: (L' + 1, os) :: tail) l2 p hp)
      case j2 => exact ⟨rfl, rfl, rfl, rfl, od, fun _ => none, rfl, dictO_nil hi1, fun _ _ e => (nomatch e)⟩
      case turn2 =>
        clear F8 N8 Fd Nd hs1 fs1 hi1 fi1
        rintro i2 v2 m₂ _ h4 tk4 ownJ hi2 hv2 hoJ ⟨hq1, hq2, hq3, hq4, o2, f2, rfl, hd2, hf2⟩ F9 N9
        obtain ⟨sy, ts, rfl, hsy0, hsy1⟩ : ∃ sy ts, v2 = .int sy ts ∧ 6 ≤ sy ∧ sy ≤ 7 := by
          rcases i2 with _ | _ | i2
          · cases hv2; exact ⟨_, _, rfl, by decide, by decide⟩
          · cases hv2; exact ⟨_, _, rfl, by decide, by decide⟩
          · simp at hv2
        have hi3 : i2 < 2 := hi2
        rw [as4 hq1 hq2 hq3 hq4] at F9
        simp only [List.cons_append] at N9
        have hoJ' : OwnOff ownJ [dd, gl, D, L' + 1 + 1, L' + 1] := off_take (adr := [dd, gl, D, L' + 1 + 1, L' + 1]) (tboff_heads hoJ)
        have hoff9 := off_app (off_cons (allLt_ne l1.2.2.2.2) hoff') hoJ'
        generalize hV : (tail ++ ownJ) = tail2 at N9 hoff9
        try dsimp only
        try k_fold
        k_steps
        · rename_i hv5 h9 o9 F10 N10 hd9
          subst hV
          rename_i v9 _ _ _ _ _ _ _ _ _
          refine tb_close [(dd, o9), (gl, W.listOf its ke), (D, LCg.lst ys), (L' + 1 + 1, oc3), (L' + 1, os)] [(dd, o2), (gl, W.listOf its ke), (D, LCg.lst ys), (L' + 1 + 1, oc3), (L' + 1, os)] F10 N10 hoJ rfl ⟨rfl, rfl, rfl, rfl, o9, _, rfl, hd9, fun kk gg hg => ?_⟩
          by_cases hks : kk = sy
          · simp only [if_pos hks] at hg
            cases hg
            exact ⟨Int.fmod_nonneg_of_pos _ (by omega), Int.fmod_lt_of_pos _ (by omega)⟩
          · simp only [if_neg hks] at hg
            exact hf2 _ _ hg
        · rename_i h9 F10 N10 _ hv5
          subst hV
          refine tb_close [(dd, o2), (gl, W.listOf its ke), (D, LCg.lst ys), (L' + 1 + 1, oc3), (L' + 1, os)] [(dd, o2), (gl, W.listOf its ke), (D, LCg.lst ys), (L' + 1 + 1, oc3), (L' + 1, os)] F10 N10 hoJ rfl ⟨rfl, rfl, rfl, rfl, o2, f2, rfl, ?_, hf2⟩
          obtain ⟨kvs, hk1, hk2, hk3⟩ := hd2
          exact ⟨kvs, hk1, Nat.le_succ_of_le hk2, hk3⟩
      case done2 =>
        clear F8 N8 Fd Nd hs1 fs1 hi1 fi1
        rintro m₂ _ h4 tk4 ⟨hq1, hq2, hq3, hq4, o2, f2, rfl, hd2, hf2⟩ F9 N9
        rw [as4 hq1 hq2 hq3 hq4] at F9
        have hline : its.size ≤ sizeLine := line_le (by have := (List.getElem?_eq_some_iff.mp hk).1; rw [rangeKs_length] at this; omega)
        try dsimp only
        try k_fold
        k_steps
        rename_i h9 F10 N10
        obtain ⟨q1, q2, q3, q4, q5⟩ := l1
        subst hU
        refine tb_mk F10 N10 (nx := (gl, W.listOf (its.push (.ref dd)) (ke + 1)) :: (D, LCg.lst ys) :: (L' + 1 + 1, oc3) :: (L' + 1, os) :: (dd, o2) :: own') (fun p hp => ?_) (fun p hp => .tail _ (.tail _ (.tail _ (.tail _ (.tail _ (List.mem_append_right _ hp)))))) (fun p hp q hq => ?_)
          ⟨rfl, rfl, _, _, (dd, o2) :: own', fs ++ [f2], rfl, hA'.mono fun _ _ z => z.mono fun _ _ hm => List.mem_cons_of_mem _ hm, ?_, by simp [hsz], off_add (fun b hb => ?_) hoff⟩
        · simp only [List.mem_cons, List.mem_append] at hp ⊢
          grind
        · have hlt := tb_ltOf q5 p (List.mem_append_right _ hp)
          simp only [List.mem_cons] at hq
          rcases hq with rfl | rfl | rfl | rfl | rfl | hq
          · exact hoI p hp (gl, W.listOf its ke) (.head _)
          · exact hoI p hp _ (.tail _ (.head _))
          · exact hoI p hp _ (.tail _ (.tail _ (.head _)))
          · exact hoI p hp _ (.tail _ (.tail _ (.tail _ (.head _))))
          · exact Nat.ne_of_lt hlt
          · exact hoI p hp _ (.tail _ (.tail _ (.tail _ (.tail _ hq))))
        · rw [Array.toList_push]
          exact (hG'.mono fun _ _ z => z.mono fun _ _ hm => List.mem_cons_of_mem _ hm).snoc ⟨dd, rfl, ⟨o2, List.mem_cons_self, lo1, hd2⟩, hf2⟩
        · simp only [List.mem_cons, List.not_mem_nil, or_false] at hb
          rcases hb with rfl | rfl | rfl | rfl
          · exact Nat.ne_of_gt q1
          · exact Nat.ne_of_gt q2
          · exact Nat.ne_of_gt q3
          · exact Nat.ne_of_gt q4
    case done =>
      clear F5 N5 hG1 F6 N6 K6 hr ta tb tc
      rintro m₁ _ h tk ⟨hm1, hm2, its, ke, own', fs, rfl, hA', hG', hsz, hoff⟩ F7 N7
      rw [as2 hm1 hm2] at F7
      change Fr g L' h _ at F7
      change News g L' h _ at N7
      try dsimp only
      try k_fold
      k_steps
      rename_i h7 tk7 ta tb tc hr F8 N8 K8
      refine ⟨?_⟩
      refine LCg.CompSrc.range (n := 4) (by rfl) F8 N8 hr (by decide) (by rfl) (line_le (by omega)) ?_
      intro g'
      refine rest_inv (n := 4) (fun j ys' news' => ∃ own2 rs, news' = (gl, W.listOf its ke) :: (D, LCg.lst ys) :: (L' + 1 + 1, oc3) :: (L' + 1, os) :: own2 ∧ Al2 (RowR (inL own2) n) ys Rs ∧ Al2 (GotoR w (inL own2) n) its.toList fs ∧ Al2 (RuleR (inL own2)) ys' rs ∧ rs.length = j ∧ OwnOff own2 [gl, D, L' + 1 + 1, L' + 1]) ?_ ?_ 4 0 [] _ rfl ⟨own', [], rfl, hA', hG', .nil, rfl, hoff⟩
      · clear F8 N8 K8 hr qk
        rintro j ys' _ hj ⟨own2, rs, rfl, hA2, hG2, hR2, hl2, hoff2⟩ v' I' oI' C' oC' D' m₂ h' tk' E₂ ⟨t', rfl⟩ hC' hx' F' N' off' ne'
        try dsimp only
        try k_fold
        k_steps
        rename_i va tva hha tka va0 va1 ce1 qq ee Ld hL lL ce2 vb tvb hhb tkb vb0 vb1 tt2 T hT FT NT lT
        obtain ⟨_, x1, x2, x3, x4, x5, x6, x7, x8⟩ := lT
        refine LCg.CompEnd.intro FT NT ((gl, W.listOf its ke) :: (D, LCg.lst ys) :: (L' + 1 + 1, oc3) :: (L' + 1, os) :: (T, tupO [.int (6 + va) tka, .int ([0, 1, 1, 2].getD vb.toNat 0) tt2]) :: own2) (fun p hp => ?_) ?_ trivial
          ⟨(T, tupO [.int (6 + va) tka, .int ([0, 1, 1, 2].getD vb.toNat 0) tt2]) :: own2, rs ++ [(6 + va, [0, 1, 1, 2].getD vb.toNat 0)], rfl, hA2.mono fun _ _ z => z.mono fun _ _ hm => List.mem_cons_of_mem _ hm, hG2.mono fun _ _ z => z.mono fun _ _ hm => List.mem_cons_of_mem _ hm,
            (hR2.mono fun _ _ z => z.mono fun _ _ hm => List.mem_cons_of_mem _ hm).snoc ⟨T, _, _, rfl, ⟨_, .head _, rfl, _, rfl⟩, by dsimp only; omega, ?_⟩, by simp [hl2], off_add (fun b hb => ?_) hoff2⟩
        · simp only [List.mem_cons] at hp ⊢
          grind
        · obtain ⟨o1, o2, o3, o4, o5⟩ := off'
          exact ⟨o1, o2, o3, o4, ⟨Nat.ne_of_gt x1, Nat.ne_of_gt x2, Nat.ne_of_gt x3⟩, o5⟩
        · rcases (show vb = 0 ∨ vb = 1 ∨ vb = 2 ∨ vb = 3 by omega) with rfl | rfl | rfl | rfl <;> exact ⟨by dsimp only; decide, by dsimp only; decide⟩
        · simp only [List.mem_cons, List.not_mem_nil, or_false] at hb
          rcases hb with rfl | rfl | rfl | rfl
          · exact Nat.ne_of_gt x4
          · exact Nat.ne_of_gt x5
          · exact Nat.ne_of_gt x6
          · exact Nat.ne_of_gt x7
      · rintro ys' _ ⟨own2, rs, rfl, hA2, hG2, hR2, hl2, hoff2⟩
        intro D1 h1 tk1 F1 N1 o1
        clear F8 N8 K8 hr qk
        try dsimp only
        try k_fold
        k_steps
        rename_i h8 tk8 ta tb tc hr F9 N9 K9
        refine ⟨?_⟩
        refine LCg.CompSrc.range (n := n) (by rfl) F9 N9 hr (small_le (by omega)) (size_le (by omega)) (line_le (by omega)) ?_
        intro g'
        refine rest_inv (n := n) (fun j ys2 news' => news' = (D1, LCg.lst ys') :: (gl, W.listOf its ke) :: (D, LCg.lst ys) :: (L' + 1 + 1, oc3) :: (L' + 1, os) :: own2 ∧ ∃ ds, IntsAre ys2 ds ∧ ds.length = j ∧ ∀ d ∈ ds, 0 ≤ d ∧ d < 5) ?_ ?_ n 0 [] _ (by omega) ⟨rfl, [], .nil, rfl, fun _ h => nomatch h⟩
        · clear F9 N9 K9 hr
          rintro j ys2 _ hj ⟨rfl, ds, hds, hdl, hdr⟩ v' I' oI' C' oC' D' m₂ h' tk' E₂ ⟨t', rfl⟩ hC' hx' F' N' off' ne'
          try dsimp only
          try k_fold
          k_steps
          rename_i va tva hha tka va0 va1 FT NT
          exact LCg.CompEnd.intro FT NT _ (fun _ hh => hh) off' trivial ⟨rfl, ds ++ [va], ints_snoc hds va tva, by simp [hdl], all_snoc hdr ⟨va0, va1⟩⟩
        · rintro ys2 _ ⟨rfl, ds, hds, hdl, hdr⟩
          intro D2 h2 tk2 F2 N2 o2
          clear F9 N9 K9 hr
          try dsimp only
          try k_fold
          k_steps
          rename_i T hT FT NT lT
          have up : ∀ a o, inL own2 a o → inL ((T, tupO [.ref D, .ref gl, .ref D2, .ref D1]) :: (D2, LCg.lst ys2) :: (D1, LCg.lst ys') :: (gl, W.listOf its ke) :: (D, LCg.lst ys) :: own2) a o := fun a o hm => .tail _ (.tail _ (.tail _ (.tail _ (.tail _ hm))))
          exact ret ⟨Rs, fs, ds, rs⟩ n T _ _ ((T, tupO [.ref D, .ref gl, .ref D2, .ref D1]) :: (D2, LCg.lst ys2) :: (D1, LCg.lst ys') :: (gl, W.listOf its ke) :: (D, LCg.lst ys) :: own2) D gl D2 D1 (fun b o e => FT.keep b o (kG b o e))
            (newIn_of kG NT fun p hp => by simp only [List.mem_cons] at hp ⊢; grind) ⟨_, .head _, rfl, _, rfl⟩
            { n1 := hn1, n4 := hn4
              rows := ⟨ys, ⟨_, .tail _ (.tail _ (.tail _ (.tail _ (.head _)))), rfl, _, rfl⟩, hA2.mono fun _ _ z => z.mono up, hRl⟩
              gotos := ⟨its.toList, ⟨_, .tail _ (.tail _ (.tail _ (.head _))), rfl, _, rfl⟩, hG2.mono fun _ _ z => z.mono up, by rw [← hG2.length]; simpa using hsz⟩
              defs := ⟨ys2, ⟨_, .tail _ (.head _), rfl, _, rfl⟩, hds, hdl, hdr⟩
              rules := ⟨ys', ⟨_, .tail _ (.tail _ (.head _)), rfl, _, rfl⟩, hR2.mono fun _ _ z => z.mono up, hl2⟩ }
theorem fresh_tab : True := by
  w_top off
  trivial
/-- the tables' object -/
structure TabX (w : World) (h : Heap) (T : Addr) (es : List DictEntry) (P : Pl) (n : Nat) : Prop where
  inst : ∃ ox k, InstAt h T ox 197 (some (dictOf es k))
  rows : ∃ a vs, getL (Str.ofString "rows") es = some (some (.ref a)) ∧ h.IsList a vs.toArray ∧ Al2 (RowR (atH h) n) vs P.rows
  gotos : ∃ a vs, getL (Str.ofString "gotos") es = some (some (.ref a)) ∧ h.IsList a vs.toArray ∧ Al2 (GotoR w (atH h) n) vs P.gotos
  defs : ∃ a vs, getL (Str.ofString "defaults") es = some (some (.ref a)) ∧ h.IsList a vs.toArray ∧ IntsAre vs P.defs
  lefts : ∃ a vs, getL (Str.ofString "lefts") es = some (some (.ref a)) ∧ h.IsList a vs.toArray ∧ IntsAre vs (5 :: P.rules.map (·.1))
  lens : ∃ a vs, getL (Str.ofString "lengths") es = some (some (.ref a)) ∧ h.IsList a vs.toArray ∧ IntsAre vs (2 :: P.rules.map (·.2))
  tc : ∃ t, getL (Str.ofString "terminal_count") es = some (some (.int 5 t))
  noAction : getL (Str.ofString "action") es = some none
  noExplicit : getL (Str.ofString "explicit") es = some none
  noLength : getL (Str.ofString "length") es = some none
  noLeft : getL (Str.ofString "left") es = some none
  noDefault : getL (Str.ofString "default") es = some none
  noGoto : getL (Str.ofString "goto") es = some none
  ok : PlOk P n
theorem TabX.keeps {w : World} {h h' : Heap} {T : Addr} {es : List DictEntry} {P : Pl} {n : Nat} (x : TabX w h T es P n) (k : Kp h h') : TabX w h' T es P n :=
  { x with
    inst := let ⟨ox, q, I⟩ := x.inst; ⟨ox, q, inst_keeps I k⟩
    rows := let ⟨a, vs, e, l, r⟩ := x.rows; ⟨a, vs, e, l.at fun o e => k _ _ e, r.mono fun _ _ z => z.mono fun _ _ e => k _ _ e⟩
    gotos := let ⟨a, vs, e, l, r⟩ := x.gotos; ⟨a, vs, e, l.at fun o e => k _ _ e, r.mono fun _ _ z => z.mono fun _ _ e => k _ _ e⟩
    defs := let ⟨a, vs, e, l, r⟩ := x.defs; ⟨a, vs, e, l.at fun o e => k _ _ e, r⟩
    lefts := let ⟨a, vs, e, l, r⟩ := x.lefts; ⟨a, vs, e, l.at fun o e => k _ _ e, r⟩
    lens := let ⟨a, vs, e, l, r⟩ := x.lens; ⟨a, vs, e, l.at fun o e => k _ _ e, r⟩ }
local macro_rules | `(tactic| walk_at "getAttr ref") => `(tactic| (k_here; k_dflt (refine' get_own ?k1 ?k2 ?k3 ?k4 ?k5 ?k6 ?k7 ?k8 ?k9 ?_; (case k1 => k_asm); (case k2 => k_asm); (case k3 => exact inst_keeps (by assumption) (Fr.keep (by k_asm))); (case k4 => k_is); (case k5 => k_is); (case k6 => k_is); (case k7 => k_is); (case k8 => assumption); (case k9 => k_handed); k_whole)))
local macro_rules | `(tactic| walk_at "getMethod ref") => `(tactic| (k_here; k_dflt (refine' method_inst ?k1 ?k2 ?k3 ?k4 ?k5 ?k6 ?k7 ?_; (case k1 => k_asm); (case k2 => k_asm); (case k3 => exact inst_keeps (by assumption) (Fr.keep (by k_asm))); (case k4 => k_is); (case k5 => k_is); (case k6 => k_is); (case k7 => assumption); k_whole)))
local macro_rules | `(tactic| walk_at "subscriptTail") => `(tactic| (k_here; (with_reducible show wpAny _ _ (subscriptTail _ _ (Value.ref _) (Value.int _ _)) _ _ _); k_dflt (refine' item_at ?F ?l ?x ?a ?b ?_; (case F => k_asm); (case l => assumption); (case x => assumption); (case a => omega); (case b => omega); k_whole)))
local macro_rules | `(tactic| walk_at "getMethod ref") => `(tactic| (k_here; (with_reducible show wpAny _ _ (getMethod _ (PySem.Str.ofString "get") _) _ _ _); k_dflt (refine method_dict_get (DictR.mono (Fr.keep (by k_asm)) (by assumption)) ?_)))
local macro_rules | `(tactic| walk_at "call builtin:dict.get") => `(tactic| (k_here; k_dflt (refine get_dict (DictR.mono (Fr.keep (by k_asm)) (by assumption)) ?_; intro t9; (try dsimp only))))
local macro_rules | `(tactic| walk_at "compareOp NotIn int ref") => `(tactic| (k_here; k_dflt (refine notin_dict (DictR.mono (Fr.keep (by k_asm)) (by assumption)) ?_; (try dsimp only))))
local macro_rules | `(tactic| walk_at "subscriptTail") => `(tactic| (k_here; (with_reducible show wpAny _ _ (subscriptTail _ _ (Value.ref _) (Value.int _ _)) _ _ _); k_dflt (refine' item_dict' (DictR.mono (Fr.keep (by k_asm)) (by assumption)) ?e ?_; (case e => first | assumption | exact isSome_of_not (by assumption) | exact isSome_of_not' (by assumption)); k_whole); intro t9; (try dsimp only)))
theorem fresh_meth : True := by
  w_top off
  trivial
--explicit: the cell
set_option maxHeartbeats 4000000 in
theorem explicit_spec {w : World} {p : Program} {loose : List Str} {mean : ExcName → Option Value} {mg mb : Str → Option Value} {base : Heap} {outer : List Env} {dp un : Nat} {gd : Option (List Code)} {s : Shared} {Q E : Value → Shared → Prop}
    {T : Addr} {es : List DictEntry} {P : Pl} {n : Nat} {st t : Int} {ts tt : Tok} (S : Stt (hd.heap_1 w.params) p loose mean mg mb (AA dp un gd outer) base outer s.heap) (hd : dp + 2 < recursionLimit)
    (hT : TabX w s.heap T es P n) (s0 : 0 ≤ st) (s1 : st < n) (t0 : 0 ≤ t) (t5 : t < 5)
    (ret : ∀ v tk' h' tk, v = cellAt P st t → Kp s.heap h' → Q (.int v tk') { s with heap := h', toks := tk }) :
    wpAny (model pr w) (AA dp un gd outer) (call (.ref 187) [.ref T, .int st ts, .int t tt]) Q E s := by
  k_dflt (refine' enterP S [(Str.ofString "self", .ref T), (Str.ofString "state", .int st ts), (Str.ofString "terminal", .int t tt)] ?k6 ?k7 ?k8 ?k9 ?kB ?c2 ?c3 ?c4 ?c5 ?_; (case k6 => k_is); (case k7 => k_is); (case k8 => (dsimp only [AA]; omega)); (case k9 => exact BindsTo.of_eq rfl); (case c5 => decide); (case kB => exact locs rfl); (case c2 => exact rfl); (case c3 => exact rfl); (case c4 => exact rfl); k_whole)
  intro g L' h₁ tk₁ kG F N B' X' T'
  replace hT := hT.keeps kG
  have hok := hT.ok
  have hn4 := hok.n4
  obtain ⟨ox, kk, hI⟩ := hT.inst
  obtain ⟨ra, rvs, hre, hrl, hra⟩ := hT.rows
  obtain ⟨rv, hrx, r, ws, rfl, hr1, hr2, hr3, hr4⟩ := hra.at (i := st.toNat) (by have := hok.rows; omega) []
  have hr1' : g.IsList r ws.toArray := hr1
  clear hT hr1 hra
  try dsimp only
  try k_fold
  k_steps
  exact ret _ _ _ _ rfl (fun b o e => Fr.keep (by assumption) _ _ (kG _ _ e))
--default
set_option maxHeartbeats 4000000 in
theorem default_spec {w : World} {p : Program} {loose : List Str} {mean : ExcName → Option Value} {mg mb : Str → Option Value} {base : Heap} {outer : List Env} {dp un : Nat} {gd : Option (List Code)} {s : Shared} {Q E : Value → Shared → Prop}
    {T : Addr} {es : List DictEntry} {P : Pl} {n : Nat} {r : Int} {ts : Tok} (S : Stt (hd.heap_1 w.params) p loose mean mg mb (AA dp un gd outer) base outer s.heap) (hd : dp + 2 < recursionLimit)
    (hT : TabX w s.heap T es P n) (s0 : 0 ≤ r) (s1 : r < n)
    (ret : ∀ v tk' h' tk, v = dfltAt P r → Kp s.heap h' → Q (.int v tk') { s with heap := h', toks := tk }) :
    wpAny (model pr w) (AA dp un gd outer) (call (.ref 124) [.ref T, .int r ts]) Q E s := by
  k_dflt (refine' enterP S [(Str.ofString "self", .ref T), (Str.ofString "state", .int r ts)] ?k6 ?k7 ?k8 ?k9 ?kB ?c2 ?c3 ?c4 ?c5 ?_; (case k6 => k_is); (case k7 => k_is); (case k8 => (dsimp only [AA]; omega)); (case k9 => exact BindsTo.of_eq rfl); (case c5 => decide); (case kB => exact locs rfl); (case c2 => exact rfl); (case c3 => exact rfl); (case c4 => exact rfl); k_whole)
  intro g L' h₁ tk₁ kG F N B' X' T'
  replace hT := hT.keeps kG
  have hok := hT.ok
  have hn4 := hok.n4
  have hde := hok.defs
  have hru := hok.rules
  obtain ⟨ox, kk, hI⟩ := hT.inst
  obtain ⟨ra, rvs, hre, hrl, hra⟩ := hT.defs
  have hlen : (P.defs).length = n := by simp [hde]
  clear hT
  try dsimp only
  try k_fold
  k_steps
  exact ret _ _ _ _ rfl (fun b o e => Fr.keep (by assumption) _ _ (kG _ _ e))
--length
set_option maxHeartbeats 4000000 in
theorem length_spec {w : World} {p : Program} {loose : List Str} {mean : ExcName → Option Value} {mg mb : Str → Option Value} {base : Heap} {outer : List Env} {dp un : Nat} {gd : Option (List Code)} {s : Shared} {Q E : Value → Shared → Prop}
    {T : Addr} {es : List DictEntry} {P : Pl} {n : Nat} {r : Int} {ts : Tok} (S : Stt (hd.heap_1 w.params) p loose mean mg mb (AA dp un gd outer) base outer s.heap) (hd : dp + 2 < recursionLimit)
    (hT : TabX w s.heap T es P n) (s0 : 0 ≤ r) (s1 : r < 5)
    (ret : ∀ v tk' h' tk, v = sizeAt P r → Kp s.heap h' → Q (.int v tk') { s with heap := h', toks := tk }) :
    wpAny (model pr w) (AA dp un gd outer) (call (.ref 96) [.ref T, .int r ts]) Q E s := by
  k_dflt (refine' enterP S [(Str.ofString "self", .ref T), (Str.ofString "rule", .int r ts)] ?k6 ?k7 ?k8 ?k9 ?kB ?c2 ?c3 ?c4 ?c5 ?_; (case k6 => k_is); (case k7 => k_is); (case k8 => (dsimp only [AA]; omega)); (case k9 => exact BindsTo.of_eq rfl); (case c5 => decide); (case kB => exact locs rfl); (case c2 => exact rfl); (case c3 => exact rfl); (case c4 => exact rfl); k_whole)
  intro g L' h₁ tk₁ kG F N B' X' T'
  replace hT := hT.keeps kG
  have hok := hT.ok
  have hn4 := hok.n4
  have hde := hok.defs
  have hru := hok.rules
  obtain ⟨ox, kk, hI⟩ := hT.inst
  obtain ⟨ra, rvs, hre, hrl, hra⟩ := hT.lens
  have hlen : ((2 : Int) :: P.rules.map (·.2)).length = 5 := by simp [hru]
  clear hT
  try dsimp only
  try k_fold
  k_steps
  exact ret _ _ _ _ rfl (fun b o e => Fr.keep (by assumption) _ _ (kG _ _ e))
--left
set_option maxHeartbeats 4000000 in
theorem left_spec {w : World} {p : Program} {loose : List Str} {mean : ExcName → Option Value} {mg mb : Str → Option Value} {base : Heap} {outer : List Env} {dp un : Nat} {gd : Option (List Code)} {s : Shared} {Q E : Value → Shared → Prop}
    {T : Addr} {es : List DictEntry} {P : Pl} {n : Nat} {r : Int} {ts : Tok} (S : Stt (hd.heap_1 w.params) p loose mean mg mb (AA dp un gd outer) base outer s.heap) (hd : dp + 2 < recursionLimit)
    (hT : TabX w s.heap T es P n) (s0 : 0 ≤ r) (s1 : r < 5)
    (ret : ∀ v tk' h' tk, v = leftAt P r → Kp s.heap h' → Q (.int v tk') { s with heap := h', toks := tk }) :
    wpAny (model pr w) (AA dp un gd outer) (call (.ref 89) [.ref T, .int r ts]) Q E s := by
  k_dflt (refine' enterP S [(Str.ofString "self", .ref T), (Str.ofString "rule", .int r ts)] ?k6 ?k7 ?k8 ?k9 ?kB ?c2 ?c3 ?c4 ?c5 ?_; (case k6 => k_is); (case k7 => k_is); (case k8 => (dsimp only [AA]; omega)); (case k9 => exact BindsTo.of_eq rfl); (case c5 => decide); (case kB => exact locs rfl); (case c2 => exact rfl); (case c3 => exact rfl); (case c4 => exact rfl); k_whole)
  intro g L' h₁ tk₁ kG F N B' X' T'
  replace hT := hT.keeps kG
  have hok := hT.ok
  have hn4 := hok.n4
  have hde := hok.defs
  have hru := hok.rules
  obtain ⟨ox, kk, hI⟩ := hT.inst
  obtain ⟨ra, rvs, hre, hrl, hra⟩ := hT.lefts
  have hlen : ((5 : Int) :: P.rules.map (·.1)).length = 5 := by simp [hru]
  clear hT
  try dsimp only
  try k_fold
  k_steps
  exact ret _ _ _ _ rfl (fun b o e => Fr.keep (by assumption) _ _ (kG _ _ e))
--goto
set_option maxHeartbeats 4000000 in
theorem goto_spec {w : World} {p : Program} {loose : List Str} {mean : ExcName → Option Value} {mg mb : Str → Option Value} {base : Heap} {outer : List Env} {dp un : Nat} {gd : Option (List Code)} {s : Shared} {Q E : Value → Shared → Prop}
    {T : Addr} {es : List DictEntry} {P : Pl} {n : Nat} {st r : Int} {ts tt : Tok} (S : Stt (hd.heap_1 w.params) p loose mean mg mb (AA dp un gd outer) base outer s.heap) (hd : dp + 2 < recursionLimit)
    (hT : TabX w s.heap T es P n) (s0 : 0 ≤ st) (s1 : st < n)
    (ret : ∀ v tk' h' tk, v = (gotoAt P st r).getD (-1) → Kp s.heap h' → Q (.int v tk') { s with heap := h', toks := tk }) :
    wpAny (model pr w) (AA dp un gd outer) (call (.ref 194) [.ref T, .int st ts, .int r tt]) Q E s := by
  k_dflt (refine' enterP S [(Str.ofString "self", .ref T), (Str.ofString "state", .int st ts), (Str.ofString "nonterminal", .int r tt)] ?k6 ?k7 ?k8 ?k9 ?kB ?c2 ?c3 ?c4 ?c5 ?_; (case k6 => k_is); (case k7 => k_is); (case k8 => (dsimp only [AA]; omega)); (case k9 => exact BindsTo.of_eq rfl); (case c5 => decide); (case kB => exact locs rfl); (case c2 => exact rfl); (case c3 => exact rfl); (case c4 => exact rfl); k_whole)
  intro g L' h₁ tk₁ kG F N B' X' T'
  replace hT := hT.keeps kG
  have hok := hT.ok
  have hn4 := hok.n4
  obtain ⟨ox, kk, hI⟩ := hT.inst
  obtain ⟨ra, rvs, hre, hrl, hra⟩ := hT.gotos
  obtain ⟨rv, hrx, d, rfl, hdd, hdr⟩ := hra.at (i := st.toNat) (by have := hok.gotos; omega) (fun _ => none)
  clear hT hra
  try dsimp only
  try k_fold
  k_steps
  exact ret _ _ _ _ rfl (fun b o e => Fr.keep (by assumption) _ _ (kG _ _ e))
local macro_rules | `(tactic| ktr_rel) => `(tactic| first | assumption | exact TabX.keeps (by assumption) (Fr.keep (by k_asm)) | exact Heap.IsList.at (by assumption) fun o e => Fr.keep (by k_asm) _ _ e | decide | omega | (dsimp only [AA]; omega))
local macro_rules | `(tactic| walk_at "call ref") => `(tactic| (k_here; (with_reducible show wpAny _ _ (call (Value.ref 187) _ _) _ _ _); k_dflt ((refine' explicit_spec (Stt.of (by k_asm) (by k_asm) (by k_asm) (by k_asm) rfl rfl) ?d ?T ?s0 ?s1 ?t0 ?t5 ?_); (case d | T | s0 | s1 | t0 | t5 => ktr_rel); k_whole); intro v' t' h' tk' hv' kp'; (try subst hv'); ktr_unf))
local macro_rules | `(tactic| walk_at "call ref") => `(tactic| (k_here; (with_reducible show wpAny _ _ (call (Value.ref _) _ _) _ _ _); k_dflt ((first | refine' default_spec (Stt.of (by k_asm) (by k_asm) (by k_asm) (by k_asm) rfl rfl) ?d ?T ?s0 ?s1 ?_ | refine' length_spec (Stt.of (by k_asm) (by k_asm) (by k_asm) (by k_asm) rfl rfl) ?d ?T ?s0 ?s1 ?_ | refine' left_spec (Stt.of (by k_asm) (by k_asm) (by k_asm) (by k_asm) rfl rfl) ?d ?T ?s0 ?s1 ?_ | refine' goto_spec (Stt.of (by k_asm) (by k_asm) (by k_asm) (by k_asm) rfl rfl) ?d ?T ?s0 ?s1 ?_); (case d | T | s0 | s1 => ktr_rel); k_whole); intro v' t' h' tk' hv' kp'; (try subst hv'); ktr_unf))
theorem fresh_act : True := by
  w_top off
  trivial
--action
set_option maxHeartbeats 4000000 in
theorem action_spec {w : World} {p : Program} {loose : List Str} {mean : ExcName → Option Value} {mg mb : Str → Option Value} {base : Heap} {outer : List Env} {dp un : Nat} {gd : Option (List Code)} {s : Shared} {Q E : Value → Shared → Prop}
    {T : Addr} {es : List DictEntry} {P : Pl} {n : Nat} {st t : Int} {ts tt : Tok} (S : Stt (hd.heap_1 w.params) p loose mean mg mb (AA dp un gd outer) base outer s.heap) (hd : dp + 3 < recursionLimit)
    (hT : TabX w s.heap T es P n) (s0 : 0 ≤ st) (s1 : st < n) (t0 : 0 ≤ t) (t5 : t < 5)
    (ret : ∀ v tk' h' tk, v = toldAt P st t → Kp s.heap h' → Q (.int v tk') { s with heap := h', toks := tk }) :
    wpAny (model pr w) (AA dp un gd outer) (call (.ref 138) [.ref T, .int st ts, .int t tt]) Q E s := by
  k_dflt (refine' enterP S [(Str.ofString "self", .ref T), (Str.ofString "state", .int st ts), (Str.ofString "terminal", .int t tt)] ?k6 ?k7 ?k8 ?k9 ?kB ?c2 ?c3 ?c4 ?c5 ?_; (case k6 => k_is); (case k7 => k_is); (case k8 => (dsimp only [AA]; omega)); (case k9 => exact BindsTo.of_eq rfl); (case c5 => decide); (case kB => exact locs rfl); (case c2 => exact rfl); (case c3 => exact rfl); (case c4 => exact rfl); k_whole)
  intro g L' h₁ tk₁ kG F N B' X' T'
  replace hT := hT.keeps kG
  have hok := hT.ok
  have hn4 := hok.n4
  have hce := PlOk.cellAt hok s0 s1 t0 t5
  have hde := PlOk.dfltAt hok s0 s1
  unfold CellOk at hce
  obtain ⟨ox, kk, hI⟩ := hT.inst
  have hnx := hT.noExplicit
  have hnd := hT.noDefault
  try dsimp only
  try k_fold
  k_steps
  all_goals refine ret _ _ _ _ ?_ (fun b o e => Fr.keep (by assumption) _ _ (kG _ _ e))
  all_goals unfold toldAt
  all_goals first
    | rw [if_pos (by assumption)]
    | rw [if_neg (by assumption), if_pos (by assumption)]
    | rw [if_neg (by assumption), if_neg (by assumption)]
theorem small_64 : ∀ n : Nat, n < 65 → Builtin.Range.small 0 (n : Int) 1 = true := by decide
theorem size_64 : ∀ n : Nat, n < 65 → Builtin.Range.rangeSize 0 (n : Int) 1 = (n : Int) := by decide
local macro_rules | `(tactic| walk_at "call ref") => `(tactic| (k_here; (with_reducible show wpAny _ _ (call (Value.ref 138) _ _) _ _ _); k_dflt ((refine' action_spec (Stt.of (by k_asm) (by k_asm) (by k_asm) (by k_asm) rfl rfl) ?d ?T ?s0 ?s1 ?t0 ?t5 ?_); (case d | T | s0 | s1 | t0 | t5 => ktr_rel); k_whole); intro v' t' h' tk' hv' kp'; (try subst hv'); ktr_unf))
theorem fresh_wt : True := by
  w_top off
  trivial
--would_take
set_option maxHeartbeats 4000000 in
theorem wt_spec {w : World} {p : Program} {loose : List Str} {mean : ExcName → Option Value} {mg mb : Str → Option Value} {base : Heap} {outer : List Env} {dp un : Nat} {gd : Option (List Code)} {s : Shared} {Q E : Value → Shared → Prop}
    {T a₀ : Addr} {es : List DictEntry} {P : Pl} {n : Nat} {st₀ : List Int} {vs₀ : List Value} {t : Int} {m : Nat} {tt tm : Tok} (S : Stt (hd.heap_1 w.params) p loose mean mg mb (AA dp un gd outer) base outer s.heap) (hd : dp + 5 < recursionLimit)
    (hT : TabX w s.heap T es P n) (hl₀ : s.heap.IsList a₀ vs₀.toArray) (hi₀ : IntsAre vs₀ st₀) (hS₀ : StOk n st₀) (hlen₀ : st₀.length ≤ 4) (t0 : 0 ≤ t) (t5 : t < 5) (hm : m ≤ 14)
    (ret : ∀ v h' tk, v = takes P t m st₀ → Kp s.heap h' → Q (.bool v) { s with heap := h', toks := tk }) :
    wpAny (model pr w) (AA dp un gd outer) (call (.ref 206) [.ref T, .ref a₀, .int t tt, .int m tm]) Q E s := by
  k_dflt (refine' enterP S [(Str.ofString "tables", .ref T), (Str.ofString "states", .ref a₀), (Str.ofString "terminal", .int t tt), (Str.ofString "most", .int m tm)] ?k6 ?k7 ?k8 ?k9 ?kB ?c2 ?c3 ?c4 ?c5 ?_; (case k6 => k_is); (case k7 => k_is); (case k8 => (dsimp only [AA]; omega)); (case k9 => exact BindsTo.of_eq rfl); (case c5 => decide); (case kB => exact locs rfl); (case c2 => exact rfl); (case c3 => exact rfl); (case c4 => exact rfl); k_whole)
  intro g L' h₁ tk₁ kG F N B' X' T'
  replace hT := hT.keeps kG
  replace hl₀ : g.IsList a₀ vs₀.toArray := hl₀.at fun o e => kG _ _ e
  have hok := hT.ok
  have hn4 := hok.n4
  obtain ⟨ox, kk, hI⟩ := hT.inst
  have ha1 := hT.noAction
  have ha2 := hT.noLength
  have ha3 := hT.noLeft
  have ha4 := hT.noGoto
  try dsimp only
  try k_fold
  k_steps
  rename_i h5 F5 N5 h6 tk6 ta tb tc hr F6 N6 K6
  refine ⟨?_⟩
  refine' tbr_invG (n := m) (fun i nm nx => nm (Str.ofString "tables") = some (.ref T) ∧ nm (Str.ofString "terminal") = some (.int t tt) ∧ ∃ a vs st, nm (Str.ofString "stack") = some (.ref a) ∧ IntsAre vs st ∧ StOk n st ∧ st.length ≤ 4 + i ∧ takes P t (m - i) st = takes P t m st₀ ∧
    ((g.IsList a vs.toArray ∧ nx = []) ∨ ∃ k, nx = [(a, W.listOf vs.toArray k)])) rfl hr (small_64 _ (by omega)) (size_64 _ (by omega)) F6 N6 ⟨rfl, rfl, a₀, vs₀, st₀, rfl, hi₀, hS₀, by omega, rfl, .inl ⟨hl₀, rfl⟩⟩ ?turn ?done
  case turn =>
    clear F5 N5 F6 N6 K6 hr ta tb tc qk
    rintro i k u m₁ nx h tk own hk hoI ⟨hm1, hm2, a, vs, st, hm3, hi, hS, hlen, htk, hw⟩ F7 N7
    obtain ⟨hk0, hk1⟩ := mem_rangeKs (List.mem_of_getElem? hk)
    have hk2 : i < m := by have := (List.getElem?_eq_some_iff.mp hk).1; rwa [rangeKs_length] at this
    change Fr g L' h _ at F7
    change News g L' h _ at N7
    rw [as3 hm1 hm2 hm3] at F7
    obtain ⟨q, hq⟩ : ∃ q, m - i = q + 1 := ⟨m - i - 1, by omega⟩
    rw [hq] at htk
    have hst0 : 0 < st.length := List.length_pos_iff.mpr hS.1
    have htop0 : 0 ≤ st.getD (-1 + (st.length : Int)).toNat 0 := hS.top.1
    have htop1 : st.getD (-1 + (st.length : Int)).toNat 0 < (n : Int) := hS.top.2
    have htold := PlOk.toldAt hok htop0 htop1 t0 t5
    have hcut : ¬ 0 ≤ toldAt P (st.getD (-1 + (st.length : Int)).toNat 0) t → ¬ (st.length : Int) ≤ sizeAt P (-toldAt P (st.getD (-1 + (st.length : Int)).toNat 0) t) → 0 ≤ topOf (st.take ((st.length : Int) - sizeAt P (-toldAt P (st.getD (-1 + (st.length : Int)).toNat 0) t)).toNat) ∧ topOf (st.take ((st.length : Int) - sizeAt P (-toldAt P (st.getD (-1 + (st.length : Int)).toNat 0) t)).toNat) < (n : Int) := fun h1 h2 => (StOk.cut hok t0 t5 hS h1 h2).top
    unfold topOf at hcut
    rcases hw with ⟨hl, rfl⟩ | ⟨ke, rfl⟩
    · simp only [List.nil_append] at N7
      try dsimp only
      try k_fold
      k_steps
      · exact ret _ _ _ ((takes_told (by assumption)).symm.trans htk) (fun b o e => Fr.keep (by assumption) _ _ (kG _ _ e))
      · exact ret _ _ _ ((takes_short (by assumption) (by assumption)).symm.trans htk) (fun b o e => Fr.keep (by assumption) _ _ (kG _ _ e))
      · have cut := StOk.cut hok t0 t5 hS (by assumption) (by assumption)
        exact ret _ _ _ ((takes_none (by assumption) (by assumption) (none_of_neg (fun _ e => (PlOk.gotoAt hok cut.top.1 cut.top.2 e).1) (by assumption))).symm.trans htk) (fun b o e => Fr.keep (by assumption) _ _ (kG _ _ e))
      · rename_i D1 ws _ l1 hws hC hL _ _ _ _ _ _ t7 _ _ _ _ h3 _ _ FT NT
        have cut := StOk.cut hok t0 t5 hS (by assumption) (by assumption)
        refine tb_new FT NT (fun p hp => ?_) (fun p hp => ?_) ⟨rfl, rfl, D1, _, _, rfl, ints_snoc hws _ _, ?_, ?_, ?_, .inr ⟨_, by rw [List.push_toArray]⟩⟩
        · exact hp
        · exact Nat.ne_of_lt (l1 p hp)
        · refine ⟨by simp, all_snoc cut.2 ?_⟩
          exact PlOk.gotoAt hok cut.top.1 cut.top.2 (some_of_nn h3)
        · simp only [List.length_append, List.length_singleton]; omega
        · rw [show m - (i + 1) = q by omega]
          exact (takes_go (by assumption) (by assumption) (some_of_nn h3)).symm.trans htk
    · simp only [List.cons_append, List.nil_append] at N7
      try dsimp only
      try k_fold
      k_steps
      · exact ret _ _ _ ((takes_told (by assumption)).symm.trans htk) (fun b o e => Fr.keep (by assumption) _ _ (kG _ _ e))
      · exact ret _ _ _ ((takes_short (by assumption) (by assumption)).symm.trans htk) (fun b o e => Fr.keep (by assumption) _ _ (kG _ _ e))
      · have cut := StOk.cut hok t0 t5 hS (by assumption) (by assumption)
        exact ret _ _ _ ((takes_none (by assumption) (by assumption) (none_of_neg (fun _ e => (PlOk.gotoAt hok cut.top.1 cut.top.2 e).1) (by assumption))).symm.trans htk) (fun b o e => Fr.keep (by assumption) _ _ (kG _ _ e))
      · rename_i D1 ws _ hws hC hL l1 _ _ _ _ _ _ t7 _ _ _ _ h3 _ _ FT NT
        have cut := StOk.cut hok t0 t5 hS (by assumption) (by assumption)
        refine tb_new FT NT (fun p hp => ?_) (fun p hp => ?_) ⟨rfl, rfl, D1, _, _, rfl, ints_snoc hws _ _, ?_, ?_, ?_, .inr ⟨_, by rw [List.push_toArray]⟩⟩
        · exact .tail _ hp
        · exact Nat.ne_of_lt (tb_ltOf l1.2 p hp)
        · refine ⟨by simp, all_snoc cut.2 ?_⟩
          exact PlOk.gotoAt hok cut.top.1 cut.top.2 (some_of_nn h3)
        · simp only [List.length_append, List.length_singleton]; omega
        · rw [show m - (i + 1) = q by omega]
          exact (takes_go (by assumption) (by assumption) (some_of_nn h3)).symm.trans htk
  case done =>
    clear F5 N5 F6 N6 K6 hr ta tb tc
    rintro m₁ nx h tk ⟨hm1, hm2, a, vs, st, hm3, hi, hS, hlen, htk, hw⟩ F7 N7
    change Fr g L' h _ at F7
    change News g L' h _ at N7
    rw [Nat.sub_self] at htk
    try dsimp only
    try k_fold
    k_steps
    exact ret _ _ _ htk (fun b o e => Fr.keep (by assumption) _ _ (kG _ _ e))
local macro_rules | `(tactic| walk_at "call ref") => `(tactic| (k_here; (with_reducible show wpAny _ _ (call (Value.ref 206) _ _) _ _ _); k_dflt ((refine' wt_spec (Stt.of (by k_asm) (by k_asm) (by k_asm) (by k_asm) rfl rfl) ?d ?T ?l ?i ?S ?e ?t0 ?t5 ?m ?_); (case d | T | l | i | S | e | t0 | t5 | m => ktr_rel); k_whole); intro v' h' tk' hv' kp'; (try subst hv'); ktr_unf))
theorem fresh_ee : True := by
  w_top off
  trivial
--exact_expected
set_option maxHeartbeats 4000000 in
theorem ee_spec {w : World} {p : Program} {loose : List Str} {mean : ExcName → Option Value} {mg mb : Str → Option Value} {base : Heap} {outer : List Env} {dp un : Nat} {gd : Option (List Code)} {s : Shared} {Q E : Value → Shared → Prop}
    {T a₀ : Addr} {es : List DictEntry} {P : Pl} {n : Nat} {st₀ : List Int} {vs₀ : List Value} {m : Nat} {tm : Tok} (S : Stt (hd.heap_1 w.params) p loose mean mg mb (AA dp un gd outer) base outer s.heap) (hd : dp + 6 < recursionLimit)
    (hT : TabX w s.heap T es P n) (hl₀ : s.heap.IsList a₀ vs₀.toArray) (hi₀ : IntsAre vs₀ st₀) (hS₀ : StOk n st₀) (hlen₀ : st₀.length ≤ 4) (hm : m ≤ 14)
    (ret : ∀ a vs k h' tk, IntsAre vs (expd P m st₀ 5) → NewIn s.heap h' [(a, W.listOf vs.toArray k)] → Kp s.heap h' → Q (.ref a) { s with heap := h', toks := tk }) :
    wpAny (model pr w) (AA dp un gd outer) (call (.ref 213) [.ref T, .ref a₀, .int m tm]) Q E s := by
  k_dflt (refine' enterP S [(Str.ofString "tables", .ref T), (Str.ofString "states", .ref a₀), (Str.ofString "most", .int m tm)] ?k6 ?k7 ?k8 ?k9 ?kB ?c2 ?c3 ?c4 ?c5 ?_; (case k6 => k_is); (case k7 => k_is); (case k8 => (dsimp only [AA]; omega)); (case k9 => exact BindsTo.of_eq rfl); (case c5 => decide); (case kB => exact locs rfl); (case c2 => exact rfl); (case c3 => exact rfl); (case c4 => exact rfl); k_whole)
  intro g L' h₁ tk₁ kG F N B' X' T'
  replace hT := hT.keeps kG
  replace hl₀ : g.IsList a₀ vs₀.toArray := hl₀.at fun o e => kG _ _ e
  have hok := hT.ok
  have hn4 := hok.n4
  obtain ⟨ox, kk, hI⟩ := hT.inst
  obtain ⟨tct, htc⟩ := hT.tc
  try dsimp only
  try k_fold
  k_steps
  rename_i fl _ l1 h5 F5 N5 h6 tk6 ta tb tc hr F6 N6 K6
  refine ⟨?_⟩
  refine' tbr_invG (n := 5) (fun i nm nx => nm (Str.ofString "tables") = some (.ref T) ∧ nm (Str.ofString "states") = some (.ref a₀) ∧ nm (Str.ofString "most") = some (.int m tm) ∧ nm (Str.ofString "found") = some (.ref fl) ∧ i ≤ 5 ∧ ∃ vs k, nx = [(fl, W.listOf vs.toArray k)] ∧ IntsAre vs (expd P m st₀ i)) rfl hr (by decide) (by rfl) F6 N6 ⟨rfl, rfl, rfl, rfl, by omega, [], 0, rfl, .nil⟩ ?turn ?done
  case turn =>
    clear F5 N5 F6 N6 K6 hr ta tb tc qk
    rintro i k u m₁ nx h tk own hk hoI ⟨hm1, hm2, hm3, hm4, hi5, vs, ke, rfl, hvs⟩ F7 N7
    have hk2 : i < 5 := by have := (List.getElem?_eq_some_iff.mp hk).1; rwa [rangeKs_length] at this
    obtain rfl : (i : Int) = k := by
      have : (rangeKs 0 5)[i]? = some ((i : Nat) : Int) := by simp [rangeKs, hk2]
      rw [this] at hk; exact Option.some.inj hk
    change Fr g L' h _ at F7
    change News g L' h _ at N7
    rw [as4 hm1 hm2 hm3 hm4] at F7
    simp only [List.cons_append, List.nil_append] at N7
    have hline : vs.toArray.size ≤ sizeLine := line_le (by
      have e1 := hvs.length
      have : ∀ j, j ≤ 5 → (expd P m st₀ j).length ≤ j := by
        intro j
        induction j with
        | zero => intro _; simp [expd]
        | succ j ih => intro hj; have := ih (by omega); unfold expd; split <;> simp <;> omega
      have := this i hi5
      simp only [List.size_toArray]; omega)
    have hoJ : OwnOff own [fl] := tboff_heads hoI
    try dsimp only
    try k_fold
    k_steps
    · rename_i FT NT
      refine tb_close [(fl, W.listOf (vs.toArray.push (.int i u)) (ke + 1))] [(fl, W.listOf vs.toArray ke)] (tail := []) FT NT hoI rfl ⟨rfl, rfl, rfl, rfl, by omega, vs ++ [.int i u], _, by rw [List.push_toArray]; rfl, ?_⟩
      unfold expd
      rw [if_pos ⟨by assumption, by assumption, by assumption⟩]
      exact ints_snoc hvs _ _
    all_goals
      refine tb_close [(fl, W.listOf vs.toArray ke)] [(fl, W.listOf vs.toArray ke)] (tail := []) (by assumption) (by assumption) hoI rfl ⟨rfl, rfl, rfl, rfl, by omega, vs, _, rfl, ?_⟩
      unfold expd
      rw [if_neg (by simp_all)]
      exact hvs
  case done =>
    clear F5 N5 F6 N6 K6 hr ta tb tc
    rintro m₁ nx h tk ⟨hm1, hm2, hm3, hm4, _, vs, ke, rfl, hvs⟩ F7 N7
    change Fr g L' h _ at F7
    change News g L' h _ at N7
    rw [as4 hm1 hm2 hm3 hm4] at F7
    try dsimp only
    try k_fold
    k_steps
    exact ret fl vs ke _ _ hvs (newIn_of kG (by assumption) fun p hp => by first | exact hp | exact .tail _ hp) (fun b o e => Fr.keep (by assumption) _ _ (kG _ _ e))
theorem fresh_need : True := by
  w_top off
  trivial
theorem size_60 : Builtin.Range.rangeSize 1 60 1 = ((59 : Nat) : Int) := by decide
--_law_need
set_option maxHeartbeats 4000000 in
theorem need_spec {w : World} {p : Program} {loose : List Str} {mean : ExcName → Option Value} {mg mb : Str → Option Value} {base : Heap} {outer : List Env} {dp un : Nat} {gd : Option (List Code)} {s : Shared} {Q E : Value → Shared → Prop}
    {pl a₀ rows gotos defs rules : Addr} {P : Pl} {n : Nat} {st₀ : List Int} {vs₀ : List Value} {t : Int} {tt : Tok} (S : Stt (hd.heap_1 w.params) p loose mean mg mb (AA dp un gd outer) base outer s.heap) (hd : dp + 4 < recursionLimit)
    (hp : TupR (atH s.heap) pl [.ref rows, .ref gotos, .ref defs, .ref rules]) (hP : PlanR w (atH s.heap) P n rows gotos defs rules) (hl₀ : s.heap.IsList a₀ vs₀.toArray) (hi₀ : IntsAre vs₀ st₀) (hS₀ : StOk n st₀) (hlen₀ : st₀.length ≤ 4) (t0 : 0 ≤ t) (t5 : t < 5)
    (ret : ∀ v tv h' tk, v = need P t 59 1 st₀ → Kp s.heap h' → Q (.int v tv) { s with heap := h', toks := tk }) :
    wpAny (model pr w) (AA dp un gd outer) (call (.ref 350) [.ref pl, .ref a₀, .int t tt]) Q E s := by
  k_dflt (refine' enterP S [(Str.ofString "plan", .ref pl), (Str.ofString "stack", .ref a₀), (Str.ofString "terminal", .int t tt)] ?k6 ?k7 ?k8 ?k9 ?kB ?c2 ?c3 ?c4 ?c5 ?_; (case k6 => k_is); (case k7 => k_is); (case k8 => (dsimp only [AA]; omega)); (case k9 => exact BindsTo.of_eq rfl); (case c5 => decide); (case kB => exact locs rfl); (case c2 => exact rfl); (case c3 => exact rfl); (case c4 => exact rfl); k_whole)
  intro g L' h₁ tk₁ kG F N B' X' T'
  replace hl₀ : g.IsList a₀ vs₀.toArray := hl₀.at fun o e => kG _ _ e
  replace hp : IsTup g pl [.ref rows, .ref gotos, .ref defs, .ref rules].toArray := hp.mono kG
  replace hP := hP.mono (R' := atH g) kG
  have hok := hP.ok
  have hn4 := hok.n4
  obtain ⟨rvs, hrl, hra, _⟩ := hP.rows
  obtain ⟨gvs, hgl, hga, _⟩ := hP.gotos
  obtain ⟨dvs, hdl, hda, hdn, hdr⟩ := hP.defs
  obtain ⟨uvs, hul, hua, _⟩ := hP.rules
  replace hrl : g.IsList rows rvs.toArray := hrl
  replace hgl : g.IsList gotos gvs.toArray := hgl
  replace hdl : g.IsList defs dvs.toArray := hdl
  replace hul : g.IsList rules uvs.toArray := hul
  clear hP
  try dsimp only
  try k_fold
  k_steps
  rename_i hrn D0 c0 _ l1 h5 F5 N5 h6 tk6 ta tb tc hr F6 N6 K6
  refine ⟨?_⟩
  refine' tbr_invG (n := 59) (fun i nm nx => nm (Str.ofString "rows") = some (.ref rows) ∧ nm (Str.ofString "gotos") = some (.ref gotos) ∧ nm (Str.ofString "defaults") = some (.ref defs) ∧ nm (Str.ofString "rules") = some (.ref rules) ∧ nm (Str.ofString "terminal") = some (.int t tt) ∧
    ∃ a vs st k, nm (Str.ofString "row") = some (.ref a) ∧ IntsAre vs st ∧ StOk n st ∧ st.length ≤ 4 + i ∧ need P t (59 - i) (1 + (i : Int)) st = need P t 59 1 st₀ ∧ nx = [(a, W.listOf vs.toArray k)]) rfl hr (by decide) size_60 F6 N6 ⟨rfl, rfl, rfl, rfl, rfl, D0, vs₀, st₀, c0, rfl, hi₀, hS₀, by omega, rfl, rfl⟩ ?turn ?done
  case turn =>
    clear F5 N5 F6 N6 K6 hr ta tb tc qk
    rintro i k u m₁ nx h tk own hk hoI ⟨hm1, hm2, hm3, hm4, hm5, a, vs, st, ke, hm6, hi, hS, hlen, hnd, rfl⟩ F7 N7
    have hk2 : i < 59 := by have := (List.getElem?_eq_some_iff.mp hk).1; rwa [rangeKs_length] at this
    obtain rfl : 1 + (i : Int) = k := by
      have : (rangeKs 1 59)[i]? = some (1 + ((i : Nat) : Int)) := by simp [rangeKs, hk2]
      rw [this] at hk; exact Option.some.inj hk
    change Fr g L' h _ at F7
    change News g L' h _ at N7
    rw [as6 hm1 hm2 hm3 hm4 hm5 hm6] at F7
    simp only [List.cons_append, List.nil_append] at N7
    obtain ⟨q, hq⟩ : ∃ q, 59 - i = q + 1 := ⟨58 - i, by omega⟩
    rw [hq] at hnd
    have hst0 : 0 < st.length := List.length_pos_iff.mpr hS.1
    have htop0 : 0 ≤ st.getD (-1 + (st.length : Int)).toNat 0 := hS.top.1
    have htop1 : st.getD (-1 + (st.length : Int)).toNat 0 < (n : Int) := hS.top.2
    have hgn := hok.gotos
    obtain ⟨rv, hrx, r, ws, rfl, hr1, hr2, hr3, hr4⟩ := hra.at (i := (st.getD (-1 + (st.length : Int)).toNat 0).toNat) (by have := hok.rows; omega) []
    replace hr1 : g.IsList r ws.toArray := hr1
    have hcell : CellOk ((P.rows.getD (st.getD (-1 + (st.length : Int)).toNat 0).toNat []).getD t.toNat 0) n := PlOk.cellAt hok htop0 htop1 t0 t5
    have hdfl : 0 ≤ P.defs.getD (st.getD (-1 + (st.length : Int)).toNat 0).toNat 0 ∧ P.defs.getD (st.getD (-1 + (st.length : Int)).toNat 0).toNat 0 < 5 := PlOk.dfltAt hok htop0 htop1
    unfold CellOk at hcell
    clear hr4 hS₀ hi₀ hl₀ hm1 hm2 hm3 hm4 hm5 hm6 hk
    by_cases hB : (P.rows.getD (st.getD (-1 + (st.length : Int)).toNat 0).toNat []).getD t.toNat 0 = -1048576
    · try dsimp only
      try k_fold
      k_steps
      all_goals first | exact ret _ _ _ _ ((need_barred hB).symm.trans hnd) (fun b o e => Fr.keep (by assumption) _ _ (kG _ _ e)) | (exfalso; omega)
    have hrpD : P.defs.getD (st.getD (-1 + (st.length : Int)).toNat 0).toNat 0 ≠ 0 → 0 < dfltAt P (topOf st) := fun hq => by show 0 < P.defs.getD (st.getD (-1 + (st.length : Int)).toNat 0).toNat 0; omega
    have hrpE : ¬ 0 < (P.rows.getD (st.getD (-1 + (st.length : Int)).toNat 0).toNat []).getD t.toNat 0 → (P.rows.getD (st.getD (-1 + (st.length : Int)).toNat 0).toNat []).getD t.toNat 0 ≠ 0 → 0 < -cellAt P (topOf st) t := fun hq hq' => by show 0 < -((P.rows.getD (st.getD (-1 + (st.length : Int)).toNat 0).toNat []).getD t.toNat 0); omega
    have hngE : ¬ 0 < (P.rows.getD (st.getD (-1 + (st.length : Int)).toNat 0).toNat []).getD t.toNat 0 → (P.rows.getD (st.getD (-1 + (st.length : Int)).toNat 0).toNat []).getD t.toNat 0 ≠ 0 → cellAt P (topOf st) t < 0 := fun hq hq' => by show (P.rows.getD (st.getD (-1 + (st.length : Int)).toNat 0).toNat []).getD t.toNat 0 < 0; omega
    obtain ⟨uvD, huxD, tqD, tlD, tsD, rfl, htqD, hlfD, hszD, hsyD⟩ := hua.at (i := (P.defs.getD (st.getD (-1 + (st.length : Int)).toNat 0).toNat 0 - 1).toNat) (by omega) (0, 0)
    replace htqD : IsTup g tqD [.int (P.rules.getD (P.defs.getD (st.getD (-1 + (st.length : Int)).toNat 0).toNat 0 - 1).toNat (0, 0)).1 tlD, .int (P.rules.getD (P.defs.getD (st.getD (-1 + (st.length : Int)).toNat 0).toNat 0 - 1).toNat (0, 0)).2 tsD].toArray := htqD
    have hqD : 0 ≤ ((st.take ((st.length : Int) - (P.rules.getD (P.defs.getD (st.getD (-1 + (st.length : Int)).toNat 0).toNat 0 - 1).toNat (0, 0)).2).toNat).getD (-1 + ((st.take ((st.length : Int) - (P.rules.getD (P.defs.getD (st.getD (-1 + (st.length : Int)).toNat 0).toNat 0 - 1).toNat (0, 0)).2).toNat).length : Int)).toNat 0) ∧ ((st.take ((st.length : Int) - (P.rules.getD (P.defs.getD (st.getD (-1 + (st.length : Int)).toNat 0).toNat 0 - 1).toNat (0, 0)).2).toNat).getD (-1 + ((st.take ((st.length : Int) - (P.rules.getD (P.defs.getD (st.getD (-1 + (st.length : Int)).toNat 0).toNat 0 - 1).toNat (0, 0)).2).toNat).length : Int)).toNat 0) < (n : Int) := top_any hok.n1 fun x hx => hS.2 x (List.mem_of_mem_take hx)
    have hqD0 := hqD.1
    have hqD1 := hqD.2
    obtain ⟨gvD, hgxD, gdD, rfl, hgdD, hgrD⟩ := hga.at (i := ((st.take ((st.length : Int) - (P.rules.getD (P.defs.getD (st.getD (-1 + (st.length : Int)).toNat 0).toNat 0 - 1).toNat (0, 0)).2).toNat).getD (-1 + ((st.take ((st.length : Int) - (P.rules.getD (P.defs.getD (st.getD (-1 + (st.length : Int)).toNat 0).toNat 0 - 1).toNat (0, 0)).2).toNat).length : Int)).toNat 0).toNat) (by omega) (fun _ => none)
    clear hgrD hlfD hqD
    obtain ⟨uvE, huxE, tqE, tlE, tsE, rfl, htqE, hlfE, hszE, hsyE⟩ := hua.at (i := (-((P.rows.getD (st.getD (-1 + (st.length : Int)).toNat 0).toNat []).getD t.toNat 0) - 1).toNat) (by omega) (0, 0)
    replace htqE : IsTup g tqE [.int (P.rules.getD (-((P.rows.getD (st.getD (-1 + (st.length : Int)).toNat 0).toNat []).getD t.toNat 0) - 1).toNat (0, 0)).1 tlE, .int (P.rules.getD (-((P.rows.getD (st.getD (-1 + (st.length : Int)).toNat 0).toNat []).getD t.toNat 0) - 1).toNat (0, 0)).2 tsE].toArray := htqE
    have hqE : 0 ≤ ((st.take ((st.length : Int) - (P.rules.getD (-((P.rows.getD (st.getD (-1 + (st.length : Int)).toNat 0).toNat []).getD t.toNat 0) - 1).toNat (0, 0)).2).toNat).getD (-1 + ((st.take ((st.length : Int) - (P.rules.getD (-((P.rows.getD (st.getD (-1 + (st.length : Int)).toNat 0).toNat []).getD t.toNat 0) - 1).toNat (0, 0)).2).toNat).length : Int)).toNat 0) ∧ ((st.take ((st.length : Int) - (P.rules.getD (-((P.rows.getD (st.getD (-1 + (st.length : Int)).toNat 0).toNat []).getD t.toNat 0) - 1).toNat (0, 0)).2).toNat).getD (-1 + ((st.take ((st.length : Int) - (P.rules.getD (-((P.rows.getD (st.getD (-1 + (st.length : Int)).toNat 0).toNat []).getD t.toNat 0) - 1).toNat (0, 0)).2).toNat).length : Int)).toNat 0) < (n : Int) := top_any hok.n1 fun x hx => hS.2 x (List.mem_of_mem_take hx)
    have hqE0 := hqE.1
    have hqE1 := hqE.2
    obtain ⟨gvE, hgxE, gdE, rfl, hgdE, hgrE⟩ := hga.at (i := ((st.take ((st.length : Int) - (P.rules.getD (-((P.rows.getD (st.getD (-1 + (st.length : Int)).toNat 0).toNat []).getD t.toNat 0) - 1).toNat (0, 0)).2).toNat).getD (-1 + ((st.take ((st.length : Int) - (P.rules.getD (-((P.rows.getD (st.getD (-1 + (st.length : Int)).toNat 0).toNat []).getD t.toNat 0) - 1).toNat (0, 0)).2).toNat).length : Int)).toNat 0).toNat) (by omega) (fun _ => none)
    clear hgrE hlfE hqE
    try dsimp only
    try k_fold
    k_steps
    all_goals try first
      | exact ret _ _ _ _ ((need_zero (by assumption) (by assumption)).symm.trans hnd) (fun b o e => Fr.keep (by assumption) _ _ (kG _ _ e))
      | exact ret _ _ _ _ ((need_yes (by assumption) (by assumption)).symm.trans hnd) (fun b o e => Fr.keep (by assumption) _ _ (kG _ _ e))
      | exact ret _ _ _ _ ((need_short (told_dflt (by assumption)) (hrpD (by assumption)) (by assumption)).symm.trans hnd) (fun b o e => Fr.keep (by assumption) _ _ (kG _ _ e))
      | exact ret _ _ _ _ ((need_short (told_cell hB (hngE (by assumption) (by assumption))) (hrpE (by assumption) (by assumption)) (by assumption)).symm.trans hnd) (fun b o e => Fr.keep (by assumption) _ _ (kG _ _ e))
      | exact ret _ _ _ _ ((need_none (told_dflt (by assumption)) (hrpD (by assumption)) (by assumption) (none_of_false (by assumption))).symm.trans hnd) (fun b o e => Fr.keep (by assumption) _ _ (kG _ _ e))
      | exact ret _ _ _ _ ((need_none (told_cell hB (hngE (by assumption) (by assumption))) (hrpE (by assumption) (by assumption)) (by assumption) (none_of_false (by assumption))).symm.trans hnd) (fun b o e => Fr.keep (by assumption) _ _ (kG _ _ e))
      | (exfalso; omega)
    · rename_i D1 ws _ hws hC hL l1 _ _ _ hgo _ _ t9 _ FT NT
      have htd := told_dflt (P := P) (t := t) (st := st) (by assumption)
      have hrp := hrpD (by assumption)
      have cut := cut_rule hok t0 t5 hS htd hrp (by assumption)
      refine tb_new FT NT (fun p hp => .tail _ hp) (fun p hp => Nat.ne_of_lt (tb_ltOf l1.2 p hp)) ⟨rfl, rfl, rfl, rfl, rfl, D1, _, _, _, rfl, ints_snoc hws _ _, ⟨by simp, all_snoc cut.2 ?_⟩, ?_, ?_, by rw [List.push_toArray]⟩
      · exact PlOk.gotoAt hok cut.top.1 cut.top.2 (some_getD hgo)
      · simp only [List.length_append, List.length_singleton]; omega
      · rw [show 59 - (i + 1) = q by omega, show (1 + ((i + 1 : Nat) : Int)) = 1 + (i : Int) + 1 by omega]
        exact (need_go htd hrp (by assumption) (some_getD hgo)).symm.trans hnd
    · rename_i D1 ws _ hws hC hL l1 _ _ _ hgo _ _ t9 _ FT NT
      have htd := told_cell hB (hngE (by assumption) (by assumption))
      have hrp := hrpE (by assumption) (by assumption)
      have cut := cut_rule hok t0 t5 hS htd hrp (by assumption)
      refine tb_new FT NT (fun p hp => .tail _ hp) (fun p hp => Nat.ne_of_lt (tb_ltOf l1.2 p hp)) ⟨rfl, rfl, rfl, rfl, rfl, D1, _, _, _, rfl, ints_snoc hws _ _, ⟨by simp, all_snoc cut.2 ?_⟩, ?_, ?_, by rw [List.push_toArray]⟩
      · exact PlOk.gotoAt hok cut.top.1 cut.top.2 (some_getD hgo)
      · simp only [List.length_append, List.length_singleton]; omega
      · rw [show 59 - (i + 1) = q by omega, show (1 + ((i + 1 : Nat) : Int)) = 1 + (i : Int) + 1 by omega]
        exact (need_go htd hrp (by assumption) (some_getD hgo)).symm.trans hnd
  case done =>
    clear F5 N5 F6 N6 K6 hr ta tb tc
    rintro m₁ nx h tk ⟨hm1, hm2, hm3, hm4, hm5, a, vs, st, ke, hm6, hi, hS, hlen, hnd, rfl⟩ F7 N7
    change Fr g L' h _ at F7
    change News g L' h _ at N7
    try dsimp only
    try k_fold
    k_steps
    exact ret _ _ _ _ hnd (fun b o e => Fr.keep (by assumption) _ _ (kG _ _ e))
theorem fresh_lawb : True := by
  w_top off
  trivial
section
open PySem.SeqAt
theorem readsAll_bools {h : Heap} : ∀ bs : List Bool, ReadsAll h (bs.map Value.bool) (bs.map PyData.bool) []
  | [] => .nil
  | b :: r => by
    have := ReadsAll.cons (Reads.bool (h := h) b) (readsAll_bools (h := h) r)
    simpa using this
theorem reads_bools {h : Heap} {a : Addr} {bs : List Bool} (hl : h.IsList a (bs.map Value.bool).toArray) : Reads h (.ref a) (.list (bs.map PyData.bool)) [a] := by
  obtain ⟨o, ho, hc, n, hd⟩ := hl
  exact Reads.list ho hc hd (by simpa using readsAll_bools bs)
theorem layBools : ∀ bs : List Bool, PyData.canLayAll0 (bs.map PyData.bool) = true
  | [] => by simp [PyData.canLayAll0]
  | b :: r => by simp [PyData.canLayAll0, PyData.canLay0, layBools r]
theorem deepBools : ∀ bs : List Bool, PyData.depthAll (bs.map PyData.bool) ≤ 1
  | [] => by simp [PyData.depthAll]
  | b :: r => by
    have := deepBools r
    simp only [List.map_cons, PyData.depthAll, PyData.depth]
    omega
theorem shapedBools (bs : List Bool) : shaped (.list (bs.map PyData.bool)) = true := by
  have h1 := deepBools bs
  have h2 : PyData.depth (.list (bs.map PyData.bool)) ≤ 64 := by simp only [PyData.depth]; omega
  show (PyData.canLay0 (.list (bs.map PyData.bool)) && decide (PyData.depth (.list (bs.map PyData.bool)) ≤ 64)) = true
  rw [Bool.and_eq_true]
  exact ⟨by simp only [PyData.canLay0]; exact layBools bs, decide_eq_true h2⟩
theorem mixBools : ∀ a b : List Bool, noMixAll (a.map PyData.bool) (b.map PyData.bool) = true
  | [], [] => by simp [noMixAll]
  | [], _ :: _ => by simp [noMixAll]
  | _ :: _, [] => by simp [noMixAll]
  | _ :: r, _ :: q => by simp [noMixAll, noMix, mixBools r q]
theorem sameBools : ∀ a b : List Bool, PySem.Spec.sameAll (a.map PyData.bool) (b.map PyData.bool) = decide (a = b)
  | [], [] => by simp [PySem.Spec.sameAll]
  | [], _ :: _ => by simp [PySem.Spec.sameAll]
  | _ :: _, [] => by simp [PySem.Spec.sameAll]
  | n :: r, k :: q => by
    simp only [List.map_cons, PySem.Spec.sameAll, PySem.Spec.same, sameBools r q]
    by_cases h : n = k <;> simp [h]
variable {prog : Program} {w : World} {A : Around} {E : Value → Shared → Prop} {s : Shared}
theorem ne_bools {a b : Addr} {x y : List Bool} {Q : Value → Shared → Prop} (hl : s.heap.IsList a (x.map Value.bool).toArray) (hl' : s.heap.IsList b (y.map Value.bool).toArray) (hu : A.units + 64 < cLine)
    (e : x = y) (h : Q (.bool false) s) : wpAny (model prog w) A (compareOp .NotEq (.ref a) (.ref b)) Q E s := by
  refine ne_dataH_same (reads_bools hl) (reads_bools hl') (shapedBools x) (shapedBools y) hu (by simp only [noMix]; exact mixBools x y) ?_
  simp only [PySem.Spec.same]
  rw [sameBools, decide_eq_true e]
  exact h
theorem ne_ints {a b : Addr} {vs us : List Value} {x y : List Int} {Q : Value → Shared → Prop} (hl : s.heap.IsList a vs.toArray) (hi : IntsAre vs x) (hl' : s.heap.IsList b us.toArray) (hi' : IntsAre us y) (hu : A.units + 64 < cLine)
    (e : x = y) (h : Q (.bool false) s) : wpAny (model prog w) A (compareOp .NotEq (.ref a) (.ref b)) Q E s := by
  refine ne_intsK hl hi hl' hi' hu ?_
  rw [decide_eq_true e]
  exact h
theorem eq_ints {a b : Addr} {vs us : List Value} {x : List Int} {Q : Value → Shared → Prop} (hl : s.heap.IsList a vs.toArray) (hi : IntsAre vs x) (hl' : s.heap.IsList b us.toArray) (hi' : IntsAre us x) (hu : A.units + 64 < cLine)
    (h : Q (.bool true) s) : wpAny (model prog w) A (compareOp .Eq (.ref a) (.ref b)) Q E s := by
  refine eq_intsK hl hi hl' hi' hu ?_
  rw [decide_eq_true rfl]
  exact h
end
/-- the tables as they stand -/
theorem tabX_of {w : World} {h : Heap} {P : Pl} {n : Nat} {rows gotos defs rules x dx lf ln : Addr} {es : List DictEntry} {k : Nat} {lvs nvs : List Value} (hP : PlanR w (atH h) P n rows gotos defs rules)
    (hx : h.get? x = some (instObj 197 dx)) (hdx : h.get? dx = some (dictOf es k)) (hlf : h.get? lf = some (LCg.lst lvs)) (hln : h.get? ln = some (LCg.lst nvs))
    (i1 : IntsAre lvs (5 :: P.rules.map (·.1))) (i2 : IntsAre nvs (2 :: P.rules.map (·.2)))
    (q1 : getL (Str.ofString "rows") es = some (some (.ref rows))) (q2 : getL (Str.ofString "gotos") es = some (some (.ref gotos))) (q3 : getL (Str.ofString "defaults") es = some (some (.ref defs))) (q4 : getL (Str.ofString "lefts") es = some (some (.ref lf))) (q5 : getL (Str.ofString "lengths") es = some (some (.ref ln)))
    (q6 : ∃ t, getL (Str.ofString "terminal_count") es = some (some (.int 5 t))) (q7 : getL (Str.ofString "action") es = some none) (q8 : getL (Str.ofString "explicit") es = some none) (q9 : getL (Str.ofString "length") es = some none) (q10 : getL (Str.ofString "left") es = some none) (q11 : getL (Str.ofString "default") es = some none) (q12 : getL (Str.ofString "goto") es = some none) :
    TabX w h x es P n where
  inst := ⟨_, _, hx, rfl, rfl, hdx⟩
  rows := let ⟨vs, l, r, _⟩ := hP.rows; ⟨rows, vs, q1, l.isList, r⟩
  gotos := let ⟨vs, l, r, _⟩ := hP.gotos; ⟨gotos, vs, q2, l.isList, r⟩
  defs := let ⟨vs, l, r, _⟩ := hP.defs; ⟨defs, vs, q3, l.isList, r⟩
  lefts := ⟨lf, lvs, q4, ⟨_, hlf, rfl, _, rfl⟩, i1⟩
  lens := ⟨ln, nvs, q5, ⟨_, hln, rfl, _, rfl⟩, i2⟩
  tc := q6
  noAction := q7
  noExplicit := q8
  noLength := q9
  noLeft := q10
  noDefault := q11
  noGoto := q12
  ok := hP.ok
section
variable {prog : Program} {w : World} {A : Around} {E : Value → Shared → Prop} {s : Shared}
/-- an item of a tuple that stands -/
theorem tup_sub {value slice : Expr} {t : Addr} {l : List Value} {k : Int} {u : Tok} {x : Value} {Q : Value → Shared → Prop} (ht : IsTup s.heap t l.toArray)
    (h0 : 0 ≤ k) (hhi : k < 2 ^ 63) (hx : l[k.toNat]? = some x) (h : Q x s)
    (hs : subscripted slice false (.ref t) (.int k u) = operate [.ref t, .int k u] (getItem (.ref t) (.int k u)) := by with_unfolding_all rfl) :
    wpAny (model prog w) A (subscriptTail value slice (.ref t) (.int k u)) Q E s :=
  item_tupleT ht (by omega) hhi (seqIndex_of h0 (by have := (List.getElem?_eq_some_iff.mp hx).1; omega)) hx h hs
theorem led_tup {h₀ h : Heap} {L t : Addr} {news tl : List (Addr × Obj)} {vs : List Value} (N : News h₀ L h news) (x : TupR (inL tl) t vs) (sub : ∀ p ∈ tl, p ∈ news) : IsTup h t vs.toArray :=
  let ⟨_, hm, q⟩ := x; ⟨_, (N _ (sub _ hm)).1, q⟩
theorem led_list {h₀ h : Heap} {L t : Addr} {news tl : List (Addr × Obj)} {vs : List Value} (N : News h₀ L h news) (x : ListR (inL tl) t vs) (sub : ∀ p ∈ tl, p ∈ news) : h.IsList t vs.toArray :=
  let ⟨_, hm, q⟩ := x; ⟨_, (N _ (sub _ hm)).1, q⟩
theorem led_kp {h₀ h : Heap} {L : Addr} {news tl : List (Addr × Obj)} (N : News h₀ L h news) (sub : ∀ p ∈ tl, p ∈ news) : ∀ a o, inL tl a o → atH h a o := fun _ _ hm => (N _ (sub _ hm)).1
/-- what is new lies off what stood -/
theorem newIn_off {h₀ h h' : Heap} {L : Addr} {news tl : List (Addr × Obj)} {adr : List Addr} (N : News h₀ L h news) (x : NewIn h h' tl) (k : ∀ b ∈ adr, ∃ o, (b, o) ∈ news) : OwnOff tl adr := fun p hp b hb e => by
  obtain ⟨o, hm⟩ := k b hb
  have := (x p hp).2
  rw [e, (N _ hm).1] at this; cases this
end
section
variable {prog : Program} {w : World} {A : Around} {E : Value → Shared → Prop} {s : Shared} {h₀ : Heap} {env : Env} {target : Expr} {body : List Stmt} {Q : Flow → Shared → Prop}
/-- over a tuple that no turn changes, any target -/
theorem tup_turns {t : Addr} {vs : List Value} {m₀ : Str → Option Value} {news : List (Addr × Obj)} (J : Nat → (Str → Option Value) → List (Addr × Obj) → Prop)
    (hh : A.handled = none) (ht : s.heap.IsTuple t vs.toArray) (F : Fr h₀ env.locals s.heap m₀) (N : News h₀ env.locals s.heap news) (hna : ∀ p ∈ news, p.1 ≠ t) (hj : J 0 m₀ news)
    (turn : ∀ i v m₁ nx h tk own, i < vs.length → vs[i]? = some v → TbOff own nx → J i m₁ nx → Fr h₀ env.locals h m₁ → News h₀ env.locals h (nx ++ own) →
      wpAny (model prog w) A (assign target env v) (fun _ s₃ => wpAny (model prog w) A (execs body env) (TbPost h₀ env.locals (J (i + 1)) own { s with heap := h, toks := tk } Q) E s₃) E { s with heap := h, toks := tk })
    (done : ∀ m₁ nx h tk, J vs.length m₁ nx → Fr h₀ env.locals h m₁ → News h₀ env.locals h nx → Q .next { s with heap := h, toks := tk }) :
    wpAny (model prog w) A (pyIter (.ref t)) (fun it s₂ => TurnsAt prog w A h₀ env target body Q E it s₂) E s := by
  obtain ⟨ot, hot, hct, nt, hdt⟩ := id ht
  refine wpAny_pyIter_tuple ht ?_
  have hlt : t < s.heap.objs.size := Heap.lt_size hot
  have W := Walks.tuple (prog := prog) (w := w) hh s.heap.objs.size t (Nat.ne_of_lt hlt) vs.toArray
  rw [List.size_toArray] at W
  have haL := not_frame F hot (by rw [hdt]; intro _ _ e; cases e)
  have hIL : s.heap.objs.size ≠ env.locals := Nat.ne_of_gt F.ns.lt
  have hI₀ := next_is_new F
  refine ⟨s.heap.objs.size, [s.heap.objs.size, t], [s.heap.objs.size], vs.length, _, _, _, m₀, news, fun i m nx => J i m nx ∧ ∀ p ∈ nx, p.1 ≠ t, rfl,
    KTurns.ofWalks W (fun i v s Q E st q => letGo_tupleiter st.1 q), ?_, ?_, ?_, ⟨⟨_, Heap.get?_push_size _ rfl, rfl, rfl⟩, ht.at fun o e => Heap.get?_push_of_some _ e⟩, F.push _, (fun p hp => ⟨Heap.get?_push_of_some _ (N p hp).1, (N p hp).2⟩), ⟨hj, hna⟩, ?_, ?_⟩
  · intro hm
    simp only [List.mem_cons, List.not_mem_nil, or_false] at hm
    rcases hm with e | e
    · exact hIL e.symm
    · exact haL e.symm
  · intro b hb
    rw [List.mem_singleton.mp hb]; exact hI₀
  · intro p hp hI
    exact Nat.ne_of_lt (Heap.lt_size (N p hp).1) (List.mem_singleton.mp hI)
  · rintro i v m₁ nx hh' tk' own hin hP ⟨hJ, hnx⟩ hoff hown _ hmem hst' F₁ N₁
    have hsep : TbOff own nx := by
      intro p hp q hq e
      have h1 := hown p hp
      simp only [List.mem_cons, List.not_mem_nil, or_false] at h1
      rcases h1 with h1 | h1
      · exact hoff q hq (List.mem_singleton.mpr (by rw [← e, h1]))
      · exact hnx q hq (by rw [← e, h1])
    obtain ⟨oI, hoI, _⟩ := hst'.1
    obtain ⟨oa, hoa, _⟩ := hst'.2
    have hI : (s.heap.objs.size, oI) ∈ own := hmem s.heap.objs.size (by simp) hI₀ oI hoI
    have N₂ : News h₀ env.locals hh' (nx ++ own) := fun p hp => N₁ p ((List.mem_append.mp hp).elim (fun h => List.mem_append.mpr (.inr h)) fun h => List.mem_append.mpr (.inl h))
    refine wpAny_mono (turn i v m₁ nx hh' tk' own hin (by simpa using hP) hsep hJ F₁ N₂) (fun _ s₃ w₃ => wpAny_mono w₃ (fun f s₂ p => ?_) fun _ _ e => e) fun _ _ e => e
    have fin : TbEnd h₀ env.locals (J (i + 1)) own { s with heap := hh', toks := tk' } s₂ → LoopStepU h₀ env.locals [s.heap.objs.size] own (fun m nx => J (i + 1) m nx ∧ ∀ p ∈ nx, p.1 ≠ t) { s with heap := hh', toks := tk' } .next s₂ := by
      rintro ⟨h', tk, m', news', nx', e, F', N', hn, ho, hao, hm⟩
      refine ⟨rfl, h', tk, m', nx', e, F', fun p hp => N' p ((List.mem_append.mp hp).elim (ho p) (hn p)), fun p hp hq => hao _ hI p hp (List.mem_singleton.mp hq).symm, hm, fun p hp e => ?_⟩
      cases q : h₀.get? t with
      | some o => have := (N' p (hn p hp)).2.2; rw [e, q] at this; cases this
      | none => exact hao _ (hmem t (by simp) q oa hoa) p hp e.symm
    cases f with
    | ret v => exact p
    | brk => exact p
    | next => exact fin p
    | cont => exact fin p
  · rintro h' tk m' news' F' N' _ ⟨hJ, _⟩
    exact done m' news' h' tk hJ F' N'
end
/-- what the made tables hold -/
structure TabQ (es : List DictEntry) (rows gotos defs lf ln : Addr) (lvs nvs : List Value) (P : Pl) : Prop where
  i1 : IntsAre lvs (5 :: P.rules.map (·.1))
  i2 : IntsAre nvs (2 :: P.rules.map (·.2))
  q1 : getL (Str.ofString "rows") es = some (some (.ref rows))
  q2 : getL (Str.ofString "gotos") es = some (some (.ref gotos))
  q3 : getL (Str.ofString "defaults") es = some (some (.ref defs))
  q4 : getL (Str.ofString "lefts") es = some (some (.ref lf))
  q5 : getL (Str.ofString "lengths") es = some (some (.ref ln))
  q6 : ∃ t, getL (Str.ofString "terminal_count") es = some (some (.int 5 t))
  q7 : getL (Str.ofString "action") es = some none
  q8 : getL (Str.ofString "explicit") es = some none
  q9 : getL (Str.ofString "length") es = some none
  q10 : getL (Str.ofString "left") es = some none
  q11 : getL (Str.ofString "default") es = some none
  q12 : getL (Str.ofString "goto") es = some none
theorem TabQ.at {w : World} {h₀ h : Heap} {L : Addr} {news tl : List (Addr × Obj)} {P : Pl} {n : Nat} {rows gotos defs rules x dx lf ln : Addr} {es : List DictEntry} {k : Nat} {lvs nvs : List Value} (q : TabQ es rows gotos defs lf ln lvs nvs P) (hP : PlanR w (inL tl) P n rows gotos defs rules) (N : News h₀ L h news) (sub : ∀ p ∈ tl, p ∈ news)
    (m1 : (x, instObj 197 dx) ∈ news) (m2 : (dx, dictOf es k) ∈ news) (m3 : (lf, LCg.lst lvs) ∈ news) (m4 : (ln, LCg.lst nvs) ∈ news) : TabX w h x es P n :=
  tabX_of (hP.mono (led_kp N sub)) (N _ m1).1 (N _ m2).1 (N _ m3).1 (N _ m4).1 q.i1 q.i2 q.q1 q.q2 q.q3 q.q4 q.q5 q.q6 q.q7 q.q8 q.q9 q.q10 q.q11 q.q12
/-- how many items a list of the tail holds -/
theorem len_led {prog : Program} {w : World} {A : Around} {E : Value → Shared → Prop} {s : Shared} {h₀ : Heap} {L t : Addr} {news tl : List (Addr × Obj)} {vs : List Value} {n : Nat} {Q : Value → Shared → Prop} (N : News h₀ L s.heap news) (x : ListR (inL tl) t vs) (sub : ∀ p ∈ tl, p ∈ news) (hn : vs.length = n) (hz : n ≤ 9)
    (h : Q (.int (n : Int) (s.toks + 1)) { s with toks := s.toks + 1 + 1 }) : wpAny (model prog w) A (call (.builtin "len") [.ref t]) Q E s :=
  kun_lenL (led_list N x sub) (by rw [List.size_toArray, hn]) (by omega) h
/-- what the law's own walk says, terminal by terminal -/
def needF (P : Pl) (st : List Int) (t : Nat) : Int := need P (0 + (t : Int)) 59 1 st
def needsTo (P : Pl) (st : List Int) (j : Nat) : List Int := (List.range j).map (needF P st)
def dueF (P : Pl) (st : List Int) (m t : Nat) : Bool := decide (0 < needF P st t ∧ needF P st t ≤ (m : Int))
def dueTo (P : Pl) (st : List Int) (m j : Nat) : List Bool := (List.range j).map (dueF P st m)
def tookTo (P : Pl) (st : List Int) (m j : Nat) : List Bool := (List.range j).map fun t : Nat => takes P (0 + (t : Int)) m st
theorem needsTo_snoc {P : Pl} {st : List Int} {j : Nat} {ys : List Value} {v : Int} (h : IntsAre ys (needsTo P st j)) (e : v = need P (0 + (j : Int)) 59 1 st) (t : Tok) : IntsAre (ys ++ [.int v t]) (needsTo P st (j + 1)) := by
  unfold needsTo
  rw [List.range_succ, List.map_append]
  subst e
  exact ints_snoc h _ t
theorem bools_snoc {g : Nat → Bool} {j : Nat} {ys : List Value} {b : Bool} (h : ys = ((List.range j).map g).map Value.bool) (e : b = g j) : ys ++ [.bool b] = ((List.range (j + 1)).map g).map Value.bool := by
  rw [List.range_succ, List.map_append, List.map_append, h, e]
  rfl
theorem took_due {P : Pl} {st : List Int} {m : Nat} (t : Nat) (hm : m ≤ 14) : takes P (0 + (t : Int)) m st = dueF P st m t := by
  rw [takes_iff P _ 59 m 1 st (by decide) (by omega)]
  unfold dueF needF
  congr 1
  exact propext ⟨fun h => ⟨h.1, by omega⟩, fun h => ⟨h.1, by omega⟩⟩
theorem tookTo_due {P : Pl} {st : List Int} {m : Nat} (hm : m ≤ 14) (j : Nat) : tookTo P st m j = dueTo P st m j := List.map_congr_left fun t _ => took_due t hm
theorem needsTo_at {P : Pl} {st : List Int} {j i : Nat} {ys : List Value} {v : Value} (h : IntsAre ys (needsTo P st j)) (e : ys[i]? = some v) : ∃ t, v = .int (needF P st i) t := by
  obtain ⟨n, t, rfl, h2⟩ := IntsAre.at h i v e
  unfold needsTo at h2
  rw [List.getElem?_map] at h2
  obtain ⟨k, hk, rfl⟩ := Option.map_eq_some_iff.mp h2
  obtain ⟨hi, rfl⟩ := List.getElem?_eq_some_iff.mp hk
  exact ⟨t, by simp⟩
section
variable {prog : Program} {w : World} {A : Around} {E : Value → Shared → Prop} {s : Shared} {h₀ : Heap} {L : Addr} {m : Str → Option Value} {env : Env}
open LCg
/-- a block with a test, by what holds between its turns -/
theorem restT_inv {ct elt : Expr} {x : Str} {scope : Scope} {cl : List (Str × Addr)} {S : List (Addr × Obj) → Prop} {P : Nat → Value → Prop} {Fin : List Value → List (Addr × Obj) → Prop} {n : Nat} (J : Nat → List Value → List (Addr × Obj) → Prop)
    (turn : ∀ i ys news, i < n → J i ys news → ∀ v I oI C oC D m₂ h tk (E' : Value → Shared → Prop), P i v → NsObj oC m₂ → m₂ x = some v → Fr h₀ L h m → News h₀ L h ((I, oI) :: (C, oC) :: (D, lst ys) :: news) → Off3 I C D news → ((@Ne Nat I C) ∧ (@Ne Nat I D) ∧ (@Ne Nat C D)) →
      wpAny (model prog w) A (isTrue ct (compEnvC scope cl C env) (eval ct (compEnvC scope cl C env))) (fun ok s' => if ok = true then
        wpAny (model prog w) A (eval elt (compEnvC scope cl C env)) (CompEnd h₀ L m { s with heap := h, toks := tk } I oI C oC D (lst ys) S (fun y news' => J (i + 1) (ys ++ [y]) news')) E' s'
        else CompEnd h₀ L m { s with heap := h, toks := tk } I oI C oC D (lst ys) S (fun _ news' => J (i + 1) ys news') Value.none s') E' { s with heap := h, toks := tk })
    (fin : ∀ ys news, J n ys news → Fin ys news) : ∀ k i ys news, i + k = n → J i ys news → LCt.CompRestT prog w A h₀ L m env ct elt x scope cl s S P Fin k i ys news
  | 0, i, ys, news, e, j => fin ys news (by have e' : i = n := e; exact e' ▸ j)
  | k + 1, i, ys, news, e, j => fun v I oI C oC D m₂ h tk E' hP hC hx F N off ne =>
      wpAny_mono (turn i ys news (by omega) j v I oI C oC D m₂ h tk E' hP hC hx F N off ne) (fun ok s' hy => by
        cases ok with
        | true =>
          simp only [if_true] at hy ⊢
          refine wpAny_mono hy (fun y s'' hz => ?_) fun _ _ z => z
          obtain ⟨h', tk', news', e1, F', N', off', hS, r⟩ := hz
          exact ⟨h', tk', news', e1, F', N', off', hS, restT_inv J turn fin k (i + 1) (ys ++ [y]) news' (by omega) r⟩
        | false =>
          simp only [Bool.false_eq_true, if_false] at hy ⊢
          obtain ⟨h', tk', news', e1, F', N', off', hS, r⟩ := hy
          exact ⟨h', tk', news', e1, F', N', off', hS, restT_inv J turn fin k (i + 1) ys news' (by omega) r⟩) fun _ _ z => z
/-- the tuple is among what is kept -/
def TupIn (t : Addr) (vs : Array Value) (news : List (Addr × Obj)) : Prop := ∃ o, (t, o) ∈ news ∧ o.cls = .type "tuple" ∧ ∃ n, o.data = .seq vs n
/-- [elt for x in (a, b, ..) if ct] -/
theorem comp_tupT {ct elt iter : Expr} {x : Str} {px : Pos} {scope : Scope} {cl : List (Str × Addr)} {pos : Pos} {Q : Value → Shared → Prop} (F₀ : Fr h₀ L s.heap m)
    (hclos : closureFor scope env = pure cl) (hcell : ∀ y ∈ scope.names, y.2 ≠ .cell) (hkind : scope.kind = .function)
    (hnames : ∀ y ∈ scope.names, y.2 = .local → scope.names.lookup y.1 = some .local) (hx : scope.names.lookup x = some .local)
    (h : wpAny (model prog w) A (eval iter env) (fun xv s₁ => Held (∃ t vs news, xv = .ref t ∧ A.handled = none ∧ Fr h₀ L s₁.heap m ∧ News h₀ L s₁.heap news ∧ TupIn t vs news ∧ vs.size ≤ sizeLine ∧
      ∀ g, LCt.CompRestT prog w A h₀ L m env ct elt x scope cl { s₁ with heap := g } (TupIn t vs) (fun i v => vs[i]? = some v) (FinE h₀ L m { s₁ with heap := g } Q) vs.size 0 [] news)) E s)
    (hs : ∀ x, foldedSetIterable iter env x = pure x := by intro _; rfl) :
    wpAny (model prog w) A (eval (.ListComp elt [⟨.Name x px, iter, [ct], 0⟩] scope pos) env) Q E s := by
  let _ := F₀
  rw [eval_ListComp]
  refine wpAny_comprehension_free (use := none) rfl hs hclos hkind hnames (wpAny_mono h (fun xv s₁ h₁ => ?_) fun _ _ e => e)
  obtain ⟨t, vs, news, rfl, hh, F, N, ⟨ot, hm, hct, nt, hdt⟩, hsz, R⟩ := h₁.out
  have ht : s₁.heap.IsTuple t vs := ⟨ot, (N _ hm).1, hct, nt, hdt⟩
  have hlt : t < s₁.heap.objs.size := Heap.lt_size (N _ hm).1
  refine wpAny_pyIter_tuple ht ?_
  have up : ∀ b o, s₁.heap.get? b = some o → (s₁.heap.push { cls := .type "tuple_iterator", data := .fields #[.ref t, .int 0 0] }).get? b = some o := fun b o e => Heap.get?_push_of_some _ e
  refine LCt.block_T (S := TupIn t vs) (Walks.tuple hh s₁.heap.objs.size t (Nat.ne_of_lt hlt) vs) hsz (fun i h st => by obtain ⟨o, e, _⟩ := st.1; exact ⟨o, e⟩) (fun i h h' o nw st e e' _ N' S => ⟨by obtain ⟨o', q, r⟩ := st.1; rw [e] at q; cases q; exact ⟨o, e', r⟩, ?_⟩) hcell hkind hx ⟨⟨_, Heap.get?_push_size _ rfl, rfl, rfl⟩, ht.at fun o e => up _ _ e⟩ (fun b hb => ?_)
    (F.keeps up) (N.grown up) (Nat.ne_of_lt F.ns.lt) (next_is_new F) (fun p hp => Nat.ne_of_lt (Heap.lt_size (N p hp).1)) ⟨ot, hm, hct, nt, hdt⟩ (R _) ?_
  · obtain ⟨o, hm, q⟩ := S
    exact ⟨o, (N' _ hm).1, q⟩
  · show b < (s₁.heap.push _).objs.size
    rw [Heap.size_push]
    rcases List.mem_cons.mp hb with rfl | hb
    · exact Nat.lt_succ_self _
    · rw [List.mem_singleton.mp hb]; exact Nat.lt_succ_of_lt hlt
  · intro D C h tk m' ys news' F' N' o1 hn hC₀ hD₀ hCL hDL hCD offC fin
    refine ⟨m', hn, fun h'' hs'' => fin D h'' tk (F'.change hs'' hCL hC₀) (fun p hp => ?_) o1⟩
    refine ⟨hs''.extBut _ _ ?_ (N' p hp).1, (N' p hp).2⟩
    rcases List.mem_cons.mp hp with rfl | hp
    · exact Ne.symm hCD
    · exact offC p hp
end
def pickTo (P : Pl) (st : List Int) (m j : Nat) : List Int := (([0, 3, 4] : List Nat).take j |>.filter (dueF P st m)).map Int.ofNat
theorem expd_pick {P : Pl} {st : List Int} {m : Nat} (hm : m ≤ 14) : expd P m st 5 = pickTo P st m 3 := by
  have h0 : takes P 0 m st = dueF P st m 0 := took_due (P := P) (st := st) 0 hm
  have h3 : takes P 3 m st = dueF P st m 3 := took_due (P := P) (st := st) 3 hm
  have h4 : takes P 4 m st = dueF P st m 4 := took_due (P := P) (st := st) 4 hm
  simp only [expd, pickTo]
  cases e0 : dueF P st m 0 <;> cases e3 : dueF P st m 3 <;> cases e4 : dueF P st m 4 <;> simp [h0, h3, h4, e0, e3, e4]
theorem pick_yes {P : Pl} {st : List Int} {m j k : Nat} {ys : List Value} (h : IntsAre ys (pickTo P st m j)) (e : ([0, 3, 4] : List Nat)[j]? = some k) (b : dueF P st m k = true) (t : Tok) : IntsAre (ys ++ [.int (k : Int) t]) (pickTo P st m (j + 1)) := by
  unfold pickTo
  rw [List.take_succ, e, List.filter_append, List.map_append]
  simp only [Option.toList_some, List.filter_cons, b, if_true, List.filter_nil, List.map_cons, List.map_nil]
  exact ints_snoc h _ t
theorem pick_no {P : Pl} {st : List Int} {m j k : Nat} {ys : List Value} (h : IntsAre ys (pickTo P st m j)) (e : ([0, 3, 4] : List Nat)[j]? = some k) (b : dueF P st m k = false) : IntsAre ys (pickTo P st m (j + 1)) := by
  unfold pickTo
  rw [List.take_succ, e, List.filter_append, List.map_append]
  simp only [Option.toList_some, List.filter_cons, b, Bool.false_eq_true, if_false, List.filter_nil, List.map_nil, List.append_nil]
  exact h
theorem due_at {P : Pl} {st : List Int} {m k : Nat} (hk : k < 5) : (((List.range 5).map (dueF P st m)).map Value.bool).toArray[((k : Int)).toNat]? = some (.bool (dueF P st m k)) := by
  simp [hk]
local macro_rules | `(tactic| k_qdec) => `(tactic| first | (rw [PySem.W.Fast.te17448422675489707002]; kernel_rfl) | (rw [PySem.W.Fast.te2458874890965802552]; kernel_rfl))
local macro_rules | `(tactic| walk_at "call ref") => `(tactic| (k_here; (first | (with_reducible show wpAny _ _ (call (Value.ref 336) _ _) _ _ _) | (with_reducible show wpAny _ _ (call (Value.ref 343) _ _) _ _ _) | (with_reducible show wpAny _ _ (call (Value.ref 350) _ _) _ _ _) | (with_reducible show wpAny _ _ (call (Value.ref 206) _ _) _ _ _) | (with_reducible show wpAny _ _ (call (Value.ref 213) _ _) _ _ _)); refine Held.out ?_))
local macro_rules | `(tactic| walk_at "subscriptTail") => `(tactic| (k_here; (with_reducible show wpAny _ _ (subscriptTail _ _ (Value.ref _) (Value.int _ _)) _ _ _); k_dflt (refine' tup_sub (led_tup ?qN ?qx ?qs) ?qa ?qb ?qy ?_; (case qN => k_asm); (case qx => assumption); (case qs => (intro _ hp; repeat' (first | exact hp | refine List.Mem.tail _ ?_))); (case qa => decide); (case qb => decide); (case qy => exact rfl); k_whole)))
local macro_rules | `(tactic| walk_at "exec For Name Tuple cons nil") => `(tactic| (k_here; (with_reducible show wpAny _ _ (exec (Stmt.For (Expr.Name (PySem.Str.ofString "most") _) (Expr.Tuple _ _ _) _ _ _) _) _ _ _); k_dflt (refine' ForT_H ?qF ?qE ?_; (case qF => k_asm); (case qE => exact passes_false)); (try k_fold)))
local macro_rules | `(tactic| walk_at "call builtin:len") => `(tactic| (k_here; (with_reducible show wpAny _ _ (call (Value.builtin "len") [Value.ref _]) _ _ _); k_dflt (refine' len_led ?qN ?qx ?qs ?qn ?qz ?_; (case qN => k_asm); (case qx => assumption); (case qs => (intro _ hp; repeat' (first | exact hp | refine List.Mem.tail _ ?_))); (case qn => assumption); (case qz => omega); k_whole)))
local macro_rules | `(tactic| walk_at "compareOp NotEq ref ref") => `(tactic| (k_here; refine Held.out ?_))
local macro_rules | `(tactic| walk_at "compareOp Eq ref ref") => `(tactic| (k_here; refine Held.out ?_))
local macro_rules | `(tactic| walk_at "eval ListComp") => `(tactic| (k_here; (with_reducible show wpAny _ _ (eval (Expr.ListComp (Expr.Name (PySem.Str.ofString "terminal") _) _ _ _) _) _ _ _); k_dflt (refine comp_tupT (F₀ := by k_asm) (by with_unfolding_all rfl) (by decide) (by rfl) (by decide) (by rfl) ?_); (try k_fold)))
local macro_rules | `(tactic| walk_at "subscriptTail") => `(tactic| (k_here; (with_reducible show wpAny _ _ (subscriptTail _ (Expr.Name (PySem.Str.ofString "terminal") _) (Value.ref _) (Value.int _ _)) _ _ _); k_dflt (refine' item_led ?qF ?qN ?ql ?qx ?qa ?qb ?_; (case qF => k_asm); (case qN => k_asm); (case ql => k_mem); (case qx => assumption); (case qa => omega); (case qb => omega); k_whole)))
theorem fresh_law : True := by
  w_top off
  trivial
set_option maxHeartbeats 16000000 in
theorem law_holds : PySem.Challenge.rw_on0167_01.Holds := hd (by
  k_go0
  refine wpAny_mono (E := fun _ _ => False) ?_ (fun _ _ q => q) (fun _ _ e => e.elim)
  try k_fold
  rename_i w s0 s1 mg mb G Y fa o pm doc ho hg KX X V GL T B TE TW a5 a4 M a3 a2 hcd ns hs hlay hLb hr1 hl2 al1 al2 la vs al3 hL ra w1 r0 hI hr hlen _ K0 hD h1 tk1 F c7 c6 c5 c4 c3 c2 c1 d7 d6 d5 d4 d3 d2 d1 N X0
  replace F : Fr s1.heap s1.heap.objs.size h1 (fun _ => none) := F
  replace d7 : c7.data = .cell none := d7
  replace d6 : c6.data = .cell none := d6
  replace d5 : c5.data = .cell none := d5
  replace d4 : c4.data = .cell none := d4
  replace d3 : c3.data = .cell none := d3
  replace d2 : c2.data = .cell none := d2
  replace d1 : c1.data = .cell (some (.ref la)) := d1
  clear X0 hcd hD hs hlay hLb hr1 hl2 ra w1 r0 hr ho o pm doc
  replace K0 : Below callerA s1.heap [] s1.heap := K0
  obtain ⟨dp, un, gd, hc, hdp, hun⟩ : ∃ dp un gd, callerA = AA dp un gd [] ∧ dp + 50 < recursionLimit ∧ un + 1000 < cLine := ⟨301, 4, some [], rfl, by decide +kernel, by decide +kernel⟩
  rw [hc] at K0 ⊢
  clear hc
  have hlen' : ns.length ≤ 63 := by omega
  try dsimp only
  k_steps
  refine ⟨?_⟩
  refine plan_spec (vs := vs) (ns := ns) (Stt.of (by k_asm) (by k_asm) (by k_asm) (by k_asm) rfl rfl) (by show dp + 1 + 5 < _; omega) (by show un + 3 + 100 < _; omega) (hL.at fun o e => F.keep _ _ e) hI (by omega) ?_
  intro P n pl h2 tk2 tl rows gotos defs rules kp nin htup hplan
  have F2 := F.keeps kp
  have N2 := NewIn.news F N kp nin
  have o2 : OwnOff tl [(s1.heap.objs.size + 1), (s1.heap.objs.size + 1 + 1), (s1.heap.objs.size + 1 + 1 + 1), (s1.heap.objs.size + 1 + 1 + 1 + 1), (s1.heap.objs.size + 1 + 1 + 1 + 1 + 1), (s1.heap.objs.size + 1 + 1 + 1 + 1 + 1 + 1), (s1.heap.objs.size + 1 + 1 + 1 + 1 + 1 + 1 + 1)] := newIn_off N nin (by intro b hb; simp only [List.mem_cons, List.not_mem_nil, or_false] at hb; rcases hb with rfl | rfl | rfl | rfl | rfl | rfl | rfl <;> first | exact ⟨_, .head _⟩ | exact ⟨_, .tail _ (.head _)⟩ | exact ⟨_, .tail _ (.tail _ (.head _))⟩ | exact ⟨_, .tail _ (.tail _ (.tail _ (.head _)))⟩ | exact ⟨_, .tail _ (.tail _ (.tail _ (.tail _ (.head _))))⟩ | exact ⟨_, .tail _ (.tail _ (.tail _ (.tail _ (.tail _ (.head _)))))⟩ | exact ⟨_, .tail _ (.tail _ (.tail _ (.tail _ (.tail _ (.tail _ (.head _))))))⟩)
  clear F N kp nin
  simp only [List.cons_append, List.nil_append] at N2
  k_unmd
  k_fold
  k_steps
  refine ⟨?_⟩
  clear d2
  rename_i h3 c2' F3 N3 d2
  obtain ⟨uvs, hul, hua, hulen⟩ := id hplan.rules
  have s3 : ∀ p ∈ tl, p ∈ ((s1.heap.objs.size + 1 + 1 + 1 + 1 + 1 + 1 + 1), c7) :: ((s1.heap.objs.size + 1 + 1 + 1 + 1 + 1 + 1), c6) :: ((s1.heap.objs.size + 1 + 1 + 1 + 1 + 1), c5) :: ((s1.heap.objs.size + 1 + 1 + 1 + 1), c4) :: ((s1.heap.objs.size + 1 + 1 + 1), c3) :: ((s1.heap.objs.size + 1 + 1), c2') :: ((s1.heap.objs.size + 1), c1) :: tl := fun p hp => .tail _ (.tail _ (.tail _ (.tail _ (.tail _ (.tail _ (.tail _ hp))))))
  refine tabs_spec (uvs := uvs) (rs := P.rules) (Stt.of (by k_asm) (by k_asm) (by k_asm) (by k_asm) rfl rfl) (by show dp + 1 + 20 < _; omega) (by show un + 3 + 200 < _; omega) (led_list N3 hul s3) (hua.mono fun _ _ z => z.mono (led_kp N3 s3)) hulen ?_
  intro x dx es k lf lvs ln nvs h4 tk4 kp nin i1 i2 q1 q2 q3 q4 q5 q6 q7 q8 q9 q10 q11 q12
  have hq : TabQ es rows gotos defs lf ln lvs nvs P := ⟨i1, i2, q1, q2, q3, q4, q5, q6, q7, q8, q9, q10, q11, q12⟩
  have F4 := F3.keeps kp
  have N4 := NewIn.news F3 N3 kp nin
  have o5 : OwnOff ((x, instObj 197 dx) :: (dx, dictOf es k) :: (lf, LCg.lst lvs) :: (ln, LCg.lst nvs) :: tl) [(s1.heap.objs.size + 1), (s1.heap.objs.size + 1 + 1), (s1.heap.objs.size + 1 + 1 + 1), (s1.heap.objs.size + 1 + 1 + 1 + 1), (s1.heap.objs.size + 1 + 1 + 1 + 1 + 1), (s1.heap.objs.size + 1 + 1 + 1 + 1 + 1 + 1), (s1.heap.objs.size + 1 + 1 + 1 + 1 + 1 + 1 + 1)] := off_app (l := [(x, instObj 197 dx), (dx, dictOf es k), (lf, LCg.lst lvs), (ln, LCg.lst nvs)]) (newIn_off N3 nin (by intro b hb; simp only [List.mem_cons, List.not_mem_nil, or_false] at hb; rcases hb with rfl | rfl | rfl | rfl | rfl | rfl | rfl <;> first | exact ⟨_, .head _⟩ | exact ⟨_, .tail _ (.head _)⟩ | exact ⟨_, .tail _ (.tail _ (.head _))⟩ | exact ⟨_, .tail _ (.tail _ (.tail _ (.head _)))⟩ | exact ⟨_, .tail _ (.tail _ (.tail _ (.tail _ (.head _))))⟩ | exact ⟨_, .tail _ (.tail _ (.tail _ (.tail _ (.tail _ (.head _)))))⟩ | exact ⟨_, .tail _ (.tail _ (.tail _ (.tail _ (.tail _ (.tail _ (.head _))))))⟩)) o2
  have N5 := News.sub N4 (l := ((s1.heap.objs.size + 1 + 1 + 1 + 1 + 1 + 1 + 1), c7) :: ((s1.heap.objs.size + 1 + 1 + 1 + 1 + 1 + 1), c6) :: ((s1.heap.objs.size + 1 + 1 + 1 + 1 + 1), c5) :: ((s1.heap.objs.size + 1 + 1 + 1 + 1), c4) :: ((s1.heap.objs.size + 1 + 1 + 1), c3) :: ((s1.heap.objs.size + 1 + 1), c2') :: ((s1.heap.objs.size + 1), c1) :: (x, instObj 197 dx) :: (dx, dictOf es k) :: (lf, LCg.lst lvs) :: (ln, LCg.lst nvs) :: tl) (fun p hp => by
    simp only [List.mem_append, List.mem_cons, List.not_mem_nil, or_false] at hp ⊢
    grind)
  generalize hT5 : (x, instObj 197 dx) :: (dx, dictOf es k) :: (lf, LCg.lst lvs) :: (ln, LCg.lst nvs) :: tl = tl5 at o5 N5
  have m1 : (x, instObj 197 dx) ∈ tl5 := hT5 ▸ .head _
  have m2 : (dx, dictOf es k) ∈ tl5 := hT5 ▸ .tail _ (.head _)
  have m3 : (lf, LCg.lst lvs) ∈ tl5 := hT5 ▸ .tail _ (.tail _ (.head _))
  have m4 : (ln, LCg.lst nvs) ∈ tl5 := hT5 ▸ .tail _ (.tail _ (.tail _ (.head _)))
  have hs5 : ∀ p ∈ tl, p ∈ tl5 := fun p hp => hT5 ▸ .tail _ (.tail _ (.tail _ (.tail _ hp)))
  replace hplan : PlanR w (inL tl5) P n rows gotos defs rules := hplan.mono fun _ _ h => hs5 _ h
  replace htup : TupR (inL tl5) pl [.ref rows, .ref gotos, .ref defs, .ref rules] := htup.mono fun _ _ h => hs5 _ h
  clear hs5 hT5 kp nin N4 F3 N3 s3 i1 i2 q1 q2 q3 q4 q5 q6 q7 q8 q9 q10 q11 q12 hul hua hulen o2
  obtain ⟨rvs, hrl, hra, hrn⟩ := id hplan.rows
  have hvl : rvs.length = n := by rw [hra.length, hrn]
  have hn1 := hplan.n1
  have hn4 := hplan.n4
  try k_unmd
  k_fold
  k_steps
  rename_i hA oT dT hB oC dC la0 hC2 l1 v15 t15 hD tkD hv0 hv1 FD ND hE tkE t1 u1 v1 hr FE NE KE
  obtain ⟨m, rfl⟩ : ∃ m : Nat, v15 = (m : Int) := ⟨v15.toNat, by omega⟩
  have hm3 : m ≤ 3 := by omega
  refine ⟨?_⟩
  refine LCg.CompSrc.range (n := m) (by rfl) FE NE hr (small_le (by omega)) (size_le (by omega)) (line_le (by omega)) ?_
  intro g'
  refine rest_inv (n := m) (fun j ys' news' => news' = (la0, W.listOf #[.int 0 tk] 0) :: ((s1.heap.objs.size + 1 + 1 + 1 + 1 + 1 + 1 + 1), c7) :: ((s1.heap.objs.size + 1 + 1 + 1 + 1 + 1 + 1), c6) :: ((s1.heap.objs.size + 1 + 1 + 1 + 1 + 1), c5) :: ((s1.heap.objs.size + 1 + 1 + 1 + 1), oC) :: ((s1.heap.objs.size + 1 + 1 + 1), oT) :: ((s1.heap.objs.size + 1 + 1), c2') :: ((s1.heap.objs.size + 1), c1) :: tl5 ∧ ∃ st, IntsAre ys' st ∧ st.length = j ∧ ∀ z ∈ st, 0 ≤ z ∧ z < (n : Int)) ?stTurn ?stFin m 0 [] _ (by omega) ⟨rfl, [], .nil, rfl, fun _ h => nomatch h⟩
  case stTurn =>
    clear FD ND FE NE KE hr qk
    rintro j ys' _ hj ⟨rfl, st, hst, hsl, hsc⟩ v' I' oI' C' oC' D' m₂ h' tk' E₂ ⟨t', rfl⟩ hC' hx' F' N' off' ne'
    try dsimp only
    try k_unmd
    try k_fold
    k_steps
    rename_i v1 t1 h1 k1 z0 z1 F1 N1
    exact LCg.CompEnd.intro F1 N1 _ (fun _ hh => hh) off' trivial ⟨rfl, st ++ [v1], ints_snoc hst v1 t1, by simp [hsl], all_snoc hsc ⟨z0, z1⟩⟩
  case stFin =>
    rintro ys' _ ⟨rfl, st, hst, hsl, hsc⟩
    clear FD ND FE NE KE hr qk
    intro D1 h5 tk5 F5 N5 o5
    try dsimp only
    try k_unmd
    try k_fold
    k_steps
    clear o5
    rename_i S ws h6 F6 N6 hws l6
    have N7 := News.sub N6 (l := (S, W.listOf ws.toArray 0) :: ((s1.heap.objs.size + 1 + 1 + 1 + 1 + 1 + 1 + 1), c7) :: ((s1.heap.objs.size + 1 + 1 + 1 + 1 + 1 + 1), c6) :: ((s1.heap.objs.size + 1 + 1 + 1 + 1 + 1), c5) :: ((s1.heap.objs.size + 1 + 1 + 1 + 1), oC) :: ((s1.heap.objs.size + 1 + 1 + 1), oT) :: ((s1.heap.objs.size + 1 + 1), c2') :: ((s1.heap.objs.size + 1), c1) :: tl5) (fun p hp => by
      simp only [List.mem_cons] at hp ⊢
      grind)
    clear N6
    have hS : StOk n (0 :: st) := ⟨by simp, fun z hz => by
      rcases List.mem_cons.mp hz with rfl | hz
      · omega
      · exact hsc z hz⟩
    have hSl : (0 :: st).length ≤ 4 := by rw [List.length_cons]; omega
    replace hws : IntsAre ws (0 :: st) := hws
    have hwl := hws.length
    clear hst hsl hsc hv0 hv1
    obtain ⟨lS7, lS6, lS5, lS4, lS3, lS2, lS1, lSt⟩ := l6.2.2
    clear l6
    k_unmd
    k_steps
    rename_i hF oS dS tkx KP ck hG lK hH FH NH hJ tkJ t1 u1 v1 hr FJ NJ KJ
    obtain ⟨lKS, lK7, lK6, lK5, lK4, lK3, lK2, lK1, lKt⟩ := lK
    refine ⟨?_⟩
    refine LCg.CompSrc.range (n := 5) (by rfl) FJ NJ hr (by decide) (by rfl) (line_le (by omega)) ?_
    intro g2
    refine rest_inv (n := 5) (fun j ys' news' => news' = (KP, W.listOf ws.toArray ck) :: (S, W.listOf ws.toArray 0) :: ((s1.heap.objs.size + 1 + 1 + 1 + 1 + 1 + 1 + 1), c7) :: ((s1.heap.objs.size + 1 + 1 + 1 + 1 + 1 + 1), c6) :: ((s1.heap.objs.size + 1 + 1 + 1 + 1 + 1), oS) :: ((s1.heap.objs.size + 1 + 1 + 1 + 1), oC) :: ((s1.heap.objs.size + 1 + 1 + 1), oT) :: ((s1.heap.objs.size + 1 + 1), c2') :: ((s1.heap.objs.size + 1), c1) :: tl5 ∧ IntsAre ys' (needsTo P (0 :: st) j)) ?ndTurn ?ndFin 5 0 [] _ (by omega) ⟨rfl, .nil⟩
    case ndTurn =>
      clear FJ NJ KJ FH NH hr qk
      rintro j ys' _ hj ⟨rfl, hys⟩ v' I' oI' C' oC' D' m₂ h' tk' E₂ ⟨t', rfl⟩ hC' hx' F' N' off' ne'
      try dsimp only
      try k_unmd
      try k_fold
      k_steps
      refine ⟨?_⟩
      have sub : ∀ p ∈ tl5, p ∈ (I', oI') :: (C', oC') :: (D', LCg.lst ys') :: (KP, W.listOf ws.toArray ck) :: (S, W.listOf ws.toArray 0) :: ((s1.heap.objs.size + 1 + 1 + 1 + 1 + 1 + 1 + 1), c7) :: ((s1.heap.objs.size + 1 + 1 + 1 + 1 + 1 + 1), c6) :: ((s1.heap.objs.size + 1 + 1 + 1 + 1 + 1), oS) :: ((s1.heap.objs.size + 1 + 1 + 1 + 1), oC) :: ((s1.heap.objs.size + 1 + 1 + 1), oT) :: ((s1.heap.objs.size + 1 + 1), c2') :: ((s1.heap.objs.size + 1), c1) :: tl5 := fun p hp => by repeat' (first | exact hp | refine List.Mem.tail _ ?_)
      refine need_spec (P := P) (n := n) (st₀ := 0 :: st) (vs₀ := ws) (Stt.of (by k_asm) (by k_asm) (by k_asm) (by k_asm) rfl rfl) (by show dp + 1 + 4 < _; omega) (htup.mono (led_kp N' sub)) (hplan.mono (led_kp N' sub)) (News.isList N' (.tail _ (.tail _ (.tail _ (.tail _ (.head _)))))) hws hS hSl (by omega) (by omega) ?_
      intro v tv h9 tk9 hv kp
      exact LCg.CompEnd.intro (F'.keeps kp) (N'.grown kp) _ (fun _ hh => hh) off' trivial ⟨rfl, needsTo_snoc hys hv tv⟩
    case ndFin =>
      rintro nvs5 _ ⟨rfl, hys⟩
      clear FJ NJ KJ FH NH hr qk
      intro ND h7 tk7 F7 N7 o7
      try dsimp only
      try k_unmd
      try k_fold
      k_steps
      rename_i TP h8 F8 N8 lT
      k_unmd
      k_steps
      refine ⟨?_⟩
      have hT8 : h8.IsTuple TP [Value.int 0 tk7, Value.int 1 (tk7 + 1), Value.int 2 (tk7 + 1 + 1), Value.int 3 (tk7 + 1 + 1 + 1), Value.int 4 (tk7 + 1 + 1 + 1 + 1), Value.int 7 (tk7 + 1 + 1 + 1 + 1 + 1), Value.int 14 (tk7 + 1 + 1 + 1 + 1 + 1 + 1)].toArray := ⟨_, (N8 _ (.head _)).1, rfl, _, rfl⟩
      obtain ⟨oNK, oNS, oN7, oN6, oN5, oN4, oN3, oN2, oN1, oNt⟩ := o7
      obtain ⟨J, hJ⟩ : ∃ J : Nat → (Str → Option Value) → List (Addr × Obj) → Prop, ∀ i nm nx, J i nm nx ↔ (nm (Str.ofString "kept") = some (.ref KP) ∧ nm (Str.ofString "needs") = some (.ref ND) ∧ ∃ oD oM, nx = (ND, LCg.lst nvs5) :: (KP, W.listOf ws.toArray ck) :: (S, W.listOf ws.toArray 0) :: ((s1.heap.objs.size + 1 + 1 + 1 + 1 + 1 + 1 + 1), oD) :: ((s1.heap.objs.size + 1 + 1 + 1 + 1 + 1 + 1), oM) :: ((s1.heap.objs.size + 1 + 1 + 1 + 1 + 1), oS) :: ((s1.heap.objs.size + 1 + 1 + 1 + 1), oC) :: ((s1.heap.objs.size + 1 + 1 + 1), oT) :: ((s1.heap.objs.size + 1 + 1), c2') :: ((s1.heap.objs.size + 1), c1) :: tl5 ∧ (∃ v, oD.data = .cell v) ∧ (∃ v, oM.data = .cell v)) := ⟨_, fun _ _ _ => Iff.rfl⟩
      refine' tup_turns J
        rfl hT8 F8 (fun p hp => N8 p (.tail _ hp)) (allLt_ne lT) ((hJ _ _ _).mpr ⟨rfl, rfl, c7, c6, rfl, ⟨_, d7⟩, ⟨_, d6⟩⟩) ?mTurn ?mDone
      case mTurn =>
        clear F8 N8 hT8 lT qk
        rintro i v m₁ nx h tk own hi hv hoI hj9 F7 N7
        obtain ⟨hm1, hm2, oD, oM, rfl, ⟨vD, hD⟩, ⟨vM, hM⟩⟩ := (hJ _ _ _).mp hj9
        clear hj9
        obtain ⟨mm, u, rfl, hmm⟩ : ∃ (mm : Nat) (u : Tok), v = .int (mm : Int) u ∧ mm ≤ 14 := by
          rcases (show i = 0 ∨ i = 1 ∨ i = 2 ∨ i = 3 ∨ i = 4 ∨ i = 5 ∨ i = 6 by simp only [List.length_cons, List.length_nil] at hi; omega) with rfl | rfl | rfl | rfl | rfl | rfl | rfl
          · exact ⟨0, _, (Option.some.inj hv).symm, by decide⟩
          · exact ⟨1, _, (Option.some.inj hv).symm, by decide⟩
          · exact ⟨2, _, (Option.some.inj hv).symm, by decide⟩
          · exact ⟨3, _, (Option.some.inj hv).symm, by decide⟩
          · exact ⟨4, _, (Option.some.inj hv).symm, by decide⟩
          · exact ⟨7, _, (Option.some.inj hv).symm, by decide⟩
          · exact ⟨14, _, (Option.some.inj hv).symm, by decide⟩
        change Fr s1.heap s1.heap.objs.size h _ at F7
        change News s1.heap s1.heap.objs.size h _ at N7
        rw [as2 hm1 hm2] at F7
        simp only [List.cons_append, List.nil_append] at N7
        have oW : OwnOff own [(s1.heap.objs.size + 1), (s1.heap.objs.size + 1 + 1), (s1.heap.objs.size + 1 + 1 + 1), (s1.heap.objs.size + 1 + 1 + 1 + 1), (s1.heap.objs.size + 1 + 1 + 1 + 1 + 1), (s1.heap.objs.size + 1 + 1 + 1 + 1 + 1 + 1), (s1.heap.objs.size + 1 + 1 + 1 + 1 + 1 + 1 + 1)] := fun p hp b hb => tboff_heads hoI p hp b (by
          simp only [List.map_cons, List.mem_cons, List.not_mem_nil, or_false] at hb ⊢
          grind)
        have oU := off_app o5 oW
        have subU : ∀ p ∈ tl5, p ∈ tl5 ++ own := fun p hp => List.mem_append_left _ hp
        generalize hU : tl5 ++ own = tail at N7 oU subU
        clear hv hi oW
        try dsimp only
        try k_unmd
        try k_fold
        k_steps
        rename_i hP oP FP NP dP
        have hn5 : nvs5.toArray.size = 5 := by rw [List.size_toArray, hys.length]; rfl
        refine ⟨?_⟩
        refine LCg.CompSrc.ledger (ax := ND) (its := nvs5.toArray) (k := nvs5.length) (by rfl) FP NP (.head _) (by rw [hn5]; exact line_le (by omega)) ?_
        intro g3
        refine rest_inv (n := 5) (fun j ys' news' => news' = (ND, LCg.lst nvs5) :: (KP, W.listOf ws.toArray ck) :: (S, W.listOf ws.toArray 0) :: ((s1.heap.objs.size + 1 + 1 + 1 + 1 + 1 + 1 + 1), oD) :: ((s1.heap.objs.size + 1 + 1 + 1 + 1 + 1 + 1), oP) :: ((s1.heap.objs.size + 1 + 1 + 1 + 1 + 1), oS) :: ((s1.heap.objs.size + 1 + 1 + 1 + 1), oC) :: ((s1.heap.objs.size + 1 + 1 + 1), oT) :: ((s1.heap.objs.size + 1 + 1), c2') :: ((s1.heap.objs.size + 1), c1) :: tail ∧ ys' = ((List.range j).map (dueF P (0 :: st) mm)).map Value.bool) ?dTurn ?dFin nvs5.toArray.size 0 [] _ (by rw [hn5]) ⟨rfl, rfl⟩
        case dTurn =>
          clear FP NP qk
          rintro j ys' _ hj ⟨rfl, rfl⟩ v' I' oI' C' oC' D' m₂ h' tk' E₂ hv' hC' hx' F' N' off' ne'
          obtain ⟨t', rfl⟩ := needsTo_at hys (by simpa using hv')
          have hdue : dueF P (0 :: st) mm j = decide (0 < needF P (0 :: st) j ∧ needF P (0 :: st) j ≤ (mm : Int)) := rfl
          generalize needF P (0 :: st) j = wj at hv' hx' hdue
          try dsimp only
          try k_unmd
          try k_fold
          k_steps
          all_goals exact LCg.CompEnd.intro F' N' _ (fun _ hh => hh) off' (.inr ⟨_, .head _, rfl, _, rfl⟩) ⟨rfl, bools_snoc rfl (by rw [hdue]; first | exact decide_eq_decide.mpr (by omega) | exact (decide_eq_false (by omega)).symm | exact (decide_eq_true (by omega)).symm)⟩
        case dFin =>
          rintro ys' _ ⟨rfl, rfl⟩
          clear FP NP qk
          intro DU h9 tk9 F9 N9 o9
          obtain ⟨oDN, oDK, oDS, oD7, oD6, oD5, oD4, oD3, oD2, oD1, oDt⟩ := o9
          try dsimp only
          try k_unmd
          try k_fold
          k_steps
          rename_i hQ oQ FQ NQ dQ hR tkR t1 u1 v1 hr FR NR KR
          refine ⟨?_⟩
          refine LCg.CompSrc.range (n := 5) (by rfl) FR NR hr (by decide) (by rfl) (line_le (by omega)) ?_
          intro g4
          refine rest_inv (n := 5) (fun j ys' news' => news' = (DU, LCg.lst (((List.range 5).map (dueF P (0 :: st) mm)).map Value.bool)) :: (ND, LCg.lst nvs5) :: (KP, W.listOf ws.toArray ck) :: (S, W.listOf ws.toArray 0) :: ((s1.heap.objs.size + 1 + 1 + 1 + 1 + 1 + 1 + 1), oQ) :: ((s1.heap.objs.size + 1 + 1 + 1 + 1 + 1 + 1), oP) :: ((s1.heap.objs.size + 1 + 1 + 1 + 1 + 1), oS) :: ((s1.heap.objs.size + 1 + 1 + 1 + 1), oC) :: ((s1.heap.objs.size + 1 + 1 + 1), oT) :: ((s1.heap.objs.size + 1 + 1), c2') :: ((s1.heap.objs.size + 1), c1) :: tail ∧ ys' = ((List.range j).map (fun t : Nat => takes P (0 + (t : Int)) mm (0 :: st))).map Value.bool) ?wTurn ?wFin 5 0 [] _ (by omega) ⟨rfl, rfl⟩
          case wTurn =>
            clear FR NR KR FQ NQ hr qk
            rintro j ys' _ hj ⟨rfl, rfl⟩ v' I' oI' C' oC' D' m₂ h' tk' E₂ ⟨t', rfl⟩ hC' hx' F' N' off' ne'
            try dsimp only
            try k_unmd
            try k_fold
            k_steps
            refine ⟨?_⟩
            have sub : ∀ p ∈ tl5, p ∈ (I', oI') :: (C', oC') :: (D', LCg.lst (((List.range j).map (fun t : Nat => takes P (0 + (t : Int)) mm (0 :: st))).map Value.bool)) :: (DU, LCg.lst (((List.range 5).map (dueF P (0 :: st) mm)).map Value.bool)) :: (ND, LCg.lst nvs5) :: (KP, W.listOf ws.toArray ck) :: (S, W.listOf ws.toArray 0) :: ((s1.heap.objs.size + 1 + 1 + 1 + 1 + 1 + 1 + 1), oQ) :: ((s1.heap.objs.size + 1 + 1 + 1 + 1 + 1 + 1), oP) :: ((s1.heap.objs.size + 1 + 1 + 1 + 1 + 1), oS) :: ((s1.heap.objs.size + 1 + 1 + 1 + 1), oC) :: ((s1.heap.objs.size + 1 + 1 + 1), oT) :: ((s1.heap.objs.size + 1 + 1), c2') :: ((s1.heap.objs.size + 1), c1) :: tail := fun p hp => by
              have hp := subU p hp
              repeat' (first | exact hp | refine List.Mem.tail _ ?_)
            refine wt_spec (P := P) (n := n) (es := es) (st₀ := 0 :: st) (vs₀ := ws) (Stt.of (by k_asm) (by k_asm) (by k_asm) (by k_asm) rfl rfl) (by show dp + 1 + 5 < _; omega) (hq.at hplan N' sub (sub _ m1) (sub _ m2) (sub _ m3) (sub _ m4)) (News.isList N' (.tail _ (.tail _ (.tail _ (.tail _ (.tail _ (.tail _ (.head _)))))))) hws hS hSl (by omega) (by omega) hmm ?_
            intro v h10 tk10 hv kp
            exact LCg.CompEnd.intro (F'.keeps kp) (N'.grown kp) _ (fun _ hh => hh) off' trivial ⟨rfl, bools_snoc rfl hv⟩
          case wFin =>
            rintro ys' _ ⟨rfl, rfl⟩
            clear FR NR KR FQ NQ hr qk
            intro WT h11 tk11 F11 N11 o11
            obtain ⟨oWD, oWN, oWK, oWS, oW7, oW6, oW5, oW4, oW3, oW2, oW1, oWt⟩ := o11
            try dsimp only
            try k_unmd
            try k_fold
            k_steps
            refine ⟨?_⟩
            refine ne_bools (x := (List.range 5).map fun t : Nat => takes P (0 + (t : Int)) mm (0 :: st)) (y := (List.range 5).map (dueF P (0 :: st) mm)) (News.isList N11 (.head _)) (News.isList N11 (.tail _ (.head _))) (by show un + 3 + 64 < _; omega) (List.map_congr_left fun t _ => took_due t hmm) ?_
            try dsimp only
            try k_unmd
            try k_fold
            k_steps
            refine ⟨?_⟩
            have N12 : News s1.heap s1.heap.objs.size h11 ((DU, LCg.lst (((List.range 5).map (dueF P (0 :: st) mm)).map Value.bool)) :: (ND, LCg.lst nvs5) :: (KP, W.listOf ws.toArray ck) :: (S, W.listOf ws.toArray 0) :: ((s1.heap.objs.size + 1 + 1 + 1 + 1 + 1 + 1 + 1), oQ) :: ((s1.heap.objs.size + 1 + 1 + 1 + 1 + 1 + 1), oP) :: ((s1.heap.objs.size + 1 + 1 + 1 + 1 + 1), oS) :: ((s1.heap.objs.size + 1 + 1 + 1 + 1), oC) :: ((s1.heap.objs.size + 1 + 1 + 1), oT) :: ((s1.heap.objs.size + 1 + 1), c2') :: ((s1.heap.objs.size + 1), c1) :: tail) := fun p hp => N11 p (.tail _ hp)
            clear N11 oWD oWN oWK oWS oW7 oW6 oW5 oW4 oW3 oW2 oW1 oWt
            have sub : ∀ p ∈ tl5, p ∈ (DU, LCg.lst (((List.range 5).map (dueF P (0 :: st) mm)).map Value.bool)) :: (ND, LCg.lst nvs5) :: (KP, W.listOf ws.toArray ck) :: (S, W.listOf ws.toArray 0) :: ((s1.heap.objs.size + 1 + 1 + 1 + 1 + 1 + 1 + 1), oQ) :: ((s1.heap.objs.size + 1 + 1 + 1 + 1 + 1 + 1), oP) :: ((s1.heap.objs.size + 1 + 1 + 1 + 1 + 1), oS) :: ((s1.heap.objs.size + 1 + 1 + 1 + 1), oC) :: ((s1.heap.objs.size + 1 + 1 + 1), oT) :: ((s1.heap.objs.size + 1 + 1), c2') :: ((s1.heap.objs.size + 1), c1) :: tail := fun p hp => by
              have hp := subU p hp
              repeat' (first | exact hp | refine List.Mem.tail _ ?_)
            refine ee_spec (P := P) (n := n) (es := es) (st₀ := 0 :: st) (vs₀ := ws) (Stt.of (by k_asm) (by k_asm) (by k_asm) (by k_asm) rfl rfl) (by show dp + 1 + 6 < _; omega) (hq.at hplan N12 sub (sub _ m1) (sub _ m2) (sub _ m3) (sub _ m4)) (News.isList N12 (.tail _ (.tail _ (.tail _ (.head _))))) hws hS hSl hmm ?_
            intro EE evs ke h13 tk13 hev nin kp
            have F13 := F11.keeps kp
            have N13 := NewIn.news F11 N12 kp nin
            have N14 := News.sub N13 (l := (EE, W.listOf evs.toArray ke) :: (DU, LCg.lst (((List.range 5).map (dueF P (0 :: st) mm)).map Value.bool)) :: (ND, LCg.lst nvs5) :: (KP, W.listOf ws.toArray ck) :: (S, W.listOf ws.toArray 0) :: ((s1.heap.objs.size + 1 + 1 + 1 + 1 + 1 + 1 + 1), oQ) :: ((s1.heap.objs.size + 1 + 1 + 1 + 1 + 1 + 1), oP) :: ((s1.heap.objs.size + 1 + 1 + 1 + 1 + 1), oS) :: ((s1.heap.objs.size + 1 + 1 + 1 + 1), oC) :: ((s1.heap.objs.size + 1 + 1 + 1), oT) :: ((s1.heap.objs.size + 1 + 1), c2') :: ((s1.heap.objs.size + 1), c1) :: tail) (fun p hp => by
              rcases List.mem_cons.mp hp with rfl | hp
              · exact List.mem_append_right _ (.head _)
              · exact List.mem_append_left _ hp)
            clear N12 N13 F11 nin kp sub
            try dsimp only
            try k_unmd
            try k_fold
            k_steps
            rename_i T3 h15 F15 N15 l15
            k_unmd
            k_unfold
            refine ⟨⟨T3, #[Value.int 0 tk13, Value.int 3 (tk13 + 1), Value.int 4 (tk13 + 1 + 1)], _, rfl, rfl, F15, N15, ⟨_, .head _, rfl, _, rfl⟩, (show 3 ≤ sizeLine by rw [sizeLine_eq]; decide), fun g5 => ?_⟩⟩
            refine restT_inv (n := 3) (fun j ys' news' => news' = (T3, { cls := .type "tuple", data := .seq #[Value.int 0 tk13, Value.int 3 (tk13 + 1), Value.int 4 (tk13 + 1 + 1)] }) :: (EE, W.listOf evs.toArray ke) :: (DU, LCg.lst (((List.range 5).map (dueF P (0 :: st) mm)).map Value.bool)) :: (ND, LCg.lst nvs5) :: (KP, W.listOf ws.toArray ck) :: (S, W.listOf ws.toArray 0) :: ((s1.heap.objs.size + 1 + 1 + 1 + 1 + 1 + 1 + 1), oQ) :: ((s1.heap.objs.size + 1 + 1 + 1 + 1 + 1 + 1), oP) :: ((s1.heap.objs.size + 1 + 1 + 1 + 1 + 1), oS) :: ((s1.heap.objs.size + 1 + 1 + 1 + 1), oC) :: ((s1.heap.objs.size + 1 + 1 + 1), oT) :: ((s1.heap.objs.size + 1 + 1), c2') :: ((s1.heap.objs.size + 1), c1) :: tail ∧ IntsAre ys' (pickTo P (0 :: st) mm j)) ?fTurn ?fFin 3 0 [] _ (by omega) ⟨rfl, .nil⟩
            case fTurn =>
              clear F15 N15 l15 qk
              rintro j ys' _ hj ⟨rfl, hys'⟩ v' I' oI' C' oC' D' m₂ h' tk' E₂ hv' hC' hx' F' N' off' ne'
              obtain ⟨k, t', hk3, hk5, rfl⟩ : ∃ (k : Nat) (t' : Tok), ([0, 3, 4] : List Nat)[j]? = some k ∧ k < 5 ∧ v' = .int (k : Int) t' := by
                rcases (show j = 0 ∨ j = 1 ∨ j = 2 by omega) with rfl | rfl | rfl
                · exact ⟨0, _, rfl, by decide, (Option.some.inj hv').symm⟩
                · exact ⟨3, _, rfl, by decide, (Option.some.inj hv').symm⟩
                · exact ⟨4, _, rfl, by decide, (Option.some.inj hv').symm⟩
              have hdk := due_at (P := P) (st := 0 :: st) (m := mm) hk5
              obtain ⟨bk, hb⟩ : ∃ bk, dueF P (0 :: st) mm k = bk := ⟨_, rfl⟩
              rw [hb] at hdk
              clear hv' hj
              try dsimp only
              try k_unmd
              try k_fold
              k_steps
              · exact LCg.CompEnd.intro F' N' _ (fun _ hh => hh) off' ⟨_, .head _, rfl, _, rfl⟩ ⟨rfl, pick_yes hys' hk3 (by first | exact hb.trans (by assumption) | simp_all) t'⟩
              · exact LCg.CompEnd.intro F' N' _ (fun _ hh => hh) off' ⟨_, .head _, rfl, _, rfl⟩ ⟨rfl, pick_no hys' hk3 (by first | exact hb.trans (by assumption) | simp_all)⟩
            case fFin =>
              rintro ys3 _ ⟨rfl, hys3⟩
              clear F15 N15 l15 qk
              intro FL h17 tk17 F17 N17 o17
              clear o17
              try dsimp only
              try k_unmd
              try k_fold
              k_steps
              refine ⟨?_⟩
              refine ne_ints (x := expd P mm (0 :: st) 5) (y := pickTo P (0 :: st) mm 3) (News.isList N17 (.tail _ (.tail _ (.head _)))) hev (News.isList N17 (.head _)) hys3 (by show un + 3 + 64 < _; omega) (expd_pick hmm) ?_
              try dsimp only
              try k_unmd
              try k_fold
              k_steps
              subst hU
              refine tb_shut ((ND, LCg.lst nvs5) :: (KP, W.listOf ws.toArray ck) :: (S, W.listOf ws.toArray 0) :: ((s1.heap.objs.size + 1 + 1 + 1 + 1 + 1 + 1 + 1), oQ) :: ((s1.heap.objs.size + 1 + 1 + 1 + 1 + 1 + 1), oP) :: ((s1.heap.objs.size + 1 + 1 + 1 + 1 + 1), oS) :: ((s1.heap.objs.size + 1 + 1 + 1 + 1), oC) :: ((s1.heap.objs.size + 1 + 1 + 1), oT) :: ((s1.heap.objs.size + 1 + 1), c2') :: ((s1.heap.objs.size + 1), c1) :: tl5)
                ((ND, LCg.lst nvs5) :: (KP, W.listOf ws.toArray ck) :: (S, W.listOf ws.toArray 0) :: ((s1.heap.objs.size + 1 + 1 + 1 + 1 + 1 + 1 + 1), oD) :: ((s1.heap.objs.size + 1 + 1 + 1 + 1 + 1 + 1), oM) :: ((s1.heap.objs.size + 1 + 1 + 1 + 1 + 1), oS) :: ((s1.heap.objs.size + 1 + 1 + 1 + 1), oC) :: ((s1.heap.objs.size + 1 + 1 + 1), oT) :: ((s1.heap.objs.size + 1 + 1), c2') :: ((s1.heap.objs.size + 1), c1) :: tl5)
                F17 N17 (fun p hp => .tail _ (.tail _ (.tail _ (.tail _ (List.mem_append_left own hp))))) (fun p hp => .tail _ (.tail _ (.tail _ (.tail _ (List.mem_append_right ((ND, LCg.lst nvs5) :: (KP, W.listOf ws.toArray ck) :: (S, W.listOf ws.toArray 0) :: ((s1.heap.objs.size + 1 + 1 + 1 + 1 + 1 + 1 + 1), oQ) :: ((s1.heap.objs.size + 1 + 1 + 1 + 1 + 1 + 1), oP) :: ((s1.heap.objs.size + 1 + 1 + 1 + 1 + 1), oS) :: ((s1.heap.objs.size + 1 + 1 + 1 + 1), oC) :: ((s1.heap.objs.size + 1 + 1 + 1), oT) :: ((s1.heap.objs.size + 1 + 1), c2') :: ((s1.heap.objs.size + 1), c1) :: tl5) hp))))) hoI rfl ((hJ _ _ _).mpr ⟨rfl, rfl, oQ, oP, rfl, ⟨_, dQ⟩, ⟨_, dP⟩⟩)
      case mDone =>
        rintro m₁ nx h tk hj9 F7 N7
        obtain ⟨hm1, hm2, oD, oM, rfl, _, _⟩ := (hJ _ _ _).mp hj9
        clear hj9 hJ
        clear F8 N8 hT8 lT qk
        change Fr s1.heap s1.heap.objs.size h _ at F7
        change News s1.heap s1.heap.objs.size h _ at N7
        rw [as2 hm1 hm2] at F7
        try dsimp only
        try k_unmd
        try k_fold
        k_steps
        refine ⟨?_⟩
        refine eq_ints (News.isList N7 (.tail _ (.tail _ (.head _)))) hws (News.isList N7 (.tail _ (.head _))) hws (by show un + 3 + 64 < _; omega) ?_
        try dsimp only
        try k_unmd
        try k_fold
        k_steps)
end Mine
theorem PySem.Challenge.cw_on0167_01_holds : PySem.Challenge.rw_on0167_01.Holds :=
  Mine.law_holds
