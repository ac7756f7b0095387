import PyProof.Rows.All
import Wide.All
import OpenK.AllK
import Wide.FinOn
import PySem.Challenge.RW_np0318_01
set_option Elab.async false
set_option maxRecDepth 100000
set_option linter.unusedVariables false

section
open PySem PySem.W PyProof.Rows
set_option maxHeartbeats 8000000
namespace Mine
noncomputable abbrev fDen : Code → Sem Fin := PySem.W.Fast.tw11892475500146522536 PySem.W.Fast.tw14364793385576792824
noncomputable def runF (p : Program) (w : World) (n₀ : Nat) (ann : Option Value) : Nat → SharedT → Thread → Option SharedT
  | 0, _, _ => none
  | n + 1, s, t => match through t with
    | true => some s
    | false => match PySem.W.Fast.tw6613529449190102663 n₀ ann t with
      | false => none
      | true => match PySem.W.Fast.tw10156331382660048174 fDen p w s t with
        | some (s', t') => runF p w n₀ ann n s' t'
        | none => none
theorem runF_of {p : Program} {w : World} {n₀ : Nat} {ann : Option Value} : ∀ {n : Nat} {s s' : SharedT} {t : Thread},
    runF p w n₀ ann n s t = some s' → topRun treeTable p w n₀ ann n s.abs t = some s'.abs
  | 0, _, _, _, h => by cases h
  | n + 1, s, s', t, h => by
    unfold runF at h
    rw [fDen, ← PySem.W.Fast.te11892475500146522536, ← PySem.W.Fast.te14364793385576792824, ← PySem.W.Fast.te10156331382660048174, ← PySem.W.Fast.te6613529449190102663] at h
    unfold topRun
    cases he : through t with
    | true => rw [he] at h; cases h; rfl
    | false =>
      rw [he] at h
      cases hk : stepOk n₀ ann t with
      | false => rw [hk] at h; cases h
      | true =>
        rw [hk] at h
        cases hs : stepT (denote treeTable) p w s t with
        | none => rw [hs] at h; cases h
        | some r => obtain ⟨s₂, t₂⟩ := r; rw [hs] at h; simp only [stepT_spec hs]; exact runF_of h
noncomputable def bootT (P : Params) : BT :=
  .node (boot_o_0 P) (.node (boot_o_1 P) (.node (boot_o_3 P) (.node (boot_o_7 P) .nil .nil) .nil) (.node (boot_o_5 P) (.node (boot_o_9 P) .nil .nil) .nil))
    (.node (boot_o_2 P) (.node (boot_o_4 P) (.node (boot_o_8 P) .nil .nil) .nil) (.node (boot_o_6 P) (.node (boot_o_10 P) .nil .nil) .nil))
theorem bootT_abs (P : Params) : absHeap (bootT P) 11 (boot_heap P).life = boot_heap P := by rfl
noncomputable def s0T (w : World) (os : OsState) : SharedT := ⟨bootT w.params, 11, (boot_heap w.params).life, Array.mk [], boot_drawn, boot_toks, os⟩
theorem boot_size (w : World) : ((boot_heap w.params).isNs mainGlobals, (boot_heap w.params).objs.size, (boot_heap w.params).nsMap mainGlobals "__annotations__") = (true, 11, some (.ref 6)) := by kernel_rfl
theorem hl_of {p q : Program} {loose : List Str} {Xt : Shared → Bool} {α : Type} {Yf : Shared → α} {Ya : World → α} {N : Nat} {g0 : Bool}
    (e : opening p = plainProg p.main.scope.names) (hN : Nat.ble 600 N = true) (f : ∀ s, fenceModules? p s = some s)
    (key : ∀ (w : World) (os : OsState), (runF p w 11 (some (.ref 6)) N (s0T w os) (topStub p)).map (fun r =>
      ((staticsOk (importedModules p.main.body) (boot_heap w.params) r.abs.heap && namesBound p r.abs.heap && gensDone r.abs && laidKept (boot_heap w.params) r.abs.heap),
       PySem.W.Fast.tw4187177175401517315 q loose (importedModules p.main.body) Xt g0 r.abs)) = some (true, openGood q loose))
    (keyY : ∀ (w : World) (os : OsState), (runF p w 11 (some (.ref 6)) N (s0T w os) (topStub p)).map (fun r => Yf r.abs) = some (Ya w)) : LeftO p q loose Xt Yf Ya N g0 := fun w => by
  obtain ⟨⟨h, gs, d, k, os⟩, a, e'⟩ := Option.map_eq_some_iff.mp (boot_open e hN f w)
  obtain ⟨rfl, rfl, rfl, rfl⟩ : h = boot_heap w.params ∧ gs = Array.mk [] ∧ d = boot_drawn ∧ k = boot_toks := by simpa using e'
  obtain ⟨z1, z2, z3⟩ : _ ∧ _ ∧ _ := by simpa only [Prod.mk.injEq] using boot_size w
  obtain ⟨r, r1, r2⟩ := Option.map_eq_some_iff.mp (key w os)
  rw [← PySem.W.Fast.te4187177175401517315] at r2
  obtain ⟨l1, l2⟩ : _ ∧ _ := by simpa only [Prod.mk.injEq] using r2
  have l3 := keyY w os
  rw [r1] at l3
  replace l3 : Yf r.abs = Ya w := Option.some.inj l3
  have t := runF_of r1
  have hs : (s0T w os).abs = ⟨boot_heap w.params, Array.mk [], boot_drawn, boot_toks, os⟩ := by
    unfold s0T SharedT.abs; dsimp only; rw [bootT_abs]
  rw [hs] at t
  have tf : topFrom treeTable p w N ⟨boot_heap w.params, Array.mk [], boot_drawn, boot_toks, os⟩ = some r.abs := by
    unfold topFrom
    dsimp only
    rw [show ((boot_heap w.params).isNs mainGlobals && (Array.mk [] : Array GenState).size == 0) = true by rw [z1]; rfl]
    dsimp only
    rw [z2, z3, t]
    show (match (staticsOk (importedModules p.main.body) (boot_heap w.params) r.abs.heap && namesBound p r.abs.heap && gensDone r.abs && laidKept (boot_heap w.params) r.abs.heap) with | true => some r.abs | false => none) = _
    rw [l1]
  have te : openEnds treeTable p w N = some r.abs := by
    unfold openEnds
    rw [a]
    exact tf
  rw [te]
  show some (openSeen q loose (importedModules p.main.body) Xt g0 r.abs, Yf r.abs) = _
  rw [l2, l3]
noncomputable def lo : List Str := [Str.ofString "GateError", Str.ofString "wrap", Str.ofString "signed", Str.ofString "alu_worth", Str.ofString "ones", Str.ofString "quotient", Str.ofString "remainder", Str.ofString "signed_quotient", Str.ofString "signed_remainder", Str.ofString "shifted", Str.ofString "divided", Str.ofString "bits_worth", Str.ofString "turned", Str.ofString "swapped", Str.ofString "moved", Str.ofString "extended", Str.ofString "unsigned_holds", Str.ofString "holds", Str.ofString "atomic_worth", Str.ofString "result_of", Str.ofString "_law_draw", Str.ofString "_law_pick", Str.ofString "_law_number", Str.ofString "_law_bits", Str.ofString "_law_whole", Str.ofString "_law_sum", Str.ofString "_law_turned_sign", Str.ofString "_law_product", Str.ofString "_law_parted", Str.ofString "_law_parted_signs", Str.ofString "_law_shift", Str.ofString "_law_row", Str.ofString "_law_less", Str.ofString "_law_stands", Str.ofString "_law_octets", Str.ofString "_law_filled", Str.ofString "_law_is", Str.ofString "_law_deed_right", Str.ofString "_law_condition_right", Str.ofString "_law_moves_right", Str.ofString "_law_atomic_right", Str.ofString "_law_refused", Str.ofString "_law_edges_right"]
noncomputable def vw : Program := PySem.W.view PySem.Challenge.pw_np0318_01 [1,2,47]
theorem hl_key (w : World) (os : OsState) : (runF PySem.Challenge.pw_np0318_01 w 11 (some (.ref 6)) 3886 (s0T w os) (topStub PySem.Challenge.pw_np0318_01)).map (fun r =>
      ((staticsOk (importedModules PySem.Challenge.pw_np0318_01.main.body) (boot_heap w.params) r.abs.heap && namesBound PySem.Challenge.pw_np0318_01 r.abs.heap && gensDone r.abs && laidKept (boot_heap w.params) r.abs.heap),
       PySem.W.Fast.tw4187177175401517315 vw lo (importedModules PySem.Challenge.pw_np0318_01.main.body) (fun s => xlAt vw [] s && recOk (RowW.records PySem.Challenge.rw_np0318_01.row.toRowW) s) true r.abs)) = some (true, openGood vw lo) := by kernel_rfl
local macro_rules | `(tactic| o_head $H) => `(tactic|
  (refine holds_open (q := vw) (loose := lo) (Xt := fun s => xlAt vw [] s && recOk (RowW.records PySem.Challenge.rw_np0318_01.row.toRowW) s) (XP := XL vw []) (Yf := Hook.obs $H) (Ya := Hook.val $H) (YP := Hook.says $H) (N := 3886) ?hl (Hook.of $H) (Hook.keeps $H) (fun s e => xl_of s (Bool.and_eq_true_iff.mp e).1) XL.keeps (by rfl) (by rfl) (by rfl) (fun s e => recFacts_of (Bool.and_eq_true_iff.mp e).2) (by rfl) (by first | assumption | decide +kernel) (by decide +kernel) ⟨rfl, rfl, rfl, rfl, rfl, by decide +kernel⟩ ?hw ?hc; (case hl => (refine hl_of (by rfl) (by rfl) (fun s => by rfl) hl_key ?_; intro w os; kernel_rfl))))
open_top hd for PySem.Challenge.rw_np0318_01
end Mine
end

section
open PySem PySem.W PyProof.Rows PySem.Calls
set_option maxHeartbeats 1000000
namespace Mine

abbrev Led := List (Addr × Obj)
noncomputable abbrev pg : Program := PySem.Challenge.pw_np0318_01

inductive V where
  | none
  | bool (b : Bool)
  | int (i : Int)
  | str (s : Str)
  | li (l : List Int)
  | ls (l : List Str)
  | ti (l : List Int)
  | ts (l : List Str)
  | pr (l r : List Int)
  | obj (v : Value)

abbrev tupOf (items : Array Value) : Obj := { cls := .type "tuple", data := .seq items }

def RepI (news : Led) (v : Value) (l : List Int) : Prop := ∃ a vs n, v = .ref a ∧ (a, W.listOf (List.toArray vs) n) ∈ news ∧ IntsAre vs l
def Rep (news : Led) (v : Value) : V → Prop
  | .none => v = .none
  | .bool b => v = .bool b
  | .int i => ∃ t, v = .int i t
  | .str s => ∃ t, v = .str s t
  | .li l => RepI news v l
  | .ls l => ∃ a vs n, v = .ref a ∧ (a, W.listOf (List.toArray vs) n) ∈ news ∧ StrsAre vs l
  | .ti l => ∃ a vs, v = .ref a ∧ (a, tupOf (List.toArray vs)) ∈ news ∧ IntsAre vs l
  | .ts l => ∃ a vs, v = .ref a ∧ (a, tupOf (List.toArray vs)) ∈ news ∧ StrsAre vs l
  | .pr l r => ∃ a x y, v = .ref a ∧ (a, tupOf (List.toArray [x, y])) ∈ news ∧ RepI news x l ∧ RepI news y r
  | .obj u => v = u

theorem RepI.mono {n1 n2 : Led} {v : Value} {l : List Int} (h : RepI n1 v l) (hs : ∀ p ∈ n1, p ∈ n2) : RepI n2 v l :=
  let ⟨a, vs, n, e, hm, hi⟩ := h; ⟨a, vs, n, e, hs _ hm, hi⟩
theorem Rep.mono {n1 n2 : Led} {v : Value} {d : V} (h : Rep n1 v d) (hs : ∀ p ∈ n1, p ∈ n2) : Rep n2 v d := by
  cases d with
  | none => exact h
  | bool b => exact h
  | int i => exact h
  | str s => exact h
  | li l => exact RepI.mono h hs
  | ls l => obtain ⟨a, vs, n, e, hm, hi⟩ := h; exact ⟨a, vs, n, e, hs _ hm, hi⟩
  | ti l => obtain ⟨a, vs, e, hm, hi⟩ := h; exact ⟨a, vs, e, hs _ hm, hi⟩
  | ts l => obtain ⟨a, vs, e, hm, hi⟩ := h; exact ⟨a, vs, e, hs _ hm, hi⟩
  | pr l r => obtain ⟨a, x, y, e, hm, hx, hy⟩ := h; exact ⟨a, x, y, e, hs _ hm, hx.mono hs, hy.mono hs⟩
  | obj u => exact h

/-- a def of the text: what its frame needs -/
structure Fn where
  qual : Str
  names : List (Str × NameKind)
  a : Addr
  cd : Value
  more : List (Str × Const) := []
abbrev Fn.scope (f : Fn) : Scope := { kind := .function, names := f.names, isGenerator := false, isCoroutine := false, more := f.more }
structure Fn.Ok (f : Fn) : Prop where
  nd : (f.names.map (·.1)).Nodup
  dbg : ∀ x ∈ f.names, (x.1 == ("__debug__" : Str)) = false

structure Cx where
  w : World
  mean : ExcName → Option Value
  mg : Str → Option Value
  mb : Str → Option Value
  dp : Nat
  un : Nat
  gd : Option (List Code)
  outer : List Env
  A₀ : Around
  base : Heap
  h₀ : Heap
  L : Addr
  cl : List (Str × Addr)

noncomputable abbrev Cx.K (c : Cx) : Frag := hd.heap_39 c.w.params
noncomputable abbrev LO : List Str := looseW vw lo ++ (recsOf vw).map (·.name) ++ (litsOf vw).map (·.1) ++ (clssOf vw (looseW vw lo)).map (·.name)
abbrev Cx.env (c : Cx) (f : Fn) : Env := envX f.qual f.scope c.L f.a f.cd c.cl
abbrev Cx.A (c : Cx) (f : Fn) : Around := ktrTop c.dp c.un c.gd f.qual f.scope c.L f.a f.cd c.cl c.outer
structure Cx.Ok (c : Cx) (f : Fn) (n : Nat) : Prop where
  below : Below c.A₀ c.base c.outer c.h₀
  kin : c.K.In c.h₀
  top : Top topProg LO c.mean c.mg c.mb c.h₀
  room : c.dp + n < 900
  units : c.un + 8 * n < 9000
  fok : f.Ok

/-- what a name is, by its place -/
inductive Look : List (Str × NameKind) → List (Option V) → Str → V → Prop
  | head {x : Str} {d : V} {ns : List (Str × NameKind)} {ρ : List (Option V)} : Look ((x, .local) :: ns) (some d :: ρ) x d
  | tail {x : Str} {d : V} {ns : List (Str × NameKind)} {ρ : List (Option V)} {y : Str × NameKind} {o : Option V} : Look ns ρ x d → Look (y :: ns) (o :: ρ) x d
inductive Put : List (Str × NameKind) → List (Option V) → Str → V → List (Option V) → Prop
  | head {x : Str} {d : V} {ns : List (Str × NameKind)} {o : Option V} {ρ : List (Option V)} : Put ((x, .local) :: ns) (o :: ρ) x d (some d :: ρ)
  | tail {x : Str} {d : V} {ns : List (Str × NameKind)} {ρ ρ' : List (Option V)} {y : Str × NameKind} {o : Option V} : Put ns ρ x d ρ' → Put (y :: ns) (o :: ρ) x d (o :: ρ')
/-- a name of a given kind -/
inductive Kd (k : NameKind) : List (Str × NameKind) → Str → Prop
  | head {x : Str} {ns : List (Str × NameKind)} : Kd k ((x, k) :: ns) x
  | tail {x : Str} {ns : List (Str × NameKind)} {y : Str × NameKind} : Kd k ns x → Kd k (y :: ns) x

theorem Kd.mem {k : NameKind} {ns : List (Str × NameKind)} {x : Str} (h : Kd k ns x) : (x, k) ∈ ns := by
  induction h with
  | head => exact .head _
  | tail _ ih => exact .tail _ ih
theorem lookup_of_nodup {ns : List (Str × NameKind)} (hn : (ns.map (·.1)).Nodup) {x : Str} {k : NameKind} (h : (x, k) ∈ ns) : ns.lookup x = some k := by
  induction ns with
  | nil => cases h
  | cons y r ih =>
    obtain ⟨z, kz⟩ := y
    simp only [List.map_cons, List.nodup_cons] at hn
    rcases List.mem_cons.mp h with e | h
    · cases e; simp [List.lookup]
    · have : ¬ (x = z) := fun e => hn.1 (e ▸ List.mem_map.mpr ⟨_, h, rfl⟩)
      have hb : (x == z) = false := by simpa using this
      simp only [List.lookup, hb]
      exact ih hn.2 h
theorem Kd.kindOf {k : NameKind} {f : Fn} {x : Str} (c : Cx) (ok : f.Ok) (h : Kd k f.names x) : (c.env f).kindOf x = some k := lookup_of_nodup ok.nd h.mem

/-- the frame's map bears ρ -/
def Sees (ns : List (Str × NameKind)) (ρ : List (Option V)) (m : Str → Option Value) (news : Led) : Prop :=
  ∀ x d, Look ns ρ x d → ∃ v, m x = some v ∧ Rep news v d
theorem Sees.mono {ns : List (Str × NameKind)} {ρ : List (Option V)} {m : Str → Option Value} {n1 n2 : Led} (h : Sees ns ρ m n1) (hs : ∀ p ∈ n1, p ∈ n2) : Sees ns ρ m n2 :=
  fun x d l => let ⟨v, e, r⟩ := h x d l; ⟨v, e, r.mono hs⟩
theorem Look.kd {ns : List (Str × NameKind)} {ρ : List (Option V)} {x : Str} {d : V} (h : Look ns ρ x d) : Kd .local ns x := by
  induction h with
  | head => exact .head
  | tail _ ih => exact .tail ih
theorem Put.kd {ns : List (Str × NameKind)} {ρ ρ' : List (Option V)} {x : Str} {d : V} (h : Put ns ρ x d ρ') : Kd .local ns x := by
  induction h with
  | head => exact .head
  | tail _ ih => exact .tail ih
theorem Put.look {ns : List (Str × NameKind)} {ρ ρ' : List (Option V)} {x : Str} {d : V} (h : Put ns ρ x d ρ') (hn : (ns.map (·.1)).Nodup) : ∀ y e, Look ns ρ' y e → (y = x ∧ e = d) ∨ (y ≠ x ∧ Look ns ρ y e) := by
  induction h with
  | head =>
    intro y e l
    cases l with
    | head => exact .inl ⟨rfl, rfl⟩
    | tail l =>
      refine .inr ⟨?_, .tail l⟩
      simp only [List.map_cons, List.nodup_cons] at hn
      exact fun q => hn.1 (q ▸ List.mem_map.mpr ⟨_, l.kd.mem, rfl⟩)
  | tail p ih =>
    intro y e l
    simp only [List.map_cons, List.nodup_cons] at hn
    cases l with
    | head => exact .inr ⟨fun q => hn.1 (q ▸ List.mem_map.mpr ⟨_, p.kd.mem, rfl⟩), .head⟩
    | tail l =>
      rcases ih hn.2 y e l with r | ⟨r, l'⟩
      · exact .inl r
      · exact .inr ⟨r, .tail l'⟩
theorem Sees.put {ns : List (Str × NameKind)} {ρ ρ' : List (Option V)} {m : Str → Option Value} {news : Led} {x : Str} {d : V} {v : Value} (h : Sees ns ρ m news) (hn : (ns.map (·.1)).Nodup) (p : Put ns ρ x d ρ') (r : Rep news v d) :
    Sees ns ρ' (fun y => if y = x then some v else m y) news := by
  intro y e l
  rcases p.look hn y e l with ⟨rfl, rfl⟩ | ⟨hne, l'⟩
  · exact ⟨v, by simp, r⟩
  · obtain ⟨u, hu, ru⟩ := h y e l'
    exact ⟨u, by simp [hne, hu], ru⟩

def Post (c : Cx) (s : Shared) (m : Str → Option Value) (news : Led) (Q : Value → Shared → Prop) (d : V) : Prop :=
  ∀ v h' tk' news', Fr c.h₀ c.L h' m → News c.h₀ c.L h' news' → (∀ p ∈ news, p ∈ news') → Rep news' v d → Q v { s with heap := h', toks := tk' }

def Ev (f : Fn) (c : Cx) (n : Nat) (ρ : List (Option V)) (e : Expr) (d : V) : Prop :=
  ∀ (s : Shared) (m : Str → Option Value) (news : Led) (Q E : Value → Shared → Prop), c.Ok f n → Fr c.h₀ c.L s.heap m → News c.h₀ c.L s.heap news → Sees f.names ρ m news → Post c s m news Q d →
    wpAny (model pg c.w) (c.A f) (eval e (c.env f)) Q E s

section
variable {f : Fn} {c : Cx} {n : Nat} {ρ : List (Option V)}

theorem Ev.cint {i : Int} {k : Nat} {pos : Pos} : Ev f c n ρ (.Constant (.int i) k pos) (.int i) :=
  fun s m news Q E ok F N S P => wpAny_Constant_int (P _ s.heap _ news F N (fun _ h => h) ⟨_, rfl⟩)
theorem Ev.cstr {x : Str} {k : Nat} {pos : Pos} : Ev f c n ρ (.Constant (.str x) k pos) (.str x) :=
  fun s m news Q E ok F N S P => Calls.Constant_str (P _ s.heap _ news F N (fun _ h => h) ⟨_, rfl⟩)
theorem Ev.cbool {x : Bool} {k : Nat} {pos : Pos} : Ev f c n ρ (.Constant (.bool x) k pos) (.bool x) :=
  fun s m news Q E ok F N S P => wpAny_pure (P _ s.heap s.toks news F N (fun _ h => h) rfl)
theorem Ev.cnone {k : Nat} {pos : Pos} : Ev f c n ρ (.Constant .none k pos) .none :=
  fun s m news Q E ok F N S P => wpAny_pure (P _ s.heap s.toks news F N (fun _ h => h) rfl)
theorem Ev.name {x : Str} {d : V} {pos : Pos} (l : Look f.names ρ x d) : Ev f c n ρ (.Name x pos) d :=
  fun s m news Q E ok F N S P => by
    obtain ⟨v, hv, r⟩ := S x d l
    exact nameX_L F hv (P v s.heap s.toks news F N (fun _ h => h) r) rfl (l.kd.kindOf c ok.fok) (ok.fok.dbg _ l.kd.mem)

/-- a value-level operation -/
def Op2 (t : Value → Value → Sem Value) (a b d : V) : Prop :=
  ∀ (f : Fn) (c : Cx) (s : Shared) (m : Str → Option Value) (news : Led) (v u : Value) (Q E : Value → Shared → Prop), c.un < 9000 → Fr c.h₀ c.L s.heap m → News c.h₀ c.L s.heap news → Rep news v a → Rep news u b → Post c s m news Q d →
    wpAny (model pg c.w) (c.A f) (t v u) Q E s
theorem Ev.bin {l r : Expr} {op : Operator} {pos : Pos} {a b d : V} (hl : Ev f c n ρ l a) (hr : Ev f c n ρ r b) (ho : Op2 (binaryOp op) a b d) : Ev f c n ρ (.BinOp l op r pos) d :=
  fun s m news Q E ok F N S P => wpAny_BinOp (hl s m news _ E ok F N S fun v h1 t1 n1 F1 N1 s1 R1 =>
    hr _ m n1 _ E ok F1 N1 (S.mono s1) fun u h2 t2 n2 F2 N2 s2 R2 =>
      ho f c _ m n2 v u Q E (by have := ok.units; omega) F2 N2 (R1.mono s2) R2 fun w h3 t3 n3 F3 N3 s3 R3 => P w h3 t3 n3 F3 N3 (fun p hp => s3 p (s2 p (s1 p hp))) R3)
theorem Ev.cmp {l r : Expr} {op : CmpOp} {pos : Pos} {a b d : V} (hl : Ev f c n ρ l a) (hr : Ev f c n ρ r b) (ho : Op2 (compareOp op) a b d) (hb : behindInMarks op r = false := by rfl) : Ev f c n ρ (.Compare l [op] [r] pos) d :=
  fun s m news Q E ok F N S P => wpAny_Compare1 (hl s m news _ E ok F N S fun v h1 t1 n1 F1 N1 s1 R1 =>
    hr _ m n1 _ E ok F1 N1 (S.mono s1) fun u h2 t2 n2 F2 N2 s2 R2 =>
      ho f c _ m n2 v u Q E (by have := ok.units; omega) F2 N2 (R1.mono s2) R2 fun w h3 t3 n3 F3 N3 s3 R3 => P w h3 t3 n3 F3 N3 (fun p hp => s3 p (s2 p (s1 p hp))) R3) hb
end
end Mine
end

section
open PySem PySem.W PyProof.Rows PySem.Calls
set_option maxHeartbeats 1000000
namespace Mine
section
variable {f : Fn} {c : Cx} {n : Nat} {ρ : List (Option V)}

def Op1 (t : Value → Sem Value) (a d : V) : Prop :=
  ∀ (f : Fn) (c : Cx) (s : Shared) (m : Str → Option Value) (news : Led) (v : Value) (Q E : Value → Shared → Prop), c.un < 9000 → Fr c.h₀ c.L s.heap m → News c.h₀ c.L s.heap news → Rep news v a → Post c s m news Q d →
    wpAny (model pg c.w) (c.A f) (t v) Q E s
theorem Ev.un {x : Expr} {op : UnaryOp} {pos : Pos} {a d : V} (hx : Ev f c n ρ x a) (ho : Op1 (unaryOp op) a d) : Ev f c n ρ (.UnaryOp op x pos) d :=
  fun s m news Q E ok F N S P => UnaryOp_ (hx s m news _ E ok F N S fun v h1 t1 n1 F1 N1 s1 R1 =>
    ho f c _ m n1 v Q E (by have := ok.units; omega) F1 N1 R1 fun w h3 t3 n3 F3 N3 s3 R3 => P w h3 t3 n3 F3 N3 (fun p hp => s3 p (s1 p hp)) R3)

-- the operations on ints
section
variable {i j : Int}
theorem op_add : Op2 (binaryOp .Add) (.int i) (.int j) (.int (i + j)) := by
  rintro f c s m news v u Q E hu F N ⟨t, rfl⟩ ⟨t', rfl⟩ P
  with_reducible refine add_int ?_
  exact P _ s.heap _ news F N (fun _ h => h) ⟨_, rfl⟩
theorem op_sub : Op2 (binaryOp .Sub) (.int i) (.int j) (.int (i - j)) := by
  rintro f c s m news v u Q E hu F N ⟨t, rfl⟩ ⟨t', rfl⟩ P
  with_reducible refine sub_int ?_
  exact P _ s.heap _ news F N (fun _ h => h) ⟨_, rfl⟩
theorem op_mul (h : IntMulOk i j) : Op2 (binaryOp .Mult) (.int i) (.int j) (.int (i * j)) := by
  rintro f c s m news v u Q E hu F N ⟨t, rfl⟩ ⟨t', rfl⟩ P
  with_reducible refine mul_int ?_ h
  exact P _ s.heap _ news F N (fun _ h => h) ⟨_, rfl⟩
theorem op_div (h : j ≠ 0) (h2 : Builtin.divisionGoesByPylong i j = false) : Op2 (binaryOp .FloorDiv) (.int i) (.int j) (.int (i.fdiv j)) := by
  rintro f c s m news v u Q E hu F N ⟨t, rfl⟩ ⟨t', rfl⟩ P
  with_reducible refine floordiv_int h ?_ (.inl h2)
  exact P _ s.heap _ news F N (fun _ h => h) ⟨_, rfl⟩
theorem op_mod (h : j ≠ 0) : Op2 (binaryOp .Mod) (.int i) (.int j) (.int (i.fmod j)) := by
  rintro f c s m news v u Q E hu F N ⟨t, rfl⟩ ⟨t', rfl⟩ P
  with_reducible refine mod_int h ?_
  exact P _ s.heap _ news F N (fun _ h => h) ⟨_, rfl⟩
theorem op_shl (h0 : 0 ≤ j) (h1 : j ≤ 1000000) (h2 : i.natAbs < 2 ^ 64) : Op2 (binaryOp .LShift) (.int i) (.int j) (.int (i * 2 ^ j.toNat)) := by
  rintro f c s m news v u Q E hu F N ⟨t, rfl⟩ ⟨t', rfl⟩ P
  with_reducible refine lshift_int_small h0 h1 h2 ?_
  exact P _ s.heap _ news F N (fun _ h => h) ⟨_, rfl⟩
theorem op_shr (h0 : 0 ≤ j) : Op2 (binaryOp .RShift) (.int i) (.int j) (.int (i.fdiv (2 ^ j.toNat))) := by
  rintro f c s m news v u Q E hu F N ⟨t, rfl⟩ ⟨t', rfl⟩ P
  with_reducible refine rshift_int h0 ?_
  exact P _ s.heap _ news F N (fun _ h => h) ⟨_, rfl⟩
theorem op_pow (h0 : 0 ≤ j) (h1 : j ≤ 1000000) (h2 : i.natAbs < 2 ^ 64) : Op2 (binaryOp .Pow) (.int i) (.int j) (.int (i ^ j.toNat)) := by
  rintro f c s m news v u Q E hu F N ⟨t, rfl⟩ ⟨t', rfl⟩ P
  with_reducible refine pow_int_small h0 h1 h2 ?_
  exact P _ s.heap _ news F N (fun _ h => h) ⟨_, rfl⟩
theorem op_and : Op2 (binaryOp .BitAnd) (.int i) (.int j) (.int (Builtin.bitAnd i j)) := by
  rintro f c s m news v u Q E hu F N ⟨t, rfl⟩ ⟨t', rfl⟩ P
  with_reducible refine and_int ?_
  exact P _ s.heap _ news F N (fun _ h => h) ⟨_, rfl⟩
theorem op_or : Op2 (binaryOp .BitOr) (.int i) (.int j) (.int (Builtin.bitOr i j)) := by
  rintro f c s m news v u Q E hu F N ⟨t, rfl⟩ ⟨t', rfl⟩ P
  with_reducible refine or_int ?_
  exact P _ s.heap _ news F N (fun _ h => h) ⟨_, rfl⟩
theorem op_xor : Op2 (binaryOp .BitXor) (.int i) (.int j) (.int (Builtin.bitXor i j)) := by
  rintro f c s m news v u Q E hu F N ⟨t, rfl⟩ ⟨t', rfl⟩ P
  with_reducible refine xor_int ?_
  exact P _ s.heap _ news F N (fun _ h => h) ⟨_, rfl⟩
theorem op_neg : Op1 (unaryOp .USub) (.int i) (.int (-i)) := by
  rintro f c s m news v Q E hu F N ⟨t, rfl⟩ P
  with_reducible refine neg_int ?_
  exact P _ s.heap _ news F N (fun _ h => h) ⟨_, rfl⟩
theorem op_eq : Op2 (compareOp .Eq) (.int i) (.int j) (.bool (i == j)) := by
  rintro f c s m news v u Q E hu F N ⟨t, rfl⟩ ⟨t', rfl⟩ P
  with_reducible refine eq_int ?_
  exact P _ s.heap s.toks news F N (fun _ h => h) rfl
theorem op_ne : Op2 (compareOp .NotEq) (.int i) (.int j) (.bool (i != j)) := by
  rintro f c s m news v u Q E hu F N ⟨t, rfl⟩ ⟨t', rfl⟩ P
  exact PyProof.Rows.ne_int (P _ s.heap s.toks news F N (fun _ h => h) rfl)
theorem op_lt : Op2 (compareOp .Lt) (.int i) (.int j) (.bool (decide (i < j))) := by
  rintro f c s m news v u Q E hu F N ⟨t, rfl⟩ ⟨t', rfl⟩ P
  with_reducible refine lt_int ?_
  exact P _ s.heap s.toks news F N (fun _ h => h) rfl
theorem op_le : Op2 (compareOp .LtE) (.int i) (.int j) (.bool (decide (i ≤ j))) := by
  rintro f c s m news v u Q E hu F N ⟨t, rfl⟩ ⟨t', rfl⟩ P
  exact PySem.P.le_int (P _ s.heap s.toks news F N (fun _ h => h) rfl)
theorem op_gt : Op2 (compareOp .Gt) (.int i) (.int j) (.bool (decide (j < i))) := by
  rintro f c s m news v u Q E hu F N ⟨t, rfl⟩ ⟨t', rfl⟩ P
  exact PyProof.Rows.gt_int (P _ s.heap s.toks news F N (fun _ h => h) rfl)
theorem op_ge : Op2 (compareOp .GtE) (.int i) (.int j) (.bool (decide (j ≤ i))) := by
  rintro f c s m news v u Q E hu F N ⟨t, rfl⟩ ⟨t', rfl⟩ P
  exact PySem.P.ge_int (P _ s.heap s.toks news F N (fun _ h => h) rfl)
end
section
variable {x y : Str} {b d : Bool} {xs ys : List Int}
theorem op_eqs : Op2 (compareOp .Eq) (.str x) (.str y) (.bool (x == y)) := by
  rintro f c s m news v u Q E hu F N ⟨t, rfl⟩ ⟨t', rfl⟩ P
  with_reducible refine eq_str ?_
  exact P _ s.heap s.toks news F N (fun _ h => h) rfl
theorem op_eqb : Op2 (compareOp .Eq) (.bool b) (.bool d) (.bool (b == d)) := by
  rintro f c s m news v u Q E hu F N rfl rfl P
  with_reducible refine eq_bool ?_
  exact P _ s.heap s.toks news F N (fun _ h => h) rfl
theorem op_neb : Op2 (compareOp .NotEq) (.bool b) (.bool d) (.bool (b != d)) := by
  rintro f c s m news v u Q E hu F N rfl rfl P
  with_reducible refine ne_bool ?_
  exact P _ s.heap s.toks news F N (fun _ h => h) rfl
theorem op_eql : Op2 (compareOp .Eq) (.li xs) (.li ys) (.bool (decide (xs = ys))) := by
  rintro f c s m news v u Q E hu F N ⟨a, vs, k, rfl, h1, i1⟩ ⟨a', us, k', rfl, h2, i2⟩ P
  exact eq_intsK ⟨_, (N _ h1).1, rfl, k, rfl⟩ i1 ⟨_, (N _ h2).1, rfl, k', rfl⟩ i2 (by show c.un + 64 < cLine; rw [cLine_is]; omega) (P _ s.heap s.toks news F N (fun _ h => h) rfl)
theorem op_nel : Op2 (compareOp .NotEq) (.li xs) (.li ys) (.bool (!decide (xs = ys))) := by
  rintro f c s m news v u Q E hu F N ⟨a, vs, k, rfl, h1, i1⟩ ⟨a', us, k', rfl, h2, i2⟩ P
  exact ne_intsK ⟨_, (N _ h1).1, rfl, k, rfl⟩ i1 ⟨_, (N _ h2).1, rfl, k', rfl⟩ i2 (by show c.un + 64 < cLine; rw [cLine_is]; omega) (P _ s.heap s.toks news F N (fun _ h => h) rfl)
def V.isNone : V → Bool
  | .none => true
  | .obj .none => true
  | _ => false
theorem op_isnone {v' : V} : Op2 (compareOp .Is) v' .none (.bool v'.isNone) := by
  rintro f c s m news v u Q E hu F N r e P
  cases e
  refine is_none ?_
  refine P _ s.heap s.toks news F N (fun _ h => h) ?_
  cases v' with
  | none => cases r; rfl
  | bool => cases r; rfl
  | int => obtain ⟨t, rfl⟩ := r; rfl
  | str => obtain ⟨t, rfl⟩ := r; rfl
  | li => obtain ⟨a, vs, k, rfl, _⟩ := r; rfl
  | ls => obtain ⟨a, vs, k, rfl, _⟩ := r; rfl
  | ti => obtain ⟨a, vs, rfl, _⟩ := r; rfl
  | ts => obtain ⟨a, vs, rfl, _⟩ := r; rfl
  | pr => obtain ⟨a, x, y, rfl, _⟩ := r; rfl
  | obj u => cases r; cases v <;> rfl
theorem op_in {ys : List Str} : Op2 (compareOp .In) (.str x) (.ts ys) (.bool (ys.any fun y => y == x)) := by
  rintro f c s m news v u Q E hu F N ⟨t, rfl⟩ ⟨a, vs, rfl, h, i⟩ P
  with_reducible refine in_tuple_strs (items := vs.toArray) (News.isTup N h) (by simpa using i) ?_
  exact P _ s.heap s.toks news F N (fun _ h => h) rfl
theorem op_notin {j : Int} : Op2 (compareOp .NotIn) (.int j) (.ti ys) (.bool (!ys.any fun y => y == j)) := by
  rintro f c s m news v u Q E hu F N ⟨t, rfl⟩ ⟨a, vs, rfl, h, i⟩ P
  with_reducible refine notin_tuple_ints (items := vs.toArray) (News.isTup N h) (by simpa using i) ?_
  exact P _ s.heap s.toks news F N (fun _ h => h) rfl
theorem op_cat (h : xs.length + ys.length ≤ 1000) : Op2 (binaryOp .Add) (.li xs) (.li ys) (.li (xs ++ ys)) := by
  rintro f c s m news v u Q E hu F N ⟨a, vs, k, rfl, h1, i1⟩ ⟨a', us, k', rfl, h2, i2⟩ P
  exact kmk_add_ints F N ⟨_, (N _ h1).1, rfl, k, rfl⟩ ⟨_, (N _ h2).1, rfl, k', rfl⟩ i1 i2 (fun D ws h' F' N' lt iw => P _ h' s.toks _ F' N' (fun p hp => .tail _ hp) ⟨D, ws, 0, rfl, .head _, iw⟩) (by rw [sizeLine_eq]; omega)
theorem ints_flat {vs : List Value} {xs : List Int} (h : IntsAre vs xs) : ∀ k : Nat, IntsAre (List.replicate k vs).flatten (List.replicate k xs).flatten
  | 0 => .nil
  | k + 1 => by rw [List.replicate_succ, List.replicate_succ, List.flatten_cons, List.flatten_cons]; exact h.append (ints_flat h k)
theorem op_rep {j : Int} (h : xs.length * j.toNat ≤ 256) (h0 : -2 ^ 63 ≤ j) (h1 : j < 2 ^ 63) : Op2 (binaryOp .Mult) (.li xs) (.int j) (.li (List.replicate j.toNat xs).flatten) := by
  rintro f c s m news v u Q E hu F N ⟨a, vs, k, rfl, h1', i1⟩ ⟨t, rfl⟩ P
  exact KMa.mul F N ⟨_, (N _ h1').1, rfl, k, rfl⟩ h0 h1 (by rw [i1.length]; exact h) rfl (fun D h' F' N' lt => P _ h' s.toks _ F' N' (fun p hp => .tail _ hp) ⟨D, _, 0, rfl, .head _, ints_flat i1 _⟩)
end
end
end Mine
end

section
open PySem PySem.W PyProof.Rows PySem.Calls
set_option maxHeartbeats 1000000
namespace Mine
section
variable {f : Fn} {c : Cx} {n : Nat} {ρ : List (Option V)}

def V.truth : V → Bool → Prop
  | .bool b, t => t = b
  | .int i, t => t = (i != 0)
  | _, _ => False
theorem truthy_V {a : V} {t : Bool} (h : a.truth t) {s : Shared} {news : Led} {v : Value} {Q : Bool → Shared → Prop} {E : Value → Shared → Prop} {w : World} {A : Around} (r : Rep news v a) (q : Q t s) : wpAny (model pg w) A (truthy v) Q E s := by
  cases a with
  | bool b => cases r; cases h; with_reducible exact wpAny_truthy_bool q
  | int i => obtain ⟨u, rfl⟩ := r; cases h; with_reducible exact truthy_int q
  | _ => exact h.elim

def Tst (f : Fn) (c : Cx) (n : Nat) (ρ : List (Option V)) (e : Expr) (b : Bool) : Prop :=
  ∀ (s : Shared) (m : Str → Option Value) (news : Led) (Q : Bool → Shared → Prop) (E : Value → Shared → Prop), c.Ok f n → Fr c.h₀ c.L s.heap m → News c.h₀ c.L s.heap news → Sees f.names ρ m news →
    (∀ h' tk' news', Fr c.h₀ c.L h' m → News c.h₀ c.L h' news' → (∀ p ∈ news, p ∈ news') → Q b { s with heap := h', toks := tk' }) →
    wpAny (model pg c.w) (c.A f) (PySem.isTrue e (c.env f) (eval e (c.env f))) Q E s
theorem Tst.cmp {l r : Expr} {op : CmpOp} {pos : Pos} {a b d : V} {t : Bool} (hl : Ev f c n ρ l a) (hr : Ev f c n ρ r b) (ho : Op2 (compareOp op) a b d) (ht : d.truth t) (hb : behindInMarks op r = false := by rfl) : Tst f c n ρ (.Compare l [op] [r] pos) t :=
  fun s m news Q E ok F N S P => wpAny_isTrue_Compare1 (hl s m news _ E ok F N S fun v h1 t1 n1 F1 N1 s1 R1 =>
    hr _ m n1 _ E ok F1 N1 (S.mono s1) fun u h2 t2 n2 F2 N2 s2 R2 =>
      ho f c _ m n2 v u _ E (by have := ok.units; omega) F2 N2 (R1.mono s2) R2 fun w h3 t3 n3 F3 N3 s3 R3 => truthy_V ht R3 (P h3 t3 n3 F3 N3 (fun p hp => s3 p (s2 p (s1 p hp))))) hb
theorem Tst.not {x : Expr} {pos : Pos} {t : Bool} (h : Tst f c n ρ x t) : Tst f c n ρ (.UnaryOp .Not x pos) (!t) :=
  fun s m news Q E ok F N S P => isTrue_not (h s m news _ E ok F N S P)
theorem Tst.plain {e : Expr} {d : V} {t : Bool} (h : Ev f c n ρ e d) (ht : d.truth t) (he : ∀ env whole, PySem.isTrue e env whole = (do let v ← whole; standAt e.pos; holding [v] (truthy v)) := by intro _ _; rfl) : Tst f c n ρ e t :=
  fun s m news Q E ok F N S P => isTrue_plain (h s m news _ E ok F N S fun v h1 t1 n1 F1 N1 s1 R1 => truthy_V ht R1 (P h1 t1 n1 F1 N1 s1)) (he _ _)
def TstL (f : Fn) (c : Cx) (n : Nat) (ρ : List (Option V)) (op : BoolOp) (es : List Expr) (b : Bool) : Prop :=
  ∀ (pos : Pos) (whole : Sem Value) (s : Shared) (m : Str → Option Value) (news : Led) (Q : Bool → Shared → Prop) (E : Value → Shared → Prop), c.Ok f n → Fr c.h₀ c.L s.heap m → News c.h₀ c.L s.heap news → Sees f.names ρ m news →
    (∀ h' tk' news', Fr c.h₀ c.L h' m → News c.h₀ c.L h' news' → (∀ p ∈ news, p ∈ news') → Q b { s with heap := h', toks := tk' }) →
    wpAny (model pg c.w) (c.A f) (PySem.isTrue (.BoolOp op es pos) (c.env f) whole) Q E s
theorem TstL.and_nil : TstL f c n ρ .And [] true := fun pos whole s m news Q E ok F N S P => isTrue_and_nil (P s.heap s.toks news F N fun _ h => h)
theorem TstL.or_nil : TstL f c n ρ .Or [] false := fun pos whole s m news Q E ok F N S P => isTrue_or_nil (P s.heap s.toks news F N fun _ h => h)
theorem TstL.and_cons {x : Expr} {r : List Expr} {b1 b2 : Bool} (h1 : Tst f c n ρ x b1) (h2 : b1 = true → TstL f c n ρ .And r b2) : TstL f c n ρ .And (x :: r) (b1 && b2) :=
  fun pos whole s m news Q E ok F N S P => isTrue_and (h1 s m news _ E ok F N S fun h' t' n' F' N' s' => by
    cases b1 with
    | true => exact h2 rfl pos whole _ m n' Q E ok F' N' (S.mono s') fun h3 t3 n3 F3 N3 s3 => P h3 t3 n3 F3 N3 (fun p hp => s3 p (s' p hp))
    | false => exact P h' t' n' F' N' s')
theorem TstL.or_cons {x : Expr} {r : List Expr} {b1 b2 : Bool} (h1 : Tst f c n ρ x b1) (h2 : b1 = false → TstL f c n ρ .Or r b2) : TstL f c n ρ .Or (x :: r) (b1 || b2) :=
  fun pos whole s m news Q E ok F N S P => isTrue_or (h1 s m news _ E ok F N S fun h' t' n' F' N' s' => by
    cases b1 with
    | false => exact h2 rfl pos whole _ m n' Q E ok F' N' (S.mono s') fun h3 t3 n3 F3 N3 s3 => P h3 t3 n3 F3 N3 (fun p hp => s3 p (s' p hp))
    | true => exact P h' t' n' F' N' s')
theorem Tst.bool {op : BoolOp} {es : List Expr} {pos : Pos} {b : Bool} (h : TstL f c n ρ op es b) : Tst f c n ρ (.BoolOp op es pos) b :=
  fun s m news Q E ok F N S P => h pos _ s m news Q E ok F N S P

theorem Ev.ifexp {t a b : Expr} {pos : Pos} {d : V} {q : Bool} (ht : Tst f c n ρ t q) (h1 : q = true → Ev f c n ρ a d) (h2 : q = false → Ev f c n ρ b d) : Ev f c n ρ (.IfExp t a b pos) d :=
  fun s m news Q E ok F N S P => wpAny_IfExp (ht s m news _ E ok F N S fun h' t' n' F' N' s' => by
    cases q with
    | true => exact h1 rfl _ m n' Q E ok F' N' (S.mono s') fun v h3 t3 n3 F3 N3 s3 R => P v h3 t3 n3 F3 N3 (fun p hp => s3 p (s' p hp)) R
    | false => exact h2 rfl _ m n' Q E ok F' N' (S.mono s') fun v h3 t3 n3 F3 N3 s3 R => P v h3 t3 n3 F3 N3 (fun p hp => s3 p (s' p hp)) R)
theorem Ev.bool_one {op : BoolOp} {x : Expr} {pos : Pos} {d : V} (h : Ev f c n ρ x d) : Ev f c n ρ (.BoolOp op [x] pos) d :=
  fun s m news Q E ok F N S P => BoolOp_one (h s m news Q E ok F N S P)
theorem Ev.and_cons {x y : Expr} {r : List Expr} {pos : Pos} {b1 b2 : Bool} (h1 : Ev f c n ρ x (.bool b1)) (h2 : b1 = true → Ev f c n ρ (.BoolOp .And (y :: r) pos) (.bool b2)) : Ev f c n ρ (.BoolOp .And (x :: y :: r) pos) (.bool (b1 && b2)) :=
  fun s m news Q E ok F N S P => BoolOp_and (h1 s m news _ E ok F N S fun v h' t' n' F' N' s' R => by
    cases R
    refine wpAny_truthy_bool ?_
    cases b1 with
    | true => exact h2 rfl _ m n' Q E ok F' N' (S.mono s') fun v h3 t3 n3 F3 N3 s3 R => P v h3 t3 n3 F3 N3 (fun p hp => s3 p (s' p hp)) R
    | false => exact P _ h' t' n' F' N' s' rfl)

-- argument lists
def RepL (news : Led) : List Value → List V → Prop
  | [], [] => True
  | v :: vs, d :: ds => Rep news v d ∧ RepL news vs ds
  | _, _ => False
theorem RepL.mono {n1 n2 : Led} (hs : ∀ p ∈ n1, p ∈ n2) : ∀ {vs : List Value} {ds : List V}, RepL n1 vs ds → RepL n2 vs ds
  | [], [], _ => trivial
  | _ :: _, _ :: _, h => ⟨h.1.mono hs, RepL.mono hs h.2⟩
def PostL (c : Cx) (s : Shared) (m : Str → Option Value) (news : Led) (Q : List Value → Shared → Prop) (ds : List V) : Prop :=
  ∀ vs h' tk' news', Fr c.h₀ c.L h' m → News c.h₀ c.L h' news' → (∀ p ∈ news, p ∈ news') → RepL news' vs ds → Q vs { s with heap := h', toks := tk' }
def EvL (f : Fn) (c : Cx) (n : Nat) (ρ : List (Option V)) (es : List Expr) (ds : List V) : Prop :=
  ∀ (pos : Pos) (s : Shared) (m : Str → Option Value) (news : Led) (Q : List Value → Shared → Prop) (E : Value → Shared → Prop), c.Ok f n → Fr c.h₀ c.L s.heap m → News c.h₀ c.L s.heap news → Sees f.names ρ m news → PostL c s m news Q ds →
    wpAny (model pg c.w) (c.A f) (spliced (backTo pos (starEach es (c.env f)))) Q E s
theorem EvL.nil : EvL f c n ρ [] [] := fun pos s m news Q E ok F N S P => spliced_none (P [] s.heap s.toks news F N (fun _ h => h) trivial)
theorem EvL.cons {e : Expr} {es : List Expr} {d : V} {ds : List V} (h1 : Ev f c n ρ e d) (h2 : EvL f c n ρ es ds) (he : ∀ env, starEach (e :: es) env = (false, eval e env) :: starEach es env := by intro _; rfl) : EvL f c n ρ (e :: es) (d :: ds) :=
  fun pos s m news Q E ok F N S P => spliced_more (h1 s m news _ E ok F N S fun v h' t' n' F' N' s' R =>
    h2 pos _ m n' _ E ok F' N' (S.mono s') fun vs h3 t3 n3 F3 N3 s3 R3 => P (v :: vs) h3 t3 n3 F3 N3 (fun p hp => s3 p (s' p hp)) ⟨R.mono s3, R3⟩) (he _)

/-- what a callable gives back -/
def Con (g : Value) (n : Nat) (ds : List V) (d : V) : Prop :=
  ∀ (f : Fn) (c : Cx) (s : Shared) (m : Str → Option Value) (news : Led) (vs : List Value) (Q E : Value → Shared → Prop), c.Ok f n → Fr c.h₀ c.L s.heap m → News c.h₀ c.L s.heap news → RepL news vs ds → Post c s m news Q d →
    wpAny (model pg c.w) (c.A f) (call g vs) Q E s
theorem Cx.Ok.le {k : Nat} (h : c.Ok f n) (hk : k ≤ n) : c.Ok f k := ⟨h.below, h.kin, h.top, by have := h.room; omega, by have := h.units; omega, h.fok⟩

def GFn (x : Str) (fa : Addr) : Prop := ∀ P, nsIn (hd.heap_39 P) mainGlobals x = some (some (.ref fa)) ∧ keepIn (hd.heap_39 P) (.ref fa) = true
def GBi (x : Str) (v : Value) : Prop := (∀ P, nsIn (hd.heap_39 P) mainGlobals x = some none) ∧ bootBuiltins x = some v ∧ x ≠ "__name__"

theorem Ev.call {x : Str} {p pos : Pos} {fa : Addr} {e : Expr} {es : List Expr} {ds : List V} {d : V} {k : Nat} (hg : GFn x fa) (hk : Kd .globalImplicit f.names x) (ha : EvL f c n ρ (e :: es) ds) (hc : Con (.ref fa) k ds d) (hn : k ≤ n := by decide)
    (he : ∀ env, starEach (e :: es) env = (false, eval e env) :: starEach es env := by intro _; rfl) (hplain : ∀ env, (backTo pos (starEach es env)).any (·.1) = false := by intro _; rfl) :
    Ev f c n ρ (.Call (.Name x p) (e :: es) [] pos) d :=
  fun s m news Q E ok F N S P => Call_ (nameX_K F ok.kin (topRead_of ok.top) (hg c.w.params).1
    (callWith_K (h₀ := c.h₀) ok.kin (hg c.w.params).2 (ha pos s m news _ E ok F N S fun vs h' t' n' F' N' s' R => ⟨ok.kin.keeps F'.keep,
      hc f c _ m n' vs Q E (ok.le hn) F' N' R fun v h3 t3 n3 F3 N3 s3 R3 => P v h3 t3 n3 F3 N3 (fun p hp => s3 p (s' p hp)) R3⟩) (he _) (hplain _))
    rfl (hk.kindOf c ok.fok) (ok.fok.dbg _ hk.mem))
theorem Ev.callT {x : Str} {p pos : Pos} {T : String} {e : Expr} {es : List Expr} {ds : List V} {d : V} {k : Nat} (hg : GBi x (.type T)) (hk : Kd .globalImplicit f.names x) (ha : EvL f c n ρ (e :: es) ds) (hc : Con (.type T) k ds d) (hn : k ≤ n := by decide)
    (he : ∀ env, starEach (e :: es) env = (false, eval e env) :: starEach es env := by intro _; rfl) (hplain : ∀ env, (backTo pos (starEach es env)).any (·.1) = false := by intro _; rfl) :
    Ev f c n ρ (.Call (.Name x p) (e :: es) [] pos) d :=
  fun s m news Q E ok F N S P => Call_ (nameX_B F ok.kin (topRead_of ok.top) (hg.1 c.w.params) hg.2.1 hg.2.2
    (PyProof.Rows.callWith_type1 (ha pos s m news _ E ok F N S fun vs h' t' n' F' N' s' R =>
      hc f c _ m n' vs Q E (ok.le hn) F' N' R fun v h3 t3 n3 F3 N3 s3 R3 => P v h3 t3 n3 F3 N3 (fun p hp => s3 p (s' p hp)) R3) (he _) (hplain _))
    rfl (hk.kindOf c ok.fok) (ok.fok.dbg _ hk.mem))
theorem callWith_b1 {M : Model} {A : Around} {E : Value → Shared → Prop} {s : Shared} {env : Env} {pos : Pos} {T : String} {e : Expr} {rest : List Expr} {Q : Value → Shared → Prop}
    (h : wpAny M A (spliced (backTo pos (starEach (e :: rest) env))) (fun vs s₁ => wpAny M A (call (.builtin T) vs) Q E s₁) E s)
    (he : starEach (e :: rest) env = (false, eval e env) :: starEach rest env) (hplain : (backTo pos (starEach rest env)).any (·.1) = false) :
    wpAny M A (callWith pos (.builtin T) [] (backTo pos (starEach (e :: rest) env)) []) Q E s := by
  rw [he] at h ⊢
  exact Calls.callWith_builtin (by show (false || (backTo pos (starEach rest env)).any (·.1)) = false; rw [hplain]; rfl) (Calls.evalArgs_plain h)
theorem Ev.callB {x : Str} {p pos : Pos} {T : String} {e : Expr} {es : List Expr} {ds : List V} {d : V} {k : Nat} (hg : GBi x (.builtin T)) (hk : Kd .globalImplicit f.names x) (ha : EvL f c n ρ (e :: es) ds) (hc : Con (.builtin T) k ds d) (hn : k ≤ n := by decide)
    (he : ∀ env, starEach (e :: es) env = (false, eval e env) :: starEach es env := by intro _; rfl) (hplain : ∀ env, (backTo pos (starEach es env)).any (·.1) = false := by intro _; rfl) :
    Ev f c n ρ (.Call (.Name x p) (e :: es) [] pos) d :=
  fun s m news Q E ok F N S P => Call_ (nameX_B F ok.kin (topRead_of ok.top) (hg.1 c.w.params) hg.2.1 hg.2.2
    (callWith_b1 (ha pos s m news _ E ok F N S fun vs h' t' n' F' N' s' R =>
      hc f c _ m n' vs Q E (ok.le hn) F' N' R fun v h3 t3 n3 F3 N3 s3 R3 => P v h3 t3 n3 F3 N3 (fun p hp => s3 p (s' p hp)) R3) (he _) (hplain _))
    rfl (hk.kindOf c ok.fok) (ok.fok.dbg _ hk.mem))
end
end Mine
end

section
open PySem PySem.W PyProof.Rows PySem.Calls
set_option maxHeartbeats 1000000
namespace Mine
section
variable {f : Fn} {c : Cx} {n : Nat} {ρ : List (Option V)}

theorem strs_len {vs : List Value} {ys : List Str} (h : StrsAre vs ys) : vs.length = ys.length := by
  induction h with
  | nil => rfl
  | cons _ _ _ ih => simp [ih]
theorem con_int {i : Int} : Con (.type "int") 0 [.int i] (.int i) := by
  intro f c s m news vs Q E ok F N R P
  match vs, R with
  | [v], R =>
    obtain ⟨⟨t, rfl⟩, _⟩ := R
    with_reducible refine call_int_int ?_
    exact P _ s.heap s.toks news F N (fun _ h => h) ⟨t, rfl⟩
theorem con_intb {b : Bool} : Con (.type "int") 0 [.bool b] (.int (if b then 1 else 0)) := by
  intro f c s m news vs Q E ok F N R P
  match vs, R with
  | [v], R =>
    obtain ⟨rfl, _⟩ := R
    with_reducible refine call_int_bool ?_
    exact P _ s.heap _ news F N (fun _ h => h) ⟨_, rfl⟩
theorem con_abs {i : Int} : Con (.builtin "abs") 0 [.int i] (.int (if i < 0 then -i else i)) := by
  intro f c s m news vs Q E ok F N R P
  match vs, R with
  | [v], R =>
    obtain ⟨⟨t, rfl⟩, _⟩ := R
    with_reducible refine call_abs_int ?_
    exact fun u tk => P _ s.heap _ news F N (fun _ h => h) ⟨_, rfl⟩
theorem con_len {l : List Int} (hl : l.length < 2 ^ 62) : Con (.builtin "len") 0 [.li l] (.int l.length) := by
  intro f c s m news vs Q E ok F N R P
  match vs, R with
  | [v], R =>
    obtain ⟨⟨a, us, k, rfl, h, i⟩, _⟩ := R
    refine len_list (items := us.toArray) ⟨_, (N _ h).1, rfl, k, rfl⟩ (by have := i.length; simp only [List.size_toArray]; omega) ?_
    exact P _ s.heap _ news F N (fun _ h => h) ⟨_, by rw [show us.toArray.size = l.length by simp [i.length]]⟩
theorem con_lens {l : List Str} (hl : l.length < 2 ^ 62) : Con (.builtin "len") 0 [.ls l] (.int l.length) := by
  intro f c s m news vs Q E ok F N R P
  match vs, R with
  | [v], R =>
    obtain ⟨⟨a, us, k, rfl, h, i⟩, _⟩ := R
    have hlen : us.length = l.length := strs_len i
    refine len_list (items := us.toArray) ⟨_, (N _ h).1, rfl, k, rfl⟩ (by simp only [List.size_toArray]; omega) ?_
    exact P _ s.heap _ news F N (fun _ h => h) ⟨_, by rw [show us.toArray.size = l.length by simp [hlen]]⟩
theorem con_list {l : List Int} (hl : l.length ≤ 1000) : Con (.type "list") 0 [.li l] (.li l) := by
  intro f c s m news vs Q E ok F N R P
  match vs, R with
  | [v], R =>
    obtain ⟨⟨a, us, k, rfl, h, i⟩, _⟩ := R
    exact kup_listOf (zs := us) F N h (by simp) (fun D cc h' F' N' lt => P _ h' s.toks _ F' N' (fun p hp => .tail _ hp) ⟨D, us, cc, rfl, .head _, i⟩) (by rw [sizeLine_eq]; have := i.length; simp; omega)

-- subscripts
theorem Ev.item {slice : Expr} {pos : Pos} {xn : Str} {px : Pos} {l : List Int} {i : Int} (hx : Ev f c n ρ (.Name xn px) (.li l)) (hi : Ev f c n ρ slice (.int i)) (h0 : 0 ≤ i) (h1 : i < l.length) (h2 : i < 2 ^ 63)
    (hs : ∀ a b, subscripted slice false a b = operate [a, b] (getItem a b) := by intro _ _; rfl) : Ev f c n ρ (.Subscript (.Name xn px) slice pos) (.int (l.getD i.toNat 0)) :=
  fun s m news Q E ok F N S P => Subscript_ (hx s m news _ E ok F N S fun v h1' t1 n1 F1 N1 s1 R1 =>
    hi _ m n1 _ E ok F1 N1 (S.mono s1) fun u h2' t2 n2 F2 N2 s2 R2 => by
      obtain ⟨a, vs, k, rfl, hm, ii⟩ := R1.mono s2
      obtain ⟨t, rfl⟩ := R2
      exact item_list_intsR ⟨_, (N2 _ hm).1, rfl, k, rfl⟩ ii h0 h1 h2 (fun t' => P _ h2' t2 n2 F2 N2 (fun p hp => s2 p (s1 p hp)) ⟨t', rfl⟩) (hs _ _))
theorem Ev.itemNeg {slice : Expr} {pos : Pos} {xn : Str} {px : Pos} {l : List Int} {i : Int} (hx : Ev f c n ρ (.Name xn px) (.li l)) (hi : Ev f c n ρ slice (.int i)) (h0 : i < 0) (h1 : -l.length ≤ i) (h2 : -2 ^ 63 ≤ i)
    (hs : ∀ a b, subscripted slice false a b = operate [a, b] (getItem a b) := by intro _ _; rfl) : Ev f c n ρ (.Subscript (.Name xn px) slice pos) (.int (l.getD (i + l.length).toNat 0)) :=
  fun s m news Q E ok F N S P => Subscript_ (hx s m news _ E ok F N S fun v h1' t1 n1 F1 N1 s1 R1 =>
    hi _ m n1 _ E ok F1 N1 (S.mono s1) fun u h2' t2 n2 F2 N2 s2 R2 => by
      obtain ⟨a, vs, k, rfl, hm, ii⟩ := R1.mono s2
      obtain ⟨t, rfl⟩ := R2
      exact item_list_ints_negR ⟨_, (N2 _ hm).1, rfl, k, rfl⟩ ii h0 h1 h2 (fun t' => P _ h2' t2 n2 F2 N2 (fun p hp => s2 p (s1 p hp)) ⟨t', rfl⟩) (hs _ _))
theorem Ev.pair0 {slice : Expr} {pos : Pos} {xn : Str} {px : Pos} {l r : List Int} (hx : Ev f c n ρ (.Name xn px) (.pr l r)) (hi : Ev f c n ρ slice (.int 0))
    (hs : ∀ a b, subscripted slice false a b = operate [a, b] (getItem a b) := by intro _ _; rfl) : Ev f c n ρ (.Subscript (.Name xn px) slice pos) (.li l) :=
  fun s m news Q E ok F N S P => Subscript_ (hx s m news _ E ok F N S fun v h1' t1 n1 F1 N1 s1 R1 =>
    hi _ m n1 _ E ok F1 N1 (S.mono s1) fun u h2' t2 n2 F2 N2 s2 R2 => by
      obtain ⟨a, x, y, rfl, hm, ix, iy⟩ := R1.mono s2
      obtain ⟨t, rfl⟩ := R2
      exact item_tupleL (News.isTup N2 hm) (by decide) (by decide) rfl rfl (P _ h2' t2 n2 F2 N2 (fun p hp => s2 p (s1 p hp)) ix) (hs _ _) (by intro _; rfl))
theorem Ev.pair1 {slice : Expr} {pos : Pos} {xn : Str} {px : Pos} {l r : List Int} (hx : Ev f c n ρ (.Name xn px) (.pr l r)) (hi : Ev f c n ρ slice (.int 1))
    (hs : ∀ a b, subscripted slice false a b = operate [a, b] (getItem a b) := by intro _ _; rfl) : Ev f c n ρ (.Subscript (.Name xn px) slice pos) (.li r) :=
  fun s m news Q E ok F N S P => Subscript_ (hx s m news _ E ok F N S fun v h1' t1 n1 F1 N1 s1 R1 =>
    hi _ m n1 _ E ok F1 N1 (S.mono s1) fun u h2' t2 n2 F2 N2 s2 R2 => by
      obtain ⟨a, x, y, rfl, hm, ix, iy⟩ := R1.mono s2
      obtain ⟨t, rfl⟩ := R2
      exact item_tupleL (News.isTup N2 hm) (by decide) (by decide) rfl rfl (P _ h2' t2 n2 F2 N2 (fun p hp => s2 p (s1 p hp)) iy) (hs _ _) (by intro _; rfl))

/-- a part of a slice -/
def EvP (f : Fn) (c : Cx) (n : Nat) (ρ : List (Option V)) (e : Option Expr) (d : Option Int) : Prop :=
  match e, d with
  | none, none => True
  | some e, some i => Ev f c n ρ e (.int i)
  | _, _ => False
theorem EvP.use {e : Option Expr} {d : Option Int} (h : EvP f c n ρ e d) {s : Shared} {m : Str → Option Value} {news : Led} {Q E : Value → Shared → Prop} (ok : c.Ok f n) (F : Fr c.h₀ c.L s.heap m) (N : News c.h₀ c.L s.heap news) (S : Sees f.names ρ m news)
    (P : ∀ v h' tk' news', Fr c.h₀ c.L h' m → News c.h₀ c.L h' news' → (∀ p ∈ news, p ∈ news') → IsPart v d → Q v { s with heap := h', toks := tk' }) :
    wpAny (model pg c.w) (c.A f) (evalPart e (c.env f)) Q E s := by
  cases e with
  | none =>
    cases d with
    | none => exact wpAny_pure (P _ s.heap s.toks news F N (fun _ h => h) .none)
    | some i => exact h.elim
  | some e =>
    cases d with
    | none => exact h.elim
    | some i =>
      exact (show Ev f c n ρ e (.int i) from h) s m news Q E ok F N S fun v h' t' n' F' N' s' R => by
        obtain ⟨t, rfl⟩ := R
        exact P _ h' t' n' F' N' s' (.int _ _)
theorem Ev.slice {pos sp : Pos} {xn : Str} {px : Pos} {l : List Int} {lo hi : Option Expr} {a b : Option Int} (hx : Ev f c n ρ (.Name xn px) (.li l)) (h1 : EvP f c n ρ lo a) (h2 : EvP f c n ρ hi b) (hl : l.length ≤ 1000) :
    Ev f c n ρ (.Subscript (.Name xn px) (.Slice lo hi none sp) pos) (.li (pickNums l a b none)) :=
  fun s m news Q E ok F N S P => Subscript_ (hx s m news _ E ok F N S fun v h1' t1 n1 F1 N1 s1 R1 =>
    wpAny_Slice (h1.use ok F1 N1 (S.mono s1) fun u h2' t2 n2 F2 N2 s2 p1 => h2.use ok F2 N2 (S.mono fun p hp => s2 p (s1 p hp)) fun w h3 t3 n3 F3 N3 s3 p2 =>
      wpAny_pure (by
        obtain ⟨r, vs, k, rfl, hm, ii⟩ := R1.mono fun p hp => s3 p (s2 p hp)
        exact slice_list3 F3 N3 ⟨_, (N3 _ hm).1, rfl, k, rfl⟩ p1 p2 .none (by simp) (fun h4 F4 N4 => P _ h4 t3 _ F4 N4 (fun p hp => .tail _ (s3 p (s2 p (s1 p hp)))) ⟨_, (slicePick vs.toArray a b none).toList, 0, rfl, by simp [W.listOf], ii.pick a b none⟩)
          (by rfl) (by intro _; rfl) (by rw [sizeLine_eq]; have := ii.length; simp; omega))))
theorem Ev.sliceRev {pos sp p1 p2 : Pos} {k1 : Nat} {xn : Str} {px : Pos} {l : List Int} (hx : Ev f c n ρ (.Name xn px) (.li l)) (hl : l.length ≤ 1000) :
    Ev f c n ρ (.Subscript (.Name xn px) (.Slice none none (some (.UnaryOp .USub (.Constant (.int 1) k1 p1) p2)) sp) pos) (.li (pickNums l none none (some (-1)))) :=
  fun s m news Q E ok F N S P => Subscript_ (hx s m news _ E ok F N S fun v h1' t1 n1 F1 N1 s1 R1 =>
    wpAny_Slice (wpAny_pure (wpAny_pure ((Ev.un (ρ := ρ) Ev.cint op_neg) _ m n1 _ E ok F1 N1 (S.mono s1) fun w h3 t3 n3 F3 N3 s3 R3 => by
        obtain ⟨r, vs, k, rfl, hm, ii⟩ := R1.mono s3
        obtain ⟨t, rfl⟩ := R3
        exact slice_list3 F3 N3 ⟨_, (N3 _ hm).1, rfl, k, rfl⟩ .none .none (.int _ _) (by simp) (fun h4 F4 N4 => P _ h4 t3 _ F4 N4 (fun p hp => .tail _ (s3 p (s1 p hp))) ⟨_, (slicePick vs.toArray none none (some (-1))).toList, 0, rfl, by simp [W.listOf], ii.pick none none (some (-1))⟩)
          (by rfl) (by intro _; rfl) (by rw [sizeLine_eq]; have := ii.length; simp; omega)))))

-- displays
def EvI (f : Fn) (c : Cx) (n : Nat) (ρ : List (Option V)) (es : List Expr) (is : List Int) : Prop := EvL f c n ρ es (is.map .int)
def EvS (f : Fn) (c : Cx) (n : Nat) (ρ : List (Option V)) (es : List Expr) (is : List Str) : Prop := EvL f c n ρ es (is.map .str)
theorem RepL.ints {news : Led} : ∀ {vs : List Value} {is : List Int}, RepL news vs (is.map .int) → IntsAre vs is
  | [], [], _ => .nil
  | _ :: _, _ :: _, h => by obtain ⟨⟨t, rfl⟩, h2⟩ := h; exact .cons _ t (RepL.ints h2)
  | [], _ :: _, h => h.elim
  | _ :: _, [], h => h.elim
theorem RepL.strs {news : Led} : ∀ {vs : List Value} {is : List Str}, RepL news vs (is.map .str) → StrsAre vs is
  | [], [], _ => .nil
  | _ :: _, _ :: _, h => by obtain ⟨⟨t, rfl⟩, h2⟩ := h; exact .cons _ t (RepL.strs h2)
  | [], _ :: _, h => h.elim
  | _ :: _, [], h => h.elim
theorem RepL.length {news : Led} : ∀ {vs : List Value} {ds : List V}, RepL news vs ds → vs.length = ds.length
  | [], [], _ => rfl
  | _ :: _, _ :: _, h => by simp [RepL.length h.2]
  | [], _ :: _, h => h.elim
  | _ :: _, [], h => h.elim
theorem Ev.ilist {es : List Expr} {is : List Int} {pos : Pos} (h : EvI f c n ρ es is) (hl : is.length ≤ 1000) : Ev f c n ρ (.List es pos) (.li is) :=
  fun s m news Q E ok F N S P => List_ (h pos s m news _ E ok F N S fun vs h' t' n' F' N' s' R =>
    newList_K F' N' (fun l h2 F2 N2 lt => P _ h2 t' _ F2 N2 (fun p hp => .tail _ (s' p hp)) ⟨l, vs, 0, rfl, .head _, R.ints⟩) (by rw [sizeLine_eq]; have := R.length; simp at this; omega))
theorem Ev.slist {es : List Expr} {is : List Str} {pos : Pos} (h : EvS f c n ρ es is) (hl : is.length ≤ 1000) : Ev f c n ρ (.List es pos) (.ls is) :=
  fun s m news Q E ok F N S P => List_ (h pos s m news _ E ok F N S fun vs h' t' n' F' N' s' R =>
    newList_K F' N' (fun l h2 F2 N2 lt => P _ h2 t' _ F2 N2 (fun p hp => .tail _ (s' p hp)) ⟨l, vs, 0, rfl, .head _, R.strs⟩) (by rw [sizeLine_eq]; have := R.length; simp at this; omega))
theorem Ev.itup {es : List Expr} {is : List Int} {pos : Pos} {k : Nat} (h : EvI f c n ρ es is) (hl : is.length ≤ 1000) : Ev f c n ρ (.Tuple es k pos) (.ti is) :=
  fun s m news Q E ok F N S P => Tuple_ (h pos s m news _ E ok F N S fun vs h' t' n' F' N' s' R =>
    newTuple_N F' N' (fun h2 F2 N2 => P _ h2 t' _ F2 N2 (fun p hp => .tail _ (s' p hp)) ⟨_, vs, rfl, .head _, R.ints⟩) (by rw [sizeLine_eq]; have := R.length; simp at this; omega))
theorem Ev.stup {es : List Expr} {is : List Str} {pos : Pos} {k : Nat} (h : EvS f c n ρ es is) (hl : is.length ≤ 1000) : Ev f c n ρ (.Tuple es k pos) (.ts is) :=
  fun s m news Q E ok F N S P => Tuple_ (h pos s m news _ E ok F N S fun vs h' t' n' F' N' s' R =>
    newTuple_N F' N' (fun h2 F2 N2 => P _ h2 t' _ F2 N2 (fun p hp => .tail _ (s' p hp)) ⟨_, vs, rfl, .head _, R.strs⟩) (by rw [sizeLine_eq]; have := R.length; simp at this; omega))
theorem Ev.pair {x y : Expr} {l r : List Int} {pos : Pos} {k : Nat} (h : EvL f c n ρ [x, y] [.li l, .li r]) : Ev f c n ρ (.Tuple [x, y] k pos) (.pr l r) :=
  fun s m news Q E ok F N S P => Tuple_ (h pos s m news _ E ok F N S fun vs h' t' n' F' N' s' R => by
    match vs, R with
    | [v, u], ⟨R1, R2, _⟩ =>
      exact newTuple_N F' N' (fun h2 F2 N2 => P _ h2 t' _ F2 N2 (fun p hp => .tail _ (s' p hp)) ⟨_, v, u, rfl, .head _, RepI.mono R1 fun p hp => .tail _ hp, RepI.mono R2 fun p hp => .tail _ hp⟩) (by rw [sizeLine_eq]; simp))
theorem Ev.congr {e : Expr} {a b : V} (h : Ev f c n ρ e a) (q : a = b) : Ev f c n ρ e b := q ▸ h
theorem Tst.congr {e : Expr} {a b : Bool} (h : Tst f c n ρ e a) (q : a = b) : Tst f c n ρ e b := q ▸ h

-- texts: items and slices
theorem Ev.sitem {slice : Expr} {pos : Pos} {xn : Str} {px : Pos} {x : Str} {i : Int} (hx : Ev f c n ρ (.Name xn px) (.str x)) (hi : Ev f c n ρ slice (.int i)) (h0 : fitsSsize i = true) (h1 : -x.length ≤ i) (h2 : i < x.length)
    (hs : ∀ a b, subscripted slice false a b = operate [a, b] (getItem a b) := by intro _ _; rfl) : Ev f c n ρ (.Subscript (.Name xn px) slice pos) (.str (Txt.item x i)) :=
  fun s m news Q E ok F N S P => Subscript_ (hx s m news _ E ok F N S fun v h1' t1 n1 F1 N1 s1 R1 =>
    hi _ m n1 _ E ok F1 N1 (S.mono s1) fun u h2' t2 n2 F2 N2 s2 R2 => by
      obtain ⟨t, rfl⟩ := R1
      obtain ⟨t', rfl⟩ := R2
      exact item_str h0 h1 h2 (fun _ => P _ h2' _ n2 F2 N2 (fun p hp => s2 p (s1 p hp)) ⟨_, rfl⟩) (hs _ _) (by intro _; rfl))
theorem Ev.sfrom {pos sp : Pos} {xn : Str} {px : Pos} {x : Str} {e : Expr} {i : Int} (hx : Ev f c n ρ (.Name xn px) (.str x)) (h1 : Ev f c n ρ e (.int i)) (hl : x.length ≤ sizeLine) :
    Ev f c n ρ (.Subscript (.Name xn px) (.Slice (some e) none none sp) pos) (.str (Txt.slice x (some i) none)) :=
  fun s m news Q E ok F N S P => Subscript_ (hx s m news _ E ok F N S fun v h1' t1 n1 F1 N1 s1 R1 =>
    wpAny_Slice (h1 _ m n1 _ E ok F1 N1 (S.mono s1) fun u h2' t2 n2 F2 N2 s2 R2 => wpAny_pure (wpAny_pure (by
        obtain ⟨t, rfl⟩ := R1
        obtain ⟨t', rfl⟩ := R2
        exact slice_strN_sn F2 N2 (fun h3 t3 k F3 N3 => P _ h3 _ n2 F3 N3 (fun p hp => s2 p (s1 p hp)) ⟨_, rfl⟩) (by rfl) (by intro _; rfl) hl))))
theorem Ev.supto {pos sp : Pos} {xn : Str} {px : Pos} {x : Str} {e : Expr} {i : Int} (hx : Ev f c n ρ (.Name xn px) (.str x)) (h1 : Ev f c n ρ e (.int i)) (hl : x.length ≤ sizeLine) :
    Ev f c n ρ (.Subscript (.Name xn px) (.Slice none (some e) none sp) pos) (.str (Txt.slice x none (some i))) :=
  fun s m news Q E ok F N S P => Subscript_ (hx s m news _ E ok F N S fun v h1' t1 n1 F1 N1 s1 R1 =>
    wpAny_Slice (wpAny_pure (h1 _ m n1 _ E ok F1 N1 (S.mono s1) fun u h2' t2 n2 F2 N2 s2 R2 => wpAny_pure (by
        obtain ⟨t, rfl⟩ := R1
        obtain ⟨t', rfl⟩ := R2
        exact slice_strN_ns F2 N2 (fun h3 t3 k F3 N3 => P _ h3 _ n2 F3 N3 (fun p hp => s2 p (s1 p hp)) ⟨_, rfl⟩) (by rfl) (by intro _; rfl) hl))))
end
end Mine
end

section
open PySem PySem.W PyProof.Rows PySem.Calls
set_option maxHeartbeats 1000000
namespace Mine
/-- an address whose object is no list of ints or strs, no tuple: what is told of others does not need it -/
def OffObj (o : Obj) : Prop := (∀ (vs : List Value) (k : Nat), o = W.listOf (List.toArray vs) k → ∃ v r l, vs = v :: r ∧ v = Value.ref l) ∧ ∀ vs : List Value, o ≠ tupOf (List.toArray vs)
inductive G where
  | none
  | row (x : Str) (a : Addr) (xs : List Int)
  | pen (P : Addr) (ns : List Int) (k : Nat)
  | penx (P : Addr) (ns : List Int) (a b : Int)
  | own (l : List (Addr × Obj))
abbrev penObj (l : Addr) (a b : Int) (ta tb : Tok) (pn : Nat) : Obj := W.listOf (List.toArray [Value.ref l, Value.int a ta, Value.int b tb]) pn
def PenX (P : Addr) (ns : List Int) (a b : Int) (rest gl : Led) : Prop :=
  ∃ l vs ln ta tb pn, gl = [(P, penObj l a b ta tb pn)] ∧ (l, W.listOf (List.toArray vs) ln) ∈ rest ∧ IntsAre vs ns ∧ (∀ p ∈ rest, p.1 ≠ P)
def GOk : G → (Str → Option Value) → Led → Led → Prop
  | .none, _, _, gl => gl = []
  | .row x a xs, m, rest, gl => ∃ vs k, gl = [(a, W.listOf (List.toArray vs) k)] ∧ IntsAre vs xs ∧ m x = some (.ref a) ∧ (∀ p ∈ rest, p.1 ≠ a)
  | .pen P ns k, _, rest, gl => ∃ a b : Int, 0 ≤ a ∧ a ≤ k ∧ 0 ≤ b ∧ PenX P ns a b rest gl
  | .penx P ns a b, _, rest, gl => PenX P ns a b rest gl
  | .own l, _, rest, gl => gl = l ∧ (∀ p ∈ l, OffObj p.2) ∧ ∀ p ∈ rest, p.1 ∉ l.map (·.1)

abbrev excO (t : Addr) (d : Option Addr) : Obj := { cls := .ref 52, dict := d, data := .fields #[.ref t, .none, .none, .none, .bool false, .none] }
inductive Out where
  | raise
  | nextK (K : Led → Prop)
  | ret (d : V) (g : G)
  | next (ρ : List (Option V)) (g : G)
  | retD (D : V → Prop) (g : G)

def PostS (f : Fn) (c : Cx) (s : Shared) (rest : Led) (Q : Flow → Shared → Prop) (E : Value → Shared → Prop) : Out → Prop
  | .raise => ∀ e t d h' tk' m' rest', Fr c.h₀ c.L h' m' → News c.h₀ c.L h' ((e, excO t (some d)) :: rest') → (∀ p ∈ rest, p ∈ rest') → (∀ p ∈ rest, p.1 ≠ e) → E (.ref e) { s with heap := h', toks := tk' }
  | .nextK K => ∀ h' tk' m' rest' gl', Fr c.h₀ c.L h' m' → News c.h₀ c.L h' (gl' ++ rest') → K gl' → (∀ p ∈ rest, p ∈ rest') → Q .next { s with heap := h', toks := tk' }
  | .ret d g => ∀ v h' tk' m' rest' gl', Fr c.h₀ c.L h' m' → News c.h₀ c.L h' (gl' ++ rest') → GOk g m' rest' gl' → (∀ p ∈ rest, p ∈ rest') → Rep rest' v d → Q (.ret v) { s with heap := h', toks := tk' }
  | .next ρ' g => ∀ h' tk' m' rest' gl', Fr c.h₀ c.L h' m' → News c.h₀ c.L h' (gl' ++ rest') → GOk g m' rest' gl' → (∀ p ∈ rest, p ∈ rest') → Sees f.names ρ' m' rest' → Q .next { s with heap := h', toks := tk' }
  | .retD D g => ∀ d v h' tk' m' rest' gl', D d → Fr c.h₀ c.L h' m' → News c.h₀ c.L h' (gl' ++ rest') → GOk g m' rest' gl' → (∀ p ∈ rest, p ∈ rest') → Rep rest' v d → Q (.ret v) { s with heap := h', toks := tk' }
theorem PostS.sub {f : Fn} {c : Cx} {s : Shared} {r1 r2 : Led} {Q : Flow → Shared → Prop} {E : Value → Shared → Prop} {o : Out} (h : PostS f c s r1 Q E o) (hs : ∀ p ∈ r1, p ∈ r2) (h' : Heap) (tk' : Nat) : PostS f c { s with heap := h', toks := tk' } r2 Q E o := by
  cases o with
  | raise => exact fun e t d h2 t2 m2 r F N s ne => h e t d h2 t2 m2 r F N (fun p hp => s p (hs p hp)) (fun p hp => ne p (hs p hp))
  | nextK K => exact fun h2 t2 m2 r gl F N k s => h h2 t2 m2 r gl F N k (fun p hp => s p (hs p hp))
  | ret d g => exact fun v h2 t2 m2 r gl F N G s R => h v h2 t2 m2 r gl F N G (fun p hp => s p (hs p hp)) R
  | next ρ g => exact fun h2 t2 m2 r gl F N G s R => h h2 t2 m2 r gl F N G (fun p hp => s p (hs p hp)) R
  | retD D g => exact fun d v h2 t2 m2 r gl e F N G s R => h d v h2 t2 m2 r gl e F N G (fun p hp => s p (hs p hp)) R

def Ex (f : Fn) (c : Cx) (n : Nat) (ρ : List (Option V)) (g : G) (b : List Stmt) (o : Out) : Prop :=
  ∀ (s : Shared) (m : Str → Option Value) (rest gl : Led) (Q : Flow → Shared → Prop) (E : Value → Shared → Prop), c.Ok f n → Fr c.h₀ c.L s.heap m → News c.h₀ c.L s.heap (gl ++ rest) → GOk g m rest gl → Sees f.names ρ m rest → PostS f c s rest Q E o →
    wpAny (model pg c.w) (c.A f) (execs b (c.env f)) Q E s

def V.flat : V → Bool
  | .none | .bool _ | .int _ | .str _ | .obj _ => true
  | _ => false
def V.noList : V → Bool
  | .ls _ => false
  | _ => true
def Fits : G → V → Prop
  | .none, _ => True
  | .row _ _ xs, d => d.flat = true ∨ ∃ l, d = .li l ∧ l ≠ xs
  | .pen .., _ => True
  | .penx .., _ => True
  | .own .., _ => True
theorem ints_inj {vs : List Value} {l r : List Int} (h : IntsAre vs l) (k : IntsAre vs r) : l = r := by
  induction h generalizing r with
  | nil => cases k; rfl
  | cons _ _ _ ih => cases k with | cons _ _ k => rw [ih k]
theorem Rep.flat {d : V} (h : d.flat = true) {n1 n2 : Led} {v : Value} (r : Rep n1 v d) : Rep n2 v d := by
  cases d <;> first | exact r | cases h

theorem OffObj.ints {o : Obj} (h : OffObj o) {vs : List Value} {k : Nat} {l : List Int} (hi : IntsAre vs l) : o ≠ W.listOf (List.toArray vs) k := fun e => by
  obtain ⟨v, r, a, rfl, rfl⟩ := h.1 vs k e
  cases hi
theorem OffObj.strs {o : Obj} (h : OffObj o) {vs : List Value} {k : Nat} {l : List Str} (hi : StrsAre vs l) : o ≠ W.listOf (List.toArray vs) k := fun e => by
  obtain ⟨v, r, a, rfl, rfl⟩ := h.1 vs k e
  cases hi
section
variable {h₀ h : Heap} {L : Addr} {I : List Addr} {led led' : Led} {v : Value}
theorem off_ne (N : News h₀ L h led) (hI : ∀ a ∈ I, ∀ o, h.get? a = some o → OffObj o) {a : Addr} {o : Obj} (hm : (a, o) ∈ led) (ho : ¬ OffObj o) : a ∉ I := fun e => ho (hI a e o (N _ hm).1)
theorem RepI.off {l : List Int} (N : News h₀ L h led) (hI : ∀ a ∈ I, ∀ o, h.get? a = some o → OffObj o) (hs : ∀ p ∈ led, p.1 ∉ I → p ∈ led') (r : RepI led v l) : RepI led' v l := by
  obtain ⟨a, vs, k, e, hm, i⟩ := r
  exact ⟨a, vs, k, e, hs _ hm (off_ne N hI hm fun o => o.ints i rfl), i⟩
theorem Rep.off {d : V} (N : News h₀ L h led) (hI : ∀ a ∈ I, ∀ o, h.get? a = some o → OffObj o) (hs : ∀ p ∈ led, p.1 ∉ I → p ∈ led') (r : Rep led v d) : Rep led' v d := by
  cases d with
  | none => exact r
  | bool b => exact r
  | int i => exact r
  | str s => exact r
  | li l => exact RepI.off N hI hs r
  | ls l => obtain ⟨a, vs, k, e, hm, i⟩ := r; exact ⟨a, vs, k, e, hs _ hm (off_ne N hI hm fun o => o.strs i rfl), i⟩
  | ti l => obtain ⟨a, vs, e, hm, i⟩ := r; exact ⟨a, vs, e, hs _ hm (off_ne N hI hm fun o => o.2 _ rfl), i⟩
  | ts l => obtain ⟨a, vs, e, hm, i⟩ := r; exact ⟨a, vs, e, hs _ hm (off_ne N hI hm fun o => o.2 _ rfl), i⟩
  | pr l r' => obtain ⟨a, x, y, e, hm, ix, iy⟩ := r; exact ⟨a, x, y, e, hs _ hm (off_ne N hI hm fun o => o.2 _ rfl), ix.off N hI hs, iy.off N hI hs⟩
  | obj u => exact r
end
theorem off_pen {l : Addr} {a b : Int} {ta tb : Tok} {pn : Nat} : OffObj (penObj l a b ta tb pn) := by
  refine ⟨fun vs k e => ?_, fun vs e => ?_⟩
  · have := congrArg Obj.data e
    have h2 : [Value.ref l, Value.int a ta, Value.int b tb] = vs ∧ pn = k := by simpa [W.listOf] using this
    exact ⟨_, [Value.int a ta, Value.int b tb], l, h2.1.symm, rfl⟩
  · have := congrArg Obj.cls e
    exact absurd this (by simp)
theorem off_cls {o : Obj} (h1 : o.cls ≠ .type "list") (h2 : o.cls ≠ .type "tuple") : OffObj o :=
  ⟨fun vs k e => absurd (by rw [e]) h1, fun vs e => h2 (by rw [e])⟩

theorem penx_regain {h₀ h : Heap} {L : Addr} {P : Addr} {ns : List Int} {a b : Int} {rest gl led : Led} (N : News h₀ L h led) (G : PenX P ns a b rest gl) (hs : ∀ p ∈ gl ++ rest, p ∈ led) :
    ∃ rest', News h₀ L h (gl ++ rest') ∧ PenX P ns a b rest' gl ∧ (∀ p ∈ rest, p ∈ rest') ∧ ∀ v d, Rep led v d → Rep rest' v d := by
  obtain ⟨l, vs, ln, ta, tb, pn, rfl, hl, hi, h3⟩ := G
  have hP : ∀ q ∈ [P], ∀ o, h.get? q = some o → OffObj o := fun q hq o ho => by
    rw [List.mem_singleton.mp hq] at ho
    have := (N _ (hs _ (List.mem_append_left _ (.head _)))).1
    rw [ho] at this
    cases this
    exact off_pen
  refine ⟨led.filter (fun p => decide (p.1 ≠ P)), fun p hp => ?_, ⟨l, vs, ln, ta, tb, pn, rfl, ?_, hi, fun p hp => by simpa using (List.mem_filter.mp hp).2⟩, fun p hp => ?_, fun v d r => r.off N hP fun p hp hne => List.mem_filter.mpr ⟨hp, by simpa using hne⟩⟩
  · rcases List.mem_append.mp hp with q | q
    · exact N p (hs _ (List.mem_append_left _ q))
    · exact N p (List.mem_filter.mp q).1
  · exact List.mem_filter.mpr ⟨hs _ (List.mem_append_right _ hl), by simpa using h3 _ hl⟩
  · exact List.mem_filter.mpr ⟨hs _ (List.mem_append_right _ hp), by simpa using h3 _ hp⟩
theorem regainA {h₀ h : Heap} {L : Addr} {g : G} {m : Str → Option Value} {rest gl led : Led} (N : News h₀ L h led) (G : GOk g m rest gl) (hs : ∀ p ∈ gl ++ rest, p ∈ led) :
    ∃ rest', News h₀ L h (gl ++ rest') ∧ GOk g m rest' gl ∧ (∀ p ∈ rest, p ∈ rest') ∧ ∀ v d, Fits g d → Rep led v d → Rep rest' v d := by
  cases g with
  | none =>
    cases G
    exact ⟨led, N, rfl, hs, fun _ _ _ r => r⟩
  | row x a xs =>
    obtain ⟨vs, k, rfl, hi, hm, hne⟩ := G
    refine ⟨led.filter (fun p => decide (p.1 ≠ a)), fun p hp => ?_, ⟨vs, k, rfl, hi, hm, fun p hp => by simpa using (List.mem_filter.mp hp).2⟩, fun p hp => List.mem_filter.mpr ⟨hs _ (List.mem_append_right _ hp), by simpa using hne _ hp⟩, fun v d fit r => ?_⟩
    · rcases List.mem_append.mp hp with q | q
      · exact N p (hs _ (List.mem_append_left _ q))
      · exact N p (List.mem_filter.mp q).1
    · rcases fit with fit | ⟨l, rfl, hl⟩
      · exact r.flat fit
      · obtain ⟨b, us, j, e, hb, ib⟩ := r
        refine ⟨b, us, j, e, List.mem_filter.mpr ⟨hb, ?_⟩, ib⟩
        have hba : b ≠ a := fun q => by
          subst q
          have h1 := (N _ hb).1
          have h2 := (N _ (hs _ (List.mem_append_left _ (.head _)))).1
          rw [h1] at h2
          have h3 : us.toArray = vs.toArray := by
            have := congrArg Obj.data (Option.some.inj h2)
            simp only [Data.seq.injEq] at this
            exact this.1
          have h4 : us = vs := by simpa using h3
          exact hl (ints_inj ib (h4 ▸ hi))
        simpa using hba
  | pen P ns k =>
    obtain ⟨a, b, h0, h1, h2, G⟩ := G
    obtain ⟨rest', x1, x2, x3, x4⟩ := penx_regain N G hs
    exact ⟨rest', x1, ⟨a, b, h0, h1, h2, x2⟩, x3, fun v d _ r => x4 v d r⟩
  | penx P ns a b =>
    obtain ⟨rest', x1, x2, x3, x4⟩ := penx_regain N G hs
    exact ⟨rest', x1, x2, x3, fun v d _ r => x4 v d r⟩
  | own l =>
    obtain ⟨rfl, ho, hr⟩ := G
    have hP : ∀ q ∈ gl.map (·.1), ∀ o, h.get? q = some o → OffObj o := fun q hq o h' => by
      obtain ⟨p, hp, rfl⟩ := List.mem_map.mp hq
      have := (N _ (hs _ (List.mem_append_left _ hp))).1
      rw [h'] at this
      cases this
      exact ho p hp
    refine ⟨led.filter (fun p => decide (p.1 ∉ gl.map (·.1))), fun p hp => ?_, ⟨rfl, ho, fun p hp => of_decide_eq_true (List.mem_filter.mp hp).2⟩, fun p hp => List.mem_filter.mpr ⟨hs _ (List.mem_append_right _ hp), decide_eq_true (hr p hp)⟩, fun v d _ r => r.off N hP fun p hp hne => List.mem_filter.mpr ⟨hp, decide_eq_true hne⟩⟩
    rcases List.mem_append.mp hp with q | q
    · exact N p (hs _ (List.mem_append_left _ q))
    · exact N p (List.mem_filter.mp q).1
theorem regain {h₀ h : Heap} {L : Addr} {g : G} {m : Str → Option Value} {rest gl led : Led} {v : Value} {d : V} (N : News h₀ L h led) (G : GOk g m rest gl) (hs : ∀ p ∈ gl ++ rest, p ∈ led) (r : Rep led v d) (fit : Fits g d) :
    ∃ rest', News h₀ L h (gl ++ rest') ∧ GOk g m rest' gl ∧ (∀ p ∈ rest, p ∈ rest') ∧ Rep rest' v d := by
  obtain ⟨rest', a, b, c, k⟩ := regainA N G hs
  exact ⟨rest', a, b, c, k v d fit r⟩
/-- the growing name is not this one -/
def G.away : G → Str → Prop
  | .none, _ => True
  | .row x _ _, y => x ≠ y
  | .pen .., _ => True
  | .penx .., _ => True
  | .own _, _ => True
theorem GOk.set {g : G} {m : Str → Option Value} {rest gl : Led} {x : Str} {v : Option Value} (h : GOk g m rest gl) (hx : g.away x) : GOk g (fun y => if y = x then v else m y) rest gl := by
  cases g with
  | none => exact h
  | row z a xs => obtain ⟨vs, k, e, hi, hm, ho⟩ := h; exact ⟨vs, k, e, hi, (if_neg hx).trans hm, ho⟩
  | pen P ns k => exact h
  | penx P ns a b => exact h
  | own l => exact h


section
variable {f : Fn} {c : Cx} {n : Nat} {ρ : List (Option V)} {g : G}

theorem Ex.nil : Ex f c n ρ g [] (.next ρ g) := fun s m rest gl Q E ok F N G S P => wpAny_execs_nil (P s.heap s.toks m rest gl F N G (fun _ h => h) S)
theorem Sees.gl {m : Str → Option Value} {rest gl : Led} (S : Sees f.names ρ m rest) : Sees f.names ρ m (gl ++ rest) := S.mono fun p hp => List.mem_append_right _ hp
theorem Ex.ret {e : Expr} {pos : Pos} {r : List Stmt} {d : V} (h : Ev f c n ρ e d) (fit : Fits g d) : Ex f c n ρ g (.Return (some e) pos :: r) (.ret d g) :=
  fun s m rest gl Q E ok F N G S P => wpAny_execs_cons (wpAny_Return_some (h s m _ _ E ok F N S.gl fun v h' t' led F' N' s' R => by
    obtain ⟨rest', N2, G2, s2, R2⟩ := regain N' G s' R fit
    exact P v h' t' m rest' gl F' N2 G2 s2 R2))
theorem Ex.assign {x : Str} {xp : Pos} {e : Expr} {pos : Pos} {r : List Stmt} {d : V} {ρ' : List (Option V)} {o : Out} (h : Ev f c n ρ e d) (fit : Fits g d) (p : Put f.names ρ x d ρ') (hx : g.away x) (k : Ex f c n ρ' g r o)
    (hsw : ∀ env, swapsWith e (some (.Name x xp)) pos.line env = pure false := by intro _; rfl) : Ex f c n ρ g (.Assign [.Name x xp] e pos :: r) o :=
  fun s m rest gl Q E ok F N G S P => wpAny_execs_cons (wpAny_Assign_Name (h s m _ _ E ok F N S.gl fun v h' t' led F' N' s' R => by
    obtain ⟨rest', N2, G2, s2, R2⟩ := regain N' G s' R fit
    refine storeX_L F' N2 (fun h3 F3 N3 => ?_) rfl (p.kd.kindOf c ok.fok)
    exact k _ _ rest' gl Q E ok F3 N3 (G2.set hx) ((S.mono s2).put ok.fok.nd p R2) (P.sub s2 _ _)) (hsw _))
theorem Ex.ifRet {t : Expr} {A B r : List Stmt} {pos : Pos} {b : Bool} {d : V} {g' : G} (ht : Tst f c n ρ t b) (h1 : b = true → Ex f c n ρ g A (.ret d g')) (h2 : b = false → Ex f c n ρ g B (.ret d g')) : Ex f c n ρ g (.If t A B pos :: r) (.ret d g') :=
  fun s m rest gl Q E ok F N G S P => wpAny_execs_cons (wpAny_If (ht s m _ _ E ok F N S.gl fun h' t' led F' N' s' => by
    have N2 : News c.h₀ c.L h' (gl ++ rest) := fun p hp => N' p (s' p hp)
    have P2 : PostS f c { s with heap := h', toks := t' } rest (fun fl s' => match fl with | .next => wpAny (model pg c.w) (c.A f) (execs r (c.env f)) Q E s' | fl => Q fl s') E (.ret d g') := fun v h2 t2 m2 r2 gl2 F2 N2 G2 s2 R2 => P v h2 t2 m2 r2 gl2 F2 N2 G2 s2 R2
    cases b with
    | true => exact h1 rfl _ m rest gl _ E ok F' N2 G S P2
    | false => exact h2 rfl _ m rest gl _ E ok F' N2 G S P2))
theorem Ex.ifNext {t : Expr} {A B r : List Stmt} {pos : Pos} {b : Bool} {ρ' : List (Option V)} {g' : G} {o : Out} (ht : Tst f c n ρ t b) (h1 : b = true → Ex f c n ρ g A (.next ρ' g')) (h2 : b = false → Ex f c n ρ g B (.next ρ' g')) (k : Ex f c n ρ' g' r o) : Ex f c n ρ g (.If t A B pos :: r) o :=
  fun s m rest gl Q E ok F N G S P => wpAny_execs_cons (wpAny_If (ht s m _ _ E ok F N S.gl fun h' t' led F' N' s' => by
    have N2 : News c.h₀ c.L h' (gl ++ rest) := fun p hp => N' p (s' p hp)
    have P2 : PostS f c { s with heap := h', toks := t' } rest (fun fl s' => match fl with | .next => wpAny (model pg c.w) (c.A f) (execs r (c.env f)) Q E s' | fl => Q fl s') E (.next ρ' g') := fun h2 t2 m2 r2 gl2 F2 N2 G2 s2 S2 => k _ m2 r2 gl2 Q E ok F2 N2 G2 S2 (P.sub s2 _ _)
    cases b with
    | true => exact h1 rfl _ m rest gl _ E ok F' N2 G S P2
    | false => exact h2 rfl _ m rest gl _ E ok F' N2 G S P2))
/-- the growing list is handed over: no more appends -/
theorem Ex.pub {x : Str} {a : Addr} {xs : List Int} {b : List Stmt} {o : Out} {ρ' : List (Option V)} (p : Put f.names ρ x (.li xs) ρ') (k : Ex f c n ρ' .none b o) : Ex f c n ρ (.row x a xs) b o :=
  fun s m rest gl Q E ok F N G S P => by
    obtain ⟨vs, kk, rfl, hi, hm, hne⟩ := G
    have e : m = fun y => if y = x then some (.ref a) else m y := by
      funext y
      by_cases hy : y = x
      · rw [if_pos hy, hy, hm]
      · rw [if_neg hy]
    have S2 : Sees f.names ρ' m ([(a, W.listOf (List.toArray vs) kk)] ++ rest) := by
      have := (S.gl (gl := [(a, W.listOf (List.toArray vs) kk)])).put ok.fok.nd p (v := .ref a) ⟨a, vs, kk, rfl, .head _, hi⟩
      rw [← e] at this
      exact this
    exact k s m ([(a, W.listOf (List.toArray vs) kk)] ++ rest) [] Q E ok F N rfl S2 (P.sub (r2 := [(a, W.listOf (List.toArray vs) kk)] ++ rest) (fun p hp => List.mem_append_right _ hp) s.heap s.toks)
/-- a new list, to be grown -/
theorem Ex.newrow {x : Str} {xp pos lp : Pos} {r : List Stmt} {o : Out} (p : Kd .local f.names x) (hρ : ∀ d, ¬ Look f.names ρ x d) (k : ∀ a, Ex f c n ρ (.row x a []) r o) : Ex f c n ρ .none (.Assign [.Name x xp] (.List [] lp) pos :: r) o :=
  fun s m rest gl Q E ok F N G S P => by
    cases G
    refine wpAny_execs_cons (wpAny_Assign_Name (List_ (spliced_none (newList_K F N (fun l h' F' N' lt => ?_) (by rw [sizeLine_eq]; simp)))) rfl)
    refine storeX_L F' N' (fun h3 F3 N3 => ?_) rfl (p.kindOf c ok.fok)
    refine k l _ _ rest _ Q E ok F3 N3 ⟨[], 0, rfl, .nil, if_pos rfl, fun p hp => Nat.ne_of_lt (lt p hp)⟩ (fun y d hl => ?_) (P.sub (fun _ h => h) _ _)
    have hy : y ≠ x := fun e => hρ d (e ▸ hl)
    obtain ⟨v, hv, R⟩ := S y d hl
    exact ⟨v, by rw [if_neg hy]; exact hv, R⟩
end
end Mine
end

section
open PySem PySem.W PyProof.Rows PySem.Calls
set_option maxHeartbeats 1000000
namespace Mine
-- entering a def
theorem lookup_nodup {β : Type} {ns : List (Str × β)} (hn : (ns.map (·.1)).Nodup) {x : Str} {k : β} (h : (x, k) ∈ ns) : ns.lookup x = some k := by
  induction ns with
  | nil => cases h
  | cons y r ih =>
    obtain ⟨z, kz⟩ := y
    simp only [List.map_cons, List.nodup_cons] at hn
    rcases List.mem_cons.mp h with e | h
    · cases e; simp [List.lookup]
    · have : ¬ (x = z) := fun e => hn.1 (e ▸ List.mem_map.mpr ⟨_, h, rfl⟩)
      have hb : (x == z) = false := by simpa using this
      simp only [List.lookup, hb]
      exact ih hn.2 h
def RepO (news : Led) : List Value → List (Option V) → Prop
  | [], [] => True
  | v :: vs, some d :: ds => Rep news v d ∧ RepO news vs ds
  | _ :: vs, none :: ds => RepO news vs ds
  | _, _ => False
theorem RepL.toO {news : Led} : ∀ {vs : List Value} {ds : List V}, RepL news vs ds → RepO news vs (ds.map some)
  | [], [], _ => trivial
  | _ :: _, _ :: _, h => ⟨h.1, RepL.toO h.2⟩
theorem RepO.append {news : Led} : ∀ {vs us : List Value} {ds es : List (Option V)}, RepO news vs ds → RepO news us es → RepO news (vs ++ us) (ds ++ es)
  | [], _, [], _, _, h => h
  | _ :: _, _, some _ :: _, _, h, k => ⟨h.1, RepO.append h.2 k⟩
  | _ :: vs, us, Option.none :: ds, es, h, k => RepO.append (vs := vs) (us := us) (ds := ds) (es := es) (show RepO news vs ds from h) k
theorem Look.none {ns : List (Str × NameKind)} {k : Nat} {x : Str} {d : V} : ¬ Look ns (List.replicate k Option.none) x d := by
  intro h
  induction k generalizing ns with
  | zero => cases h
  | succ k ih => cases h with | tail h => exact ih h
theorem look_zip {news : Led} {rest : List (Str × NameKind)} {k : Nat} {x : Str} {d : V} : ∀ {ps : List Str} {vs : List Value} {os : List (Option V)}, RepO news vs os → ps.length = vs.length →
    Look (ps.map (fun p => (p, NameKind.local)) ++ rest) (os ++ List.replicate k Option.none) x d → ∃ v, (x, v) ∈ ps.zip vs ∧ Rep news v d
  | [], [], [], _, _, l => absurd l Look.none
  | p :: ps, v :: vs, some e :: os, R, hl, l => by
    cases l with
    | head => exact ⟨v, .head _, R.1⟩
    | tail l => obtain ⟨u, hu, r⟩ := look_zip R.2 (by simpa using hl) l; exact ⟨u, .tail _ hu, r⟩
  | p :: ps, v :: vs, Option.none :: os, R, hl, l => by
    cases l with
    | tail l => obtain ⟨u, hu, r⟩ := look_zip (show RepO news vs os from R) (by simpa using hl) l; exact ⟨u, .tail _ hu, r⟩
theorem zip_fst {ps : List Str} {vs : List Value} (hl : ps.length = vs.length) : (ps.zip vs).map (·.1) = ps := by
  induction ps generalizing vs with
  | nil => rfl
  | cons p ps ih => cases vs with
    | nil => cases hl
    | cons v vs => simp [ih (by simpa using hl)]
theorem sees_zip {news : Led} {ns rest : List (Str × NameKind)} {k : Nat} {ps : List Str} {vs : List Value} {os ρ : List (Option V)} (hn : (ns.map (·.1)).Nodup) (hns : ns = ps.map (fun p => (p, NameKind.local)) ++ rest) (hρ : ρ = os ++ List.replicate k Option.none) (R : RepO news vs os) (hl : ps.length = vs.length) :
    Sees ns ρ (fun y => (ps.zip vs).reverse.lookup y) news := by
  subst hns hρ
  intro x d l
  obtain ⟨v, hv, r⟩ := look_zip R hl l
  refine ⟨v, lookup_nodup ?_ (List.mem_reverse.mpr hv), r⟩
  rw [List.map_reverse, zip_fst hl]
  refine List.pairwise_reverse.mpr (List.Pairwise.imp (fun h => Ne.symm h) (?_ : ps.Nodup))
  have : ps = (ps.map (fun p => (p, NameKind.local))).map (·.1) := by rw [List.map_map]; exact (List.map_id' ps).symm
  rw [this]
  rw [List.map_append] at hn
  exact (List.nodup_append.mp hn).1

/-- what stands of a def: its object, its code, how its arguments are bound -/
structure FnFact (φ : Fn) (params : Arguments) (body : List Stmt) (ps : List Str) (dv : List Value) : Prop where
  ok : φ.Ok
  cells : ∀ x ∈ φ.names, x.2 ≠ .cell
  fact : ∀ P, ∃ oc od name dV kV doc pm an ct osl, (hd.heap_39 P).lookup φ.a = some ⟨oc, od, .func (fnOf name φ.qual params body φ.scope dV kV doc pm an φ.cd ct), osl⟩ ∧ codeIn (hd.heap_39 P) φ.cd φ.qual = true ∧
    ∀ (s : Shared) (vs : List Value), (hd.heap_39 P).In s.heap → (vs ++ dv).length = ps.length → BindsTo s (fnOf name φ.qual params body φ.scope dV kV doc pm an φ.cd ct) ⟨vs, []⟩ (ps.zip (vs ++ dv))

abbrev Cx.into (c : Cx) (f : Fn) (g : Heap) (L : Addr) : Cx := { c with dp := c.dp + 1, un := c.un + 3, outer := c.env f :: c.outer, A₀ := c.A f, h₀ := g, L := L, cl := [] }
theorem enter {φ : Fn} {params : Arguments} {body : List Stmt} {ps : List Str} {dv : List Value} (H : FnFact φ params body ps dv) {f : Fn} {c : Cx} {n : Nat} {s : Shared} {m : Str → Option Value} {news : Led} {vs : List Value} {Q E : Value → Shared → Prop}
    (ok : c.Ok f (n + 1)) (F : Fr c.h₀ c.L s.heap m) (N : News c.h₀ c.L s.heap news) (hl : (vs ++ dv).length = ps.length) {rest : List (Str × NameKind)} (hns : φ.names = ps.map (fun p => (p, NameKind.local)) ++ rest)
    (k : ∀ (g : Heap) (L' : Addr) (h₁ : Heap) (tk : Nat), (c.into f g L').Ok φ n → Fr g L' h₁ (fun y => (ps.zip (vs ++ dv)).reverse.lookup y) → News g L' h₁ news →
      ∀ E', wpAny (model pg c.w) ((c.into f g L').A φ) (execs body ((c.into f g L').env φ))
        (fun fl s' => ∃ h' tk' m' led, s' = { s with heap := h', toks := tk' } ∧ Fr g L' h' m' ∧ News g L' h' led ∧ (Fr c.h₀ c.L h' m → News c.h₀ c.L h' led → Q (match fl with | .ret v => v | _ => .none) { s with heap := h', toks := tk' })) E' { s with heap := h₁, toks := tk }) :
    wpAny (model pg c.w) (c.A f) (call (.ref φ.a) vs) Q E s := by
  obtain ⟨oc, od, name, dV, kV, doc, pm, an, ct, osl, h1, h2, h3⟩ := H.fact c.w.params
  have hmem : ∀ y ∈ ps.zip (vs ++ dv), φ.scope.names.lookup y.1 = some .local := fun y hy => by
    refine lookup_nodup H.ok.nd ?_
    rw [hns]
    refine List.mem_append_left _ (List.mem_map.mpr ⟨y.1, ?_, rfl⟩)
    have h9 : y.1 ∈ (ps.zip (vs ++ dv)).map (·.1) := List.mem_map.mpr ⟨y, hy, rfl⟩
    rwa [zip_fst hl.symm] at h9
  refine wpAny_call (code_def (K := hd.heap_39 c.w.params) ok.below F ok.kin N ok.top rfl rfl rfl h1 h2 (by show c.dp < recursionLimit; have := ok.room; show c.dp < 1000; omega) (h3 s vs (ok.kin.keeps F.keep) hl) hmem (fun g L' h₁ Fg F' N' B' X' T' => ?_) rfl rfl rfl H.cells)
  have ok' : (c.into f g L').Ok φ n := ⟨B', X', T', by have := ok.room; show c.dp + 1 + n < 900; omega, by have := ok.units; show c.un + 3 + 8 * n < 9000; omega, H.ok⟩
  refine wpAny_mono (k g L' h₁ _ ok' F' N' _) (fun fl s' q => ?_) fun _ _ q => q
  obtain ⟨h', tk', m', led, rfl, F2, N2, q⟩ := q
  exact leaveK_ F2 N2 fun kF kN => q kF kN

theorem Con.of {φ : Fn} {params : Arguments} {body : List Stmt} {ps : List Str} {dv : List Value} {dd : List V} (H : FnFact φ params body ps dv) {n : Nat} {ds : List V} {d : V} {ρ : List (Option V)} {k : Nat} {rest : List (Str × NameKind)}
    (hns : φ.names = ps.map (fun p => (p, NameKind.local)) ++ rest) (hdv : ∀ news, RepL news dv dd) (hρ : ρ = (ds.map some ++ dd.map some) ++ List.replicate k Option.none) (hlen : ds.length + dd.length = ps.length)
    (hb : ∀ c, Ex φ c n ρ .none body (.ret d .none)) : Con (.ref φ.a) (n + 1) ds d := by
  intro f c s m news vs Q E ok F N R P
  have hl : (vs ++ dv).length = ps.length := by rw [List.length_append, R.length, (hdv []).length]; exact hlen
  refine enter H ok F N hl hns fun g L' h₁ tk ok' F' N' E' => ?_
  refine hb _ _ _ news [] _ E' ok' F' N' rfl (sees_zip H.ok.nd hns hρ (R.toO.append (hdv news).toO) hl.symm) ?_
  intro v h' tk' m' rest' gl' F2 N2 G2 s2 R2
  cases G2
  exact ⟨h', tk', m', rest', rfl, F2, N2, fun kF kN => P v h' tk' rest' kF kN s2 R2⟩
theorem Con.of0 {φ : Fn} {params : Arguments} {body : List Stmt} {ps : List Str} (H : FnFact φ params body ps []) {n : Nat} {ds : List V} {d : V} {ρ : List (Option V)} (k : Nat) {rest : List (Str × NameKind)}
    (hns : φ.names = ps.map (fun p => (p, NameKind.local)) ++ rest) (hρ : ρ = ds.map some ++ List.replicate k Option.none) (hlen : ds.length = ps.length)
    (hb : ∀ c, Ex φ c n ρ .none body (.ret d .none)) : Con (.ref φ.a) (n + 1) ds d :=
  Con.of H (dd := []) hns (fun _ => trivial) (k := k) (by rw [hρ]; simp) (by simpa using hlen) hb
theorem vs1 {vs : List Value} (h : (vs ++ []).length = 1) : ∃ a, vs = [a] := by
  match vs, h with
  | [a], _ => exact ⟨a, rfl⟩
theorem vs2 {vs : List Value} (h : (vs ++ []).length = 2) : ∃ a b, vs = [a, b] := by
  match vs, h with
  | [a, b], _ => exact ⟨a, b, rfl⟩
theorem vs3 {vs : List Value} (h : (vs ++ []).length = 3) : ∃ a b c, vs = [a, b, c] := by
  match vs, h with
  | [a, b, c], _ => exact ⟨a, b, c, rfl⟩
theorem vs4 {vs : List Value} (h : (vs ++ []).length = 4) : ∃ a b c d, vs = [a, b, c, d] := by
  match vs, h with
  | [a, b, c, d], _ => exact ⟨a, b, c, d, rfl⟩
theorem vs5 {vs : List Value} (h : (vs ++ []).length = 5) : ∃ a b c d e, vs = [a, b, c, d, e] := by
  match vs, h with
  | [a, b, c, d, e], _ => exact ⟨a, b, c, d, e, rfl⟩
structure FnFactC (φ : Fn) (params : Arguments) (body : List Stmt) (ps : List Str) : Prop where
  ok : φ.Ok
  fact : ∀ P, ∃ oc od name dV kV doc pm an ct osl, (hd.heap_39 P).lookup φ.a = some ⟨oc, od, .func (fnOf name φ.qual params body φ.scope dV kV doc pm an φ.cd ct), osl⟩ ∧ codeIn (hd.heap_39 P) φ.cd φ.qual = true ∧
    ∀ (s : Shared) (vs : List Value), (hd.heap_39 P).In s.heap → vs.length = ps.length → BindsTo s (fnOf name φ.qual params body φ.scope dV kV doc pm an φ.cd ct) ⟨vs, []⟩ (ps.zip vs)
end Mine
end

section
open PySem PySem.W PyProof.Rows PySem.Calls
set_option maxHeartbeats 1000000
namespace Mine
noncomputable def stOf (i : Nat) : Stmt := PySem.Challenge.pw_np0318_01.main.body.getD i (.Pass default)
def Stmt.bodyL : Stmt → List Stmt
  | .FunctionDef _ _ b _ _ _ _ _ _ _ => b
  | _ => []
def Stmt.paramsL : Stmt → Arguments
  | .FunctionDef _ a _ _ _ _ _ _ _ _ => a
  | _ => ⟨[], [], none, [], [], none, []⟩
noncomputable def bodyOf (i : Nat) : List Stmt := Stmt.bodyL (stOf i)
noncomputable def paramsOf (i : Nat) : Arguments := Stmt.paramsL (stOf i)
theorem fill (P : Params) : PySem.Challenge.rw_np0318_01 = PySem.Challenge.rw_np0318_01 ∧ hd.heap_39 P = hd.heap_39 P := by k_fill; exact ⟨rfl, rfl⟩

theorem l0 {x : Str} {d : V} {ns : List (Str × NameKind)} {ρ : List (Option V)} : Look ((x, .local) :: ns) (some d :: ρ) x d := .head
theorem q0 {x : Str} {d : V} {o : Option V} {ns : List (Str × NameKind)} {ρ : List (Option V)} : Put ((x, .local) :: ns) (o :: ρ) x d (some d :: ρ) := .head
theorem l1 {x : Str} {d : V} {y0 : Str × NameKind} {o0 : Option V} {ns : List (Str × NameKind)} {ρ : List (Option V)} : Look (y0 :: (x, .local) :: ns) (o0 :: some d :: ρ) x d := .tail (.head)
theorem q1 {x : Str} {d : V} {o : Option V} {y0 : Str × NameKind} {o0 : Option V} {ns : List (Str × NameKind)} {ρ : List (Option V)} : Put (y0 :: (x, .local) :: ns) (o0 :: o :: ρ) x d (o0 :: some d :: ρ) := .tail (.head)
theorem l2 {x : Str} {d : V} {y0 y1 : Str × NameKind} {o0 o1 : Option V} {ns : List (Str × NameKind)} {ρ : List (Option V)} : Look (y0 :: y1 :: (x, .local) :: ns) (o0 :: o1 :: some d :: ρ) x d := .tail (.tail (.head))
theorem q2 {x : Str} {d : V} {o : Option V} {y0 y1 : Str × NameKind} {o0 o1 : Option V} {ns : List (Str × NameKind)} {ρ : List (Option V)} : Put (y0 :: y1 :: (x, .local) :: ns) (o0 :: o1 :: o :: ρ) x d (o0 :: o1 :: some d :: ρ) := .tail (.tail (.head))
theorem l3 {x : Str} {d : V} {y0 y1 y2 : Str × NameKind} {o0 o1 o2 : Option V} {ns : List (Str × NameKind)} {ρ : List (Option V)} : Look (y0 :: y1 :: y2 :: (x, .local) :: ns) (o0 :: o1 :: o2 :: some d :: ρ) x d := .tail (.tail (.tail (.head)))
theorem q3 {x : Str} {d : V} {o : Option V} {y0 y1 y2 : Str × NameKind} {o0 o1 o2 : Option V} {ns : List (Str × NameKind)} {ρ : List (Option V)} : Put (y0 :: y1 :: y2 :: (x, .local) :: ns) (o0 :: o1 :: o2 :: o :: ρ) x d (o0 :: o1 :: o2 :: some d :: ρ) := .tail (.tail (.tail (.head)))
theorem l4 {x : Str} {d : V} {y0 y1 y2 y3 : Str × NameKind} {o0 o1 o2 o3 : Option V} {ns : List (Str × NameKind)} {ρ : List (Option V)} : Look (y0 :: y1 :: y2 :: y3 :: (x, .local) :: ns) (o0 :: o1 :: o2 :: o3 :: some d :: ρ) x d := .tail (.tail (.tail (.tail (.head))))
theorem q4 {x : Str} {d : V} {o : Option V} {y0 y1 y2 y3 : Str × NameKind} {o0 o1 o2 o3 : Option V} {ns : List (Str × NameKind)} {ρ : List (Option V)} : Put (y0 :: y1 :: y2 :: y3 :: (x, .local) :: ns) (o0 :: o1 :: o2 :: o3 :: o :: ρ) x d (o0 :: o1 :: o2 :: o3 :: some d :: ρ) := .tail (.tail (.tail (.tail (.head))))
theorem l5 {x : Str} {d : V} {y0 y1 y2 y3 y4 : Str × NameKind} {o0 o1 o2 o3 o4 : Option V} {ns : List (Str × NameKind)} {ρ : List (Option V)} : Look (y0 :: y1 :: y2 :: y3 :: y4 :: (x, .local) :: ns) (o0 :: o1 :: o2 :: o3 :: o4 :: some d :: ρ) x d := .tail (.tail (.tail (.tail (.tail (.head)))))
theorem q5 {x : Str} {d : V} {o : Option V} {y0 y1 y2 y3 y4 : Str × NameKind} {o0 o1 o2 o3 o4 : Option V} {ns : List (Str × NameKind)} {ρ : List (Option V)} : Put (y0 :: y1 :: y2 :: y3 :: y4 :: (x, .local) :: ns) (o0 :: o1 :: o2 :: o3 :: o4 :: o :: ρ) x d (o0 :: o1 :: o2 :: o3 :: o4 :: some d :: ρ) := .tail (.tail (.tail (.tail (.tail (.head)))))
theorem l6 {x : Str} {d : V} {y0 y1 y2 y3 y4 y5 : Str × NameKind} {o0 o1 o2 o3 o4 o5 : Option V} {ns : List (Str × NameKind)} {ρ : List (Option V)} : Look (y0 :: y1 :: y2 :: y3 :: y4 :: y5 :: (x, .local) :: ns) (o0 :: o1 :: o2 :: o3 :: o4 :: o5 :: some d :: ρ) x d := .tail (.tail (.tail (.tail (.tail (.tail (.head))))))
theorem q6 {x : Str} {d : V} {o : Option V} {y0 y1 y2 y3 y4 y5 : Str × NameKind} {o0 o1 o2 o3 o4 o5 : Option V} {ns : List (Str × NameKind)} {ρ : List (Option V)} : Put (y0 :: y1 :: y2 :: y3 :: y4 :: y5 :: (x, .local) :: ns) (o0 :: o1 :: o2 :: o3 :: o4 :: o5 :: o :: ρ) x d (o0 :: o1 :: o2 :: o3 :: o4 :: o5 :: some d :: ρ) := .tail (.tail (.tail (.tail (.tail (.tail (.head))))))
theorem l7 {x : Str} {d : V} {y0 y1 y2 y3 y4 y5 y6 : Str × NameKind} {o0 o1 o2 o3 o4 o5 o6 : Option V} {ns : List (Str × NameKind)} {ρ : List (Option V)} : Look (y0 :: y1 :: y2 :: y3 :: y4 :: y5 :: y6 :: (x, .local) :: ns) (o0 :: o1 :: o2 :: o3 :: o4 :: o5 :: o6 :: some d :: ρ) x d := .tail (.tail (.tail (.tail (.tail (.tail (.tail (.head)))))))
theorem q7 {x : Str} {d : V} {o : Option V} {y0 y1 y2 y3 y4 y5 y6 : Str × NameKind} {o0 o1 o2 o3 o4 o5 o6 : Option V} {ns : List (Str × NameKind)} {ρ : List (Option V)} : Put (y0 :: y1 :: y2 :: y3 :: y4 :: y5 :: y6 :: (x, .local) :: ns) (o0 :: o1 :: o2 :: o3 :: o4 :: o5 :: o6 :: o :: ρ) x d (o0 :: o1 :: o2 :: o3 :: o4 :: o5 :: o6 :: some d :: ρ) := .tail (.tail (.tail (.tail (.tail (.tail (.tail (.head)))))))
theorem l8 {x : Str} {d : V} {y0 y1 y2 y3 y4 y5 y6 y7 : Str × NameKind} {o0 o1 o2 o3 o4 o5 o6 o7 : Option V} {ns : List (Str × NameKind)} {ρ : List (Option V)} : Look (y0 :: y1 :: y2 :: y3 :: y4 :: y5 :: y6 :: y7 :: (x, .local) :: ns) (o0 :: o1 :: o2 :: o3 :: o4 :: o5 :: o6 :: o7 :: some d :: ρ) x d := .tail (.tail (.tail (.tail (.tail (.tail (.tail (.tail (.head))))))))
theorem q8 {x : Str} {d : V} {o : Option V} {y0 y1 y2 y3 y4 y5 y6 y7 : Str × NameKind} {o0 o1 o2 o3 o4 o5 o6 o7 : Option V} {ns : List (Str × NameKind)} {ρ : List (Option V)} : Put (y0 :: y1 :: y2 :: y3 :: y4 :: y5 :: y6 :: y7 :: (x, .local) :: ns) (o0 :: o1 :: o2 :: o3 :: o4 :: o5 :: o6 :: o7 :: o :: ρ) x d (o0 :: o1 :: o2 :: o3 :: o4 :: o5 :: o6 :: o7 :: some d :: ρ) := .tail (.tail (.tail (.tail (.tail (.tail (.tail (.tail (.head))))))))
theorem l9 {x : Str} {d : V} {y0 y1 y2 y3 y4 y5 y6 y7 y8 : Str × NameKind} {o0 o1 o2 o3 o4 o5 o6 o7 o8 : Option V} {ns : List (Str × NameKind)} {ρ : List (Option V)} : Look (y0 :: y1 :: y2 :: y3 :: y4 :: y5 :: y6 :: y7 :: y8 :: (x, .local) :: ns) (o0 :: o1 :: o2 :: o3 :: o4 :: o5 :: o6 :: o7 :: o8 :: some d :: ρ) x d := .tail (.tail (.tail (.tail (.tail (.tail (.tail (.tail (.tail (.head)))))))))
theorem q9 {x : Str} {d : V} {o : Option V} {y0 y1 y2 y3 y4 y5 y6 y7 y8 : Str × NameKind} {o0 o1 o2 o3 o4 o5 o6 o7 o8 : Option V} {ns : List (Str × NameKind)} {ρ : List (Option V)} : Put (y0 :: y1 :: y2 :: y3 :: y4 :: y5 :: y6 :: y7 :: y8 :: (x, .local) :: ns) (o0 :: o1 :: o2 :: o3 :: o4 :: o5 :: o6 :: o7 :: o8 :: o :: ρ) x d (o0 :: o1 :: o2 :: o3 :: o4 :: o5 :: o6 :: o7 :: o8 :: some d :: ρ) := .tail (.tail (.tail (.tail (.tail (.tail (.tail (.tail (.tail (.head)))))))))
theorem l10 {x : Str} {d : V} {y0 y1 y2 y3 y4 y5 y6 y7 y8 y9 : Str × NameKind} {o0 o1 o2 o3 o4 o5 o6 o7 o8 o9 : Option V} {ns : List (Str × NameKind)} {ρ : List (Option V)} : Look (y0 :: y1 :: y2 :: y3 :: y4 :: y5 :: y6 :: y7 :: y8 :: y9 :: (x, .local) :: ns) (o0 :: o1 :: o2 :: o3 :: o4 :: o5 :: o6 :: o7 :: o8 :: o9 :: some d :: ρ) x d := .tail (.tail (.tail (.tail (.tail (.tail (.tail (.tail (.tail (.tail (.head))))))))))
theorem q10 {x : Str} {d : V} {o : Option V} {y0 y1 y2 y3 y4 y5 y6 y7 y8 y9 : Str × NameKind} {o0 o1 o2 o3 o4 o5 o6 o7 o8 o9 : Option V} {ns : List (Str × NameKind)} {ρ : List (Option V)} : Put (y0 :: y1 :: y2 :: y3 :: y4 :: y5 :: y6 :: y7 :: y8 :: y9 :: (x, .local) :: ns) (o0 :: o1 :: o2 :: o3 :: o4 :: o5 :: o6 :: o7 :: o8 :: o9 :: o :: ρ) x d (o0 :: o1 :: o2 :: o3 :: o4 :: o5 :: o6 :: o7 :: o8 :: o9 :: some d :: ρ) := .tail (.tail (.tail (.tail (.tail (.tail (.tail (.tail (.tail (.tail (.head))))))))))
theorem l11 {x : Str} {d : V} {y0 y1 y2 y3 y4 y5 y6 y7 y8 y9 y10 : Str × NameKind} {o0 o1 o2 o3 o4 o5 o6 o7 o8 o9 o10 : Option V} {ns : List (Str × NameKind)} {ρ : List (Option V)} : Look (y0 :: y1 :: y2 :: y3 :: y4 :: y5 :: y6 :: y7 :: y8 :: y9 :: y10 :: (x, .local) :: ns) (o0 :: o1 :: o2 :: o3 :: o4 :: o5 :: o6 :: o7 :: o8 :: o9 :: o10 :: some d :: ρ) x d := .tail (.tail (.tail (.tail (.tail (.tail (.tail (.tail (.tail (.tail (.tail (.head)))))))))))
theorem q11 {x : Str} {d : V} {o : Option V} {y0 y1 y2 y3 y4 y5 y6 y7 y8 y9 y10 : Str × NameKind} {o0 o1 o2 o3 o4 o5 o6 o7 o8 o9 o10 : Option V} {ns : List (Str × NameKind)} {ρ : List (Option V)} : Put (y0 :: y1 :: y2 :: y3 :: y4 :: y5 :: y6 :: y7 :: y8 :: y9 :: y10 :: (x, .local) :: ns) (o0 :: o1 :: o2 :: o3 :: o4 :: o5 :: o6 :: o7 :: o8 :: o9 :: o10 :: o :: ρ) x d (o0 :: o1 :: o2 :: o3 :: o4 :: o5 :: o6 :: o7 :: o8 :: o9 :: o10 :: some d :: ρ) := .tail (.tail (.tail (.tail (.tail (.tail (.tail (.tail (.tail (.tail (.tail (.head)))))))))))
theorem g0 {k : NameKind} {x : Str} {ns : List (Str × NameKind)} : Kd k ((x, k) :: ns) x := .head
theorem g1 {k : NameKind} {x : Str} {y0 : Str × NameKind} {ns : List (Str × NameKind)} : Kd k (y0 :: (x, k) :: ns) x := .tail (.head)
theorem g2 {k : NameKind} {x : Str} {y0 y1 : Str × NameKind} {ns : List (Str × NameKind)} : Kd k (y0 :: y1 :: (x, k) :: ns) x := .tail (.tail (.head))
theorem g3 {k : NameKind} {x : Str} {y0 y1 y2 : Str × NameKind} {ns : List (Str × NameKind)} : Kd k (y0 :: y1 :: y2 :: (x, k) :: ns) x := .tail (.tail (.tail (.head)))
theorem g4 {k : NameKind} {x : Str} {y0 y1 y2 y3 : Str × NameKind} {ns : List (Str × NameKind)} : Kd k (y0 :: y1 :: y2 :: y3 :: (x, k) :: ns) x := .tail (.tail (.tail (.tail (.head))))
theorem g5 {k : NameKind} {x : Str} {y0 y1 y2 y3 y4 : Str × NameKind} {ns : List (Str × NameKind)} : Kd k (y0 :: y1 :: y2 :: y3 :: y4 :: (x, k) :: ns) x := .tail (.tail (.tail (.tail (.tail (.head)))))
theorem g6 {k : NameKind} {x : Str} {y0 y1 y2 y3 y4 y5 : Str × NameKind} {ns : List (Str × NameKind)} : Kd k (y0 :: y1 :: y2 :: y3 :: y4 :: y5 :: (x, k) :: ns) x := .tail (.tail (.tail (.tail (.tail (.tail (.head))))))
theorem g7 {k : NameKind} {x : Str} {y0 y1 y2 y3 y4 y5 y6 : Str × NameKind} {ns : List (Str × NameKind)} : Kd k (y0 :: y1 :: y2 :: y3 :: y4 :: y5 :: y6 :: (x, k) :: ns) x := .tail (.tail (.tail (.tail (.tail (.tail (.tail (.head)))))))
theorem g8 {k : NameKind} {x : Str} {y0 y1 y2 y3 y4 y5 y6 y7 : Str × NameKind} {ns : List (Str × NameKind)} : Kd k (y0 :: y1 :: y2 :: y3 :: y4 :: y5 :: y6 :: y7 :: (x, k) :: ns) x := .tail (.tail (.tail (.tail (.tail (.tail (.tail (.tail (.head))))))))
theorem g9 {k : NameKind} {x : Str} {y0 y1 y2 y3 y4 y5 y6 y7 y8 : Str × NameKind} {ns : List (Str × NameKind)} : Kd k (y0 :: y1 :: y2 :: y3 :: y4 :: y5 :: y6 :: y7 :: y8 :: (x, k) :: ns) x := .tail (.tail (.tail (.tail (.tail (.tail (.tail (.tail (.tail (.head)))))))))
theorem g10 {k : NameKind} {x : Str} {y0 y1 y2 y3 y4 y5 y6 y7 y8 y9 : Str × NameKind} {ns : List (Str × NameKind)} : Kd k (y0 :: y1 :: y2 :: y3 :: y4 :: y5 :: y6 :: y7 :: y8 :: y9 :: (x, k) :: ns) x := .tail (.tail (.tail (.tail (.tail (.tail (.tail (.tail (.tail (.tail (.head))))))))))
theorem g11 {k : NameKind} {x : Str} {y0 y1 y2 y3 y4 y5 y6 y7 y8 y9 y10 : Str × NameKind} {ns : List (Str × NameKind)} : Kd k (y0 :: y1 :: y2 :: y3 :: y4 :: y5 :: y6 :: y7 :: y8 :: y9 :: y10 :: (x, k) :: ns) x := .tail (.tail (.tail (.tail (.tail (.tail (.tail (.tail (.tail (.tail (.tail (.head)))))))))))
theorem g12 {k : NameKind} {x : Str} {y0 y1 y2 y3 y4 y5 y6 y7 y8 y9 y10 y11 : Str × NameKind} {ns : List (Str × NameKind)} : Kd k (y0 :: y1 :: y2 :: y3 :: y4 :: y5 :: y6 :: y7 :: y8 :: y9 :: y10 :: y11 :: (x, k) :: ns) x := .tail (.tail (.tail (.tail (.tail (.tail (.tail (.tail (.tail (.tail (.tail (.tail (.head))))))))))))
theorem g13 {k : NameKind} {x : Str} {y0 y1 y2 y3 y4 y5 y6 y7 y8 y9 y10 y11 y12 : Str × NameKind} {ns : List (Str × NameKind)} : Kd k (y0 :: y1 :: y2 :: y3 :: y4 :: y5 :: y6 :: y7 :: y8 :: y9 :: y10 :: y11 :: y12 :: (x, k) :: ns) x := .tail (.tail (.tail (.tail (.tail (.tail (.tail (.tail (.tail (.tail (.tail (.tail (.tail (.head)))))))))))))
theorem g14 {k : NameKind} {x : Str} {y0 y1 y2 y3 y4 y5 y6 y7 y8 y9 y10 y11 y12 y13 : Str × NameKind} {ns : List (Str × NameKind)} : Kd k (y0 :: y1 :: y2 :: y3 :: y4 :: y5 :: y6 :: y7 :: y8 :: y9 :: y10 :: y11 :: y12 :: y13 :: (x, k) :: ns) x := .tail (.tail (.tail (.tail (.tail (.tail (.tail (.tail (.tail (.tail (.tail (.tail (.tail (.tail (.head))))))))))))))
theorem g15 {k : NameKind} {x : Str} {y0 y1 y2 y3 y4 y5 y6 y7 y8 y9 y10 y11 y12 y13 y14 : Str × NameKind} {ns : List (Str × NameKind)} : Kd k (y0 :: y1 :: y2 :: y3 :: y4 :: y5 :: y6 :: y7 :: y8 :: y9 :: y10 :: y11 :: y12 :: y13 :: y14 :: (x, k) :: ns) x := .tail (.tail (.tail (.tail (.tail (.tail (.tail (.tail (.tail (.tail (.tail (.tail (.tail (.tail (.tail (.head)))))))))))))))
theorem g16 {k : NameKind} {x : Str} {y0 y1 y2 y3 y4 y5 y6 y7 y8 y9 y10 y11 y12 y13 y14 y15 : Str × NameKind} {ns : List (Str × NameKind)} : Kd k (y0 :: y1 :: y2 :: y3 :: y4 :: y5 :: y6 :: y7 :: y8 :: y9 :: y10 :: y11 :: y12 :: y13 :: y14 :: y15 :: (x, k) :: ns) x := .tail (.tail (.tail (.tail (.tail (.tail (.tail (.tail (.tail (.tail (.tail (.tail (.tail (.tail (.tail (.tail (.head))))))))))))))))
theorem g17 {k : NameKind} {x : Str} {y0 y1 y2 y3 y4 y5 y6 y7 y8 y9 y10 y11 y12 y13 y14 y15 y16 : Str × NameKind} {ns : List (Str × NameKind)} : Kd k (y0 :: y1 :: y2 :: y3 :: y4 :: y5 :: y6 :: y7 :: y8 :: y9 :: y10 :: y11 :: y12 :: y13 :: y14 :: y15 :: y16 :: (x, k) :: ns) x := .tail (.tail (.tail (.tail (.tail (.tail (.tail (.tail (.tail (.tail (.tail (.tail (.tail (.tail (.tail (.tail (.tail (.head)))))))))))))))))
theorem g18 {k : NameKind} {x : Str} {y0 y1 y2 y3 y4 y5 y6 y7 y8 y9 y10 y11 y12 y13 y14 y15 y16 y17 : Str × NameKind} {ns : List (Str × NameKind)} : Kd k (y0 :: y1 :: y2 :: y3 :: y4 :: y5 :: y6 :: y7 :: y8 :: y9 :: y10 :: y11 :: y12 :: y13 :: y14 :: y15 :: y16 :: y17 :: (x, k) :: ns) x := .tail (.tail (.tail (.tail (.tail (.tail (.tail (.tail (.tail (.tail (.tail (.tail (.tail (.tail (.tail (.tail (.tail (.tail (.head))))))))))))))))))
theorem g19 {k : NameKind} {x : Str} {y0 y1 y2 y3 y4 y5 y6 y7 y8 y9 y10 y11 y12 y13 y14 y15 y16 y17 y18 : Str × NameKind} {ns : List (Str × NameKind)} : Kd k (y0 :: y1 :: y2 :: y3 :: y4 :: y5 :: y6 :: y7 :: y8 :: y9 :: y10 :: y11 :: y12 :: y13 :: y14 :: y15 :: y16 :: y17 :: y18 :: (x, k) :: ns) x := .tail (.tail (.tail (.tail (.tail (.tail (.tail (.tail (.tail (.tail (.tail (.tail (.tail (.tail (.tail (.tail (.tail (.tail (.tail (.head)))))))))))))))))))
noncomputable def gtbl : List (Str × Addr) := [(Str.ofString "ones", 61), (Str.ofString "wrap", 69), (Str.ofString "signed", 77), (Str.ofString "quotient", 84), (Str.ofString "remainder", 91), (Str.ofString "signed_quotient", 98), (Str.ofString "signed_remainder", 105), (Str.ofString "shifted", 112), (Str.ofString "divided", 119), (Str.ofString "bits_worth", 126), (Str.ofString "alu_worth", 134), (Str.ofString "turned", 141), (Str.ofString "swapped", 148), (Str.ofString "moved", 155), (Str.ofString "extended", 162), (Str.ofString "unsigned_holds", 169), (Str.ofString "holds", 176), (Str.ofString "atomic_worth", 183), (Str.ofString "result_of", 190), (Str.ofString "_law_draw", 197), (Str.ofString "_law_pick", 204), (Str.ofString "_law_number", 211), (Str.ofString "_law_bits", 218), (Str.ofString "_law_whole", 225), (Str.ofString "_law_sum", 232), (Str.ofString "_law_turned_sign", 237), (Str.ofString "_law_product", 244), (Str.ofString "_law_parted", 251), (Str.ofString "_law_parted_signs", 258), (Str.ofString "_law_shift", 265), (Str.ofString "_law_row", 270), (Str.ofString "_law_less", 277), (Str.ofString "_law_stands", 282), (Str.ofString "_law_octets", 289), (Str.ofString "_law_filled", 296), (Str.ofString "_law_is", 303), (Str.ofString "_law_deed_right", 310), (Str.ofString "_law_condition_right", 317), (Str.ofString "_law_moves_right", 324), (Str.ofString "_law_atomic_right", 331), (Str.ofString "_law_refused", 338), (Str.ofString "_law_edges_right", 343), (Str.ofString "law", 350)]
theorem allG : ∀ P, (gtbl.all fun p => nsIn (hd.heap_39 P) mainGlobals p.1 == some (some (.ref p.2)) && keepIn (hd.heap_39 P) (.ref p.2)) = true := fun P => by kernel_rfl
theorem gfn {x : Str} {a : Addr} (h : (x, a) ∈ gtbl) : GFn x a := fun P => by
  have := List.all_eq_true.mp (allG P) _ h
  simpa using this
theorem G_ones : GFn (Str.ofString "ones") 61 := gfn (.head _)
theorem G_wrap : GFn (Str.ofString "wrap") 69 := gfn (.tail _ (.head _))
theorem G_signed : GFn (Str.ofString "signed") 77 := gfn (.tail _ (.tail _ (.head _)))
theorem G_quotient : GFn (Str.ofString "quotient") 84 := gfn (.tail _ (.tail _ (.tail _ (.head _))))
theorem G_remainder : GFn (Str.ofString "remainder") 91 := gfn (.tail _ (.tail _ (.tail _ (.tail _ (.head _)))))
theorem G_signed_quotient : GFn (Str.ofString "signed_quotient") 98 := gfn (.tail _ (.tail _ (.tail _ (.tail _ (.tail _ (.head _))))))
theorem G_signed_remainder : GFn (Str.ofString "signed_remainder") 105 := gfn (.tail _ (.tail _ (.tail _ (.tail _ (.tail _ (.tail _ (.head _)))))))
theorem G_shifted : GFn (Str.ofString "shifted") 112 := gfn (.tail _ (.tail _ (.tail _ (.tail _ (.tail _ (.tail _ (.tail _ (.head _))))))))
theorem G_divided : GFn (Str.ofString "divided") 119 := gfn (.tail _ (.tail _ (.tail _ (.tail _ (.tail _ (.tail _ (.tail _ (.tail _ (.head _)))))))))
theorem G_bits_worth : GFn (Str.ofString "bits_worth") 126 := gfn (.tail _ (.tail _ (.tail _ (.tail _ (.tail _ (.tail _ (.tail _ (.tail _ (.tail _ (.head _))))))))))
theorem G_alu_worth : GFn (Str.ofString "alu_worth") 134 := gfn (.tail _ (.tail _ (.tail _ (.tail _ (.tail _ (.tail _ (.tail _ (.tail _ (.tail _ (.tail _ (.head _)))))))))))
theorem G_turned : GFn (Str.ofString "turned") 141 := gfn (.tail _ (.tail _ (.tail _ (.tail _ (.tail _ (.tail _ (.tail _ (.tail _ (.tail _ (.tail _ (.tail _ (.head _))))))))))))
theorem G_swapped : GFn (Str.ofString "swapped") 148 := gfn (.tail _ (.tail _ (.tail _ (.tail _ (.tail _ (.tail _ (.tail _ (.tail _ (.tail _ (.tail _ (.tail _ (.tail _ (.head _)))))))))))))
theorem G_moved : GFn (Str.ofString "moved") 155 := gfn (.tail _ (.tail _ (.tail _ (.tail _ (.tail _ (.tail _ (.tail _ (.tail _ (.tail _ (.tail _ (.tail _ (.tail _ (.tail _ (.head _))))))))))))))
theorem G_extended : GFn (Str.ofString "extended") 162 := gfn (.tail _ (.tail _ (.tail _ (.tail _ (.tail _ (.tail _ (.tail _ (.tail _ (.tail _ (.tail _ (.tail _ (.tail _ (.tail _ (.tail _ (.head _)))))))))))))))
theorem G_unsigned_holds : GFn (Str.ofString "unsigned_holds") 169 := gfn (.tail _ (.tail _ (.tail _ (.tail _ (.tail _ (.tail _ (.tail _ (.tail _ (.tail _ (.tail _ (.tail _ (.tail _ (.tail _ (.tail _ (.tail _ (.head _))))))))))))))))
theorem G_holds : GFn (Str.ofString "holds") 176 := gfn (.tail _ (.tail _ (.tail _ (.tail _ (.tail _ (.tail _ (.tail _ (.tail _ (.tail _ (.tail _ (.tail _ (.tail _ (.tail _ (.tail _ (.tail _ (.tail _ (.head _)))))))))))))))))
theorem G_atomic_worth : GFn (Str.ofString "atomic_worth") 183 := gfn (.tail _ (.tail _ (.tail _ (.tail _ (.tail _ (.tail _ (.tail _ (.tail _ (.tail _ (.tail _ (.tail _ (.tail _ (.tail _ (.tail _ (.tail _ (.tail _ (.tail _ (.head _))))))))))))))))))
theorem G_result_of : GFn (Str.ofString "result_of") 190 := gfn (.tail _ (.tail _ (.tail _ (.tail _ (.tail _ (.tail _ (.tail _ (.tail _ (.tail _ (.tail _ (.tail _ (.tail _ (.tail _ (.tail _ (.tail _ (.tail _ (.tail _ (.tail _ (.head _)))))))))))))))))))
theorem G_law_draw : GFn (Str.ofString "_law_draw") 197 := gfn (.tail _ (.tail _ (.tail _ (.tail _ (.tail _ (.tail _ (.tail _ (.tail _ (.tail _ (.tail _ (.tail _ (.tail _ (.tail _ (.tail _ (.tail _ (.tail _ (.tail _ (.tail _ (.tail _ (.head _))))))))))))))))))))
theorem G_law_pick : GFn (Str.ofString "_law_pick") 204 := gfn (.tail _ (.tail _ (.tail _ (.tail _ (.tail _ (.tail _ (.tail _ (.tail _ (.tail _ (.tail _ (.tail _ (.tail _ (.tail _ (.tail _ (.tail _ (.tail _ (.tail _ (.tail _ (.tail _ (.tail _ (.head _)))))))))))))))))))))
theorem G_law_number : GFn (Str.ofString "_law_number") 211 := gfn (.tail _ (.tail _ (.tail _ (.tail _ (.tail _ (.tail _ (.tail _ (.tail _ (.tail _ (.tail _ (.tail _ (.tail _ (.tail _ (.tail _ (.tail _ (.tail _ (.tail _ (.tail _ (.tail _ (.tail _ (.tail _ (.head _))))))))))))))))))))))
theorem G_law_bits : GFn (Str.ofString "_law_bits") 218 := gfn (.tail _ (.tail _ (.tail _ (.tail _ (.tail _ (.tail _ (.tail _ (.tail _ (.tail _ (.tail _ (.tail _ (.tail _ (.tail _ (.tail _ (.tail _ (.tail _ (.tail _ (.tail _ (.tail _ (.tail _ (.tail _ (.tail _ (.head _)))))))))))))))))))))))
theorem G_law_whole : GFn (Str.ofString "_law_whole") 225 := gfn (.tail _ (.tail _ (.tail _ (.tail _ (.tail _ (.tail _ (.tail _ (.tail _ (.tail _ (.tail _ (.tail _ (.tail _ (.tail _ (.tail _ (.tail _ (.tail _ (.tail _ (.tail _ (.tail _ (.tail _ (.tail _ (.tail _ (.tail _ (.head _))))))))))))))))))))))))
theorem G_law_sum : GFn (Str.ofString "_law_sum") 232 := gfn (.tail _ (.tail _ (.tail _ (.tail _ (.tail _ (.tail _ (.tail _ (.tail _ (.tail _ (.tail _ (.tail _ (.tail _ (.tail _ (.tail _ (.tail _ (.tail _ (.tail _ (.tail _ (.tail _ (.tail _ (.tail _ (.tail _ (.tail _ (.tail _ (.head _)))))))))))))))))))))))))
theorem G_law_turned_sign : GFn (Str.ofString "_law_turned_sign") 237 := gfn (.tail _ (.tail _ (.tail _ (.tail _ (.tail _ (.tail _ (.tail _ (.tail _ (.tail _ (.tail _ (.tail _ (.tail _ (.tail _ (.tail _ (.tail _ (.tail _ (.tail _ (.tail _ (.tail _ (.tail _ (.tail _ (.tail _ (.tail _ (.tail _ (.tail _ (.head _))))))))))))))))))))))))))
theorem G_law_product : GFn (Str.ofString "_law_product") 244 := gfn (.tail _ (.tail _ (.tail _ (.tail _ (.tail _ (.tail _ (.tail _ (.tail _ (.tail _ (.tail _ (.tail _ (.tail _ (.tail _ (.tail _ (.tail _ (.tail _ (.tail _ (.tail _ (.tail _ (.tail _ (.tail _ (.tail _ (.tail _ (.tail _ (.tail _ (.tail _ (.head _)))))))))))))))))))))))))))
theorem G_law_parted : GFn (Str.ofString "_law_parted") 251 := gfn (.tail _ (.tail _ (.tail _ (.tail _ (.tail _ (.tail _ (.tail _ (.tail _ (.tail _ (.tail _ (.tail _ (.tail _ (.tail _ (.tail _ (.tail _ (.tail _ (.tail _ (.tail _ (.tail _ (.tail _ (.tail _ (.tail _ (.tail _ (.tail _ (.tail _ (.tail _ (.tail _ (.head _))))))))))))))))))))))))))))
theorem G_law_parted_signs : GFn (Str.ofString "_law_parted_signs") 258 := gfn (.tail _ (.tail _ (.tail _ (.tail _ (.tail _ (.tail _ (.tail _ (.tail _ (.tail _ (.tail _ (.tail _ (.tail _ (.tail _ (.tail _ (.tail _ (.tail _ (.tail _ (.tail _ (.tail _ (.tail _ (.tail _ (.tail _ (.tail _ (.tail _ (.tail _ (.tail _ (.tail _ (.tail _ (.head _)))))))))))))))))))))))))))))
theorem G_law_shift : GFn (Str.ofString "_law_shift") 265 := gfn (.tail _ (.tail _ (.tail _ (.tail _ (.tail _ (.tail _ (.tail _ (.tail _ (.tail _ (.tail _ (.tail _ (.tail _ (.tail _ (.tail _ (.tail _ (.tail _ (.tail _ (.tail _ (.tail _ (.tail _ (.tail _ (.tail _ (.tail _ (.tail _ (.tail _ (.tail _ (.tail _ (.tail _ (.tail _ (.head _))))))))))))))))))))))))))))))
theorem G_law_row : GFn (Str.ofString "_law_row") 270 := gfn (.tail _ (.tail _ (.tail _ (.tail _ (.tail _ (.tail _ (.tail _ (.tail _ (.tail _ (.tail _ (.tail _ (.tail _ (.tail _ (.tail _ (.tail _ (.tail _ (.tail _ (.tail _ (.tail _ (.tail _ (.tail _ (.tail _ (.tail _ (.tail _ (.tail _ (.tail _ (.tail _ (.tail _ (.tail _ (.tail _ (.head _)))))))))))))))))))))))))))))))
theorem G_law_less : GFn (Str.ofString "_law_less") 277 := gfn (.tail _ (.tail _ (.tail _ (.tail _ (.tail _ (.tail _ (.tail _ (.tail _ (.tail _ (.tail _ (.tail _ (.tail _ (.tail _ (.tail _ (.tail _ (.tail _ (.tail _ (.tail _ (.tail _ (.tail _ (.tail _ (.tail _ (.tail _ (.tail _ (.tail _ (.tail _ (.tail _ (.tail _ (.tail _ (.tail _ (.tail _ (.head _))))))))))))))))))))))))))))))))
theorem G_law_stands : GFn (Str.ofString "_law_stands") 282 := gfn (.tail _ (.tail _ (.tail _ (.tail _ (.tail _ (.tail _ (.tail _ (.tail _ (.tail _ (.tail _ (.tail _ (.tail _ (.tail _ (.tail _ (.tail _ (.tail _ (.tail _ (.tail _ (.tail _ (.tail _ (.tail _ (.tail _ (.tail _ (.tail _ (.tail _ (.tail _ (.tail _ (.tail _ (.tail _ (.tail _ (.tail _ (.tail _ (.head _)))))))))))))))))))))))))))))))))
theorem G_law_octets : GFn (Str.ofString "_law_octets") 289 := gfn (.tail _ (.tail _ (.tail _ (.tail _ (.tail _ (.tail _ (.tail _ (.tail _ (.tail _ (.tail _ (.tail _ (.tail _ (.tail _ (.tail _ (.tail _ (.tail _ (.tail _ (.tail _ (.tail _ (.tail _ (.tail _ (.tail _ (.tail _ (.tail _ (.tail _ (.tail _ (.tail _ (.tail _ (.tail _ (.tail _ (.tail _ (.tail _ (.tail _ (.head _))))))))))))))))))))))))))))))))))
theorem G_law_filled : GFn (Str.ofString "_law_filled") 296 := gfn (.tail _ (.tail _ (.tail _ (.tail _ (.tail _ (.tail _ (.tail _ (.tail _ (.tail _ (.tail _ (.tail _ (.tail _ (.tail _ (.tail _ (.tail _ (.tail _ (.tail _ (.tail _ (.tail _ (.tail _ (.tail _ (.tail _ (.tail _ (.tail _ (.tail _ (.tail _ (.tail _ (.tail _ (.tail _ (.tail _ (.tail _ (.tail _ (.tail _ (.tail _ (.head _)))))))))))))))))))))))))))))))))))
theorem G_law_is : GFn (Str.ofString "_law_is") 303 := gfn (.tail _ (.tail _ (.tail _ (.tail _ (.tail _ (.tail _ (.tail _ (.tail _ (.tail _ (.tail _ (.tail _ (.tail _ (.tail _ (.tail _ (.tail _ (.tail _ (.tail _ (.tail _ (.tail _ (.tail _ (.tail _ (.tail _ (.tail _ (.tail _ (.tail _ (.tail _ (.tail _ (.tail _ (.tail _ (.tail _ (.tail _ (.tail _ (.tail _ (.tail _ (.tail _ (.head _))))))))))))))))))))))))))))))))))))
theorem G_law_deed_right : GFn (Str.ofString "_law_deed_right") 310 := gfn (.tail _ (.tail _ (.tail _ (.tail _ (.tail _ (.tail _ (.tail _ (.tail _ (.tail _ (.tail _ (.tail _ (.tail _ (.tail _ (.tail _ (.tail _ (.tail _ (.tail _ (.tail _ (.tail _ (.tail _ (.tail _ (.tail _ (.tail _ (.tail _ (.tail _ (.tail _ (.tail _ (.tail _ (.tail _ (.tail _ (.tail _ (.tail _ (.tail _ (.tail _ (.tail _ (.tail _ (.head _)))))))))))))))))))))))))))))))))))))
theorem G_law_condition_right : GFn (Str.ofString "_law_condition_right") 317 := gfn (.tail _ (.tail _ (.tail _ (.tail _ (.tail _ (.tail _ (.tail _ (.tail _ (.tail _ (.tail _ (.tail _ (.tail _ (.tail _ (.tail _ (.tail _ (.tail _ (.tail _ (.tail _ (.tail _ (.tail _ (.tail _ (.tail _ (.tail _ (.tail _ (.tail _ (.tail _ (.tail _ (.tail _ (.tail _ (.tail _ (.tail _ (.tail _ (.tail _ (.tail _ (.tail _ (.tail _ (.tail _ (.head _))))))))))))))))))))))))))))))))))))))
theorem G_law_moves_right : GFn (Str.ofString "_law_moves_right") 324 := gfn (.tail _ (.tail _ (.tail _ (.tail _ (.tail _ (.tail _ (.tail _ (.tail _ (.tail _ (.tail _ (.tail _ (.tail _ (.tail _ (.tail _ (.tail _ (.tail _ (.tail _ (.tail _ (.tail _ (.tail _ (.tail _ (.tail _ (.tail _ (.tail _ (.tail _ (.tail _ (.tail _ (.tail _ (.tail _ (.tail _ (.tail _ (.tail _ (.tail _ (.tail _ (.tail _ (.tail _ (.tail _ (.tail _ (.head _)))))))))))))))))))))))))))))))))))))))
theorem G_law_atomic_right : GFn (Str.ofString "_law_atomic_right") 331 := gfn (.tail _ (.tail _ (.tail _ (.tail _ (.tail _ (.tail _ (.tail _ (.tail _ (.tail _ (.tail _ (.tail _ (.tail _ (.tail _ (.tail _ (.tail _ (.tail _ (.tail _ (.tail _ (.tail _ (.tail _ (.tail _ (.tail _ (.tail _ (.tail _ (.tail _ (.tail _ (.tail _ (.tail _ (.tail _ (.tail _ (.tail _ (.tail _ (.tail _ (.tail _ (.tail _ (.tail _ (.tail _ (.tail _ (.tail _ (.head _))))))))))))))))))))))))))))))))))))))))
theorem G_law_refused : GFn (Str.ofString "_law_refused") 338 := gfn (.tail _ (.tail _ (.tail _ (.tail _ (.tail _ (.tail _ (.tail _ (.tail _ (.tail _ (.tail _ (.tail _ (.tail _ (.tail _ (.tail _ (.tail _ (.tail _ (.tail _ (.tail _ (.tail _ (.tail _ (.tail _ (.tail _ (.tail _ (.tail _ (.tail _ (.tail _ (.tail _ (.tail _ (.tail _ (.tail _ (.tail _ (.tail _ (.tail _ (.tail _ (.tail _ (.tail _ (.tail _ (.tail _ (.tail _ (.tail _ (.head _)))))))))))))))))))))))))))))))))))))))))
theorem G_law_edges_right : GFn (Str.ofString "_law_edges_right") 343 := gfn (.tail _ (.tail _ (.tail _ (.tail _ (.tail _ (.tail _ (.tail _ (.tail _ (.tail _ (.tail _ (.tail _ (.tail _ (.tail _ (.tail _ (.tail _ (.tail _ (.tail _ (.tail _ (.tail _ (.tail _ (.tail _ (.tail _ (.tail _ (.tail _ (.tail _ (.tail _ (.tail _ (.tail _ (.tail _ (.tail _ (.tail _ (.tail _ (.tail _ (.tail _ (.tail _ (.tail _ (.tail _ (.tail _ (.tail _ (.tail _ (.tail _ (.head _))))))))))))))))))))))))))))))))))))))))))
theorem G_law : GFn (Str.ofString "law") 350 := gfn (.tail _ (.tail _ (.tail _ (.tail _ (.tail _ (.tail _ (.tail _ (.tail _ (.tail _ (.tail _ (.tail _ (.tail _ (.tail _ (.tail _ (.tail _ (.tail _ (.tail _ (.tail _ (.tail _ (.tail _ (.tail _ (.tail _ (.tail _ (.tail _ (.tail _ (.tail _ (.tail _ (.tail _ (.tail _ (.tail _ (.tail _ (.tail _ (.tail _ (.tail _ (.tail _ (.tail _ (.tail _ (.tail _ (.tail _ (.tail _ (.tail _ (.tail _ (.head _)))))))))))))))))))))))))))))))))))))))))))
noncomputable def btbl : List Str := [Str.ofString "int", Str.ofString "abs", Str.ofString "len", Str.ofString "list", Str.ofString "isinstance", Str.ofString "range", Str.ofString "zip", Str.ofString "bool"]
theorem allB : ∀ P, (btbl.all fun x => nsIn (hd.heap_39 P) mainGlobals x == some none) = true := fun P => by kernel_rfl
theorem gbi {x : Str} {v : Value} (h : x ∈ btbl) (hb : bootBuiltins x = some v) (hn : x ≠ "__name__") : GBi x v := ⟨fun P => by
  have := List.all_eq_true.mp (allB P) _ h
  simpa using this, hb, hn⟩
theorem B_int : GBi (Str.ofString "int") (.type "int") := gbi (.head _) (by decide +kernel) (by decide)
theorem B_abs : GBi (Str.ofString "abs") (.builtin "abs") := gbi (.tail _ (.head _)) (by decide +kernel) (by decide)
theorem B_len : GBi (Str.ofString "len") (.builtin "len") := gbi (.tail _ (.tail _ (.head _))) (by decide +kernel) (by decide)
theorem B_list : GBi (Str.ofString "list") (.type "list") := gbi (.tail _ (.tail _ (.tail _ (.head _)))) (by decide +kernel) (by decide)
theorem B_isinstance : GBi (Str.ofString "isinstance") (.builtin "isinstance") := gbi (.tail _ (.tail _ (.tail _ (.tail _ (.head _))))) (by decide +kernel) (by decide)
theorem B_range : GBi (Str.ofString "range") (.type "range") := gbi (.tail _ (.tail _ (.tail _ (.tail _ (.tail _ (.head _)))))) (by decide +kernel) (by decide)
theorem B_zip : GBi (Str.ofString "zip") (.type "zip") := gbi (.tail _ (.tail _ (.tail _ (.tail _ (.tail _ (.tail _ (.head _))))))) (by decide +kernel) (by decide)
theorem B_bool : GBi (Str.ofString "bool") (.type "bool") := gbi (.tail _ (.tail _ (.tail _ (.tail _ (.tail _ (.tail _ (.tail _ (.head _)))))))) (by decide +kernel) (by decide)
@[reducible] def φ_ones : Fn := { qual := Str.ofString "ones", names := [(Str.ofString "size", .local)], a := 61, cd := .ref 60 }
noncomputable def p_ones : Arguments := paramsOf 3
noncomputable def b_ones : List Stmt := bodyOf 3
theorem F_ones : FnFact φ_ones p_ones b_ones [Str.ofString "size"] [] :=
  ⟨⟨by decide +kernel, by decide +kernel⟩, by decide, fun P => ⟨_, _, _, _, _, _, _, _, _, _, by k_is, by k_is, fun s vs X hl => by obtain ⟨_, rfl⟩ := vs1 hl; exact BindsTo.of_eq rfl⟩⟩
@[reducible] def φ_wrap : Fn := { qual := Str.ofString "wrap", names := [(Str.ofString "worth", .local), (Str.ofString "size", .local)], a := 69, cd := .ref 68 }
noncomputable def p_wrap : Arguments := paramsOf 4
noncomputable def b_wrap : List Stmt := bodyOf 4
theorem F_wrap : FnFact φ_wrap p_wrap b_wrap [Str.ofString "worth", Str.ofString "size"] [] :=
  ⟨⟨by decide +kernel, by decide +kernel⟩, by decide, fun P => ⟨_, _, _, _, _, _, _, _, _, _, by k_is, by k_is, fun s vs X hl => by obtain ⟨_, _, rfl⟩ := vs2 hl; exact binds_K X rfl (by k_is) rfl rfl rfl⟩⟩
@[reducible] def φ_signed : Fn := { qual := Str.ofString "signed", names := [(Str.ofString "worth", .local), (Str.ofString "size", .local), (Str.ofString "low", .local)], a := 77, cd := .ref 76 }
noncomputable def p_signed : Arguments := paramsOf 5
noncomputable def b_signed : List Stmt := bodyOf 5
theorem F_signed : FnFact φ_signed p_signed b_signed [Str.ofString "worth", Str.ofString "size"] [] :=
  ⟨⟨by decide +kernel, by decide +kernel⟩, by decide, fun P => ⟨_, _, _, _, _, _, _, _, _, _, by k_is, by k_is, fun s vs X hl => by obtain ⟨_, _, rfl⟩ := vs2 hl; exact binds_K X rfl (by k_is) rfl rfl rfl⟩⟩
@[reducible] def φ_quotient : Fn := { qual := Str.ofString "quotient", names := [(Str.ofString "one", .local), (Str.ofString "other", .local), (Str.ofString "size", .local)], a := 84, cd := .ref 83 }
noncomputable def p_quotient : Arguments := paramsOf 7
noncomputable def b_quotient : List Stmt := bodyOf 7
theorem F_quotient : FnFact φ_quotient p_quotient b_quotient [Str.ofString "one", Str.ofString "other", Str.ofString "size"] [] :=
  ⟨⟨by decide +kernel, by decide +kernel⟩, by decide, fun P => ⟨_, _, _, _, _, _, _, _, _, _, by k_is, by k_is, fun s vs X hl => by obtain ⟨_, _, _, rfl⟩ := vs3 hl; exact BindsTo.of_eq rfl⟩⟩
@[reducible] def φ_remainder : Fn := { qual := Str.ofString "remainder", names := [(Str.ofString "one", .local), (Str.ofString "other", .local), (Str.ofString "size", .local)], a := 91, cd := .ref 90 }
noncomputable def p_remainder : Arguments := paramsOf 8
noncomputable def b_remainder : List Stmt := bodyOf 8
theorem F_remainder : FnFact φ_remainder p_remainder b_remainder [Str.ofString "one", Str.ofString "other", Str.ofString "size"] [] :=
  ⟨⟨by decide +kernel, by decide +kernel⟩, by decide, fun P => ⟨_, _, _, _, _, _, _, _, _, _, by k_is, by k_is, fun s vs X hl => by obtain ⟨_, _, _, rfl⟩ := vs3 hl; exact BindsTo.of_eq rfl⟩⟩
@[reducible] def φ_signed_quotient : Fn := { qual := Str.ofString "signed_quotient", names := [(Str.ofString "one", .local), (Str.ofString "other", .local), (Str.ofString "size", .local), (Str.ofString "left", .local), (Str.ofString "right", .local), (Str.ofString "found", .local), (Str.ofString "signed", .globalImplicit), (Str.ofString "abs", .globalImplicit), (Str.ofString "wrap", .globalImplicit)], a := 98, cd := .ref 97 }
noncomputable def p_signed_quotient : Arguments := paramsOf 9
noncomputable def b_signed_quotient : List Stmt := bodyOf 9
theorem F_signed_quotient : FnFact φ_signed_quotient p_signed_quotient b_signed_quotient [Str.ofString "one", Str.ofString "other", Str.ofString "size"] [] :=
  ⟨⟨by decide +kernel, by decide +kernel⟩, by decide, fun P => ⟨_, _, _, _, _, _, _, _, _, _, by k_is, by k_is, fun s vs X hl => by obtain ⟨_, _, _, rfl⟩ := vs3 hl; exact BindsTo.of_eq rfl⟩⟩
@[reducible] def φ_signed_remainder : Fn := { qual := Str.ofString "signed_remainder", names := [(Str.ofString "one", .local), (Str.ofString "other", .local), (Str.ofString "size", .local), (Str.ofString "left", .local), (Str.ofString "right", .local), (Str.ofString "found", .local), (Str.ofString "signed", .globalImplicit), (Str.ofString "abs", .globalImplicit), (Str.ofString "wrap", .globalImplicit)], a := 105, cd := .ref 104 }
noncomputable def p_signed_remainder : Arguments := paramsOf 10
noncomputable def b_signed_remainder : List Stmt := bodyOf 10
theorem F_signed_remainder : FnFact φ_signed_remainder p_signed_remainder b_signed_remainder [Str.ofString "one", Str.ofString "other", Str.ofString "size"] [] :=
  ⟨⟨by decide +kernel, by decide +kernel⟩, by decide, fun P => ⟨_, _, _, _, _, _, _, _, _, _, by k_is, by k_is, fun s vs X hl => by obtain ⟨_, _, _, rfl⟩ := vs3 hl; exact BindsTo.of_eq rfl⟩⟩
@[reducible] def φ_shifted : Fn := { qual := Str.ofString "shifted", names := [(Str.ofString "op", .local), (Str.ofString "one", .local), (Str.ofString "count", .local), (Str.ofString "size", .local), (Str.ofString "wrap", .globalImplicit), (Str.ofString "signed", .globalImplicit)], a := 112, cd := .ref 111 }
noncomputable def p_shifted : Arguments := paramsOf 11
noncomputable def b_shifted : List Stmt := bodyOf 11
theorem F_shifted : FnFact φ_shifted p_shifted b_shifted [Str.ofString "op", Str.ofString "one", Str.ofString "count", Str.ofString "size"] [] :=
  ⟨⟨by decide +kernel, by decide +kernel⟩, by decide, fun P => ⟨_, _, _, _, _, _, _, _, _, _, by k_is, by k_is, fun s vs X hl => by obtain ⟨_, _, _, _, rfl⟩ := vs4 hl; exact BindsTo.of_eq rfl⟩⟩
@[reducible] def φ_divided : Fn := { qual := Str.ofString "divided", names := [(Str.ofString "op", .local), (Str.ofString "one", .local), (Str.ofString "other", .local), (Str.ofString "size", .local), (Str.ofString "is_signed", .local), (Str.ofString "signed_quotient", .globalImplicit), (Str.ofString "quotient", .globalImplicit), (Str.ofString "signed_remainder", .globalImplicit), (Str.ofString "remainder", .globalImplicit)], a := 119, cd := .ref 118 }
noncomputable def p_divided : Arguments := paramsOf 12
noncomputable def b_divided : List Stmt := bodyOf 12
theorem F_divided : FnFact φ_divided p_divided b_divided [Str.ofString "op", Str.ofString "one", Str.ofString "other", Str.ofString "size", Str.ofString "is_signed"] [] :=
  ⟨⟨by decide +kernel, by decide +kernel⟩, by decide, fun P => ⟨_, _, _, _, _, _, _, _, _, _, by k_is, by k_is, fun s vs X hl => by obtain ⟨_, _, _, _, _, rfl⟩ := vs5 hl; exact BindsTo.of_eq rfl⟩⟩
@[reducible] def φ_bits_worth : Fn := { qual := Str.ofString "bits_worth", names := [(Str.ofString "op", .local), (Str.ofString "one", .local), (Str.ofString "other", .local)], a := 126, cd := .ref 125 }
noncomputable def p_bits_worth : Arguments := paramsOf 13
noncomputable def b_bits_worth : List Stmt := bodyOf 13
theorem F_bits_worth : FnFact φ_bits_worth p_bits_worth b_bits_worth [Str.ofString "op", Str.ofString "one", Str.ofString "other"] [] :=
  ⟨⟨by decide +kernel, by decide +kernel⟩, by decide, fun P => ⟨_, _, _, _, _, _, _, _, _, _, by k_is, by k_is, fun s vs X hl => by obtain ⟨_, _, _, rfl⟩ := vs3 hl; exact BindsTo.of_eq rfl⟩⟩
@[reducible] def φ_alu_worth : Fn := { qual := Str.ofString "alu_worth", names := [(Str.ofString "op", .local), (Str.ofString "one", .local), (Str.ofString "other", .local), (Str.ofString "size", .local), (Str.ofString "is_signed", .local), (Str.ofString "left", .local), (Str.ofString "right", .local), (Str.ofString "wrap", .globalImplicit), (Str.ofString "bits_worth", .globalImplicit), (Str.ofString "divided", .globalImplicit), (Str.ofString "shifted", .globalImplicit), (Str.ofString "CodeError", .globalImplicit)], a := 134, cd := .ref 133 }
noncomputable def p_alu_worth : Arguments := paramsOf 14
noncomputable def b_alu_worth : List Stmt := bodyOf 14
theorem F_alu_worth : FnFact φ_alu_worth p_alu_worth b_alu_worth [Str.ofString "op", Str.ofString "one", Str.ofString "other", Str.ofString "size", Str.ofString "is_signed"] [] :=
  ⟨⟨by decide +kernel, by decide +kernel⟩, by decide, fun P => ⟨_, _, _, _, _, _, _, _, _, _, by k_is, by k_is, fun s vs X hl => by obtain ⟨_, _, _, _, _, rfl⟩ := vs5 hl; exact binds_K X rfl (by k_is) rfl rfl rfl⟩⟩
@[reducible] def φ_turned : Fn := { qual := Str.ofString "turned", names := [(Str.ofString "worth", .local), (Str.ofString "bits", .local), (Str.ofString "found", .local), (Str.ofString "at", .local), (Str.ofString "range", .globalImplicit)], a := 141, cd := .ref 140 }
noncomputable def p_turned : Arguments := paramsOf 15
noncomputable def b_turned : List Stmt := bodyOf 15
theorem F_turned : FnFact φ_turned p_turned b_turned [Str.ofString "worth", Str.ofString "bits"] [] :=
  ⟨⟨by decide +kernel, by decide +kernel⟩, by decide, fun P => ⟨_, _, _, _, _, _, _, _, _, _, by k_is, by k_is, fun s vs X hl => by obtain ⟨_, _, rfl⟩ := vs2 hl; exact BindsTo.of_eq rfl⟩⟩
@[reducible] def φ_swapped : Fn := { qual := Str.ofString "swapped", names := [(Str.ofString "way", .local), (Str.ofString "worth", .local), (Str.ofString "bits", .local), (Str.ofString "CodeError", .globalImplicit), (Str.ofString "wrap", .globalImplicit), (Str.ofString "turned", .globalImplicit)], a := 148, cd := .ref 147 }
noncomputable def p_swapped : Arguments := paramsOf 16
noncomputable def b_swapped : List Stmt := bodyOf 16
theorem F_swapped : FnFact φ_swapped p_swapped b_swapped [Str.ofString "way", Str.ofString "worth", Str.ofString "bits"] [] :=
  ⟨⟨by decide +kernel, by decide +kernel⟩, by decide, fun P => ⟨_, _, _, _, _, _, _, _, _, _, by k_is, by k_is, fun s vs X hl => by obtain ⟨_, _, _, rfl⟩ := vs3 hl; exact BindsTo.of_eq rfl⟩⟩
@[reducible] def φ_moved : Fn := { qual := Str.ofString "moved", names := [(Str.ofString "worth", .local), (Str.ofString "bits", .local), (Str.ofString "size", .local), (Str.ofString "wrap", .globalImplicit), (Str.ofString "signed", .globalImplicit)], a := 155, cd := .ref 154 }
noncomputable def p_moved : Arguments := paramsOf 17
noncomputable def b_moved : List Stmt := bodyOf 17
theorem F_moved : FnFact φ_moved p_moved b_moved [Str.ofString "worth", Str.ofString "bits", Str.ofString "size"] [] :=
  ⟨⟨by decide +kernel, by decide +kernel⟩, by decide, fun P => ⟨_, _, _, _, _, _, _, _, _, _, by k_is, by k_is, fun s vs X hl => by obtain ⟨_, _, _, rfl⟩ := vs3 hl; exact BindsTo.of_eq rfl⟩⟩
@[reducible] def φ_extended : Fn := { qual := Str.ofString "extended", names := [(Str.ofString "worth", .local), (Str.ofString "width", .local), (Str.ofString "wrap", .globalImplicit), (Str.ofString "signed", .globalImplicit)], a := 162, cd := .ref 161 }
noncomputable def p_extended : Arguments := paramsOf 18
noncomputable def b_extended : List Stmt := bodyOf 18
theorem F_extended : FnFact φ_extended p_extended b_extended [Str.ofString "worth", Str.ofString "width"] [] :=
  ⟨⟨by decide +kernel, by decide +kernel⟩, by decide, fun P => ⟨_, _, _, _, _, _, _, _, _, _, by k_is, by k_is, fun s vs X hl => by obtain ⟨_, _, rfl⟩ := vs2 hl; exact BindsTo.of_eq rfl⟩⟩
@[reducible] def φ_unsigned_holds : Fn := { qual := Str.ofString "unsigned_holds", names := [(Str.ofString "op", .local), (Str.ofString "left", .local), (Str.ofString "right", .local)], a := 169, cd := .ref 168 }
noncomputable def p_unsigned_holds : Arguments := paramsOf 19
noncomputable def b_unsigned_holds : List Stmt := bodyOf 19
theorem F_unsigned_holds : FnFact φ_unsigned_holds p_unsigned_holds b_unsigned_holds [Str.ofString "op", Str.ofString "left", Str.ofString "right"] [] :=
  ⟨⟨by decide +kernel, by decide +kernel⟩, by decide, fun P => ⟨_, _, _, _, _, _, _, _, _, _, by k_is, by k_is, fun s vs X hl => by obtain ⟨_, _, _, rfl⟩ := vs3 hl; exact BindsTo.of_eq rfl⟩⟩
@[reducible] def φ_holds : Fn := { qual := Str.ofString "holds", names := [(Str.ofString "op", .local), (Str.ofString "one", .local), (Str.ofString "other", .local), (Str.ofString "size", .local), (Str.ofString "left", .local), (Str.ofString "right", .local), (Str.ofString "found", .local), (Str.ofString "wrap", .globalImplicit), (Str.ofString "unsigned_holds", .globalImplicit), (Str.ofString "signed", .globalImplicit), (Str.ofString "CodeError", .globalImplicit)], a := 176, cd := .ref 175 }
noncomputable def p_holds : Arguments := paramsOf 20
noncomputable def b_holds : List Stmt := bodyOf 20
theorem F_holds : FnFact φ_holds p_holds b_holds [Str.ofString "op", Str.ofString "one", Str.ofString "other", Str.ofString "size"] [] :=
  ⟨⟨by decide +kernel, by decide +kernel⟩, by decide, fun P => ⟨_, _, _, _, _, _, _, _, _, _, by k_is, by k_is, fun s vs X hl => by obtain ⟨_, _, _, _, rfl⟩ := vs4 hl; exact BindsTo.of_eq rfl⟩⟩
@[reducible] def φ_atomic_worth : Fn := { qual := Str.ofString "atomic_worth", names := [(Str.ofString "name", .local), (Str.ofString "old", .local), (Str.ofString "source", .local), (Str.ofString "compared", .local), (Str.ofString "width", .local), (Str.ofString "size", .local), (Str.ofString "before", .local), (Str.ofString "right", .local), (Str.ofString "plain", .local), (Str.ofString "wrap", .globalImplicit), (Str.ofString "alu_worth", .globalImplicit), (Str.ofString "CodeError", .globalImplicit)], a := 183, cd := .ref 182 }
noncomputable def p_atomic_worth : Arguments := paramsOf 21
noncomputable def b_atomic_worth : List Stmt := bodyOf 21
theorem F_atomic_worth : FnFact φ_atomic_worth p_atomic_worth b_atomic_worth [Str.ofString "name", Str.ofString "old", Str.ofString "source", Str.ofString "compared", Str.ofString "width"] [] :=
  ⟨⟨by decide +kernel, by decide +kernel⟩, by decide, fun P => ⟨_, _, _, _, _, _, _, _, _, _, by k_is, by k_is, fun s vs X hl => by obtain ⟨_, _, _, _, _, rfl⟩ := vs5 hl; exact BindsTo.of_eq rfl⟩⟩
@[reducible] def φ_result_of : Fn := { qual := Str.ofString "result_of", names := [(Str.ofString "name", .local), (Str.ofString "old", .local), (Str.ofString "width", .local), (Str.ofString "ones", .globalImplicit)], a := 190, cd := .ref 189 }
noncomputable def p_result_of : Arguments := paramsOf 22
noncomputable def b_result_of : List Stmt := bodyOf 22
theorem F_result_of : FnFact φ_result_of p_result_of b_result_of [Str.ofString "name", Str.ofString "old", Str.ofString "width"] [] :=
  ⟨⟨by decide +kernel, by decide +kernel⟩, by decide, fun P => ⟨_, _, _, _, _, _, _, _, _, _, by k_is, by k_is, fun s vs X hl => by obtain ⟨_, _, _, rfl⟩ := vs3 hl; exact BindsTo.of_eq rfl⟩⟩
@[reducible] def φ_law_draw : Fn := { qual := Str.ofString "_law_draw", names := [(Str.ofString "pen", .local), (Str.ofString "many", .local), (Str.ofString "digit", .local), (Str.ofString "turn", .local), (Str.ofString "cell", .local), (Str.ofString "great", .local), (Str.ofString "mixed", .local), (Str.ofString "int", .globalImplicit), (Str.ofString "len", .globalImplicit), (Str.ofString "abs", .globalImplicit)], a := 197, cd := .ref 196 }
noncomputable def p_law_draw : Arguments := paramsOf 24
noncomputable def b_law_draw : List Stmt := bodyOf 24
theorem F_law_draw : FnFact φ_law_draw p_law_draw b_law_draw [Str.ofString "pen", Str.ofString "many"] [] :=
  ⟨⟨by decide +kernel, by decide +kernel⟩, by decide, fun P => ⟨_, _, _, _, _, _, _, _, _, _, by k_is, by k_is, fun s vs X hl => by obtain ⟨_, _, rfl⟩ := vs2 hl; exact BindsTo.of_eq rfl⟩⟩
@[reducible] def φ_law_pick : Fn := { qual := Str.ofString "_law_pick", names := [(Str.ofString "pen", .local), (Str.ofString "some", .local), (Str.ofString "_law_draw", .globalImplicit), (Str.ofString "len", .globalImplicit)], a := 204, cd := .ref 203 }
noncomputable def p_law_pick : Arguments := paramsOf 25
noncomputable def b_law_pick : List Stmt := bodyOf 25
theorem F_law_pick : FnFact φ_law_pick p_law_pick b_law_pick [Str.ofString "pen", Str.ofString "some"] [] :=
  ⟨⟨by decide +kernel, by decide +kernel⟩, by decide, fun P => ⟨_, _, _, _, _, _, _, _, _, _, by k_is, by k_is, fun s vs X hl => by obtain ⟨_, _, rfl⟩ := vs2 hl; exact BindsTo.of_eq rfl⟩⟩
@[reducible] def φ_law_number : Fn := { qual := Str.ofString "_law_number", names := [(Str.ofString "pen", .local), (Str.ofString "kind", .local), (Str.ofString "edge", .local), (Str.ofString "_law_draw", .globalImplicit), (Str.ofString "_law_pick", .globalImplicit), (Str.ofString "len", .globalImplicit)], a := 211, cd := .ref 210 }
noncomputable def p_law_number : Arguments := paramsOf 26
noncomputable def b_law_number : List Stmt := bodyOf 26
theorem F_law_number : FnFact φ_law_number p_law_number b_law_number [Str.ofString "pen"] [] :=
  ⟨⟨by decide +kernel, by decide +kernel⟩, by decide, fun P => ⟨_, _, _, _, _, _, _, _, _, _, by k_is, by k_is, fun s vs X hl => by obtain ⟨_, rfl⟩ := vs1 hl; exact BindsTo.of_eq rfl⟩⟩
@[reducible] def φ_law_bits : Fn := { qual := Str.ofString "_law_bits", names := [(Str.ofString "worth", .local), (Str.ofString "size", .local), (Str.ofString "left", .local), (Str.ofString "row", .local), (Str.ofString "turn", .local), (Str.ofString "int", .globalImplicit), (Str.ofString "range", .globalImplicit)], a := 218, cd := .ref 217 }
noncomputable def p_law_bits : Arguments := paramsOf 27
noncomputable def b_law_bits : List Stmt := bodyOf 27
theorem F_law_bits : FnFact φ_law_bits p_law_bits b_law_bits [Str.ofString "worth", Str.ofString "size"] [] :=
  ⟨⟨by decide +kernel, by decide +kernel⟩, by decide, fun P => ⟨_, _, _, _, _, _, _, _, _, _, by k_is, by k_is, fun s vs X hl => by obtain ⟨_, _, rfl⟩ := vs2 hl; exact BindsTo.of_eq rfl⟩⟩
@[reducible] def φ_law_whole : Fn := { qual := Str.ofString "_law_whole", names := [(Str.ofString "row", .local), (Str.ofString "found", .local), (Str.ofString "bit", .local)], a := 225, cd := .ref 224 }
noncomputable def p_law_whole : Arguments := paramsOf 28
noncomputable def b_law_whole : List Stmt := bodyOf 28
theorem F_law_whole : FnFact φ_law_whole p_law_whole b_law_whole [Str.ofString "row"] [] :=
  ⟨⟨by decide +kernel, by decide +kernel⟩, by decide, fun P => ⟨_, _, _, _, _, _, _, _, _, _, by k_is, by k_is, fun s vs X hl => by obtain ⟨_, rfl⟩ := vs1 hl; exact BindsTo.of_eq rfl⟩⟩
@[reducible] def φ_law_sum : Fn := { qual := Str.ofString "_law_sum", names := [(Str.ofString "one", .local), (Str.ofString "other", .local), (Str.ofString "carry", .local), (Str.ofString "row", .local), (Str.ofString "first", .local), (Str.ofString "second", .local), (Str.ofString "bits", .local), (Str.ofString "zip", .globalImplicit)], a := 232, cd := .ref 231 }
noncomputable def p_law_sum : Arguments := paramsOf 29
noncomputable def b_law_sum : List Stmt := bodyOf 29
theorem F_law_sum : FnFact φ_law_sum p_law_sum b_law_sum [Str.ofString "one", Str.ofString "other", Str.ofString "carry"] [] :=
  ⟨⟨by decide +kernel, by decide +kernel⟩, by decide, fun P => ⟨_, _, _, _, _, _, _, _, _, _, by k_is, by k_is, fun s vs X hl => by obtain ⟨_, _, _, rfl⟩ := vs3 hl; exact BindsTo.of_eq rfl⟩⟩
@[reducible] def φ_law_turned_sign : Fn := { qual := Str.ofString "_law_turned_sign", names := [(Str.ofString "row", .local), (Str.ofString "_law_sum", .globalImplicit), (Str.ofString "len", .globalImplicit)], a := 237, cd := .ref 236, more := [(Str.ofString "fast", Const.str (Str.ofString "row")), (Str.ofString "fast", Const.str (Str.ofString "bit"))] }
noncomputable def p_law_turned_sign : Arguments := paramsOf 30
noncomputable def b_law_turned_sign : List Stmt := bodyOf 30
theorem F_law_turned_sign : FnFact φ_law_turned_sign p_law_turned_sign b_law_turned_sign [Str.ofString "row"] [] :=
  ⟨⟨by decide +kernel, by decide +kernel⟩, by decide, fun P => ⟨_, _, _, _, _, _, _, _, _, _, by k_is, by k_is, fun s vs X hl => by obtain ⟨_, rfl⟩ := vs1 hl; exact BindsTo.of_eq rfl⟩⟩
@[reducible] def φ_law_product : Fn := { qual := Str.ofString "_law_product", names := [(Str.ofString "one", .local), (Str.ofString "other", .local), (Str.ofString "total", .local), (Str.ofString "times", .local), (Str.ofString "place", .local), (Str.ofString "_law_whole", .globalImplicit), (Str.ofString "range", .globalImplicit), (Str.ofString "len", .globalImplicit), (Str.ofString "_law_bits", .globalImplicit)], a := 244, cd := .ref 243 }
noncomputable def p_law_product : Arguments := paramsOf 31
noncomputable def b_law_product : List Stmt := bodyOf 31
theorem F_law_product : FnFact φ_law_product p_law_product b_law_product [Str.ofString "one", Str.ofString "other"] [] :=
  ⟨⟨by decide +kernel, by decide +kernel⟩, by decide, fun P => ⟨_, _, _, _, _, _, _, _, _, _, by k_is, by k_is, fun s vs X hl => by obtain ⟨_, _, rfl⟩ := vs2 hl; exact BindsTo.of_eq rfl⟩⟩
@[reducible] def φ_law_parted : Fn := { qual := Str.ofString "_law_parted", names := [(Str.ofString "one", .local), (Str.ofString "other", .local), (Str.ofString "size", .local), (Str.ofString "by", .local), (Str.ofString "rest", .local), (Str.ofString "row", .local), (Str.ofString "bit", .local), (Str.ofString "len", .globalImplicit), (Str.ofString "_law_whole", .globalImplicit), (Str.ofString "list", .globalImplicit), (Str.ofString "int", .globalImplicit), (Str.ofString "_law_bits", .globalImplicit)], a := 251, cd := .ref 250 }
noncomputable def p_law_parted : Arguments := paramsOf 32
noncomputable def b_law_parted : List Stmt := bodyOf 32
theorem F_law_parted : FnFact φ_law_parted p_law_parted b_law_parted [Str.ofString "one", Str.ofString "other"] [] :=
  ⟨⟨by decide +kernel, by decide +kernel⟩, by decide, fun P => ⟨_, _, _, _, _, _, _, _, _, _, by k_is, by k_is, fun s vs X hl => by obtain ⟨_, _, rfl⟩ := vs2 hl; exact BindsTo.of_eq rfl⟩⟩
@[reducible] def φ_law_parted_signs : Fn := { qual := Str.ofString "_law_parted_signs", names := [(Str.ofString "one", .local), (Str.ofString "other", .local), (Str.ofString "left", .local), (Str.ofString "right", .local), (Str.ofString "found", .local), (Str.ofString "rest", .local), (Str.ofString "_law_whole", .globalImplicit), (Str.ofString "len", .globalImplicit), (Str.ofString "list", .globalImplicit), (Str.ofString "_law_turned_sign", .globalImplicit), (Str.ofString "_law_parted", .globalImplicit)], a := 258, cd := .ref 257 }
noncomputable def p_law_parted_signs : Arguments := paramsOf 33
noncomputable def b_law_parted_signs : List Stmt := bodyOf 33
theorem F_law_parted_signs : FnFact φ_law_parted_signs p_law_parted_signs b_law_parted_signs [Str.ofString "one", Str.ofString "other"] [] :=
  ⟨⟨by decide +kernel, by decide +kernel⟩, by decide, fun P => ⟨_, _, _, _, _, _, _, _, _, _, by k_is, by k_is, fun s vs X hl => by obtain ⟨_, _, rfl⟩ := vs2 hl; exact BindsTo.of_eq rfl⟩⟩
@[reducible] def φ_law_shift : Fn := { qual := Str.ofString "_law_shift", names := [(Str.ofString "op", .local), (Str.ofString "one", .local), (Str.ofString "count", .local), (Str.ofString "len", .globalImplicit)], a := 265, cd := .ref 264 }
noncomputable def p_law_shift : Arguments := paramsOf 34
noncomputable def b_law_shift : List Stmt := bodyOf 34
theorem F_law_shift : FnFact φ_law_shift p_law_shift b_law_shift [Str.ofString "op", Str.ofString "one", Str.ofString "count"] [] :=
  ⟨⟨by decide +kernel, by decide +kernel⟩, by decide, fun P => ⟨_, _, _, _, _, _, _, _, _, _, by k_is, by k_is, fun s vs X hl => by obtain ⟨_, _, _, rfl⟩ := vs3 hl; exact BindsTo.of_eq rfl⟩⟩
@[reducible] def φ_law_row : Fn := { qual := Str.ofString "_law_row", names := [(Str.ofString "op", .local), (Str.ofString "one", .local), (Str.ofString "other", .local), (Str.ofString "is_signed", .local), (Str.ofString "pair", .local), (Str.ofString "least", .cell), (Str.ofString "_law_sum", .globalImplicit), (Str.ofString "_law_turned_sign", .globalImplicit), (Str.ofString "_law_product", .globalImplicit), (Str.ofString "_law_parted_signs", .globalImplicit), (Str.ofString "_law_parted", .globalImplicit), (Str.ofString "_law_shift", .globalImplicit), (Str.ofString "_law_whole", .globalImplicit), (Str.ofString "len", .globalImplicit), (Str.ofString "zip", .globalImplicit)], a := 270, cd := .ref 269, more := [(Str.ofString "fast", Const.str (Str.ofString "op")), (Str.ofString "fast", Const.str (Str.ofString "one")), (Str.ofString "fast", Const.str (Str.ofString "other")), (Str.ofString "fast", Const.str (Str.ofString "is_signed")), (Str.ofString "fast", Const.str (Str.ofString "bit")), (Str.ofString "fast", Const.str (Str.ofString "pair")), (Str.ofString "fast", Const.str (Str.ofString "least")), (Str.ofString "fast", Const.str (Str.ofString "first")), (Str.ofString "fast", Const.str (Str.ofString "second"))] }
noncomputable def p_law_row : Arguments := paramsOf 35
noncomputable def b_law_row : List Stmt := bodyOf 35
@[reducible] def φ_law_less : Fn := { qual := Str.ofString "_law_less", names := [(Str.ofString "one", .local), (Str.ofString "other", .local), (Str.ofString "found", .local), (Str.ofString "first", .local), (Str.ofString "second", .local), (Str.ofString "zip", .globalImplicit)], a := 277, cd := .ref 276 }
noncomputable def p_law_less : Arguments := paramsOf 36
noncomputable def b_law_less : List Stmt := bodyOf 36
theorem F_law_less : FnFact φ_law_less p_law_less b_law_less [Str.ofString "one", Str.ofString "other"] [] :=
  ⟨⟨by decide +kernel, by decide +kernel⟩, by decide, fun P => ⟨_, _, _, _, _, _, _, _, _, _, by k_is, by k_is, fun s vs X hl => by obtain ⟨_, _, rfl⟩ := vs2 hl; exact BindsTo.of_eq rfl⟩⟩
@[reducible] def φ_law_stands : Fn := { qual := Str.ofString "_law_stands", names := [(Str.ofString "op", .local), (Str.ofString "one", .local), (Str.ofString "other", .local), (Str.ofString "zip", .globalImplicit), (Str.ofString "_law_less", .globalImplicit)], a := 282, cd := .ref 281, more := [(Str.ofString "fast", Const.str (Str.ofString "op")), (Str.ofString "fast", Const.str (Str.ofString "one")), (Str.ofString "fast", Const.str (Str.ofString "other")), (Str.ofString "fast", Const.str (Str.ofString "first")), (Str.ofString "fast", Const.str (Str.ofString "second"))] }
noncomputable def p_law_stands : Arguments := paramsOf 37
noncomputable def b_law_stands : List Stmt := bodyOf 37
theorem F_law_stands : FnFact φ_law_stands p_law_stands b_law_stands [Str.ofString "op", Str.ofString "one", Str.ofString "other"] [] :=
  ⟨⟨by decide +kernel, by decide +kernel⟩, by decide, fun P => ⟨_, _, _, _, _, _, _, _, _, _, by k_is, by k_is, fun s vs X hl => by obtain ⟨_, _, _, rfl⟩ := vs3 hl; exact BindsTo.of_eq rfl⟩⟩
@[reducible] def φ_law_octets : Fn := { qual := Str.ofString "_law_octets", names := [(Str.ofString "row", .local), (Str.ofString "found", .local), (Str.ofString "at", .local), (Str.ofString "range", .globalImplicit), (Str.ofString "len", .globalImplicit)], a := 289, cd := .ref 288 }
noncomputable def p_law_octets : Arguments := paramsOf 38
noncomputable def b_law_octets : List Stmt := bodyOf 38
theorem F_law_octets : FnFact φ_law_octets p_law_octets b_law_octets [Str.ofString "row"] [] :=
  ⟨⟨by decide +kernel, by decide +kernel⟩, by decide, fun P => ⟨_, _, _, _, _, _, _, _, _, _, by k_is, by k_is, fun s vs X hl => by obtain ⟨_, rfl⟩ := vs1 hl; exact BindsTo.of_eq rfl⟩⟩
@[reducible] def φ_law_filled : Fn := { qual := Str.ofString "_law_filled", names := [(Str.ofString "row", .local), (Str.ofString "size", .local), (Str.ofString "len", .globalImplicit)], a := 296, cd := .ref 295 }
noncomputable def p_law_filled : Arguments := paramsOf 39
noncomputable def b_law_filled : List Stmt := bodyOf 39
theorem F_law_filled : FnFact φ_law_filled p_law_filled b_law_filled [Str.ofString "row", Str.ofString "size"] [] :=
  ⟨⟨by decide +kernel, by decide +kernel⟩, by decide, fun P => ⟨_, _, _, _, _, _, _, _, _, _, by k_is, by k_is, fun s vs X hl => by obtain ⟨_, _, rfl⟩ := vs2 hl; exact BindsTo.of_eq rfl⟩⟩
@[reducible] def φ_law_is : Fn := { qual := Str.ofString "_law_is", names := [(Str.ofString "worth", .local), (Str.ofString "row", .local), (Str.ofString "isinstance", .globalImplicit), (Str.ofString "int", .globalImplicit), (Str.ofString "bool", .globalImplicit), (Str.ofString "_law_whole", .globalImplicit)], a := 303, cd := .ref 302 }
noncomputable def p_law_is : Arguments := paramsOf 40
noncomputable def b_law_is : List Stmt := bodyOf 40
theorem F_law_is : FnFact φ_law_is p_law_is b_law_is [Str.ofString "worth", Str.ofString "row"] [] :=
  ⟨⟨by decide +kernel, by decide +kernel⟩, by decide, fun P => ⟨_, _, _, _, _, _, _, _, _, _, by k_is, by k_is, fun s vs X hl => by obtain ⟨_, _, rfl⟩ := vs2 hl; exact BindsTo.of_eq rfl⟩⟩
@[reducible] def φ_law_deed_right : Fn := { qual := Str.ofString "_law_deed_right", names := [(Str.ofString "pen", .local), (Str.ofString "one", .local), (Str.ofString "other", .local), (Str.ofString "op", .local), (Str.ofString "size", .local), (Str.ofString "is_signed", .local), (Str.ofString "left", .local), (Str.ofString "right", .local), (Str.ofString "_law_pick", .globalImplicit), (Str.ofString "_law_draw", .globalImplicit), (Str.ofString "_law_bits", .globalImplicit), (Str.ofString "_law_is", .globalImplicit), (Str.ofString "alu_worth", .globalImplicit), (Str.ofString "_law_row", .globalImplicit)], a := 310, cd := .ref 309 }
noncomputable def p_law_deed_right : Arguments := paramsOf 41
noncomputable def b_law_deed_right : List Stmt := bodyOf 41
theorem F_law_deed_right : FnFact φ_law_deed_right p_law_deed_right b_law_deed_right [Str.ofString "pen", Str.ofString "one", Str.ofString "other"] [] :=
  ⟨⟨by decide +kernel, by decide +kernel⟩, by decide, fun P => ⟨_, _, _, _, _, _, _, _, _, _, by k_is, by k_is, fun s vs X hl => by obtain ⟨_, _, _, rfl⟩ := vs3 hl; exact BindsTo.of_eq rfl⟩⟩
@[reducible] def φ_law_condition_right : Fn := { qual := Str.ofString "_law_condition_right", names := [(Str.ofString "pen", .local), (Str.ofString "one", .local), (Str.ofString "other", .local), (Str.ofString "op", .local), (Str.ofString "size", .local), (Str.ofString "left", .local), (Str.ofString "right", .local), (Str.ofString "_law_pick", .globalImplicit), (Str.ofString "_law_bits", .globalImplicit), (Str.ofString "holds", .globalImplicit), (Str.ofString "_law_stands", .globalImplicit)], a := 317, cd := .ref 316 }
noncomputable def p_law_condition_right : Arguments := paramsOf 42
noncomputable def b_law_condition_right : List Stmt := bodyOf 42
theorem F_law_condition_right : FnFact φ_law_condition_right p_law_condition_right b_law_condition_right [Str.ofString "pen", Str.ofString "one", Str.ofString "other"] [] :=
  ⟨⟨by decide +kernel, by decide +kernel⟩, by decide, fun P => ⟨_, _, _, _, _, _, _, _, _, _, by k_is, by k_is, fun s vs X hl => by obtain ⟨_, _, _, rfl⟩ := vs3 hl; exact BindsTo.of_eq rfl⟩⟩
@[reducible] def φ_law_moves_right : Fn := { qual := Str.ofString "_law_moves_right", names := [(Str.ofString "pen", .local), (Str.ofString "worth", .local), (Str.ofString "way", .local), (Str.ofString "bits", .local), (Str.ofString "row", .local), (Str.ofString "few", .local), (Str.ofString "size", .local), (Str.ofString "width", .local), (Str.ofString "_law_pick", .globalImplicit), (Str.ofString "_law_bits", .globalImplicit), (Str.ofString "_law_is", .globalImplicit), (Str.ofString "swapped", .globalImplicit), (Str.ofString "_law_octets", .globalImplicit), (Str.ofString "moved", .globalImplicit), (Str.ofString "_law_filled", .globalImplicit), (Str.ofString "extended", .globalImplicit)], a := 324, cd := .ref 323 }
noncomputable def p_law_moves_right : Arguments := paramsOf 43
noncomputable def b_law_moves_right : List Stmt := bodyOf 43
theorem F_law_moves_right : FnFact φ_law_moves_right p_law_moves_right b_law_moves_right [Str.ofString "pen", Str.ofString "worth"] [] :=
  ⟨⟨by decide +kernel, by decide +kernel⟩, by decide, fun P => ⟨_, _, _, _, _, _, _, _, _, _, by k_is, by k_is, fun s vs X hl => by obtain ⟨_, _, rfl⟩ := vs2 hl; exact BindsTo.of_eq rfl⟩⟩
@[reducible] def φ_law_atomic_right : Fn := { qual := Str.ofString "_law_atomic_right", names := [(Str.ofString "pen", .local), (Str.ofString "old", .local), (Str.ofString "source", .local), (Str.ofString "name", .local), (Str.ofString "width", .local), (Str.ofString "compared", .local), (Str.ofString "before", .local), (Str.ofString "right", .local), (Str.ofString "due", .local), (Str.ofString "_law_pick", .globalImplicit), (Str.ofString "_law_bits", .globalImplicit), (Str.ofString "_law_row", .globalImplicit), (Str.ofString "len", .globalImplicit), (Str.ofString "_law_is", .globalImplicit), (Str.ofString "atomic_worth", .globalImplicit), (Str.ofString "result_of", .globalImplicit)], a := 331, cd := .ref 330 }
noncomputable def p_law_atomic_right : Arguments := paramsOf 44
noncomputable def b_law_atomic_right : List Stmt := bodyOf 44
theorem F_law_atomic_right : FnFact φ_law_atomic_right p_law_atomic_right b_law_atomic_right [Str.ofString "pen", Str.ofString "old", Str.ofString "source"] [] :=
  ⟨⟨by decide +kernel, by decide +kernel⟩, by decide, fun P => ⟨_, _, _, _, _, _, _, _, _, _, by k_is, by k_is, fun s vs X hl => by obtain ⟨_, _, _, rfl⟩ := vs3 hl; exact BindsTo.of_eq rfl⟩⟩
@[reducible] def φ_law_refused : Fn := { qual := Str.ofString "_law_refused", names := [(Str.ofString "deed", .local), (Str.ofString "names", .local), (Str.ofString "name", .local), (Str.ofString "CodeError", .globalImplicit)], a := 338, cd := .ref 337 }
noncomputable def p_law_refused : Arguments := paramsOf 45
noncomputable def b_law_refused : List Stmt := bodyOf 45
theorem F_law_refused : FnFact φ_law_refused p_law_refused b_law_refused [Str.ofString "deed", Str.ofString "names"] [] :=
  ⟨⟨by decide +kernel, by decide +kernel⟩, by decide, fun P => ⟨_, _, _, _, _, _, _, _, _, _, by k_is, by k_is, fun s vs X hl => by obtain ⟨_, _, rfl⟩ := vs2 hl; exact BindsTo.of_eq rfl⟩⟩
@[reducible] def φ_law_edges_right : Fn := { qual := Str.ofString "_law_edges_right", names := [(Str.ofString "size", .cell), (Str.ofString "least", .cell), (Str.ofString "all_ones", .cell)], a := 343, cd := .ref 342, more := [(Str.ofString "fast", Const.str (Str.ofString "size")), (Str.ofString "fast", Const.str (Str.ofString "least")), (Str.ofString "fast", Const.str (Str.ofString "all_ones")), (Str.ofString "fast", Const.str (Str.ofString "op")), (Str.ofString "fast", Const.str (Str.ofString "way"))] }
noncomputable def p_law_edges_right : Arguments := paramsOf 46
noncomputable def b_law_edges_right : List Stmt := bodyOf 46
theorem vsm {α : Type} {vs : List α} {n k : Nat} {ds : List α} (h : (vs ++ ds).length = n + k) (hk : ds.length = k) : vs.length = n := by
  rw [List.length_append] at h; omega
theorem D_wrap : FnFact φ_wrap p_wrap b_wrap [Str.ofString "worth", Str.ofString "size"] [.int 64 250] :=
  ⟨⟨by decide +kernel, by decide +kernel⟩, by decide, fun P => ⟨_, _, _, _, _, _, _, _, _, _, by k_is, by k_is, fun s vs X hl => by
    obtain ⟨_, rfl⟩ := vs1 (vs := vs) (by simpa using hl)
    exact binds_K X rfl (by k_is) rfl rfl rfl⟩⟩
theorem D_alu_worth : FnFact φ_alu_worth p_alu_worth b_alu_worth [Str.ofString "op", Str.ofString "one", Str.ofString "other", Str.ofString "size", Str.ofString "is_signed"] [.bool false] :=
  ⟨⟨by decide +kernel, by decide +kernel⟩, by decide, fun P => ⟨_, _, _, _, _, _, _, _, _, _, by k_is, by k_is, fun s vs X hl => by
    obtain ⟨_, _, _, _, rfl⟩ := vs4 (vs := vs) (by simpa using hl)
    exact binds_K X rfl (by k_is) rfl rfl rfl⟩⟩
theorem F_law_row : FnFactC φ_law_row p_law_row b_law_row [Str.ofString "op", Str.ofString "one", Str.ofString "other", Str.ofString "is_signed"] :=
  ⟨⟨by decide +kernel, by decide +kernel⟩, fun P => ⟨_, _, _, _, _, _, _, _, _, _, by k_is, by k_is, fun s vs X hl => by obtain ⟨_, _, _, _, rfl⟩ := vs4 (vs := vs) (by simpa using hl); exact BindsTo.of_eq rfl⟩⟩
theorem F_law_edges_right : FnFactC φ_law_edges_right p_law_edges_right b_law_edges_right [Str.ofString "size"] :=
  ⟨⟨by decide +kernel, by decide +kernel⟩, fun P => ⟨_, _, _, _, _, _, _, _, _, _, by k_is, by k_is, fun s vs X hl => by obtain ⟨_, rfl⟩ := vs1 (vs := vs) (by simpa using hl); exact BindsTo.of_eq rfl⟩⟩
end Mine
end

section
open PySem PySem.W PyProof.Rows PySem.Calls
set_option maxHeartbeats 1000000
namespace Mine
-- numbers: masks, signs
theorem two_pow_pos (k : Nat) : (0 : Int) < 2 ^ k := Int.pow_pos (by decide)
theorem pow_cast (k : Nat) : ((2 ^ k : Nat) : Int) = (2 : Int) ^ k := by push_cast; rfl
theorem pow_toNat (k : Nat) : ((2 : Int) ^ k - 1).toNat = 2 ^ k - 1 := by
  have := pow_cast k
  have h := Nat.two_pow_pos k
  omega
theorem neg_mod (x m : Int) (hm : 0 < m) : (-x - 1) % m = m - 1 - x % m := by
  have h1 := Int.emod_nonneg x (by omega : m ≠ 0)
  have h2 := Int.emod_lt_of_pos x hm
  have e : -x - 1 = (m - 1 - x % m) + m * (-(x / m) - 1) := by
    have := Int.emod_add_mul_ediv x m
    rw [Int.mul_sub, Int.mul_neg]
    omega
  rw [e, Int.add_mul_emod_self_left, Int.emod_eq_of_lt (by omega) (by omega)]
theorem and_mask (x : Int) (k : Nat) : Builtin.bitAnd x (2 ^ k - 1) = x % 2 ^ k := by
  have hp := two_pow_pos k
  by_cases hx : 0 ≤ x
  · rw [bitAnd_pp hx (by omega), pow_toNat, Nat.and_two_pow_sub_one_eq_mod, Int.natCast_emod, pow_cast, Int.toNat_of_nonneg hx]
  · rw [bitAnd_np (by omega) (by omega), pow_toNat, Nat.and_comm, Nat.and_two_pow_sub_one_eq_mod, Int.natCast_emod, pow_cast]
    have hb : (Builtin.bitNot x) = -x - 1 := by unfold Builtin.bitNot; omega
    rw [hb, Int.toNat_of_nonneg (by omega), neg_mod x _ hp]
    omega
/-- the number of the row with its sign -/
def sg (x : Int) (k : Nat) : Int := if 2 ^ (k - 1) ≤ x % 2 ^ k then x % 2 ^ k - 2 ^ k else x % 2 ^ k
theorem half_pow {k : Nat} (hk : 1 ≤ k) : (2 : Int) ^ k = 2 * 2 ^ (k - 1) := by
  obtain ⟨j, rfl⟩ : ∃ j, k = j + 1 := ⟨k - 1, by omega⟩
  rw [Nat.add_sub_cancel, Int.pow_succ, Int.mul_comm]
theorem sg_mod (x : Int) (k : Nat) : sg x k % 2 ^ k = x % 2 ^ k := by
  unfold sg
  split
  · rw [Int.sub_emod, Int.emod_self, Int.sub_zero, Int.emod_emod_of_dvd _ (Int.dvd_refl _), Int.emod_emod_of_dvd _ (Int.dvd_refl _)]
  · rw [Int.emod_emod_of_dvd _ (Int.dvd_refl _)]
theorem sg_of_mod (x : Int) (k : Nat) : sg (x % 2 ^ k) k = sg x k := by
  unfold sg
  rw [Int.emod_emod_of_dvd _ (Int.dvd_refl _)]
theorem sg_lt {x : Int} {k : Nat} (hk : 1 ≤ k) : -2 ^ (k - 1) ≤ sg x k ∧ sg x k < 2 ^ (k - 1) := by
  have h1 := Int.emod_nonneg x (by have := two_pow_pos k; omega : (2 : Int) ^ k ≠ 0)
  have h2 := Int.emod_lt_of_pos x (two_pow_pos k)
  have h3 := half_pow hk
  have h4 := two_pow_pos (k - 1)
  unfold sg
  split <;> omega
theorem pow_le_pow {i k : Nat} (h : i ≤ k) : (2 : Int) ^ i ≤ 2 ^ k := by
  have h1 := Nat.pow_le_pow_right (by decide : 0 < 2) h
  rw [← pow_cast, ← pow_cast]
  omega
theorem pow_le64 {k : Nat} (h : k ≤ 64) : (2 : Int) ^ k ≤ 2 ^ 64 := pow_le_pow h
theorem pylong {i j : Int} (h : j.natAbs < 2 ^ 70) : Builtin.divisionGoesByPylong i j = false := by
  unfold Builtin.divisionGoesByPylong
  have : j.natAbs.log2 < 70 := by
    by_cases h0 : j.natAbs = 0
    · rw [h0]; decide
    · exact (Nat.log2_lt h0).mpr h
  have h2 : (if j == 0 then 0 else j.natAbs.log2 / 30 + 1) ≤ 3 := by split <;> omega
  have h3 : decide ((if j == 0 then 0 else j.natAbs.log2 / 30 + 1) > 300) = false := by simp only [decide_eq_false_iff_not]; omega
  simp only [h3, Bool.false_and]
end Mine
end

section
open PySem PySem.W PyProof.Rows PySem.Calls
set_option maxHeartbeats 1000000
namespace Mine
section
variable {f : Fn} {c : Cx} {n : Nat} {ρ : List (Option V)} {g g' : G} {q : Bool}
theorem Ev.iteI {t a b : Expr} {pos : Pos} {i j : Int} (ht : Tst f c n ρ t q) (h1 : q = true → Ev f c n ρ a (.int i)) (h2 : q = false → Ev f c n ρ b (.int j)) : Ev f c n ρ (.IfExp t a b pos) (.int (if q then i else j)) :=
  Ev.ifexp ht (fun h => (h1 h).congr (by rw [h]; rfl)) (fun h => (h2 h).congr (by rw [h]; rfl))
theorem Ev.iteL {t a b : Expr} {pos : Pos} {i j : List Int} (ht : Tst f c n ρ t q) (h1 : q = true → Ev f c n ρ a (.li i)) (h2 : q = false → Ev f c n ρ b (.li j)) : Ev f c n ρ (.IfExp t a b pos) (.li (if q then i else j)) :=
  Ev.ifexp ht (fun h => (h1 h).congr (by rw [h]; rfl)) (fun h => (h2 h).congr (by rw [h]; rfl))
theorem Ex.congr {b : List Stmt} {d e : V} (h : Ex f c n ρ g b (.ret d g')) (q : d = e) : Ex f c n ρ g b (.ret e g') := q ▸ h
/-- 'if t: .. return' with the rest as the other way -/
theorem Ex.then' {t : Expr} {A r : List Stmt} {pos : Pos} {d : V} (ht : Tst f c n ρ t q) (h1 : q = true → Ex f c n ρ g A (.ret d g')) (h2 : q = false → Ex f c n ρ g r (.ret d g')) : Ex f c n ρ g (.If t A [] pos :: r) (.ret d g') := by
  cases q with
  | true => exact Ex.ifRet ht h1 fun e => nomatch e
  | false => exact Ex.ifNext ht (fun e => nomatch e) (fun _ => Ex.nil) (h2 rfl)
theorem Ex.thenI {t : Expr} {A r : List Stmt} {pos : Pos} {i j : Int} (ht : Tst f c n ρ t q) (h1 : q = true → Ex f c n ρ g A (.ret (.int i) g')) (h2 : q = false → Ex f c n ρ g r (.ret (.int j) g')) : Ex f c n ρ g (.If t A [] pos :: r) (.ret (.int (if q then i else j)) g') :=
  Ex.then' ht (fun h => (h1 h).congr (by rw [h]; rfl)) (fun h => (h2 h).congr (by rw [h]; rfl))
theorem Ex.thenL {t : Expr} {A r : List Stmt} {pos : Pos} {i j : List Int} (ht : Tst f c n ρ t q) (h1 : q = true → Ex f c n ρ g A (.ret (.li i) g')) (h2 : q = false → Ex f c n ρ g r (.ret (.li j) g')) : Ex f c n ρ g (.If t A [] pos :: r) (.ret (.li (if q then i else j)) g') :=
  Ex.then' ht (fun h => (h1 h).congr (by rw [h]; rfl)) (fun h => (h2 h).congr (by rw [h]; rfl))
theorem Ex.thenT {t : Expr} {A B r : List Stmt} {pos : Pos} {d : V} (ht : Tst f c n ρ t true) (h1 : Ex f c n ρ g A (.ret d g')) : Ex f c n ρ g (.If t A B pos :: r) (.ret d g') := Ex.ifRet ht (fun _ => h1) fun e => nomatch e
theorem Ex.thenF {t : Expr} {A r : List Stmt} {pos : Pos} {o : Out} (ht : Tst f c n ρ t false) (h1 : Ex f c n ρ g r o) : Ex f c n ρ g (.If t A [] pos :: r) o := Ex.ifNext ht (fun e => nomatch e) (fun _ => Ex.nil) h1
theorem Ex.elseF {t : Expr} {A B r : List Stmt} {pos : Pos} {ρ' : List (Option V)} {o : Out} (ht : Tst f c n ρ t false) (h1 : Ex f c n ρ g B (.next ρ' g')) (h2 : Ex f c n ρ' g' r o) : Ex f c n ρ g (.If t A B pos :: r) o := Ex.ifNext ht (fun e => nomatch e) (fun _ => h1) h2
theorem Ex.elseT {t : Expr} {A B r : List Stmt} {pos : Pos} {ρ' : List (Option V)} {o : Out} (ht : Tst f c n ρ t true) (h1 : Ex f c n ρ g A (.next ρ' g')) (h2 : Ex f c n ρ' g' r o) : Ex f c n ρ g (.If t A B pos :: r) o := Ex.ifNext ht (fun _ => h1) (fun e => nomatch e) h2
/-- a test of two texts that are written -/
theorem Tst.seq {l r : Expr} {pos : Pos} {x y : Str} {t : Bool} (hl : Ev f c n ρ l (.str x)) (hr : Ev f c n ρ r (.str y)) (ht : (x == y) = t) (hb : behindInMarks .Eq r = false := by rfl) : Tst f c n ρ (.Compare l [.Eq] [r] pos) t := Tst.cmp hl hr op_eqs ht.symm hb

theorem Ex.assign2 {x y : Str} {px py tp p2 pos : Pos} {k k2 : Nat} {e1 e2 : Expr} {r : List Stmt} {d1 d2 : V} {ρ1 ρ2 : List (Option V)} {o : Out} (h : EvL f c n ρ [e1, e2] [d1, d2]) (f1 : Fits g d1) (f2 : Fits g d2)
    (q1 : Put f.names ρ y d2 ρ1) (q2 : Put f.names ρ1 x d1 ρ2) (ax : g.away x) (ay : g.away y) (hw : ∀ c : Cx, swappedStores [.Tuple [.Name x px, .Name y py] k tp] (.Tuple [e1, e2] k2 p2) (c.env f) = pure (some [x, y])) (kk : Ex f c n ρ2 g r o) :
    Ex f c n ρ g (.Assign [.Tuple [.Name x px, .Name y py] k tp] (.Tuple [e1, e2] k2 p2) pos :: r) o :=
  fun s m rest gl Q E ok F N G S P => wpAny_execs_cons (Assign_Tuple_swapped (names := [x, y]) (Tuple_ (h p2 s m _ _ E ok F N S.gl fun vs h' t' led F' N' s' R => by
    match vs, R with
    | [v1, v2], ⟨R1, R2, _⟩ =>
      refine newTuple_N F' N' (fun h2 F2 N2 => ?_) (by rw [sizeLine_eq]; simp)
      refine unpackItemsN_ F2 N2 (News.isTup N2 (.head _)) rfl rfl fun h3 F3 N3 => ?_
      obtain ⟨rest', N4, G4, s4, R4⟩ := regainA N3 G (fun p hp => .tail _ (s' p hp))
      have R1' := R4 v1 d1 f1 (R1.mono fun p hp => .tail _ hp)
      have R2' := R4 v2 d2 f2 (R2.mono fun p hp => .tail _ hp)
      refine assignInOrder_cons (bindName_ (storeX_L F3 N4 (fun h5 F5 N5 => ?_) rfl (q1.kd.kindOf c ok.fok)))
      refine assignInOrder_cons (bindName_ (storeX_L F5 N5 (fun h6 F6 N6 => ?_) rfl (q2.kd.kindOf c ok.fok)))
      refine assignInOrder_nil ?_
      exact kk _ _ rest' gl Q E ok F6 N6 ((G4.set ay).set ax) (((S.mono s4).put ok.fok.nd q1 R2').put ok.fok.nd q2 R1') (P.sub s4 _ _))) rfl (hw c))
theorem Ex.unpair {x y : Str} {px py tp pos : Pos} {k : Nat} {e : Expr} {r : List Stmt} {l1 l2 : List Int} {ρ1 ρ2 : List (Option V)} {o : Out} (h : Ev f c n ρ e (.pr l1 l2)) 
    (q1 : Put f.names ρ x (.li l1) ρ1) (q2 : Put f.names ρ1 y (.li l2) ρ2) (hsw : ∀ env, swapsWithSole [.Tuple [.Name x px, .Name y py] k tp] e pos.line env = pure false) (hw : ∀ env, swappedStores [.Tuple [.Name x px, .Name y py] k tp] e env = pure none) (kk : Ex f c n ρ2 .none r o) :
    Ex f c n ρ .none (.Assign [.Tuple [.Name x px, .Name y py] k tp] e pos :: r) o :=
  fun s m rest gl Q E ok F N G S P => by
    cases G
    refine wpAny_execs_cons (Assign_Tuple (h s m rest _ E ok F N S fun v h' t' led F' N' s' R => ?_) (hsw _) (hw _))
    obtain ⟨a, v1, v2, rfl, hm, R1, R2⟩ := R
    refine unpackN_ F' N' (News.isTup N' hm) rfl rfl rfl fun h3 F3 N3 => ?_
    refine assignInOrder_cons (assign_Name (storeX_L F3 N3 (fun h5 F5 N5 => ?_) rfl (q1.kd.kindOf c ok.fok)))
    refine assignInOrder_cons (assign_Name (storeX_L F5 N5 (fun h6 F6 N6 => ?_) rfl (q2.kd.kindOf c ok.fok)))
    refine assignInOrder_nil ?_
    exact kk _ _ led [] Q E ok F6 N6 rfl (((S.mono s').put ok.fok.nd q1 R1).put ok.fok.nd q2 R2) (P.sub s' _ _)

theorem Ex.append {x : Str} {p ap p2 pos : Pos} {a : Addr} {xs : List Int} {e : Expr} {i : Int} {r : List Stmt} {o : Out} (hx : Kd .local f.names x) (h : Ev f c n ρ e (.int i)) (hl : xs.length ≤ 1000) (k : Ex f c n ρ (.row x a (xs ++ [i])) r o)
    (he : ∀ env, starEach [e] env = [(false, eval e env)] := by intro _; rfl)
    (hc : ∀ env, eval (.Call (.Attribute (.Name x p) (Str.ofString "append") ap) [e] [] p2) env = (do
      let ov ← eval (.Name x p) env
      standAt ap.atName
      let (f, first) ← holding [ov] (getMethod ov (Str.ofString "append") (do return (← importBound (.Name x p) env).getD true))
      callWith p2 f first (backTo p2 (starEach [e] env)) []) := by intro _; rfl) : Ex f c n ρ (.row x a xs) (.Expr (.Call (.Attribute (.Name x p) (Str.ofString "append") ap) [e] [] p2) pos :: r) o :=
  fun s m rest gl Q E ok F N G S P => by
    obtain ⟨vs, kk, rfl, hi, hm, hne⟩ := G
    refine wpAny_execs_cons (wpAny_Expr (MethodCall_ (pl := do return (← importBound (.Name x p) (c.env f)).getD true) (nameX_L F hm ?_ rfl (hx.kindOf c ok.fok) (ok.fok.dbg _ hx.mem)) ?_) rfl rfl)
    · refine getMethod_append_N N (.head _) ?_
      refine Calls.callWith_builtin (by rw [he]; rfl) ?_
      rw [he]
      refine Calls.evalArgs_plain (Calls.spliced_cons (h s m _ _ E ok F N S.gl fun v h' t' led F' N' s' R => Calls.spliced_nil ?_))
      obtain ⟨t, rfl⟩ := R
      refine append_head F' (fun p hp => N' p (s' p hp)) hne (fun h3 F3 N3 => ?_) (by rw [sizeLine_eq]; have := hi.length; simp; omega)
      exact k _ m rest [(a, W.listOf (List.toArray (vs ++ [.int i t])) (kk + 1))] Q E ok F3 (by simpa [W.listOf] using N3) ⟨vs ++ [.int i t], kk + 1, rfl, hi.append (.cons _ _ .nil), hm, hne⟩ S (P.sub (fun _ h => h) _ _)
    · exact hc _
end
end Mine
end

section
open PySem PySem.W PyProof.Rows PySem.Calls
set_option maxHeartbeats 1000000
namespace Mine
-- loops
def V.noTup : V → Bool
  | .ti _ | .ts _ | .pr _ _ => false
  | _ => true
def plainS (ρ : List (Option V)) : Bool := ρ.all fun o => match o with | some d => d.noTup | none => true
theorem plainS_look {ns : List (Str × NameKind)} {ρ : List (Option V)} {x : Str} {d : V} (l : Look ns ρ x d) (h : plainS ρ = true) : d.noTup = true := by
  induction l with
  | head => exact (Bool.and_eq_true_iff.mp h).1
  | tail _ ih => exact ih (Bool.and_eq_true_iff.mp h).2
def G.addrs : G → List Addr
  | .none => []
  | .row _ a _ => [a]
  | .pen P _ _ => [P]
  | .penx P _ _ _ => [P]
  | .own l => l.map (·.1)
theorem GOk.addrs {g : G} {m : Str → Option Value} {rest gl : Led} (h : GOk g m rest gl) : gl.map (·.1) = g.addrs := by
  cases g with
  | none => cases h; rfl
  | row x a xs => obtain ⟨vs, k, rfl, _⟩ := h; rfl
  | pen P ns k => obtain ⟨a, b, _, _, _, l, vs, ln, ta, tb, pn, rfl, _⟩ := h; rfl
  | penx P ns a b => obtain ⟨l, vs, ln, ta, tb, pn, rfl, _⟩ := h; rfl
  | own l => obtain ⟨rfl, _⟩ := h; rfl
/-- the ledger may lose entries and gain others that are not the growing thing -/
theorem GOk.rest {g : G} {m : Str → Option Value} {rest rest' gl : Led} (h : GOk g m rest gl) (hl : ∀ p ∈ rest, p.2.cls = .type "list" → p ∈ rest') (hn : ∀ p ∈ rest', p.1 ∉ g.addrs) : GOk g m rest' gl := by
  cases g with
  | none => exact h
  | row x a xs => obtain ⟨vs, k, e, hi, hm, _⟩ := h; exact ⟨vs, k, e, hi, hm, fun p hp => by simpa [G.addrs] using hn p hp⟩
  | pen P ns k => obtain ⟨a, b, h0, h1, h2, l, vs, ln, ta, tb, pn, e, hm, hi, _⟩ := h; exact ⟨a, b, h0, h1, h2, l, vs, ln, ta, tb, pn, e, hl _ hm rfl, hi, fun p hp => by simpa [G.addrs] using hn p hp⟩
  | penx P ns a b => obtain ⟨l, vs, ln, ta, tb, pn, e, hm, hi, _⟩ := h; exact ⟨l, vs, ln, ta, tb, pn, e, hl _ hm rfl, hi, fun p hp => by simpa [G.addrs] using hn p hp⟩
  | own l => obtain ⟨e, ho, _⟩ := h; exact ⟨e, ho, hn⟩
theorem GOk.off {g : G} {m : Str → Option Value} {rest gl : Led} (h : GOk g m rest gl) : ∀ p ∈ rest, p.1 ∉ g.addrs := by
  cases g with
  | none => exact fun _ _ => by simp [G.addrs]
  | row x a xs => obtain ⟨vs, k, e, hi, hm, hn⟩ := h; exact fun p hp => by simpa [G.addrs] using hn p hp
  | pen P ns k => obtain ⟨a, b, h0, h1, h2, l, vs, ln, ta, tb, pn, e, hm, hi, hn⟩ := h; exact fun p hp => by simpa [G.addrs] using hn p hp
  | penx P ns a b => obtain ⟨l, vs, ln, ta, tb, pn, e, hm, hi, hn⟩ := h; exact fun p hp => by simpa [G.addrs] using hn p hp
  | own l => exact h.2.2
theorem RepI.offL {led led' : Led} {W : List Addr} (hI : ∀ p ∈ led, p.1 ∈ W → p.2.cls ≠ .type "list") (hs : ∀ p ∈ led, p.1 ∉ W → p ∈ led') {v : Value} {l : List Int} (r : RepI led v l) : RepI led' v l := by
  obtain ⟨a, vs, k, e, hm, i⟩ := r
  exact ⟨a, vs, k, e, hs _ hm fun h => hI _ hm h rfl, i⟩
theorem Rep.offL {led led' : Led} {W : List Addr} (hI : ∀ p ∈ led, p.1 ∈ W → p.2.cls ≠ .type "list") (hs : ∀ p ∈ led, p.1 ∉ W → p ∈ led') {v : Value} {d : V} (hd : d.noTup = true) (r : Rep led v d) : Rep led' v d := by
  cases d with
  | none => exact r
  | bool b => exact r
  | int i => exact r
  | str s => exact r
  | li l => exact RepI.offL hI hs r
  | ls l => obtain ⟨a, vs, k, e, hm, i⟩ := r; exact ⟨a, vs, k, e, hs _ hm fun h => hI _ hm h rfl, i⟩
  | ti l => cases hd
  | ts l => cases hd
  | pr l r' => cases hd
  | obj u => exact r

theorem loop_core {f : Fn} {c : Cx} {target : Expr} {body : List Stmt} {I : Addr} {fp wr : List Addr} {k : Nat} {P Md : Nat → Value → Heap → Prop} {St : Nat → Heap → Prop} {S : Nat → List (Option V)} {gs : Nat → G} {s : Shared} {h₂ : Heap} {t₂ : Nat} {m : Str → Option Value} {rest gl : Led}
    (W : KTurns pg c.w (c.A f) target I fp wr k P Md St) (N0 : Nat)
    (hfp : ∀ b ∈ fp, N0 ≤ b ∨ ∃ o, (b, o) ∈ rest) (hwr : ∀ b ∈ wr, N0 ≤ b) (hlt : ∀ p ∈ gl ++ rest, p.1 < N0) (hL : c.L < N0)
    (hcls : ∀ i h, St i h → ∀ b ∈ wr, ∀ o, h.get? b = some o → o.cls ≠ .type "list")
    (hst : St 0 h₂) (F : Fr c.h₀ c.L h₂ m) (N : News c.h₀ c.L h₂ (gl ++ rest)) (G0 : GOk (gs 0) m rest gl) (S0 : Sees f.names (S 0) m rest)
    (hpl : ∀ i, plainS (S i) = true) (hga : ∀ i, (gs i).addrs = (gs 0).addrs)
    (turn : ∀ i v m₁ rest₁ gl₁ h₁ tk₁, i < k → P i v h₁ → Fr c.h₀ c.L h₁ m₁ → News c.h₀ c.L h₁ (gl₁ ++ rest₁) → GOk (gs i) m₁ rest₁ gl₁ → (∀ p ∈ rest, p ∈ rest₁) → Sees f.names (S i) m₁ rest₁ →
      ∀ (Q' : Flow → Shared → Prop) (E' : Value → Shared → Prop), PostS f c { s with heap := h₁, toks := tk₁ } rest₁ Q' E' (.next (S (i + 1)) (gs (i + 1))) →
        wpAny (model pg c.w) (c.A f) (assign target (c.env f) v) (fun _ s₃ => wpAny (model pg c.w) (c.A f) (execs body (c.env f)) Q' E' s₃) E' { s with heap := h₁, toks := tk₁ })
    {Q : Flow → Shared → Prop} {E : Value → Shared → Prop}
    (done : ∀ h' tk m' rest' gl', Fr c.h₀ c.L h' m' → News c.h₀ c.L h' (gl' ++ rest') → GOk (gs k) m' rest' gl' → (∀ p ∈ rest, p ∈ rest') → Sees f.names (S k) m' rest' → Q .next { s with heap := h', toks := tk }) :
    TurnsAt pg c.w (c.A f) c.h₀ (c.env f) target body Q E (.ref I) { s with heap := h₂, toks := t₂ } := by
  have base : ∀ b o, c.h₀.get? b = some o → b < N0 := fun b o e => Nat.lt_of_lt_of_le (Heap.lt_size e) (Nat.le_trans F.above (Nat.le_of_lt hL))
  have fresh : ∀ b, N0 ≤ b → c.h₀.get? b = none := fun b hb => by
    cases e : c.h₀.get? b with
    | none => rfl
    | some o => exact absurd (base b o e) (Nat.not_lt.mpr hb)
  let J : Nat → (Str → Option Value) → Led → Prop := fun i m₁ news₁ => ∃ gl₁ rest₁, news₁ = gl₁ ++ rest₁ ∧ GOk (gs i) m₁ rest₁ gl₁ ∧ (∀ p ∈ rest, p ∈ rest₁) ∧ Sees f.names (S i) m₁ rest₁
  have ga0 : ∀ a ∈ (gs 0).addrs, a < N0 := fun a ha => by
    rw [← G0.addrs] at ha
    obtain ⟨p, hp, rfl⟩ := List.mem_map.mp ha
    exact hlt p (List.mem_append_left _ hp)
  refine ⟨I, fp, wr, k, P, Md, St, m, gl ++ rest, J, rfl, W, fun h => ?_, fun b hb => fresh b (hwr b hb), fun p hp h => absurd (hlt p hp) (Nat.not_lt.mpr (hwr _ h)), hst, F, N, ⟨gl, rest, rfl, G0, fun _ h => h, S0⟩, ?_, ?_⟩
  · rcases hfp _ h with h | ⟨o, h⟩
    · exact absurd hL (Nat.not_lt.mpr h)
    · exact (N _ (List.mem_append_right _ h)).2.1 rfl
  · rintro i v m₁ news₁ h₁ tk₁ own hi hP ⟨gl₁, rest₁, rfl, G1, hs1, S1⟩ hoff hown hown2 hmem st F₁ N₁
    have N₁' : News c.h₀ c.L h₁ (gl₁ ++ (own ++ rest₁)) := fun p hp => N₁ p (by
      rcases List.mem_append.mp hp with q | q
      · exact List.mem_append_right _ (List.mem_append_left _ q)
      · rcases List.mem_append.mp q with q | q
        · exact List.mem_append_left _ q
        · exact List.mem_append_right _ (List.mem_append_right _ q))
    have G1' : GOk (gs i) m₁ (own ++ rest₁) gl₁ := G1.rest (fun p hp _ => List.mem_append_right _ hp) fun p hp => by
      rcases List.mem_append.mp hp with q | q
      · rcases hfp _ (hown p q) with h | ⟨o, h⟩
        · intro h3
          rw [hga i] at h3
          exact absurd (ga0 _ h3) (Nat.not_lt.mpr h)
        · exact G1.off (p.1, o) (hs1 (p.1, o) h)
      · exact G1.off p q
    refine turn i v m₁ (own ++ rest₁) gl₁ h₁ tk₁ hi hP F₁ N₁' G1' (fun p hp => List.mem_append_right _ (hs1 p hp)) (S1.mono fun p hp => List.mem_append_right _ hp) _ _ ?_
    intro h' tk' m' rest' gl' F' N' G' hs' S'
    have Nr : News c.h₀ c.L h' rest' := fun p hp => N' p (List.mem_append_right _ hp)
    have hcl : ∀ p ∈ rest', p.1 ∈ wr → p.2.cls ≠ .type "list" := fun p hp hw => by
      have hf := W.sub _ hw
      have st' : St (i + 1) h' := W.frame _ _ _ st fun b hb o e => by
        cases hn : c.h₀.get? b with
        | some o₀ =>
          have : o₀ = o := by have q := F₁.keep b o₀ hn; rw [e] at q; exact (Option.some.inj q).symm
          exact this ▸ F'.keep b o₀ hn
        | none => exact (Nr _ (hs' _ (List.mem_append_left _ (hmem b hb hn o e)))).1
      exact hcls _ _ st' _ hw _ (Nr p hp).1
    have filt : ∀ p ∈ rest', p.1 ∉ wr → p ∈ rest'.filter fun p => decide (p.1 ∉ wr) := fun p hp h => List.mem_filter.mpr ⟨hp, decide_eq_true h⟩
    refine ⟨rfl, h', tk', m', gl' ++ rest'.filter (fun p => decide (p.1 ∉ wr)), rfl, F', fun p hp => ?_, fun p hp h => ?_, gl', _, rfl, G'.rest (fun p hp hc => filt p hp fun h => hcl p hp h hc) (fun p hp => G'.off p (List.mem_filter.mp hp).1), fun p hp => ?_, fun x d l => ?_⟩
    · rcases List.mem_append.mp hp with q | q
      · exact Nr p (hs' p (List.mem_append_left _ q))
      · rcases List.mem_append.mp q with q | q
        · exact N' p (List.mem_append_left _ q)
        · exact Nr p (List.mem_filter.mp q).1
    · rcases List.mem_append.mp hp with q | q
      · have : p.1 ∈ (gs (i + 1)).addrs := by rw [← G'.addrs]; exact List.mem_map.mpr ⟨p, q, rfl⟩
        rw [hga (i + 1)] at this
        exact absurd (ga0 _ this) (Nat.not_lt.mpr (hwr _ h))
      · exact (of_decide_eq_true (List.mem_filter.mp q).2) h
    · exact filt p (hs' p (List.mem_append_right _ (hs1 p hp))) fun h => absurd (hlt p (List.mem_append_right _ hp)) (Nat.not_lt.mpr (hwr _ h))
    · obtain ⟨u, hu, r⟩ := S' x d l
      exact ⟨u, hu, r.offL hcl filt (plainS_look l (hpl (i + 1)))⟩
  · rintro h' tk m' news' F' N' _ ⟨gl', rest', rfl, G', hs', S'⟩
    exact done h' tk m' rest' gl' F' N' G' hs' S'
end Mine
end

section
open PySem PySem.W PyProof.Rows PySem.Calls
set_option maxHeartbeats 1000000
namespace Mine
inductive Less : List (Option V) → List (Option V) → Prop
  | nil : Less [] []
  | keep {a b : List (Option V)} {o : Option V} : Less a b → Less (o :: a) (o :: b)
  | drop {a b : List (Option V)} {o : Option V} : Less a b → Less (none :: a) (o :: b)
theorem Less.refl : ∀ {a : List (Option V)}, Less a a
  | [] => .nil
  | _ :: _ => .keep Less.refl
theorem Less.look {a b : List (Option V)} (h : Less a b) {ns : List (Str × NameKind)} {x : Str} {d : V} (l : Look ns a x d) : Look ns b x d := by
  induction l generalizing b with
  | head => cases h with | keep h => exact .head
  | tail _ ih => cases h with
    | keep h => exact .tail (ih h)
    | drop h => exact .tail (ih h)
theorem Ex.weak {f : Fn} {c : Cx} {n : Nat} {ρ T S : List (Option V)} {g g' : G} {b : List Stmt} (h : Ex f c n ρ g b (.next T g')) (q : Less S T) : Ex f c n ρ g b (.next S g') :=
  fun s m rest gl Q E ok F N G S' P => h s m rest gl Q E ok F N G S' fun h' tk' m' rest' gl' F' N' G' s' S2 => P h' tk' m' rest' gl' F' N' G' s' fun x d l => S2 x d (q.look l)
/-- a part of a body ahead of the rest -/
theorem Ex.less {f : Fn} {c : Cx} {n : Nat} {ρ ρ' : List (Option V)} {g : G} {b : List Stmt} {o : Out} (h : Ex f c n ρ' g b o) (q : Less ρ' ρ) : Ex f c n ρ g b o :=
  fun s m rest gl Q E ok F N G S P => h s m rest gl Q E ok F N G (fun x d l => S x d (q.look l)) P

section
variable {f : Fn} {c : Cx} {n : Nat} {S S' T : Nat → List (Option V)} {gs : Nat → G} {body r : List Stmt} {o : Out} {pos : Pos}

theorem RepL.one {news : Led} {vs : List Value} {d : V} (h : RepL news vs [d]) : ∃ v, vs = [v] ∧ Rep news v d := by
  match vs, h with
  | [v], h => exact ⟨v, rfl, h.1⟩
theorem RepL.two {news : Led} {vs : List Value} {d e : V} (h : RepL news vs [d, e]) : ∃ v u, vs = [v, u] ∧ Rep news v d ∧ Rep news u e := by
  match vs, h with
  | [v, u], h => exact ⟨v, u, rfl, h.1, h.2.1⟩
theorem ints_at {vs : List Value} {l : List Int} (h : IntsAre vs l) {i : Nat} {v : Value} (hv : vs[i]? = some v) : ∃ t, v = .int (l.getD i 0) t := by
  have hi : i < vs.length := by
    rcases Nat.lt_or_ge i vs.length with q | q
    · exact q
    · rw [List.getElem?_eq_none q] at hv; cases hv
  have hl : i < l.length := by rw [← h.length]; exact hi
  obtain ⟨t, ht⟩ := h.get i l[i] (by simp [hl])
  rw [hv] at ht
  refine ⟨t, (Option.some.inj ht).trans ?_⟩
  simp [List.getD, hl]

theorem Ex.forList {x : Str} {xp : Pos} {e : Expr} {l : List Int} (h : Ev f c n (S 0) e (.li l)) (fit : Fits (gs 0) (.li l))
    (hput : ∀ i, Put f.names (S i) x (.int (l.getD i 0)) (S' i)) (hx : ∀ i, (gs i).away x) (hpl : ∀ i, plainS (S i) = true) (hga : ∀ i, (gs i).addrs = (gs 0).addrs)
    (hb : ∀ i, i < l.length → Ex f c n (S' i) (gs i) body (.next (T i) (gs (i + 1)))) (hT : ∀ i, Less (S (i + 1)) (T i)) (k : Ex f c n (S l.length) (gs l.length) r o)
    (hfs : ∀ env x, foldedSetIterable e env x = pure x := by intro _ _; rfl) : Ex f c n (S 0) (gs 0) (.For (.Name x xp) e body [] pos :: r) o :=
  fun s m rest gl Q E ok F N G S0 P => wpAny_execs_cons (wpAny_mono (For_turns (h₀ := c.h₀) (E := fun _ _ => False) F (h s m _ _ _ ok F N S0.gl fun v h1 t1 led F1 N1 s1 R1 => by
    obtain ⟨rest1, N2, G2, s2, R2⟩ := regain N1 G s1 R1 fit
    obtain ⟨ax, vs, kk, rfl, hm, hi⟩ := R2
    have hl : h1.IsList ax vs.toArray := ⟨_, (N2 _ (List.mem_append_right _ hm)).1, rfl, kk, rfl⟩
    have hlt : ax < h1.objs.size := Heap.lt_size (N2 _ (List.mem_append_right _ hm)).1
    have hne : ax ≠ h1.objs.size := Nat.ne_of_lt hlt
    refine wpAny_pyIter_list (s := { s with heap := h1, toks := t1 }) hl ?_
    refine loop_core (s := s) (t₂ := t1) (m := m) (rest := rest1) (gl := gl) (S := S) (gs := gs) (KTurns.ofWalks (Walks.list (prog := pg) (w := c.w) (A := c.A f) rfl h1.objs.size ax hne vs.toArray) fun i v s Q E st q => letGo_listiter st.1 q) h1.objs.size ?_ ?_ (fun p hp => Heap.lt_size (N2 p hp).1) F1.ns.lt ?_
      ⟨⟨_, Heap.get?_push_size _ rfl, rfl, rfl⟩, hl.at fun o e => Heap.get?_push_of_some _ e⟩ (F1.push _) (fun p hp => ⟨Heap.get?_push_of_some _ (N2 p hp).1, (N2 p hp).2⟩) G2 (S0.mono s2) hpl hga ?_ ?_
    · intro b hb
      rcases List.mem_cons.mp hb with e | hb
      · exact .inl (Nat.le_of_eq e.symm)
      · exact .inr ⟨_, (List.mem_singleton.mp hb) ▸ hm⟩
    · intro b hb
      exact Nat.le_of_eq (List.mem_singleton.mp hb).symm
    · rintro i h ⟨⟨oi, hoi, hc, _⟩, _⟩ b hb o' ho
      rw [List.mem_singleton.mp hb, hoi] at ho
      cases ho
      rw [hc]
      decide
    · intro i v m₁ rest₁ gl₁ h₁ tk₁ hi' hP F' N' G' hs' S1 Q' E' PP
      have hv : vs[i]? = some v := by simpa using hP
      obtain ⟨t, rfl⟩ := ints_at hi hv
      have hil : i < l.length := by rw [← hi.length]; simpa using hi'
      refine assign_Name (storeX_L F' N' (fun h3 F3 N3 => ?_) rfl ((hput i).kd.kindOf c ok.fok))
      exact (hb i hil).weak (hT i) _ _ rest₁ gl₁ Q' E' ok F3 N3 (G'.set (hx i)) (S1.put ok.fok.nd (hput i) ⟨t, rfl⟩) (PP.sub (fun _ h => h) _ _)
    · intro h' tk m' rest' gl' F' N' G' hs' S1
      have e : vs.toArray.size = l.length := by simp [hi.length]
      rw [e] at G' S1
      exact k _ _ rest' gl' Q E ok F' N' G' S1 (P.sub (fun p hp => hs' p (s2 p hp)) _ _)) (hfs _) PassesOwn.never) (fun _ _ q => q) fun _ _ q => q.elim)

theorem Ex.forRange {x : Str} {xp rp cp : Pos} {e : Expr} {N : Nat} (hk : Kd .globalImplicit f.names (Str.ofString "range")) (h : Ev f c n (S 0) e (.int N)) (hN : N < 2 ^ 32)
    (hput : ∀ i, Put f.names (S i) x (.int i) (S' i)) (hx : ∀ i, (gs i).away x) (hpl : ∀ i, plainS (S i) = true) (hga : ∀ i, (gs i).addrs = (gs 0).addrs)
    (hb : ∀ i, i < N → Ex f c n (S' i) (gs i) body (.next (T i) (gs (i + 1)))) (hT : ∀ i, Less (S (i + 1)) (T i)) (k : Ex f c n (S N) (gs N) r o)
    (he : ∀ env, starEach [e] env = (false, eval e env) :: starEach [] env := by intro _; rfl) :
    Ex f c n (S 0) (gs 0) (.For (.Name x xp) (.Call (.Name (Str.ofString "range") rp) [e] [] cp) body [] pos :: r) o :=
  fun s m rest gl Q E ok F N0 G S0 P => wpAny_execs_cons (wpAny_mono (For_turns (h₀ := c.h₀) (E := fun _ _ => False) F (Call_ (nameX_B F ok.kin (topRead_of ok.top) (B_range.1 c.w.params) B_range.2.1 B_range.2.2
    (PyProof.Rows.callWith_type1 ((EvL.cons h EvL.nil he) cp s m _ _ _ ok F N0 S0.gl fun vs h1 t1 led F1 N1 s1 R1 => by
    obtain ⟨v, rfl, t, rfl⟩ := R1.one
    obtain ⟨rest1, N2, G2, s2, _⟩ := regainA N1 G s1
    refine call_range_1 ?_
    have sz : Builtin.Range.rangeSize 0 (N : Int) 1 = N := by rw [rangeSize_one]; split <;> omega
    refine wpAny_pyIter_range (IsRange.new _ _ _ _ _ _ _) (small_one (by decide) (by decide) (by omega) (by omega)) ?_
    rw [sz]
    have up : ∀ b o, h1.get? b = some o → ((h1.push { cls := .type "range", data := .fields #[.int 0 t1, .int N t, .int 1 (t1 + 1)] }).push { cls := .type "range_iterator", data := .fields #[rawInt 0, rawInt N, rawInt 1] }).get? b = some o := fun b o e => Heap.get?_push_of_some _ (Heap.get?_push_of_some _ e)
    refine loop_core (s := s) (m := m) (rest := rest1) (gl := gl) (S := S) (gs := gs) (k := N) (KTurns.ofWalks (Walks.range (prog := pg) (w := c.w) (A := c.A f) rfl _ 0 1 N) fun i v s Q E st q => wpAny_pure q) (h1.objs.size + 1) ?_ ?_ (fun p hp => Nat.lt_succ_of_lt (Heap.lt_size (N2 p hp).1)) (Nat.lt_succ_of_lt F1.ns.lt) ?_
      (by show IsRangeIter _ _ (0 + ((0 : Nat) : Int) * 1) ((N : Int) - ((0 : Nat) : Int)) 1; rw [show (0 : Int) + ((0 : Nat) : Int) * 1 = 0 by decide, show (N : Int) - ((0 : Nat) : Int) = N by omega]; exact Heap.get?_push_size _ rfl) (F1.keeps up) (fun p hp => ⟨up _ _ (N2 p hp).1, (N2 p hp).2⟩) G2 (S0.mono s2) hpl hga ?_ ?_
    · intro b hb
      exact .inl (by rw [List.mem_singleton.mp hb, Heap.size_push]; exact Nat.le_refl _)
    · intro b hb
      rw [List.mem_singleton.mp hb, Heap.size_push]; exact Nat.le_refl _
    · rintro i h st b hb o' ho
      rw [List.mem_singleton.mp hb] at ho
      have st' : IsRangeIter h _ _ _ _ := st
      rw [st'] at ho
      cases ho
      show Value.type "range_iterator" ≠ Value.type "list"
      decide
    · intro i v m₁ rest₁ gl₁ h₁ tk₁ hi' hP F' N' G' hs' S1 Q' E' PP
      obtain ⟨t', rfl⟩ := hP
      have ei : (0 : Int) + (i : Int) * 1 = i := by omega
      rw [ei]
      refine assign_Name (storeX_L F' N' (fun h3 F3 N3 => ?_) rfl ((hput i).kd.kindOf c ok.fok))
      exact (hb i hi').weak (hT i) _ _ rest₁ gl₁ Q' E' ok F3 N3 (G'.set (hx i)) (S1.put ok.fok.nd (hput i) ⟨t', rfl⟩) (PP.sub (fun _ h => h) _ _)
    · intro h' tk m' rest' gl' F' N' G' hs' S1
      exact k _ _ rest' gl' Q E ok F' N' G' S1 (P.sub (fun p hp => hs' p (s2 p hp)) _ _)) (he _) rfl) rfl (hk.kindOf c ok.fok) (ok.fok.dbg _ hk.mem))) (fun _ => rfl) PassesOwn.never) (fun _ _ q => q) fun _ _ q => q.elim)

theorem Ex.forZip {x y : Str} {xp yp tp zp cp : Pos} {kk : Nat} {e1 e2 : Expr} {l1 l2 : List Int} {U : Nat → List (Option V)} (hk : Kd .globalImplicit f.names (Str.ofString "zip")) (hE : EvL f c n (S 0) [e1, e2] [.li l1, .li l2]) (f1 : Fits (gs 0) (.li l1)) (f2 : Fits (gs 0) (.li l2)) (hll : l1.length = l2.length)
    (hput : ∀ i, Put f.names (S i) x (.int (l1.getD i 0)) (U i)) (hput2 : ∀ i, Put f.names (U i) y (.int (l2.getD i 0)) (S' i)) (hx : ∀ i, (gs i).away x) (hy : ∀ i, (gs i).away y) (hpl : ∀ i, plainS (S i) = true) (hga : ∀ i, (gs i).addrs = (gs 0).addrs)
    (hb : ∀ i, i < l1.length → Ex f c n (S' i) (gs i) body (.next (T i) (gs (i + 1)))) (hT : ∀ i, Less (S (i + 1)) (T i)) (k : Ex f c n (S l1.length) (gs l1.length) r o)
    (he : ∀ env, starEach [e1, e2] env = (false, eval e1 env) :: starEach [e2] env := by intro _; rfl) (hpa : ∀ env, (backTo cp (starEach [e2] env)).any (·.1) = false := by intro _; rfl) :
    Ex f c n (S 0) (gs 0) (.For (.Tuple [.Name x xp, .Name y yp] kk tp) (.Call (.Name (Str.ofString "zip") zp) [e1, e2] [] cp) body [] pos :: r) o :=
  fun s m rest gl Q E ok F N0 G S0 P => wpAny_execs_cons (wpAny_mono (For_turns (h₀ := c.h₀) (E := fun _ _ => False) F (Call_ (nameX_B F ok.kin (topRead_of ok.top) (B_zip.1 c.w.params) B_zip.2.1 B_zip.2.2
    (PyProof.Rows.callWith_type1 (hE cp s m _ _ _ ok F N0 S0.gl fun vs hh1 t1 led F1 N1 s1 R1 => by
    obtain ⟨v1, v2, rfl, R1, R2⟩ := R1.two
    obtain ⟨rest1, N2, G2, s2, RR⟩ := regainA N1 G s1
    obtain ⟨a1, vs1, k1, rfl, hm1, hi1⟩ := RR _ _ f1 R1
    obtain ⟨a2, vs2, k2, rfl, hm2, hi2⟩ := RR _ _ f2 R2
    have q1 := (N2 _ (List.mem_append_right _ hm1)).1
    have q2 := (N2 _ (List.mem_append_right _ hm2)).1
    have hl1 : hh1.IsList a1 vs1.toArray := ⟨_, q1, rfl, k1, rfl⟩
    have hl2 : hh1.IsList a2 vs2.toArray := ⟨_, q2, rfl, k2, rfl⟩
    have D : ZipApart (hh1.objs.size + 4) (hh1.objs.size + 2) (hh1.objs.size + 3) hh1.objs.size (hh1.objs.size + 1) a1 a2 := ktu_apart _ _ _ (Heap.lt_size q1) (Heap.lt_size q2)
    refine call_zip_2 (s := { s with heap := hh1, toks := t1 }) hl1 hl2 fun h' hz hTI hTO hi1' hi2' hsz hk' => ?_
    refine wpAny_pyIter_zip hz ?_
    have elen : min vs1.toArray.size vs2.toArray.size = l1.length := by
      have a := hi1.length; have b := hi2.length
      simp only [List.size_toArray]; omega
    have W := KTurns.ofWalksU (elts := [.Name x xp, .Name y yp]) (k := kk) (pos := tp) (WalksT.zip2 (prog := pg) (w := c.w) (A := c.A f) rfl _ _ _ _ _ _ _ D vs1.toArray vs2.toArray).toU
    rw [elen] at W
    refine loop_core (s := s) (t₂ := t1) (m := m) (rest := rest1) (gl := gl) (S := S) (gs := gs) (k := l1.length) W hh1.objs.size ?_ ?_ (fun p hp => Heap.lt_size (N2 p hp).1) F1.ns.lt ?_
      ⟨hz, hTI, ⟨_, _, hTO⟩, hi1', hi2', hl1.at fun o e => hk' a1 o e, hl2.at fun o e => hk' a2 o e⟩ (F1.keeps hk') (fun p hp => ⟨hk' _ _ (N2 p hp).1, (N2 p hp).2⟩) G2 (S0.mono s2) hpl hga ?_ ?_
    · intro b hb
      have hb' : b = hh1.objs.size + 4 ∨ b = hh1.objs.size + 2 ∨ b = hh1.objs.size + 3 ∨ b = hh1.objs.size ∨ b = hh1.objs.size + 1 ∨ b = a1 ∨ b = a2 := by simpa using hb
      rcases hb' with rfl | rfl | rfl | rfl | rfl | rfl | rfl
      · exact .inl (Nat.le_add_right _ _)
      · exact .inl (Nat.le_add_right _ _)
      · exact .inl (Nat.le_add_right _ _)
      · exact .inl (Nat.le_refl _)
      · exact .inl (Nat.le_add_right _ _)
      · exact .inr ⟨_, hm1⟩
      · exact .inr ⟨_, hm2⟩
    · intro b hb
      have hb' : b = hh1.objs.size + 4 ∨ b = hh1.objs.size + 3 ∨ b = hh1.objs.size ∨ b = hh1.objs.size + 1 := by simpa using hb
      rcases hb' with rfl | rfl | rfl | rfl
      · exact Nat.le_add_right _ _
      · exact Nat.le_add_right _ _
      · exact Nat.le_refl _
      · exact Nat.le_add_right _ _
    · rintro i h ⟨hz, hTI, ⟨a, b, hTO⟩, ⟨o1, ho1, hc1, _⟩, ⟨o2, ho2, hc2, _⟩, _⟩ b' hb o' ho
      have hb' : b' = hh1.objs.size + 4 ∨ b' = hh1.objs.size + 3 ∨ b' = hh1.objs.size ∨ b' = hh1.objs.size + 1 := by simpa using hb
      have e1 : ∃ o : Obj, h.get? (hh1.objs.size + 4) = some o ∧ o.cls = .type "zip" := ⟨_, hz, rfl⟩
      have e3 : ∃ o : Obj, h.get? (hh1.objs.size + 3) = some o ∧ o.cls = .type "tuple" := ⟨_, hTO, rfl⟩
      obtain ⟨q1, g1, k1⟩ := e1
      obtain ⟨q3, g3, k3⟩ := e3
      have ho1' : h.get? hh1.objs.size = some o1 := ho1
      have ho2' : h.get? (hh1.objs.size + 1) = some o2 := ho2
      rcases hb' with rfl | rfl | rfl | rfl
      · rw [g1] at ho; cases ho; rw [k1]; decide
      · rw [g3] at ho; cases ho; rw [k3]; decide
      · rw [ho1'] at ho; cases ho; rw [hc1]; decide
      · rw [ho2'] at ho; cases ho; rw [hc2]; decide
    · intro i v m₁ rest₁ gl₁ h₁ tk₁ hi' hP F' N' G' hs' S1 Q' E' PP
      obtain ⟨Tt, vals, rfl, ⟨x1, y1, hx1, hy1, rfl⟩, hT'⟩ := hP
      obtain ⟨t, rfl⟩ := ints_at hi1 (by simpa using hx1)
      obtain ⟨t', rfl⟩ := ints_at hi2 (by simpa using hy1)
      refine unpackN_ F' N' hT' rfl rfl rfl fun h3 F3 N3 => ?_
      refine assignInOrder_cons (assign_Name (storeX_L F3 N3 (fun h5 F5 N5 => ?_) rfl ((hput i).kd.kindOf c ok.fok)))
      refine assignInOrder_cons (assign_Name (storeX_L F5 N5 (fun h6 F6 N6 => ?_) rfl ((hput2 i).kd.kindOf c ok.fok)))
      refine assignInOrder_nil ?_
      exact (hb i hi').weak (hT i) _ _ rest₁ gl₁ Q' E' ok F6 N6 ((G'.set (hx i)).set (hy i)) ((S1.put ok.fok.nd (hput i) ⟨t, rfl⟩).put ok.fok.nd (hput2 i) ⟨t', rfl⟩) (PP.sub (fun _ h => h) _ _)
    · intro h' tk m' rest' gl' F' N' G' hs' S1
      exact k _ _ rest' gl' Q E ok F' N' G' S1 (P.sub (fun p hp => hs' p (s2 p hp)) _ _)) (he _) (hpa _)) rfl (hk.kindOf c ok.fok) (ok.fok.dbg _ hk.mem))) (fun _ => rfl) PassesOwn.never) (fun _ _ q => q) fun _ _ q => q.elim)
end
end Mine
end

section
open PySem PySem.W PyProof.Rows PySem.Calls
set_option maxHeartbeats 1000000
namespace Mine
section
variable {f : Fn} {c : Cx} {n : Nat} {ρ : List (Option V)}
/-- 'x, y = (e, [])' : y is a list to be grown -/
theorem Ex.assign2row {x y : Str} {px py tp p2 pos lp : Pos} {k k2 : Nat} {e1 : Expr} {r : List Stmt} {d1 : V} {ρ2 : List (Option V)} {o : Out} (h : Ev f c n ρ e1 d1)
    (q1 : Kd .local f.names y) (hρ : ∀ d, ¬ Look f.names ρ y d) (q2 : Put f.names ρ x d1 ρ2) (hxy : y ≠ x) (hw : ∀ c : Cx, swappedStores [.Tuple [.Name x px, .Name y py] k tp] (.Tuple [e1, .List [] lp] k2 p2) (c.env f) = pure (some [x, y]))
    (kk : ∀ a, Ex f c n ρ2 (.row y a []) r o) (he : ∀ env, starEach [e1, .List [] lp] env = (false, eval e1 env) :: (false, eval (.List [] lp) env) :: starEach [] env := by intro _; rfl) :
    Ex f c n ρ .none (.Assign [.Tuple [.Name x px, .Name y py] k tp] (.Tuple [e1, .List [] lp] k2 p2) pos :: r) o :=
  fun s m rest gl Q E ok F N G S P => by
    cases G
    refine wpAny_execs_cons (Assign_Tuple_swapped (names := [x, y]) (Tuple_ (spliced_more (h s m _ _ E ok F N S fun v h' t' led F' N' s' R => ?_) (he _))) rfl (hw c))
    refine spliced_more (List_ (spliced_none (newList_K F' N' (fun l h2 F2 N2 lt => ?_) (by rw [sizeLine_eq]; simp)))) rfl
    refine spliced_none ?_
    refine newTuple_N F2 N2 (fun h3 F3 N3 => ?_) (by rw [sizeLine_eq]; simp)
    refine unpackItemsN_ F3 N3 (News.isTup N3 (.head _)) rfl rfl fun h4 F4 N4 => ?_
    have N4' : News c.h₀ c.L h4 ((l, W.listOf (List.toArray []) 0) :: led) := fun p hp => N4 p (.tail _ hp)
    refine assignInOrder_cons (bindName_ (storeX_L F4 N4' (fun h5 F5 N5 => ?_) rfl (q1.kindOf c ok.fok)))
    refine assignInOrder_cons (bindName_ (storeX_L F5 N5 (fun h6 F6 N6 => ?_) rfl (q2.kd.kindOf c ok.fok)))
    refine assignInOrder_nil ?_
    refine kk l _ _ led _ Q E ok F6 N6 ⟨[], 0, rfl, .nil, (if_neg hxy).trans (if_pos rfl), fun p hp => Nat.ne_of_lt (lt p hp)⟩ ?_ (P.sub s' _ _)
    have S2 : Sees f.names ρ (fun z => if z = y then some (.ref l) else m z) led := fun z d hl => by
      have hz : z ≠ y := fun e => hρ d (e ▸ hl)
      obtain ⟨u, hu, R'⟩ := S.mono s' z d hl
      exact ⟨u, (if_neg hz).trans hu, R'⟩
    exact S2.put ok.fok.nd q2 R
end
/-- the state of a loop -/
def stR {σ : Type} (f : σ → Nat → σ) (z : σ) : Nat → σ
  | 0 => z
  | i + 1 => f (stR f z i) i
def stL {σ : Type} (f : σ → Int → σ) (z : σ) (l : List Int) : Nat → σ
  | 0 => z
  | i + 1 => f (stL f z l i) (l.getD i 0)
def stZ {σ : Type} (f : σ → Int → Int → σ) (z : σ) (l r : List Int) : Nat → σ
  | 0 => z
  | i + 1 => f (stZ f z l r i) (l.getD i 0) (r.getD i 0)
theorem stL_cons {σ : Type} (f : σ → Int → σ) (z : σ) (x : Int) (l : List Int) : ∀ i, stL f z (x :: l) (i + 1) = stL f (f z x) l i
  | 0 => rfl
  | i + 1 => by
    show f (stL f z (x :: l) (i + 1)) ((x :: l).getD (i + 1) 0) = f (stL f (f z x) l i) (l.getD i 0)
    rw [stL_cons f z x l i]; rfl
theorem stL_foldl {σ : Type} (f : σ → Int → σ) (l : List Int) : ∀ z, stL f z l l.length = l.foldl f z := by
  induction l with
  | nil => exact fun _ => rfl
  | cons x l ih => exact fun z => (stL_cons f z x l l.length).trans (ih _)
theorem stZ_cons {σ : Type} (f : σ → Int → Int → σ) (z : σ) (x y : Int) (l r : List Int) : ∀ i, stZ f z (x :: l) (y :: r) (i + 1) = stZ f (f z x y) l r i
  | 0 => rfl
  | i + 1 => by
    show f (stZ f z (x :: l) (y :: r) (i + 1)) ((x :: l).getD (i + 1) 0) ((y :: r).getD (i + 1) 0) = f (stZ f (f z x y) l r i) (l.getD i 0) (r.getD i 0)
    rw [stZ_cons f z x y l r i]; rfl
theorem aw {x y : Str} {a : Addr} {xs : List Int} (h : (x == y) = false) : (G.row x a xs).away y := by simpa [G.away] using h
theorem py2 {x : Int} : Builtin.divisionGoesByPylong x 2 = false := pylong (by decide)
end Mine
end

section
open PySem PySem.W PyProof.Rows PySem.Calls
set_option maxHeartbeats 1000000
namespace Mine
open PyProof.Rows.LCg in
section
/-- the names of a comprehension -/
abbrev kenv (c : Cx) (f : Fn) (sc : Scope) (cl : List (Str × Addr)) (C : Addr) : Env :=
  { scope := sc, locals := C, globals := mainGlobals, cells := cl, qual := f.qual ++ ".<locals>.", func := none, code := f.cd, frame := some c.L, builtins := builtinsNs }
structure KSt (sc : Scope) (cl : List (Str × Addr)) (ρ : List (Option V)) (ρc : List (Str × V)) (C : Addr) (news : Led) : Prop where
  ns : ∃ oC m₂, (C, oC) ∈ news ∧ NsObj oC m₂ ∧ Sees sc.names ρ m₂ news
  cells : ∀ p ∈ ρc, ∃ a o v, cl.lookup p.1 = some a ∧ (a, o) ∈ news ∧ o.data = .cell (some v) ∧ Rep news v p.2
theorem KSt.mono {sc : Scope} {cl : List (Str × Addr)} {ρ : List (Option V)} {ρc : List (Str × V)} {C : Addr} {n1 n2 : Led} (h : KSt sc cl ρ ρc C n1) (hs : ∀ p ∈ n1, p ∈ n2) : KSt sc cl ρ ρc C n2 where
  ns := let ⟨oC, m₂, hm, ho, S⟩ := h.ns; ⟨oC, m₂, hs _ hm, ho, S.mono hs⟩
  cells := fun p hp => let ⟨a, o, v, hc, hm, hd, r⟩ := h.cells p hp; ⟨a, o, v, hc, hs _ hm, hd, r.mono hs⟩
structure ScOk (sc : Scope) : Prop where
  nd : (sc.names.map (·.1)).Nodup
  dbg : ∀ x ∈ sc.names, (x.1 == ("__debug__" : Str)) = false
  fn : sc.kind = .function
theorem Kd.kindK {k : NameKind} {sc : Scope} {x : Str} (ok : ScOk sc) (h : Kd k sc.names x) (c : Cx) (f : Fn) (cl : List (Str × Addr)) (C : Addr) : (kenv c f sc cl C).kindOf x = some k := lookup_of_nodup ok.nd h.mem

variable {f : Fn} {c : Cx} {n : Nat} {sc : Scope} {cl : List (Str × Addr)} {ρ : List (Option V)} {ρc : List (Str × V)}
def EvK (f : Fn) (c : Cx) (n : Nat) (sc : Scope) (cl : List (Str × Addr)) (ρ : List (Option V)) (ρc : List (Str × V)) (e : Expr) (d : V) : Prop :=
  ∀ (s : Shared) (m : Str → Option Value) (C : Addr) (news : Led) (Q E : Value → Shared → Prop), c.Ok f n → ScOk sc → Fr c.h₀ c.L s.heap m → News c.h₀ c.L s.heap news → KSt sc cl ρ ρc C news → Post c s m news Q d →
    wpAny (model pg c.w) (c.A f) (eval e (kenv c f sc cl C)) Q E s
theorem EvK.cint {i : Int} {k : Nat} {pos : Pos} : EvK f c n sc cl ρ ρc (.Constant (.int i) k pos) (.int i) :=
  fun s m C news Q E ok sk F N K P => wpAny_Constant_int (P _ s.heap _ news F N (fun _ h => h) ⟨_, rfl⟩)
theorem EvK.cbool {x : Bool} {k : Nat} {pos : Pos} : EvK f c n sc cl ρ ρc (.Constant (.bool x) k pos) (.bool x) :=
  fun s m C news Q E ok sk F N K P => wpAny_pure (P _ s.heap s.toks news F N (fun _ h => h) rfl)
theorem EvK.name {x : Str} {d : V} {pos : Pos} (l : Look sc.names ρ x d) : EvK f c n sc cl ρ ρc (.Name x pos) d :=
  fun s m C news Q E ok sk F N K P => by
    obtain ⟨oC, m₂, hm, ho, S⟩ := K.ns
    obtain ⟨v, hv, r⟩ := S x d l
    exact wpAny_Name (wpAny_loadName_local sk.fn (l.kd.kindK sk c f cl C) (ho.ns (N _ hm).1) hv (P v s.heap s.toks news F N (fun _ h => h) r)) (sk.dbg _ l.kd.mem)
theorem EvK.cell {x : Str} {d : V} {pos : Pos} (hk : Kd .cell sc.names x) (l : (x, d) ∈ ρc) : EvK f c n sc cl ρ ρc (.Name x pos) d :=
  fun s m C news Q E ok sk F N K P => by
    obtain ⟨a, o, v, hc, hm, hd, r⟩ := K.cells _ l
    exact wpAny_Name (wpAny_loadName_cell sk.fn (hk.kindK sk c f cl C) hc ⟨o, (N _ hm).1, hd⟩ (P v s.heap s.toks news F N (fun _ h => h) r)) (sk.dbg _ hk.mem)
theorem EvK.bin {l r : Expr} {op : Operator} {pos : Pos} {a b d : V} (hl : EvK f c n sc cl ρ ρc l a) (hr : EvK f c n sc cl ρ ρc r b) (ho : Op2 (binaryOp op) a b d) : EvK f c n sc cl ρ ρc (.BinOp l op r pos) d :=
  fun s m C news Q E ok sk F N K P => wpAny_BinOp (hl s m C news _ E ok sk F N K fun v h1 t1 n1 F1 N1 s1 R1 =>
    hr _ m C n1 _ E ok sk F1 N1 (K.mono s1) fun u h2 t2 n2 F2 N2 s2 R2 =>
      ho f c _ m n2 v u Q E (by have := ok.units; omega) F2 N2 (R1.mono s2) R2 fun w h3 t3 n3 F3 N3 s3 R3 => P w h3 t3 n3 F3 N3 (fun p hp => s3 p (s2 p (s1 p hp))) R3)
theorem EvK.cmp {l r : Expr} {op : CmpOp} {pos : Pos} {a b d : V} (hl : EvK f c n sc cl ρ ρc l a) (hr : EvK f c n sc cl ρ ρc r b) (ho : Op2 (compareOp op) a b d) (hb : behindInMarks op r = false := by rfl) : EvK f c n sc cl ρ ρc (.Compare l [op] [r] pos) d :=
  fun s m C news Q E ok sk F N K P => wpAny_Compare1 (hl s m C news _ E ok sk F N K fun v h1 t1 n1 F1 N1 s1 R1 =>
    hr _ m C n1 _ E ok sk F1 N1 (K.mono s1) fun u h2 t2 n2 F2 N2 s2 R2 =>
      ho f c _ m n2 v u Q E (by have := ok.units; omega) F2 N2 (R1.mono s2) R2 fun w h3 t3 n3 F3 N3 s3 R3 => P w h3 t3 n3 F3 N3 (fun p hp => s3 p (s2 p (s1 p hp))) R3) hb
theorem EvK.congr {e : Expr} {a b : V} (h : EvK f c n sc cl ρ ρc e a) (q : a = b) : EvK f c n sc cl ρ ρc e b := q ▸ h
def TsK (f : Fn) (c : Cx) (n : Nat) (sc : Scope) (cl : List (Str × Addr)) (ρ : List (Option V)) (ρc : List (Str × V)) (e : Expr) (b : Bool) : Prop :=
  ∀ (s : Shared) (m : Str → Option Value) (C : Addr) (news : Led) (Q : Bool → Shared → Prop) (E : Value → Shared → Prop), c.Ok f n → ScOk sc → Fr c.h₀ c.L s.heap m → News c.h₀ c.L s.heap news → KSt sc cl ρ ρc C news →
    (∀ h' tk' news', Fr c.h₀ c.L h' m → News c.h₀ c.L h' news' → (∀ p ∈ news, p ∈ news') → Q b { s with heap := h', toks := tk' }) →
    wpAny (model pg c.w) (c.A f) (PySem.isTrue e (kenv c f sc cl C) (eval e (kenv c f sc cl C))) Q E s
theorem TsK.cmp {l r : Expr} {op : CmpOp} {pos : Pos} {a b d : V} {t : Bool} (hl : EvK f c n sc cl ρ ρc l a) (hr : EvK f c n sc cl ρ ρc r b) (ho : Op2 (compareOp op) a b d) (ht : d.truth t) (hb : behindInMarks op r = false := by rfl) : TsK f c n sc cl ρ ρc (.Compare l [op] [r] pos) t :=
  fun s m C news Q E ok sk F N K P => wpAny_isTrue_Compare1 (hl s m C news _ E ok sk F N K fun v h1 t1 n1 F1 N1 s1 R1 =>
    hr _ m C n1 _ E ok sk F1 N1 (K.mono s1) fun u h2 t2 n2 F2 N2 s2 R2 =>
      ho f c _ m n2 v u _ E (by have := ok.units; omega) F2 N2 (R1.mono s2) R2 fun w h3 t3 n3 F3 N3 s3 R3 => truthy_V ht R3 (P h3 t3 n3 F3 N3 (fun p hp => s3 p (s2 p (s1 p hp))))) hb
theorem TsK.and2 {x y : Expr} {pos : Pos} {b1 b2 : Bool} (h1 : TsK f c n sc cl ρ ρc x b1) (h2 : TsK f c n sc cl ρ ρc y b2) : TsK f c n sc cl ρ ρc (.BoolOp .And [x, y] pos) (b1 && b2) :=
  fun s m C news Q E ok sk F N K P => isTrue_and (h1 s m C news _ E ok sk F N K fun h' t' n' F' N' s' => by
    cases b1 with
    | true => exact isTrue_and (h2 _ m C n' _ E ok sk F' N' (K.mono s') fun h3 t3 n3 F3 N3 s3 => by
        cases b2 with
        | true => exact isTrue_and_nil (P h3 t3 n3 F3 N3 (fun p hp => s3 p (s' p hp)))
        | false => exact P h3 t3 n3 F3 N3 (fun p hp => s3 p (s' p hp)))
    | false => exact P h' t' n' F' N' s')
def EvLK (f : Fn) (c : Cx) (n : Nat) (sc : Scope) (cl : List (Str × Addr)) (ρ : List (Option V)) (ρc : List (Str × V)) (es : List Expr) (ds : List V) : Prop :=
  ∀ (pos : Pos) (s : Shared) (m : Str → Option Value) (C : Addr) (news : Led) (Q : List Value → Shared → Prop) (E : Value → Shared → Prop), c.Ok f n → ScOk sc → Fr c.h₀ c.L s.heap m → News c.h₀ c.L s.heap news → KSt sc cl ρ ρc C news → PostL c s m news Q ds →
    wpAny (model pg c.w) (c.A f) (spliced (backTo pos (starEach es (kenv c f sc cl C)))) Q E s
theorem EvLK.nil : EvLK f c n sc cl ρ ρc [] [] := fun pos s m C news Q E ok sk F N K P => spliced_none (P [] s.heap s.toks news F N (fun _ h => h) trivial)
theorem EvLK.cons {e : Expr} {es : List Expr} {d : V} {ds : List V} (h1 : EvK f c n sc cl ρ ρc e d) (h2 : EvLK f c n sc cl ρ ρc es ds) (he : ∀ env, starEach (e :: es) env = (false, eval e env) :: starEach es env := by intro _; rfl) : EvLK f c n sc cl ρ ρc (e :: es) (d :: ds) :=
  fun pos s m C news Q E ok sk F N K P => spliced_more (h1 s m C news _ E ok sk F N K fun v h' t' n' F' N' s' R =>
    h2 pos _ m C n' _ E ok sk F' N' (K.mono s') fun vs h3 t3 n3 F3 N3 s3 R3 => P (v :: vs) h3 t3 n3 F3 N3 (fun p hp => s3 p (s' p hp)) ⟨R.mono s3, R3⟩) (he _)
theorem EvK.callT {x : Str} {p pos : Pos} {T : String} {e : Expr} {es : List Expr} {ds : List V} {d : V} {k : Nat} (hg : GBi x (.type T)) (hk : Kd .globalImplicit sc.names x) (ha : EvLK f c n sc cl ρ ρc (e :: es) ds) (hc : Con (.type T) k ds d) (hn : k ≤ n := by decide)
    (he : ∀ env, starEach (e :: es) env = (false, eval e env) :: starEach es env := by intro _; rfl) (hplain : ∀ env, (backTo pos (starEach es env)).any (·.1) = false := by intro _; rfl) :
    EvK f c n sc cl ρ ρc (.Call (.Name x p) (e :: es) [] pos) d :=
  fun s m C news Q E ok sk F N K P => Call_ (Name_function_global sk.fn (hk.kindK sk c f cl C) (loadGlobal_builtin (env := kenv c f sc cl C) ((topRead_of ok.top).g.keeps F.keep) (mg_none_of ok.kin (topRead_of ok.top).g (hg.1 c.w.params)) ((topRead_of ok.top).b.keeps F.keep) (((topRead_of ok.top).builtins x hg.2.2).trans hg.2.1)
    (PyProof.Rows.callWith_type1 (ha pos s m C news _ E ok sk F N K fun vs h' t' n' F' N' s' R =>
      hc f c _ m n' vs Q E (ok.le hn) F' N' R fun v h3 t3 n3 F3 N3 s3 R3 => P v h3 t3 n3 F3 N3 (fun p hp => s3 p (s' p hp)) R3) (he _) (hplain _)))
    (sk.dbg _ hk.mem))
theorem EvK.call {x : Str} {p pos : Pos} {fa : Addr} {e : Expr} {es : List Expr} {ds : List V} {d : V} {k : Nat} (hg : GFn x fa) (hk : Kd .globalImplicit sc.names x) (ha : EvLK f c n sc cl ρ ρc (e :: es) ds) (hc : Con (.ref fa) k ds d) (hn : k ≤ n := by decide)
    (he : ∀ env, starEach (e :: es) env = (false, eval e env) :: starEach es env := by intro _; rfl) (hplain : ∀ env, (backTo pos (starEach es env)).any (·.1) = false := by intro _; rfl) :
    EvK f c n sc cl ρ ρc (.Call (.Name x p) (e :: es) [] pos) d :=
  fun s m C news Q E ok sk F N K P => Call_ (Name_function_global sk.fn (hk.kindK sk c f cl C) (loadGlobal_global (env := kenv c f sc cl C) ((topRead_of ok.top).g.keeps F.keep) (mg_of ok.kin (topRead_of ok.top).g (hg c.w.params).1)
    (callWith_K (h₀ := c.h₀) ok.kin (hg c.w.params).2 (ha pos s m C news _ E ok sk F N K fun vs h' t' n' F' N' s' R => ⟨ok.kin.keeps F'.keep,
      hc f c _ m n' vs Q E (ok.le hn) F' N' R fun v h3 t3 n3 F3 N3 s3 R3 => P v h3 t3 n3 F3 N3 (fun p hp => s3 p (s' p hp)) R3⟩) (he _) (hplain _)))
    (sk.dbg _ hk.mem))
end
end Mine
end

section
open PySem PySem.W PyProof.Rows PySem.Calls
set_option maxHeartbeats 1000000
namespace Mine
open PyProof.Rows.LCg in
section
structure CompAd (c : Cx) (C D : Addr) (rest : Led) : Prop where
  offC : ∀ p ∈ rest, p.1 ≠ C
  offD : ∀ p ∈ rest, p.1 ≠ D
  CD : C ≠ D
  CL : C ≠ c.L
  DL : D ≠ c.L
  C0 : c.h₀.get? C = none
  D0 : c.h₀.get? D = none
structure CompAt (c : Cx) (m : Str → Option Value) (sc : Scope) (C D : Addr) (rest : Led) (ρ : List (Option V)) (acc : List Int) (h : Heap) : Prop where
  fr : Fr c.h₀ c.L h m
  nw : News c.h₀ c.L h rest
  dd : ∃ ys, h.get? D = some (lst ys) ∧ IntsAre ys acc
  ns : ∃ m₂, h.Ns C m₂ ∧ Sees sc.names ρ m₂ []
theorem CompAt.less {c : Cx} {m : Str → Option Value} {sc : Scope} {C D : Addr} {rest : Led} {ρ ρ' : List (Option V)} {acc : List Int} {h : Heap} (a : CompAt c m sc C D rest ρ acc h) (q : Less ρ' ρ) : CompAt c m sc C D rest ρ' acc h :=
  ⟨a.fr, a.nw, a.dd, let ⟨m₂, hn, S⟩ := a.ns; ⟨m₂, hn, fun x d l => S x d (q.look l)⟩⟩

variable {f : Fn} {c : Cx} {n : Nat} {sc : Scope} {cl : List (Str × Addr)} {ρ U : List (Option V)} {ρc : List (Str × V)} {m : Str → Option Value} {C D : Addr} {rest : Led} {acc : List Int} {s : Shared} {h : Heap} {tk : Nat}

def KCells (cl : List (Str × Addr)) (ρc : List (Str × V)) (news : Led) : Prop := ∀ p ∈ ρc, ∃ a o v, cl.lookup p.1 = some a ∧ (a, o) ∈ news ∧ o.data = .cell (some v) ∧ Rep news v p.2

theorem comp_in (ad : CompAd c C D rest) (a : CompAt c m sc C D rest U acc h) (hc : KCells cl ρc rest) : ∃ oC ys m₂, NsObj oC m₂ ∧ Sees sc.names U m₂ [] ∧ IntsAre ys acc ∧ News c.h₀ c.L h ((C, oC) :: (D, lst ys) :: rest) ∧ KSt sc cl U ρc C ((C, oC) :: (D, lst ys) :: rest) := by
  obtain ⟨m₂, hn, S⟩ := a.ns
  obtain ⟨oC, hC, hoC⟩ := ns_obj hn
  obtain ⟨ys, hD, hi⟩ := a.dd
  refine ⟨oC, ys, m₂, hoC, S, hi, fun p hp => ?_, ⟨⟨oC, m₂, .head _, hoC, S.mono fun _ h => nomatch h⟩, fun p hp => ?_⟩⟩
  · rcases List.mem_cons.mp hp with rfl | hp
    · exact ⟨hC, ad.CL, ad.C0⟩
    · rcases List.mem_cons.mp hp with rfl | hp
      · exact ⟨hD, ad.DL, ad.D0⟩
      · exact a.nw p hp
  · obtain ⟨a', o, v, h1, h2, h3, h4⟩ := hc p hp
    exact ⟨a', o, v, h1, .tail _ (.tail _ h2), h3, h4.mono fun q hq => .tail _ (.tail _ hq)⟩
theorem comp_emit {elt : Expr} {x : Int} (ok : c.Ok f n) (sk : ScOk sc) (ad : CompAd c C D rest) (a : CompAt c m sc C D rest U acc h) (hc : KCells cl ρc rest) (he : EvK f c n sc cl U ρc elt (.int x)) (hl : acc.length ≤ 1000)
    {K : Shared → Prop} {E : Value → Shared → Prop} (k : ∀ h' tk', CompAt c m sc C D rest U (acc ++ [x]) h' → K { s with heap := h', toks := tk' }) :
    wpAny (model pg c.w) (c.A f) (eval elt (kenv c f sc cl C)) (fun y s₄ => wpAny (model pg c.w) (c.A f) (call (.builtin "list.append") [.ref D, y]) (fun _ s₅ => K s₅) E s₄) E { s with heap := h, toks := tk } := by
  obtain ⟨oC, ys, m₂, hoC, S, hi, N, KS⟩ := comp_in ad a hc
  refine he _ m C _ _ E ok sk a.fr N KS fun v h' tk' news' F' N' s' R => ?_
  obtain ⟨t, rfl⟩ := R
  have zC := (N' _ (s' _ (.head _))).1
  have zD := (N' _ (s' _ (.tail _ (.head _)))).1
  refine append_at (hsz := by rw [sizeLine_eq]; have := hi.length; simp; omega) zD fun h₅ hs₅ hD₅ => ?_
  exact k h₅ tk' ⟨F'.change hs₅ ad.DL ad.D0, fun p hp => ⟨hs₅.extBut _ _ (ad.offD p hp) (N' p (s' p (.tail _ (.tail _ hp)))).1, (a.nw p hp).2⟩, ⟨ys ++ [.int x t], hD₅.trans (congrArg some (lst_snoc ys _)), hi.append (.cons _ _ .nil)⟩, m₂, (hoC.ns zC).sameBut hs₅ ad.CD, S⟩
theorem comp_test {e : Expr} {b : Bool} (ok : c.Ok f n) (sk : ScOk sc) (ad : CompAd c C D rest) (a : CompAt c m sc C D rest U acc h) (hc : KCells cl ρc rest) (he : TsK f c n sc cl U ρc e b)
    {Q : Bool → Shared → Prop} {E : Value → Shared → Prop} (k : ∀ h' tk', CompAt c m sc C D rest U acc h' → Q b { s with heap := h', toks := tk' }) :
    wpAny (model pg c.w) (c.A f) (PySem.isTrue e (kenv c f sc cl C) (eval e (kenv c f sc cl C))) Q E { s with heap := h, toks := tk } := by
  obtain ⟨oC, ys, m₂, hoC, S, hi, N, KS⟩ := comp_in ad a hc
  refine he _ m C _ _ E ok sk a.fr N KS fun h' tk' news' F' N' s' => ?_
  exact k h' tk' ⟨F', fun p hp => N' p (s' p (.tail _ (.tail _ hp))), ⟨ys, (N' _ (s' _ (.tail _ (.head _)))).1, hi⟩, m₂, hoC.ns (N' _ (s' _ (.head _))).1, S⟩
theorem comp_assign {x : Str} {xp : Pos} {v : Value} {d : V} (sk : ScOk sc) (ad : CompAd c C D rest) (a : CompAt c m sc C D rest ρ acc h) (q : Put sc.names ρ x d U) (r : Rep [] v d)
    {Q : Unit → Shared → Prop} {E : Value → Shared → Prop} (k : ∀ h' tk', CompAt c m sc C D rest U acc h' → Q () { s with heap := h', toks := tk' }) :
    wpAny (model pg c.w) (c.A f) (assign (.Name x xp) (kenv c f sc cl C) v) Q E { s with heap := h, toks := tk } := by
  obtain ⟨m₂, hn, S⟩ := a.ns
  obtain ⟨ys, hD, hi⟩ := a.dd
  refine assign_Name (wpAny_storeName_local (q.kd.kindK sk c f cl C) hn (fun h₃ hn₃ hs₃ => ?_) (by show (sc.kind == .class || (sc.kind == .module && C != mainGlobals)) = false; rw [sk.fn]; rfl))
  exact k h₃ _ ⟨a.fr.change hs₃ ad.CL ad.C0, fun p hp => ⟨hs₃.extBut _ _ (ad.offC p hp) (a.nw p hp).1, (a.nw p hp).2⟩, ⟨ys, hs₃.extBut _ _ (Ne.symm ad.CD) hD, hi⟩, _, hn₃, S.put sk.nd q r⟩
theorem CompAt.keep {h' : Heap} {wr : List Addr} (ad : CompAd c C D rest) (a : CompAt c m sc C D rest ρ acc h) (hk : ∀ b o, b ∉ wr → h.get? b = some o → h'.get? b = some o) (hC : C ∉ wr) (hD : D ∉ wr) (hL : c.L ∉ wr) (hwr : ∀ b ∈ wr, c.h₀.get? b = none) (hr : ∀ p ∈ rest, p.1 ∉ wr) : CompAt c m sc C D rest ρ acc h' := by
  obtain ⟨m₂, hn, S⟩ := a.ns
  obtain ⟨ys, hDD, hi⟩ := a.dd
  exact ⟨⟨a.fr.ns.at' fun o e => hk _ o hL e, fun b o e => hk b o (fun hb => by rw [hwr b hb] at e; cases e) (a.fr.keep b o e), a.fr.above⟩, fun p hp => ⟨hk _ _ (hr p hp) (a.nw p hp).1, (a.nw p hp).2⟩, ⟨ys, hk _ _ hD hDD, hi⟩, m₂, hn.at' fun o e => hk _ o hC e, S⟩

theorem comp_loop {elt : Expr} {gens : List Comprehension} {scope : Scope} {pos : Pos} {depth : Nat} {I : Addr} {env : Env} {target : Expr} {BodyWp : (Shared → Prop) → (Value → Shared → Prop) → Shared → Prop}
    (htr : ∀ (s : Shared) (R : PySem.Fin → Shared → Prop) (E₀ : Value → Shared → Prop), wpAny (model pg c.w) (c.A f) (pyNext (.ref I)) (fun r s₁ => match r with
      | none => R (.done .next) s₁
      | some v => wpAny (model pg c.w) (c.A f) (letOwnedTupleGo target (.ref I) v) (fun _ s₂ => wpAny (model pg c.w) (c.A f) (assign target env v) (fun _ s₃ => BodyWp (fun s₄ => R (.again (.compLoop (.ListComp elt gens scope pos) depth (.ref I) (.ref D) env)) s₄) E₀ s₃) E₀ s₂) E₀ s₁) E₀ s →
      wpAny (model pg c.w) (c.A f) (compTurn (.ListComp elt gens scope pos) depth (.ref I) (.ref D) env) R E₀ s)
    {fp wr : List Addr} {k : Nat} {P Md : Nat → Value → Heap → Prop} {St : Nat → Heap → Prop} (W : KTurns pg c.w (c.A f) target I fp wr k P Md St)
    (ad : CompAd c C D rest) (hC : C ∉ fp) (hD : D ∉ fp) (hLf : c.L ∉ fp) (hwr : ∀ b ∈ wr, c.h₀.get? b = none) (hwrest : ∀ p ∈ rest, p.1 ∉ wr) {acc : Nat → List Int} {h₂ : Heap} {t₂ : Nat}
    (h0 : St 0 h₂) (at0 : CompAt c m sc C D rest ρ (acc 0) h₂)
    (turn : ∀ i v h₁ tk₁ own, i < k → P i v h₁ → CompAd c C D (own ++ rest) → CompAt c m sc C D (own ++ rest) ρ (acc i) h₁ →
      ∀ (K : Shared → Prop) (E' : Value → Shared → Prop), (∀ h' tk', CompAt c m sc C D (own ++ rest) ρ (acc (i + 1)) h' → K { s with heap := h', toks := tk' }) →
        wpAny (model pg c.w) (c.A f) (assign target env v) (fun _ s₃ => BodyWp K E' s₃) E' { s with heap := h₁, toks := tk₁ })
    {R : Result → Shared → Prop} (hR : ∀ h' tk, CompAt c m sc C D rest ρ (acc k) h' → R (.ok .next) { s with heap := h', toks := tk }) :
    codeAny (model pg c.w) (c.A f) (.compLoop (.ListComp elt gens scope pos) depth (.ref I) (.ref D) env) R { s with heap := h₂, toks := t₂ } := by
  have wC : C ∉ wr := fun h => hC (W.sub _ h)
  have wD : D ∉ wr := fun h => hD (W.sub _ h)
  have wL : c.L ∉ wr := fun h => hLf (W.sub _ h)
  refine codeAny_loop rfl (fun j s' => ∃ h' tk i, s' = { s with heap := h', toks := tk } ∧ St i h' ∧ CompAt c m sc C D rest ρ (acc i) h' ∧ i ≤ k ∧ j = k + 1 - i) (fun j s' hI => ?_) (k + 1) ⟨h₂, t₂, 0, rfl, h0, at0, Nat.zero_le _, rfl⟩
  show wpAny _ (c.A f) ((compTurn (.ListComp elt gens scope pos) depth (.ref I) (.ref D) env).onRaise (fun x => do noteFrame x env; theTreesLotGoes x)) _ _ s'
  refine wpAny_noted (htr _ _ _ ?_)
  obtain ⟨h', tk, i, rfl, hst, at', hi, rfl⟩ := hI
  by_cases hlt : i < k
  · refine W.item i _ _ _ hlt hst fun v h₁ tk₁ hMd hk₁ => ?_
    refine W.go i v _ _ _ hMd fun h₃ hP hst₃ hk₃ => ?_
    have a3 := (at'.keep ad hk₁ wC wD wL hwr hwrest).keep ad hk₃ wC wD wL hwr hwrest
    have Nown : News c.h₀ c.L h₃ (ownOf c.h₀ fp h₃) := news_ownOf hLf
    have ad' : CompAd c C D (ownOf c.h₀ fp h₃ ++ rest) := ⟨fun p hp => (List.mem_append.mp hp).elim (fun q e => hC (e ▸ ownOf_sub p q)) (ad.offC p), fun p hp => (List.mem_append.mp hp).elim (fun q e => hD (e ▸ ownOf_sub p q)) (ad.offD p), ad.CD, ad.CL, ad.DL, ad.C0, ad.D0⟩
    refine turn i v h₃ tk₁ (ownOf c.h₀ fp h₃) hlt hP ad' ⟨a3.fr, Nown.append a3.nw, a3.dd, a3.ns⟩ _ _ fun h₄ tk₄ a4 => ?_
    refine ⟨rfl, k + 1 - (i + 1), by omega, h₄, tk₄, i + 1, rfl, W.frame _ _ _ hst₃ fun b hb o e => ?_, ⟨a4.fr, fun p hp => a4.nw p (List.mem_append_right _ hp), a4.dd, a4.ns⟩, hlt, rfl⟩
    cases hn : c.h₀.get? b with
    | some o₀ =>
      have : o₀ = o := by have q := a3.fr.keep b o₀ hn; rw [e] at q; exact (Option.some.inj q).symm
      exact this ▸ a4.fr.keep b o₀ hn
    | none => exact (a4.nw _ (List.mem_append_left _ (mem_ownOf hb hn e))).1
  · have hin : i = k := by omega
    subst hin
    exact W.done _ _ _ hst fun h₁ tk₁ hk₁ => hR h₁ tk₁ (at'.keep ad hk₁ wC wD wL hwr hwrest)

theorem htr_plain {elt target iter : Expr} {scope : Scope} {pos : Pos} {I : Addr} {env : Env} (s : Shared) (R : PySem.Fin → Shared → Prop) (E₀ : Value → Shared → Prop)
    (h : wpAny (model pg c.w) (c.A f) (pyNext (.ref I)) (fun r s₁ => match r with
      | none => R (.done .next) s₁
      | some v => wpAny (model pg c.w) (c.A f) (letOwnedTupleGo target (.ref I) v) (fun _ s₂ => wpAny (model pg c.w) (c.A f) (assign target env v) (fun _ s₃ => (fun K E s₃ => wpAny (model pg c.w) (c.A f) (eval elt env) (fun y s₄ => wpAny (model pg c.w) (c.A f) (call (.builtin "list.append") [.ref D, y]) (fun _ s₅ => K s₅) E s₄) E s₃) (fun s₄ => R (.again (.compLoop (.ListComp elt [⟨target, iter, [], 0⟩] scope pos) 0 (.ref I) (.ref D) env)) s₄) E₀ s₃) E₀ s₂) E₀ s₁) E₀ s) :
    wpAny (model pg c.w) (c.A f) (compTurn (.ListComp elt [⟨target, iter, [], 0⟩] scope pos) 0 (.ref I) (.ref D) env) R E₀ s := by
  rw [compTurn_list1]
  refine wpAny_bind (wpAny_standAt (wpAny_bind (wpAny_mono h (fun r s₁ h₁ => ?_) fun _ _ h' => h')))
  cases r with
  | none => exact wpAny_pure h₁
  | some v =>
    exact wpAny_bind (wpAny_mono h₁ (fun _ s₂ h₂ => wpAny_bind (wpAny_mono h₂ (fun _ s₃ h₃ => wpAny_bind (wpAny_bind (wpAny_mono h₃ (fun x s₄ h₄ => wpAny_bind (wpAny_mono h₄ (fun _ s₅ h₅ => wpAny_pure (wpAny_pure h₅)) fun _ _ h' => h')) fun _ _ h' => h'))) fun _ _ h' => h')) fun _ _ h' => h')
theorem htr_if {elt target iter t : Expr} {scope : Scope} {pos : Pos} {I : Addr} {env : Env} (s : Shared) (R : PySem.Fin → Shared → Prop) (E₀ : Value → Shared → Prop)
    (h : wpAny (model pg c.w) (c.A f) (pyNext (.ref I)) (fun r s₁ => match r with
      | none => R (.done .next) s₁
      | some v => wpAny (model pg c.w) (c.A f) (letOwnedTupleGo target (.ref I) v) (fun _ s₂ => wpAny (model pg c.w) (c.A f) (assign target env v) (fun _ s₃ => (fun K E s₃ => wpAny (model pg c.w) (c.A f) (PySem.isTrue t env (eval t env)) (fun b s₄ => if b = true then wpAny (model pg c.w) (c.A f) (eval elt env) (fun y s₄ => wpAny (model pg c.w) (c.A f) (call (.builtin "list.append") [.ref D, y]) (fun _ s₅ => K s₅) E s₄) E s₄ else K s₄) E s₃) (fun s₄ => R (.again (.compLoop (.ListComp elt [⟨target, iter, [t], 0⟩] scope pos) 0 (.ref I) (.ref D) env)) s₄) E₀ s₃) E₀ s₂) E₀ s₁) E₀ s) :
    wpAny (model pg c.w) (c.A f) (compTurn (.ListComp elt [⟨target, iter, [t], 0⟩] scope pos) 0 (.ref I) (.ref D) env) R E₀ s := by
  rw [compTurn_list]
  refine wpAny_bind (wpAny_standAt (wpAny_bind (wpAny_mono h (fun r s₁ h₁ => ?_) fun _ _ h' => h')))
  cases r with
  | none => exact wpAny_pure h₁
  | some v =>
    refine wpAny_bind (wpAny_mono h₁ (fun _ s₂ h₂ => wpAny_bind (wpAny_mono h₂ (fun _ s₃ h₃ => wpAny_bind (wpAny_tests_one (wpAny_mono h₃ (fun b s₄ h₄ => ?_) fun _ _ h' => h'))) fun _ _ h' => h')) fun _ _ h' => h')
    cases b with
    | false => exact wpAny_pure h₄
    | true => exact wpAny_bind (wpAny_bind (wpAny_mono h₄ (fun x s₄ h₄ => wpAny_bind (wpAny_mono h₄ (fun _ s₅ h₅ => wpAny_pure (wpAny_pure h₅)) fun _ _ h' => h')) fun _ _ h' => h'))
end
end Mine
end

section
open PySem PySem.W PyProof.Rows PySem.Calls
set_option maxHeartbeats 1000000
namespace Mine
open PyProof.Rows.LCg in
section
variable {f : Fn} {c : Cx} {n : Nat} {sc : Scope} {cl : List (Str × Addr)} {ρc : List (Str × V)} {m : Str → Option Value} {s : Shared}
abbrev no (sc : Scope) : List (Option V) := List.replicate sc.names.length none
def CSrc (f : Fn) (c : Cx) (m : Str → Option Value) (sc : Scope) (cl : List (Str × Addr)) (e : Expr) (Q : Value → Shared → Prop) (it : Value) (s₂ : Shared) : Prop :=
  ∃ (I : Addr) (fp : List Addr) (St0 : Heap → Prop) (rest : Led) (accF : List Int), it = .ref I ∧
    (∀ (s' : Shared) (Q' : Value → Shared → Prop) (E' : Value → Shared → Prop), St0 s'.heap → Q' (.ref I) s' → wpAny (model pg c.w) (c.A f) (pyIter (.ref I)) Q' E' s') ∧
    (∀ h h', St0 h → (∀ b ∈ fp, ∀ o, h.get? b = some o → h'.get? b = some o) → St0 h') ∧ St0 s₂.heap ∧ (∀ b ∈ fp, b < s₂.heap.objs.size) ∧ Fr c.h₀ c.L s₂.heap m ∧ News c.h₀ c.L s₂.heap rest ∧
    (∀ C D h' t' (R : Result → Shared → Prop), CompAd c C D rest → CompAt c m sc C D rest (no sc) [] h' → C ∉ fp → D ∉ fp → St0 h' → (∀ h'' tk, CompAt c m sc C D rest (no sc) accF h'' → R (.ok .next) { s₂ with heap := h'', toks := tk }) →
      codeAny (model pg c.w) (c.A f) (.compLoop e 0 (.ref I) (.ref D) (kenv c f sc cl C)) R { s₂ with heap := h', toks := t' }) ∧
    ∀ D h' tk ys, Fr c.h₀ c.L h' m → News c.h₀ c.L h' ((D, lst ys) :: rest) → IntsAre ys accF → Q (.ref D) { s₂ with heap := h', toks := tk }

theorem comp_eval {elt target iter : Expr} {ifs : List Expr} {gs : List Comprehension} {scope : Scope} {pos : Pos} {Q E : Value → Shared → Prop}
    (hclos : closureFor scope (c.env f) = pure cl) (hrel : relabel scope (c.env f) = sc) (hkind : scope.kind = .function) (hnames : ∀ x ∈ scope.names, x.2 = .local → scope.names.lookup x.1 = some .local) (hcell : ∀ y ∈ scope.names, y.2 ≠ .cell)
    (hs : ∀ x, foldedSetIterable iter (c.env f) x = pure x)
    (h : wpAny (model pg c.w) (c.A f) (eval iter (c.env f)) (fun xv s₁ => wpAny (model pg c.w) (c.A f) (pyIter xv) (fun it s₂ => CSrc f c m sc cl (.ListComp elt (⟨target, iter, ifs, 0⟩ :: gs) scope pos) Q it s₂) E s₁) E s) :
    wpAny (model pg c.w) (c.A f) (eval (.ListComp elt (⟨target, iter, ifs, 0⟩ :: gs) scope pos) (c.env f)) Q E s := by
  subst hrel
  rw [eval_ListComp]
  refine wpAny_comprehension_free (use := none) (g := ⟨target, iter, ifs, 0⟩) (gs := gs) rfl hs hclos hkind hnames (wpAny_mono h (fun xv s₁ h₁ => wpAny_mono h₁ (fun it s₂ h₂ => ?_) fun _ _ e => e) fun _ _ e => e)
  obtain ⟨I, fp, St0, rest, accF, rfl, self, frame, hst, hfp, F, N, loop, fin⟩ := h₂
  refine wpAny_newObj_type (wpAny_newFunctionEnv hcell (by intro y hy; simp at hy) (fun h₁ hns₁ hsb₁ => ?_) hkind)
  dsimp only at hns₁ hsb₁ ⊢
  generalize hH2 : s₂.heap.push { cls := .type "list", dict := none, data := .seq ([] : List Value).toArray } = H2 at hns₁ hsb₁ ⊢
  have hC : H2.objs.size = s₂.heap.objs.size + 1 := by rw [← hH2, Heap.size_push]
  have hDC : s₂.heap.objs.size ≠ H2.objs.size := by rw [hC]; exact Nat.ne_of_lt (Nat.lt_succ_self _)
  have below : ∀ b, b < s₂.heap.objs.size → b ≠ H2.objs.size ∧ b ≠ s₂.heap.objs.size := fun b hb => ⟨by rw [hC]; exact Nat.ne_of_lt (Nat.lt_succ_of_lt hb), Nat.ne_of_lt hb⟩
  have hDf : s₂.heap.objs.size ∉ fp := fun hm => Nat.lt_irrefl _ (hfp _ hm)
  have hCf : H2.objs.size ∉ fp := fun hm => by have := hfp _ hm; rw [hC] at this; exact Nat.lt_irrefl _ (Nat.lt_of_succ_lt this)
  have old : ∀ b o, s₂.heap.get? b = some o → h₁.get? b = some o := fun b o e => hsb₁.extBut b o (below b (Heap.lt_size e)).1 (Heap.get?_push_of_some _ (hH2 ▸ Heap.get?_push_of_some _ e))
  have hacc : h₁.get? s₂.heap.objs.size = some (lst []) := hsb₁.extBut _ _ hDC (Heap.get?_push_of_some _ (hH2 ▸ Heap.get?_push_size _ rfl))
  have fresh : ∀ a, s₂.heap.objs.size ≤ a → s₂.heap.get? a = none := fun a ha => by
    cases e : s₂.heap.get? a with
    | none => rfl
    | some o' => exact absurd (Heap.lt_size e) (Nat.not_lt.mpr ha)
  have fresh₀ : ∀ a, s₂.heap.objs.size ≤ a → c.h₀.get? a = none := fun a ha => by
    cases e : c.h₀.get? a with
    | none => rfl
    | some o' => have := F.keep a o' e; rw [fresh a ha] at this; cases this
  have hD₀ : c.h₀.get? s₂.heap.objs.size = none := fresh₀ _ (Nat.le_refl _)
  have hC₀ : c.h₀.get? H2.objs.size = none := fresh₀ _ (by rw [hC]; exact Nat.le_succ _)
  have hLlt : c.L < s₂.heap.objs.size := F.ns.lt
  have ad : CompAd c H2.objs.size s₂.heap.objs.size rest := ⟨fun p hp => (below _ (Heap.lt_size (N p hp).1)).1, fun p hp => (below _ (Heap.lt_size (N p hp).1)).2, Ne.symm hDC, Ne.symm (below _ hLlt).1, Ne.symm (below _ hLlt).2, hC₀, hD₀⟩
  have a0 : CompAt c m (relabel scope (c.env f)) H2.objs.size s₂.heap.objs.size rest (no (relabel scope (c.env f))) [] h₁ := ⟨F.keeps old, fun p hp => ⟨old _ _ (N p hp).1, (N p hp).2⟩, ⟨[], hacc, .nil⟩, _, hns₁, fun x d l => absurd l Look.none⟩
  have st₁ : St0 h₁ := frame _ _ hst fun b _ o e => old b o e
  have go : ∀ s₃ : Shared, s₃ = { s₂ with heap := h₁, toks := s₂.toks + ([] : List (Str × Value)).length } →
      codeAny (model pg c.w) (c.A f) (.compLoop (.ListComp elt (⟨target, iter, ifs, 0⟩ :: gs) scope pos) 0 (.ref I) (.ref s₂.heap.objs.size) (kenv c f (relabel scope (c.env f)) cl H2.objs.size)) (compPost (model pg c.w) (c.A f) E none Q (.ref s₂.heap.objs.size) H2.objs.size) s₃ := by
    rintro s₃ rfl
    refine loop _ _ h₁ _ _ ad a0 hCf hDf st₁ fun h'' tk a => ?_
    obtain ⟨m₂, hn, _⟩ := a.ns
    obtain ⟨ys, hys, hi⟩ := a.dd
    refine ⟨m₂, hn, fun h3 hs3 => fin _ h3 tk ys (a.fr.change hs3 ad.CL ad.C0) (fun p hp => ?_) hi⟩
    rcases List.mem_cons.mp hp with rfl | hp
    · exact ⟨hs3.extBut _ _ (Ne.symm ad.CD) hys, ad.DL, ad.D0⟩
    · exact ⟨hs3.extBut _ _ (ad.offC p hp) (a.nw p hp).1, (a.nw p hp).2⟩
  exact codeAny_compStart_list (go _ rfl) (self _ _ _ st₁ (go _ rfl))
end
end Mine
end

section
open PySem PySem.W PyProof.Rows PySem.Calls
set_option maxHeartbeats 1000000
namespace Mine
open PyProof.Rows.LCg in
section
variable {f : Fn} {c : Cx} {n : Nat} {sc : Scope} {cl : List (Str × Addr)} {ρc : List (Str × V)} {m : Str → Option Value} {s : Shared}
def accF (g : Nat → Int) : Nat → List Int
  | 0 => []
  | i + 1 => accF g i ++ [g i]
theorem accF_len (g : Nat → Int) : ∀ i, (accF g i).length = i
  | 0 => rfl
  | i + 1 => by
    show (accF g i ++ [_]).length = _
    rw [List.length_append, accF_len g i]; rfl
/-- those that a test lets through -/
def accT (b : Nat → Bool) (g : Nat → Int) : Nat → List Int
  | 0 => []
  | i + 1 => if b i then accT b g i ++ [g i] else accT b g i
theorem accT_len (b : Nat → Bool) (g : Nat → Int) : ∀ i, (accT b g i).length ≤ i
  | 0 => Nat.le_refl _
  | i + 1 => by
    have := accT_len b g i
    unfold accT
    split
    · rw [List.length_append]; simpa using this
    · omega
theorem CompAt.toNo {C D : Addr} {rest : Led} {ρ : List (Option V)} {acc : List Int} {h : Heap} (a : CompAt c m sc C D rest ρ acc h) : CompAt c m sc C D rest (no sc) acc h :=
  ⟨a.fr, a.nw, a.dd, let ⟨m₂, hn, _⟩ := a.ns; ⟨m₂, hn, fun x d l => absurd l Look.none⟩⟩
theorem KCells.mono {n1 n2 : Led} (h : KCells cl ρc n1) (hs : ∀ p ∈ n1, p ∈ n2) : KCells cl ρc n2 := fun p hp => let ⟨a, o, v, hc, hm, hd, r⟩ := h p hp; ⟨a, o, v, hc, hs _ hm, hd, r.mono hs⟩
/-- what is asked of a comprehension's names -/
structure CompOk (f : Fn) (c : Cx) (sc : Scope) (cl : List (Str × Addr)) (scope : Scope) : Prop where
  clos : closureFor scope (c.env f) = pure cl
  rel : relabel scope (c.env f) = sc
  fn : scope.kind = .function
  names : ∀ x ∈ scope.names, x.2 = .local → scope.names.lookup x.1 = some .local
  cell : ∀ y ∈ scope.names, y.2 ≠ .cell
  ok : ScOk sc
abbrev bodyPlain (f : Fn) (c : Cx) (elt : Expr) (env : Env) (D : Addr) : (Shared → Prop) → (Value → Shared → Prop) → Shared → Prop := fun K E s₃ => wpAny (model pg c.w) (c.A f) (eval elt env) (fun y s₄ => wpAny (model pg c.w) (c.A f) (call (.builtin "list.append") [.ref D, y]) (fun _ s₅ => K s₅) E s₄) E s₃
abbrev bodyIf (f : Fn) (c : Cx) (t elt : Expr) (env : Env) (D : Addr) : (Shared → Prop) → (Value → Shared → Prop) → Shared → Prop := fun K E s₃ => wpAny (model pg c.w) (c.A f) (PySem.isTrue t env (eval t env)) (fun b s₄ => if b = true then wpAny (model pg c.w) (c.A f) (eval elt env) (fun y s₄ => wpAny (model pg c.w) (c.A f) (call (.builtin "list.append") [.ref D, y]) (fun _ s₅ => K s₅) E s₄) E s₄ else K s₄) E s₃

theorem comp_list {elt iter : Expr} {x : Str} {xp : Pos} {scope : Scope} {pos : Pos} {ds : List V} {g : Nat → Int} {U : Nat → List (Option V)} {led : Led} {Q E : Value → Shared → Prop}
    (ok : c.Ok f n) (co : CompOk f c sc cl scope)
    (hit : ∀ (Q' E' : Value → Shared → Prop), (∀ ax vs k h' tk' led', Fr c.h₀ c.L h' m → News c.h₀ c.L h' led' → (∀ p ∈ led, p ∈ led') → (ax, W.listOf (List.toArray vs) k) ∈ led' → (vs.length = ds.length) → (∀ (i : Nat) v, vs[i]? = some v → Rep [] v (ds.getD i .none)) → Q' (.ref ax) { s with heap := h', toks := tk' }) →
      wpAny (model pg c.w) (c.A f) (eval iter (c.env f)) Q' E' s)
    (hc : KCells cl ρc led) (hput : ∀ i, Put sc.names (no sc) x (ds.getD i .none) (U i)) (hl : ds.length ≤ 1000) (he : ∀ i, i < ds.length → EvK f c n sc cl (U i) ρc elt (.int (g i)))
    (P : Post c s m led Q (.li (accF g ds.length))) (hs : ∀ x, foldedSetIterable iter (c.env f) x = pure x) :
    wpAny (model pg c.w) (c.A f) (eval (.ListComp elt [⟨.Name x xp, iter, [], 0⟩] scope pos) (c.env f)) Q E s := by
  refine comp_eval (m := m) co.clos co.rel co.fn co.names co.cell hs (hit _ _ fun ax vs kk h1 t1 led' F N hsub hm hlen hrep => ?_)
  have hlist : h1.IsList ax vs.toArray := ⟨_, (N _ hm).1, rfl, kk, rfl⟩
  have hlt : ax < h1.objs.size := Heap.lt_size (N _ hm).1
  have hne : ax ≠ h1.objs.size := Nat.ne_of_lt hlt
  refine wpAny_pyIter_list (s := { s with heap := h1, toks := t1 }) hlist ?_
  have up : ∀ b o, h1.get? b = some o → (h1.push { cls := .type "list_iterator", data := .fields #[.ref ax, .int 0 0] }).get? b = some o := fun b o e => Heap.get?_push_of_some _ e
  refine ⟨h1.objs.size, [h1.objs.size, ax], fun h => h.IsListIter h1.objs.size ax 0 ∧ h.IsList ax vs.toArray, led', accF g ds.length, rfl, fun s' Q' E' st q => wpAny_pyIter_listiter st.1 q, fun h h' st hk => ⟨st.1.at fun o e => hk _ (by simp) o e, st.2.at fun o e => hk _ (by simp) o e⟩,
    ⟨⟨_, Heap.get?_push_size _ rfl, rfl, rfl⟩, hlist.at fun o e => Heap.get?_push_of_some _ e⟩, fun b hb => ?_, F.push _, fun p hp => ⟨Heap.get?_push_of_some _ (N p hp).1, (N p hp).2⟩, ?_, ?_⟩
  · have hb' : b = h1.objs.size ∨ b = ax := by simpa using hb
    show b < (h1.push _).objs.size
    rw [Heap.size_push]
    rcases hb' with rfl | rfl
    · exact Nat.lt_succ_self _
    · exact Nat.lt_succ_of_lt hlt
  · intro C D h' t' R ad a0 hC hD st hR
    refine comp_loop (BodyWp := bodyPlain f c elt (kenv c f sc cl C) D) (fun s R E₀ h => htr_plain s R E₀ h) (KTurns.ofWalks (Walks.list (prog := pg) (w := c.w) (A := c.A f) rfl h1.objs.size ax hne vs.toArray) fun i v s Q E st q => letGo_listiter st.1 q) ad hC hD ?_ ?_ ?_ (acc := accF g) st a0 ?_ ?_
    · intro hI
      have hb' : c.L = h1.objs.size ∨ c.L = ax := by simpa using hI
      rcases hb' with e | e
      · exact absurd F.ns.lt (e ▸ Nat.lt_irrefl _)
      · exact (N _ hm).2.1 e.symm
    · intro b hb
      rw [List.mem_singleton.mp hb]
      exact next_is_new F
    · intro p hp hI
      exact absurd (Heap.lt_size (N p hp).1) ((List.mem_singleton.mp hI) ▸ Nat.lt_irrefl _)
    · intro i v h₁ tk₁ own hi hP ad' a K E' k
      have hv : vs[i]? = some v := by simpa using hP
      have hil : i < ds.length := by rw [← hlen]; simpa using hi
      refine comp_assign co.ok ad' a (hput i) (hrep i v hv) fun h2 t2 a2 => ?_
      refine comp_emit ok co.ok ad' a2 (hc.mono fun p hp => List.mem_append_right _ (hsub p hp)) (he i hil) (by rw [accF_len]; omega) fun h3 t3 a3 => k h3 t3 a3.toNo
    · intro h'' tk a
      have e : vs.toArray.size = ds.length := by simp [hlen]
      rw [e] at a
      exact hR h'' tk a
  · intro D h' tk ys F' N' hi
    exact P _ h' tk _ F' N' (fun p hp => .tail _ (hsub p hp)) ⟨D, ys, ys.length, rfl, .head _, hi⟩

theorem comp_zip {elt iter : Expr} {x y : Str} {xp yp tp : Pos} {kk : Nat} {scope : Scope} {pos : Pos} {ifs : List Expr} {l1 l2 : List Int} {acc : Nat → List Int} {U U2 : Nat → List (Option V)} {led : Led} {Q E : Value → Shared → Prop}
    {BodyWp : Addr → Addr → (Shared → Prop) → (Value → Shared → Prop) → Shared → Prop}
    (htr : ∀ (I C D : Addr) (s : Shared) (R : PySem.Fin → Shared → Prop) (E₀ : Value → Shared → Prop), wpAny (model pg c.w) (c.A f) (pyNext (.ref I)) (fun r s₁ => match r with
      | none => R (.done .next) s₁
      | some v => wpAny (model pg c.w) (c.A f) (letOwnedTupleGo (.Tuple [.Name x xp, .Name y yp] kk tp) (.ref I) v) (fun _ s₂ => wpAny (model pg c.w) (c.A f) (assign (.Tuple [.Name x xp, .Name y yp] kk tp) (kenv c f sc cl C) v) (fun _ s₃ => BodyWp C D (fun s₄ => R (.again (.compLoop (.ListComp elt [⟨.Tuple [.Name x xp, .Name y yp] kk tp, iter, ifs, 0⟩] scope pos) 0 (.ref I) (.ref D) (kenv c f sc cl C))) s₄) E₀ s₃) E₀ s₂) E₀ s₁) E₀ s →
      wpAny (model pg c.w) (c.A f) (compTurn (.ListComp elt [⟨.Tuple [.Name x xp, .Name y yp] kk tp, iter, ifs, 0⟩] scope pos) 0 (.ref I) (.ref D) (kenv c f sc cl C)) R E₀ s)
    (ok : c.Ok f n) (co : CompOk f c sc cl scope) (hll : l1.length = l2.length)
    (hit : ∀ (Q' E' : Value → Shared → Prop), (∀ a1 a2 vs1 vs2 k1 k2 h' tk' led', Fr c.h₀ c.L h' m → News c.h₀ c.L h' led' → (∀ p ∈ led, p ∈ led') → (a1, W.listOf (List.toArray vs1) k1) ∈ led' → (a2, W.listOf (List.toArray vs2) k2) ∈ led' → IntsAre vs1 l1 → IntsAre vs2 l2 →
        wpAny (model pg c.w) (c.A f) (call (.type "zip") [.ref a1, .ref a2]) Q' E' { s with heap := h', toks := tk' }) →
      wpAny (model pg c.w) (c.A f) (eval iter (c.env f)) Q' E' s)
    (hc : KCells cl ρc led) (hput : ∀ i, Put sc.names (no sc) x (.int (l1.getD i 0)) (U i)) (hput2 : ∀ i, Put sc.names (U i) y (.int (l2.getD i 0)) (U2 i)) (hacc : acc 0 = [])
    (hbody : ∀ i, i < l1.length → ∀ (C D : Addr) (rest : Led) (h₁ : Heap) (tk₁ : Nat) (s : Shared), CompAd c C D rest → CompAt c m sc C D rest (U2 i) (acc i) h₁ → KCells cl ρc rest → ∀ (K : Shared → Prop) (E' : Value → Shared → Prop), (∀ h' tk', CompAt c m sc C D rest (U2 i) (acc (i + 1)) h' → K { s with heap := h', toks := tk' }) → BodyWp C D K E' { s with heap := h₁, toks := tk₁ })
    (P : Post c s m led Q (.li (acc l1.length))) (hs : ∀ x, foldedSetIterable iter (c.env f) x = pure x) :
    wpAny (model pg c.w) (c.A f) (eval (.ListComp elt [⟨.Tuple [.Name x xp, .Name y yp] kk tp, iter, ifs, 0⟩] scope pos) (c.env f)) Q E s := by
  refine comp_eval (m := m) co.clos co.rel co.fn co.names co.cell hs (hit _ _ fun a1 a2 vs1 vs2 k1 k2 hh1 t1 led' F N hsub hm1 hm2 hi1 hi2 => ?_)
  have q1 := (N _ hm1).1
  have q2 := (N _ hm2).1
  have hl1 : hh1.IsList a1 vs1.toArray := ⟨_, q1, rfl, k1, rfl⟩
  have hl2 : hh1.IsList a2 vs2.toArray := ⟨_, q2, rfl, k2, rfl⟩
  have Dz : ZipApart (hh1.objs.size + 4) (hh1.objs.size + 2) (hh1.objs.size + 3) hh1.objs.size (hh1.objs.size + 1) a1 a2 := ktu_apart _ _ _ (Heap.lt_size q1) (Heap.lt_size q2)
  refine call_zip_2 (s := { s with heap := hh1, toks := t1 }) hl1 hl2 fun h' hz hTI hTO hi1' hi2' hsz hk' => ?_
  refine wpAny_pyIter_zip hz ?_
  have elen : min vs1.toArray.size vs2.toArray.size = l1.length := by
    have a := hi1.length; have b := hi2.length
    simp only [List.size_toArray]; omega
  have W := WalksT.zip2 (prog := pg) (w := c.w) (A := c.A f) rfl _ _ _ _ _ _ _ Dz vs1.toArray vs2.toArray
  have self := W.self 0
  have KT := KTurns.ofWalksU (elts := [.Name x xp, .Name y yp]) (k := kk) (pos := tp) W.toU
  have frame := KT.frame 0
  rw [elen] at KT
  refine ⟨hh1.objs.size + 4, _, _, led', acc l1.length, rfl, self, frame, ⟨hz, hTI, ⟨_, _, hTO⟩, hi1', hi2', hl1.at fun o e => hk' a1 o e, hl2.at fun o e => hk' a2 o e⟩, fun b hb => ?_, F.keeps hk', fun p hp => ⟨hk' _ _ (N p hp).1, (N p hp).2⟩, ?_, ?_⟩
  · have l1 := Heap.lt_size q1
    have l2 := Heap.lt_size q2
    have hb' : b = hh1.objs.size + 4 ∨ b = hh1.objs.size + 2 ∨ b = hh1.objs.size + 3 ∨ b = hh1.objs.size ∨ b = hh1.objs.size + 1 ∨ b = a1 ∨ b = a2 := by simpa using hb
    show b < h'.objs.size
    rw [hsz]
    show b < hh1.objs.size + 5
    have ll : a1 < hh1.objs.size + 5 ∧ a2 < hh1.objs.size + 5 := ⟨Nat.lt_of_lt_of_le l1 (Nat.le_add_right _ _), Nat.lt_of_lt_of_le l2 (Nat.le_add_right _ _)⟩
    rcases hb' with rfl | rfl | rfl | rfl | rfl | rfl | rfl
    · exact Nat.add_lt_add_left (by decide) _
    · exact Nat.add_lt_add_left (by decide) _
    · exact Nat.add_lt_add_left (by decide) _
    · exact Nat.lt_add_of_pos_right (by decide)
    · exact Nat.add_lt_add_left (by decide) _
    · exact ll.1
    · exact ll.2
  · intro C D h2 t' R ad a0 hC hD st hR
    have hLs : c.L < hh1.objs.size := F.ns.lt
    refine comp_loop (BodyWp := BodyWp C D) (htr _ C D) KT ad hC hD ?_ ?_ ?_ (acc := acc) st (by rw [hacc]; exact a0) ?_ hR
    · intro hI'
      have hb' : c.L = hh1.objs.size + 4 ∨ c.L = hh1.objs.size + 2 ∨ c.L = hh1.objs.size + 3 ∨ c.L = hh1.objs.size ∨ c.L = hh1.objs.size + 1 ∨ c.L = a1 ∨ c.L = a2 := by simpa using hI'
      rcases hb' with e | e | e | e | e | e | e
      · exact ktu_ne 4 hLs e
      · exact ktu_ne 2 hLs e
      · exact ktu_ne 3 hLs e
      · exact Nat.ne_of_lt hLs e
      · exact ktu_ne 1 hLs e
      · exact (N _ hm1).2.1 e.symm
      · exact (N _ hm2).2.1 e.symm
    · intro b hb
      have hb' : b = hh1.objs.size + 4 ∨ b = hh1.objs.size + 3 ∨ b = hh1.objs.size ∨ b = hh1.objs.size + 1 := by simpa using hb
      rcases hb' with rfl | rfl | rfl | rfl
      · exact ktu_new F (Nat.le_add_right _ _)
      · exact ktu_new F (Nat.le_add_right _ _)
      · exact ktu_new F (Nat.le_refl _)
      · exact ktu_new F (Nat.le_add_right _ _)
    · intro p hp hI'
      have hb' : p.1 = hh1.objs.size + 4 ∨ p.1 = hh1.objs.size + 3 ∨ p.1 = hh1.objs.size ∨ p.1 = hh1.objs.size + 1 := by simpa using hI'
      have hlp := Heap.lt_size (N p hp).1
      rcases hb' with e | e | e | e
      · exact ktu_ne 4 hlp e
      · exact ktu_ne 3 hlp e
      · exact Nat.ne_of_lt hlp e
      · exact ktu_ne 1 hlp e
    · intro i v h₁ tk₁ own hi hP ad' a K E' k
      obtain ⟨Tt, vals, rfl, ⟨x1, y1, hx1, hy1, rfl⟩, hT'⟩ := hP
      obtain ⟨t, rfl⟩ := ints_at hi1 (by simpa using hx1)
      obtain ⟨t', rfl⟩ := ints_at hi2 (by simpa using hy1)
      refine assign_Tuple_tuple (s := { s with heap := h₁, toks := tk₁ }) rfl hT' rfl rfl fun h3 he => ?_
      have he' : ∀ b o, h₁.get? b = some o → h3.get? b = some o := fun b o e => he b o (Nat.ne_of_lt (Heap.lt_size e)) e
      have a3 := a.keep (h' := h3) (wr := []) ad' (fun b o _ e => he' b o e) (by simp) (by simp) (by simp) (fun _ h => nomatch h) (fun _ _ => by simp)
      refine assignInOrder_cons (comp_assign co.ok ad' a3 (hput i) ⟨t, rfl⟩ fun h5 t5 a5 => ?_)
      refine assignInOrder_cons (comp_assign co.ok ad' a5 (hput2 i) ⟨t', rfl⟩ fun h6 t6 a6 => ?_)
      refine assignInOrder_nil ?_
      exact hbody i hi C D _ h6 _ s ad' a6 (hc.mono fun p hp => List.mem_append_right _ (hsub p hp)) K E' fun h7 t7 a7 => k h7 t7 a7.toNo
  · intro D h' tk ys F' N' hi
    exact P _ h' tk _ F' N' (fun p hp => .tail _ (hsub p hp)) ⟨D, ys, ys.length, rfl, .head _, hi⟩
end
end Mine
end

section
open PySem PySem.W PyProof.Rows PySem.Calls
set_option maxHeartbeats 1000000
namespace Mine
-- defs whose names are captured
abbrev Cx.intoC (c : Cx) (f : Fn) (φ : Fn) (g : Heap) (L : Addr) : Cx := { c with dp := c.dp + 1, un := c.un + 3, outer := c.env f :: c.outer, A₀ := c.A f, h₀ := g, L := L, cl := cellsFrom (L + 1) φ.names [] }
theorem zip_all {ps : List Str} {p : Str → Bool} (h : ps.all p = true) : ∀ {vs : List Value}, ((ps.zip vs).all fun y => p y.1) = true := by
  induction ps with
  | nil => intro vs; rfl
  | cons x r ih =>
    intro vs
    cases vs with
    | nil => rfl
    | cons v vs =>
      simp only [List.all_cons, Bool.and_eq_true] at h
      simp only [List.zip_cons_cons, List.all_cons, Bool.and_eq_true]
      exact ⟨h.1, ih h.2⟩
theorem enterC {φ : Fn} {params : Arguments} {body : List Stmt} {ps : List Str} (H : FnFactC φ params body ps) {f : Fn} {c : Cx} {n : Nat} {s : Shared} {m : Str → Option Value} {news : Led} {vs : List Value} {Q E : Value → Shared → Prop}
    (ok : c.Ok f (n + 1)) (F : Fr c.h₀ c.L s.heap m) (N : News c.h₀ c.L s.heap news) (hl : vs.length = ps.length) (hkind : (ps.all fun y => φ.scope.names.lookup y == some .local || φ.scope.names.lookup y == some .cell) = true) (hnd : ((cellsFrom 0 φ.scope.names []).map (·.1)).Nodup)
    (k : ∀ (g : Heap) (L' : Addr) (h₁ : Heap) (tk : Nat) (cells : Led), (c.intoC f φ g L').Ok φ n → Fr g L' h₁ (bindL ((c.intoC f φ g L').env φ).kindOf (ps.zip vs) fun _ => none) → News g L' h₁ (cells ++ news) →
      CellsAre (bindC ((c.intoC f φ g L').env φ).kindOf (ps.zip vs) fun _ => none) (cellsFrom (L' + 1) φ.scope.names []) cells → (∀ p ∈ news, p.1 < L') →
      ∀ E', wpAny (model pg c.w) ((c.intoC f φ g L').A φ) (execs body ((c.intoC f φ g L').env φ))
        (fun fl s' => ∃ h' tk' m' led, s' = { s with heap := h', toks := tk' } ∧ Fr g L' h' m' ∧ News g L' h' led ∧ (Fr c.h₀ c.L h' m → News c.h₀ c.L h' led → Q (match fl with | .ret v => v | _ => .none) { s with heap := h', toks := tk' })) E' { s with heap := h₁, toks := tk }) :
    wpAny (model pg c.w) (c.A f) (call (.ref φ.a) vs) Q E s := by
  obtain ⟨oc, od, name, dV, kV, doc, pm, an, ct, osl, h1, h2, h3⟩ := H.fact c.w.params
  refine wpAny_call (code_defC (K := hd.heap_39 c.w.params) ok.below F ok.kin N ok.top rfl rfl rfl h1 h2 (by show c.dp < recursionLimit; have := ok.room; show c.dp < 1000; omega) (h3 s vs (ok.kin.keeps F.keep) hl) (zip_all hkind) hnd (fun g L' h₁ tk cells Fg F' N' Y B' X' T' l => ?_) rfl rfl rfl)
  have ok' : (c.intoC f φ g L').Ok φ n := ⟨B', X', T', by have := ok.room; show c.dp + 1 + n < 900; omega, by have := ok.units; show c.un + 3 + 8 * n < 9000; omega, H.ok⟩
  refine wpAny_mono (k g L' h₁ tk cells ok' F' N' Y l _) (fun fl s' q => ?_) fun _ _ q => q
  obtain ⟨h', tk', m', led, rfl, F2, N2, q⟩ := q
  exact leaveK_ F2 N2 fun kF kN => q kF kN
theorem bindL_local {k : Str → Option NameKind} : ∀ {bs : List (Str × Value)} {m : Str → Option Value}, (∀ p ∈ bs, k p.1 = some .local) → ∀ y, bindL k bs m y = match bs.reverse.lookup y with | some v => some v | none => m y
  | [], _, _, _ => rfl
  | (x, v) :: r, m, h, y => by
    show bindL k r (if k x = some .local then _ else _) y = _
    rw [if_pos (h _ (.head _)), bindL_local (fun p hp => h p (.tail _ hp)) y, List.reverse_cons, List.lookup_append]
    cases hr : List.lookup y r.reverse with
    | some u => rfl
    | none =>
      show (if y = x then some v else m y) = _
      by_cases hy : y = x
      · subst hy; simp [List.lookup]
      · have : (y == x) = false := by simpa using hy
        simp [List.lookup, this, hy]
theorem bindC_local {k : Str → Option NameKind} : ∀ {bs : List (Str × Value)} {m : Str → Option Value}, (∀ p ∈ bs, k p.1 = some .local) → bindC k bs m = m
  | [], _, _ => rfl
  | (x, v) :: r, m, h => by
    show bindC k r (if k x = some .local then _ else _) = _
    rw [if_pos (h _ (.head _)), bindC_local fun p hp => h p (.tail _ hp)]
theorem off_data {o : Obj} {v : Option Value} (h : o.data = .cell v) : OffObj o :=
  ⟨fun vs k e => (by rw [e] at h; cases h), fun vs e => (by rw [e] at h; cases h)⟩
section
variable {f : Fn} {c : Cx} {n : Nat} {ρ : List (Option V)} {g : G}
/-- a return: whatever was apart is no more -/
theorem Ex.retN {e : Expr} {pos : Pos} {r : List Stmt} {d : V} (h : Ev f c n ρ e d) : Ex f c n ρ g (.Return (some e) pos :: r) (.ret d .none) :=
  fun s m rest gl Q E ok F N G S P => wpAny_execs_cons (wpAny_Return_some (h s m _ _ E ok F N S.gl fun v h' t' led F' N' s' R =>
    P v h' t' m led [] F' N' rfl (fun p hp => s' p (List.mem_append_right _ hp)) R))
/-- an expression where captured names have their worths -/
def EvC (f : Fn) (c : Cx) (n : Nat) (ρ : List (Option V)) (ρc : List (Str × V)) (e : Expr) (d : V) : Prop :=
  ∀ (s : Shared) (m : Str → Option Value) (news : Led) (Q E : Value → Shared → Prop), c.Ok f n → Fr c.h₀ c.L s.heap m → News c.h₀ c.L s.heap news → Sees f.names ρ m news → KCells c.cl ρc news → Post c s m news Q d →
    wpAny (model pg c.w) (c.A f) (eval e (c.env f)) Q E s
def ExC (f : Fn) (c : Cx) (n : Nat) (ρ : List (Option V)) (ρc : List (Str × V)) (g : G) (b : List Stmt) (o : Out) : Prop :=
  ∀ (s : Shared) (m : Str → Option Value) (rest gl : Led) (Q : Flow → Shared → Prop) (E : Value → Shared → Prop), c.Ok f n → Fr c.h₀ c.L s.heap m → News c.h₀ c.L s.heap (gl ++ rest) → GOk g m rest gl → Sees f.names ρ m rest → KCells c.cl ρc (gl ++ rest) → PostS f c s rest Q E o →
    wpAny (model pg c.w) (c.A f) (execs b (c.env f)) Q E s
variable {ρc : List (Str × V)}
theorem EvC.of {e : Expr} {d : V} (h : Ev f c n ρ e d) : EvC f c n ρ ρc e d := fun s m news Q E ok F N S _ P => h s m news Q E ok F N S P
theorem EvC.congr {e : Expr} {a b : V} (h : EvC f c n ρ ρc e a) (q : a = b) : EvC f c n ρ ρc e b := q ▸ h
theorem EvC.cell {x : Str} {d : V} {pos : Pos} (hk : Kd .cell f.names x) (l : (x, d) ∈ ρc) : EvC f c n ρ ρc (.Name x pos) d :=
  fun s m news Q E ok F N S K P => by
    obtain ⟨a, o, v, hc, hm, hd, r⟩ := K _ l
    exact nameX_C N hc hm hd (P v s.heap s.toks news F N (fun _ h => h) r) rfl (hk.kindOf c ok.fok) (ok.fok.dbg _ hk.mem)
theorem EvC.bin {l r : Expr} {op : Operator} {pos : Pos} {a b d : V} (hl : EvC f c n ρ ρc l a) (hr : EvC f c n ρ ρc r b) (ho : Op2 (binaryOp op) a b d) : EvC f c n ρ ρc (.BinOp l op r pos) d :=
  fun s m news Q E ok F N S K P => wpAny_BinOp (hl s m news _ E ok F N S K fun v h1 t1 n1 F1 N1 s1 R1 =>
    hr _ m n1 _ E ok F1 N1 (S.mono s1) (K.mono s1) fun u h2 t2 n2 F2 N2 s2 R2 =>
      ho f c _ m n2 v u Q E (by have := ok.units; omega) F2 N2 (R1.mono s2) R2 fun w h3 t3 n3 F3 N3 s3 R3 => P w h3 t3 n3 F3 N3 (fun p hp => s3 p (s2 p (s1 p hp))) R3)
theorem EvC.cmp {l r : Expr} {op : CmpOp} {pos : Pos} {a b d : V} (hl : EvC f c n ρ ρc l a) (hr : EvC f c n ρ ρc r b) (ho : Op2 (compareOp op) a b d) (hb : behindInMarks op r = false := by rfl) : EvC f c n ρ ρc (.Compare l [op] [r] pos) d :=
  fun s m news Q E ok F N S K P => wpAny_Compare1 (hl s m news _ E ok F N S K fun v h1 t1 n1 F1 N1 s1 R1 =>
    hr _ m n1 _ E ok F1 N1 (S.mono s1) (K.mono s1) fun u h2 t2 n2 F2 N2 s2 R2 =>
      ho f c _ m n2 v u Q E (by have := ok.units; omega) F2 N2 (R1.mono s2) R2 fun w h3 t3 n3 F3 N3 s3 R3 => P w h3 t3 n3 F3 N3 (fun p hp => s3 p (s2 p (s1 p hp))) R3) hb
theorem EvC.pairL {e1 e2 : Expr} {i j : Int} {pos : Pos} (h1 : EvC f c n ρ ρc e1 (.int i)) (h2 : EvC f c n ρ ρc e2 (.int j)) (he : ∀ env, starEach [e1, e2] env = (false, eval e1 env) :: starEach [e2] env := by intro _; rfl) (he2 : ∀ env, starEach [e2] env = (false, eval e2 env) :: starEach [] env := by intro _; rfl) : EvC f c n ρ ρc (.List [e1, e2] pos) (.li [i, j]) :=
  fun s m news Q E ok F N S K P => List_ (spliced_more (h1 s m news _ E ok F N S K fun v h' t' n' F' N' s' R => spliced_more (h2 _ m n' _ E ok F' N' (S.mono s') (K.mono s') fun u h2' t2 n2 F2 N2 s2 R2 => spliced_none (by
    obtain ⟨t, rfl⟩ := R
    obtain ⟨t', rfl⟩ := R2
    exact newList_K F2 N2 (fun l h3 F3 N3 lt => P _ h3 t2 _ F3 N3 (fun p hp => .tail _ (s2 p (s' p hp))) ⟨l, [.int i t, .int j t'], 0, rfl, .head _, .cons _ _ (.cons _ _ .nil)⟩) (by rw [sizeLine_eq]; simp))) (he2 _)) (he _))
theorem ExC.retN {e : Expr} {pos : Pos} {r : List Stmt} {d : V} (h : EvC f c n ρ ρc e d) : ExC f c n ρ ρc g (.Return (some e) pos :: r) (.ret d .none) :=
  fun s m rest gl Q E ok F N G S K P => wpAny_execs_cons (wpAny_Return_some (h s m _ _ E ok F N S.gl K fun v h' t' led F' N' s' R =>
    P v h' t' m led [] F' N' rfl (fun p hp => s' p (List.mem_append_right _ hp)) R))
theorem ExC.thenT {t : Expr} {A B r : List Stmt} {pos : Pos} {d : V} (ht : Tst f c n ρ t true) (h1 : ExC f c n ρ ρc .none A (.ret d .none)) : ExC f c n ρ ρc g (.If t A B pos :: r) (.ret d .none) :=
  fun s m rest gl Q E ok F N G S K P => wpAny_execs_cons (wpAny_If (ht s m _ _ E ok F N S.gl fun h' t' led F' N' s' =>
    h1 _ m led [] _ E ok F' N' rfl (S.gl.mono s') (K.mono s') fun v h2 t2 m2 r2 gl2 F2 N2 G2 s2 R2 => P v h2 t2 m2 r2 gl2 F2 N2 G2 (fun p hp => s2 p (s' p (List.mem_append_right _ hp))) R2))
theorem ExC.thenF {t : Expr} {A r : List Stmt} {pos : Pos} {o : Out} (ht : Tst f c n ρ t false) (h1 : ExC f c n ρ ρc .none r o) : ExC f c n ρ ρc g (.If t A [] pos :: r) o :=
  fun s m rest gl Q E ok F N G S K P => wpAny_execs_cons (wpAny_If (ht s m _ _ E ok F N S.gl fun h' t' led F' N' s' =>
    wpAny_execs_nil (h1 _ m led [] _ E ok F' N' rfl (S.gl.mono s') (K.mono s') (P.sub (fun p hp => s' p (List.mem_append_right _ hp)) _ _))))
/-- a captured name gets its worth -/
theorem Ex.assignCell {x : Str} {xp : Pos} {e : Expr} {pos : Pos} {r : List Stmt} {i : Int} {o : Out} {a : Addr} {ob : Obj} {v₀ : Option Value} (h : Ev f c n ρ e (.int i)) (hc : c.cl.lookup x = some a) (hd : ob.data = .cell v₀) (hk : Kd .cell f.names x)
    (k : ExC f c n ρ [(x, .int i)] .none r o) (hsw : ∀ env, swapsWith e (some (.Name x xp)) pos.line env = pure false := by intro _; rfl) : Ex f c n ρ (.own [(a, ob)]) (.Assign [.Name x xp] e pos :: r) o :=
  fun s m rest gl Q E ok F N G S P => wpAny_execs_cons (wpAny_Assign_Name (h s m _ _ E ok F N S.gl fun v h' t' led F' N' s' R => by
    obtain ⟨rest', N2, G2, s2, R2⟩ := regain N' G s' R trivial
    obtain ⟨rfl, _, hoff⟩ := G2
    refine storeX_C F' N2 hc (.head fun p hp => by simpa using hoff p hp) hd (fun h3 o3 F3 N3 hd3 => ?_) rfl (hk.kindOf c ok.fok)
    exact k _ m ((a, o3) :: rest') [] Q E ok F3 N3 rfl (S.mono fun p hp => .tail _ (s2 p hp)) (fun p hp => by
      rw [List.mem_singleton.mp hp]
      exact ⟨a, o3, v, hc, .head _, hd3, R2.mono fun p hp => .tail _ hp⟩) (P.sub (fun p hp => .tail _ (s2 p hp)) _ _)) (hsw _))
end
end Mine
end

section
open PySem PySem.W PyProof.Rows PySem.Calls
set_option maxHeartbeats 1000000
namespace Mine
theorem Con.congr {g : Value} {n : Nat} {ds : List V} {d e : V} (h : Con g n ds d) (q : d = e) : Con g n ds e := q ▸ h
theorem Con.int {g : Value} {n : Nat} {ds : List V} {i j : Int} (h : Con g n ds (.int i)) (q : i = j) : Con g n ds (.int j) := q ▸ h
theorem nat_abs_one : (1 : Int).natAbs < 2 ^ 64 := by decide
section
variable {x y : Int} {k : Nat}
theorem mask_eq (k : Nat) : (1 * 2 ^ ((k : Int)).toNat - 1 : Int) = 2 ^ k - 1 := by rw [Int.one_mul, Int.toNat_natCast]
theorem con_ones (hk : k ≤ 64) : Con (.ref 61) 1 [.int k] (.int (2 ^ k - 1)) :=
  (Con.of0 F_ones 0 (ρ := [some (.int k)]) rfl rfl rfl fun c => Ex.ret (Ev.bin (Ev.bin Ev.cint (Ev.name l0) (op_shl (by omega) (by omega) nat_abs_one)) Ev.cint op_sub) trivial).int (mask_eq k)
theorem con_wrap (hk : k ≤ 64) : Con (.ref 69) 1 [.int x, .int k] (.int (x % 2 ^ k)) :=
  (Con.of0 F_wrap 0 (ρ := [some (.int x), some (.int k)]) rfl rfl rfl fun c => Ex.ret (Ev.bin (Ev.name l0) (Ev.bin (Ev.bin Ev.cint (Ev.name l1) (op_shl (by omega) (by omega) nat_abs_one)) Ev.cint op_sub) op_and) trivial).int (by rw [mask_eq, and_mask])
theorem con_signed (hk : k ≤ 64) (h1 : 1 ≤ k) : Con (.ref 77) 1 [.int x, .int k] (.int (sg x k)) :=
  (Con.of0 F_signed 1 (ρ := [some (.int x), some (.int k), none]) rfl rfl rfl fun c =>
    Ex.assign (Ev.bin (Ev.name l0) (Ev.bin (Ev.bin Ev.cint (Ev.name l1) (op_shl (by omega) (by omega) nat_abs_one)) Ev.cint op_sub) op_and) trivial q2 trivial
      (Ex.ret (Ev.iteI (Tst.plain (Ev.bin (Ev.name l2) (Ev.bin (Ev.name l1) Ev.cint op_sub) (op_shr (by omega))) rfl)
        (fun _ => Ev.bin (Ev.name l2) (Ev.bin Ev.cint (Ev.name l1) (op_shl (by omega) (by omega) nat_abs_one)) op_sub) (fun _ => Ev.name l2)) trivial)).int (by
    have hp := two_pow_pos (k - 1)
    have hh := half_pow h1
    have m0 := Int.emod_nonneg x (by omega : (2 : Int) ^ k ≠ 0)
    have m1 := Int.emod_lt_of_pos x (two_pow_pos k)
    have e1 : ((k : Int) - 1).toNat = k - 1 := by omega
    rw [mask_eq, and_mask, e1, Int.toNat_natCast, Int.one_mul]
    unfold sg
    have e2 : ((x % 2 ^ k).fdiv (2 ^ (k - 1)) != 0) = decide (2 ^ (k - 1) ≤ x % 2 ^ k) := by
      rw [Int.fdiv_eq_ediv_of_nonneg _ (by omega)]
      by_cases h : 2 ^ (k - 1) ≤ x % 2 ^ k
      · have : 1 ≤ x % 2 ^ k / 2 ^ (k - 1) := (Int.le_ediv_iff_mul_le hp).mpr (by omega)
        simp only [h, decide_true, bne_iff_ne, ne_eq]
        omega
      · have : x % 2 ^ k / 2 ^ (k - 1) = 0 := Int.ediv_eq_zero_of_lt m0 (by omega)
        simp [this, h]
    rw [e2]
    simp only [decide_eq_true_eq])
end
end Mine
end

section
open PySem PySem.W PyProof.Rows PySem.Calls
set_option maxHeartbeats 1000000
namespace Mine
-- what a deed's worth is
def aluV (op : Str) (a b : Int) (k : Nat) (s : Bool) : Int :=
  if op = ("add" : Str) then a + b else if op = ("sub" : Str) then a - b else if op = ("mul" : Str) then a * b else if op = ("neg" : Str) then -a else if op = ("mov" : Str) then b
  else if op = ("or" : Str) then Builtin.bitOr (a % 2 ^ k) (b % 2 ^ k) else if op = ("and" : Str) then Builtin.bitAnd (a % 2 ^ k) (b % 2 ^ k) else if op = ("xor" : Str) then Builtin.bitXor (a % 2 ^ k) (b % 2 ^ k)
  else if op = ("div" : Str) then (if s then Int.tdiv (sg a k) (sg b k) else a % 2 ^ k / (b % 2 ^ k)) else if op = ("mod" : Str) then (if s then Int.tmod (sg a k) (sg b k) else a % 2 ^ k % (b % 2 ^ k))
  else if op = ("lsh" : Str) then a % 2 ^ k * 2 ^ (b % k).toNat else if op = ("rsh" : Str) then a % 2 ^ k / 2 ^ (b % k).toNat else sg a k / 2 ^ (b % k).toNat
section
variable {a b : Int} {k : Nat} {s : Bool}
theorem aluV_add : aluV "add" a b k s = a + b := if_pos rfl
theorem aluV_sub : aluV "sub" a b k s = a - b := by unfold aluV; rw [if_neg (by decide), if_pos rfl]
theorem aluV_mul : aluV "mul" a b k s = a * b := by unfold aluV; rw [if_neg (by decide), if_neg (by decide), if_pos rfl]
theorem aluV_neg : aluV "neg" a b k s = -a := by unfold aluV; rw [if_neg (by decide), if_neg (by decide), if_neg (by decide), if_pos rfl]
theorem aluV_mov : aluV "mov" a b k s = b := by unfold aluV; rw [if_neg (by decide), if_neg (by decide), if_neg (by decide), if_neg (by decide), if_pos rfl]
theorem aluV_or : aluV "or" a b k s = Builtin.bitOr (a % 2 ^ k) (b % 2 ^ k) := by unfold aluV; rw [if_neg (by decide), if_neg (by decide), if_neg (by decide), if_neg (by decide), if_neg (by decide), if_pos rfl]
theorem aluV_and : aluV "and" a b k s = Builtin.bitAnd (a % 2 ^ k) (b % 2 ^ k) := by unfold aluV; rw [if_neg (by decide), if_neg (by decide), if_neg (by decide), if_neg (by decide), if_neg (by decide), if_neg (by decide), if_pos rfl]
theorem aluV_xor : aluV "xor" a b k s = Builtin.bitXor (a % 2 ^ k) (b % 2 ^ k) := by unfold aluV; rw [if_neg (by decide), if_neg (by decide), if_neg (by decide), if_neg (by decide), if_neg (by decide), if_neg (by decide), if_neg (by decide), if_pos rfl]
theorem aluV_div : aluV "div" a b k s = if s then Int.tdiv (sg a k) (sg b k) else a % 2 ^ k / (b % 2 ^ k) := by unfold aluV; rw [if_neg (by decide), if_neg (by decide), if_neg (by decide), if_neg (by decide), if_neg (by decide), if_neg (by decide), if_neg (by decide), if_neg (by decide), if_pos rfl]
theorem aluV_mod : aluV "mod" a b k s = if s then Int.tmod (sg a k) (sg b k) else a % 2 ^ k % (b % 2 ^ k) := by unfold aluV; rw [if_neg (by decide), if_neg (by decide), if_neg (by decide), if_neg (by decide), if_neg (by decide), if_neg (by decide), if_neg (by decide), if_neg (by decide), if_neg (by decide), if_pos rfl]
theorem aluV_lsh : aluV "lsh" a b k s = a % 2 ^ k * 2 ^ (b % k).toNat := by unfold aluV; rw [if_neg (by decide), if_neg (by decide), if_neg (by decide), if_neg (by decide), if_neg (by decide), if_neg (by decide), if_neg (by decide), if_neg (by decide), if_neg (by decide), if_neg (by decide), if_pos rfl]
theorem aluV_rsh : aluV "rsh" a b k s = a % 2 ^ k / 2 ^ (b % k).toNat := by unfold aluV; rw [if_neg (by decide), if_neg (by decide), if_neg (by decide), if_neg (by decide), if_neg (by decide), if_neg (by decide), if_neg (by decide), if_neg (by decide), if_neg (by decide), if_neg (by decide), if_neg (by decide), if_pos rfl]
theorem aluV_arsh : aluV "arsh" a b k s = sg a k / 2 ^ (b % k).toNat := by unfold aluV; rw [if_neg (by decide), if_neg (by decide), if_neg (by decide), if_neg (by decide), if_neg (by decide), if_neg (by decide), if_neg (by decide), if_neg (by decide), if_neg (by decide), if_neg (by decide), if_neg (by decide), if_neg (by decide)]
end
/-- one of the two sizes -/
def Sz (k : Nat) : Prop := k = 32 ∨ k = 64
theorem Sz.le {k : Nat} (h : Sz k) : k ≤ 64 := by rcases h with rfl | rfl <;> decide
theorem Sz.pos {k : Nat} (h : Sz k) : 1 ≤ k := by rcases h with rfl | rfl <;> decide
theorem mod_lo (x : Int) (k : Nat) : 0 ≤ x % 2 ^ k := Int.emod_nonneg x (by have := two_pow_pos k; omega)
theorem mod_hi (x : Int) (k : Nat) : x % 2 ^ k < 2 ^ k := Int.emod_lt_of_pos x (two_pow_pos k)
theorem mod_mod (x : Int) (k : Nat) : x % 2 ^ k % 2 ^ k = x % 2 ^ k := Int.emod_emod_of_dvd _ (Int.dvd_refl _)
theorem mod_small {x : Int} {k : Nat} (h0 : 0 ≤ x) (h1 : x < 2 ^ k) : x % 2 ^ k = x := Int.emod_eq_of_lt h0 h1
theorem mod64 {x : Int} {k : Nat} (hk : k ≤ 64) : x % 2 ^ k < 2 ^ 64 := Int.lt_of_lt_of_le (mod_hi x k) (pow_le64 hk)
theorem sg64 {x : Int} {k : Nat} (hk : k ≤ 64) (h1 : 1 ≤ k) : (sg x k).natAbs < 2 ^ 64 := by
  have h := sg_lt (x := x) h1
  have h2 := half_pow h1
  have h3 := pow_le64 hk
  have h4 := two_pow_pos (k - 1)
  omega
/-- the quotient that leaves its sign apart -/
theorem tdiv_signs (l r : Int) (hr : r ≠ 0) : Int.tdiv l r = if (decide (l < 0) == decide (r < 0)) = true then (if l < 0 then -l else l).fdiv (if r < 0 then -r else r) else -((if l < 0 then -l else l).fdiv (if r < 0 then -r else r)) := by
  by_cases h1 : l < 0 <;> by_cases h2 : r < 0 <;> simp only [h1, h2, decide_true, decide_false, if_true, if_false, beq_self_eq_true, Bool.false_eq_true]
  · rw [Int.fdiv_eq_ediv_of_nonneg _ (by omega), ← Int.tdiv_eq_ediv_of_nonneg (by omega), Int.neg_tdiv_neg]
  · rw [Int.fdiv_eq_ediv_of_nonneg _ (by omega), ← Int.tdiv_eq_ediv_of_nonneg (by omega), Int.neg_tdiv]; simp
  · rw [Int.fdiv_eq_ediv_of_nonneg _ (by omega), ← Int.tdiv_eq_ediv_of_nonneg (by omega), Int.tdiv_neg]; simp
  · rw [Int.fdiv_eq_ediv_of_nonneg _ (by omega), ← Int.tdiv_eq_ediv_of_nonneg (by omega)]
theorem tmod_signs (l r : Int) (hr : r ≠ 0) : Int.tmod l r = if l < 0 then -((if l < 0 then -l else l).fmod (if r < 0 then -r else r)) else (if l < 0 then -l else l).fmod (if r < 0 then -r else r) := by
  by_cases h1 : l < 0 <;> by_cases h2 : r < 0 <;> simp only [h1, h2, if_true, if_false]
  · rw [Int.fmod_eq_emod_of_nonneg _ (by omega), ← Int.tmod_eq_emod_of_nonneg (by omega), Int.tmod_neg, Int.neg_tmod]; simp
  · rw [Int.fmod_eq_emod_of_nonneg _ (by omega), ← Int.tmod_eq_emod_of_nonneg (by omega), Int.neg_tmod]; simp
  · rw [Int.fmod_eq_emod_of_nonneg _ (by omega), ← Int.tmod_eq_emod_of_nonneg (by omega), Int.tmod_neg]
  · rw [Int.fmod_eq_emod_of_nonneg _ (by omega), ← Int.tmod_eq_emod_of_nonneg (by omega)]
end Mine
end

section
open PySem PySem.W PyProof.Rows PySem.Calls
set_option maxHeartbeats 1000000
namespace Mine
theorem abs_ne {r : Int} (q : (r == 0) = false) : (if r < 0 then -r else r) ≠ 0 := by
  have : r ≠ 0 := by simpa using q
  split <;> omega
theorem abs_py {l r : Int} (h : r.natAbs < 2 ^ 64) : Builtin.divisionGoesByPylong l (if r < 0 then -r else r) = false := pylong (by split <;> omega)
section
variable {a b : Int} {k j : Nat} {s : Bool} {op : Str}
theorem con_quotient {z : Int} (h0 : 0 ≤ b) (h1 : b < 2 ^ 64) : Con (.ref 84) 1 [.int a, .int b, .int z] (.int (a / b)) :=
  (Con.of0 F_quotient 0 (ρ := [some (.int a), some (.int b), some (.int z)]) rfl rfl rfl fun c => Ex.ret (Ev.iteI (Tst.cmp (Ev.name l1) Ev.cint op_eq rfl) (fun _ => Ev.cint) fun q =>
    Ev.bin (Ev.name l0) (Ev.name l1) (op_div (by simpa using q) (pylong (by omega)))) trivial).int (by
      rw [Int.fdiv_eq_ediv_of_nonneg _ h0]
      by_cases h : b = 0 <;> simp [h])
theorem con_remainder {z : Int} (h0 : 0 ≤ b) : Con (.ref 91) 1 [.int a, .int b, .int z] (.int (a % b)) :=
  (Con.of0 F_remainder 0 (ρ := [some (.int a), some (.int b), some (.int z)]) rfl rfl rfl fun c => Ex.ret (Ev.iteI (Tst.cmp (Ev.name l1) Ev.cint op_eq rfl) (fun _ => Ev.name l0) fun q =>
    Ev.bin (Ev.name l0) (Ev.name l1) (op_mod (by simpa using q))) trivial).int (by
      rw [Int.fmod_eq_emod_of_nonneg _ h0]
      by_cases h : b = 0 <;> simp [h])
theorem con_squot (hk : k ≤ 64) (h1 : 1 ≤ k) : Con (.ref 98) 2 [.int a, .int b, .int k] (.int (Int.tdiv (sg a k) (sg b k) % 2 ^ k)) :=
  (Con.of0 F_signed_quotient 3 (ρ := [some (.int a), some (.int b), some (.int k), none, none, none]) rfl rfl rfl fun c =>
    Ex.assign2 (.cons (Ev.call G_signed g6 (.cons (Ev.name l0) (.cons (Ev.name l2) .nil)) (con_signed hk h1)) (.cons (Ev.call G_signed g6 (.cons (Ev.name l1) (.cons (Ev.name l2) .nil)) (con_signed hk h1)) .nil)) trivial trivial q4 q3 trivial trivial (fun _ => rfl)
    (Ex.thenI (Tst.cmp (Ev.name l4) Ev.cint op_eq rfl) (fun _ => Ex.ret Ev.cint trivial) fun q =>
      Ex.assign (Ev.bin (Ev.callB B_abs g7 (.cons (Ev.name l3) .nil) con_abs) (Ev.callB B_abs g7 (.cons (Ev.name l4) .nil) con_abs) (op_div (abs_ne q) (abs_py (sg64 hk h1)))) trivial q5 trivial
      (Ex.ret (Ev.call G_wrap g8 (.cons (Ev.iteI (Tst.cmp (Ev.cmp (Ev.name l3) Ev.cint op_lt) (Ev.cmp (Ev.name l4) Ev.cint op_lt) op_eqb rfl) (fun _ => Ev.name l5) (fun _ => Ev.un (Ev.name l5) op_neg)) (.cons (Ev.name l2) .nil)) (con_wrap hk)) trivial))).int (by
    by_cases h : sg b k = 0
    · simp [h]
    · rw [tdiv_signs _ _ h, if_neg (by simpa using h)])
theorem con_srem (hk : k ≤ 64) (h1 : 1 ≤ k) (ha : 0 ≤ a) (ha2 : a < 2 ^ k) : Con (.ref 105) 2 [.int a, .int b, .int k] (.int (Int.tmod (sg a k) (sg b k) % 2 ^ k)) :=
  (Con.of0 F_signed_remainder 3 (ρ := [some (.int a), some (.int b), some (.int k), none, none, none]) rfl rfl rfl fun c =>
    Ex.assign2 (.cons (Ev.call G_signed g6 (.cons (Ev.name l0) (.cons (Ev.name l2) .nil)) (con_signed hk h1)) (.cons (Ev.call G_signed g6 (.cons (Ev.name l1) (.cons (Ev.name l2) .nil)) (con_signed hk h1)) .nil)) trivial trivial q4 q3 trivial trivial (fun _ => rfl)
    (Ex.thenI (Tst.cmp (Ev.name l4) Ev.cint op_eq rfl) (fun _ => Ex.ret (Ev.name l0) trivial) fun q =>
      Ex.assign (Ev.bin (Ev.callB B_abs g7 (.cons (Ev.name l3) .nil) con_abs) (Ev.callB B_abs g7 (.cons (Ev.name l4) .nil) con_abs) (op_mod (abs_ne q))) trivial q5 trivial
      (Ex.ret (Ev.call G_wrap g8 (.cons (Ev.iteI (Tst.cmp (Ev.name l3) Ev.cint op_lt rfl) (fun _ => Ev.un (Ev.name l5) op_neg) (fun _ => Ev.name l5)) (.cons (Ev.name l2) .nil)) (con_wrap hk)) trivial))).int (by
    by_cases h : sg b k = 0
    · simp only [h, beq_self_eq_true, if_true, Int.tmod_zero]
      rw [sg_mod, mod_small ha ha2]
    · rw [tmod_signs _ _ h, if_neg (by simpa using h)]
      simp only [decide_eq_true_eq])
theorem bw_lsh (hk : k ≤ 64) (hj : j ≤ 64) (h0 : 0 ≤ a) (h1 : a < 2 ^ 64) : Con (.ref 112) 2 [.str "lsh", .int a, .int j, .int k] (.int (a * 2 ^ j % 2 ^ k)) :=
  (Con.of0 F_shifted 0 (ρ := [some (.str "lsh"), some (.int a), some (.int j), some (.int k)]) rfl rfl rfl fun c =>
    Ex.thenT (Tst.seq (Ev.name l0) Ev.cstr (by decide)) (Ex.ret (Ev.call G_wrap g4 (.cons (Ev.bin (Ev.name l1) (Ev.name l2) (op_shl (by omega) (by omega) (by omega))) (.cons (Ev.name l3) .nil)) (con_wrap hk)) trivial)).int (by rw [Int.toNat_natCast])
theorem bw_rsh {z : Int} : Con (.ref 112) 2 [.str "rsh", .int a, .int j, .int z] (.int (a / 2 ^ j)) :=
  (Con.of0 F_shifted 0 (ρ := [some (.str "rsh"), some (.int a), some (.int j), some (.int z)]) rfl rfl rfl fun c =>
    Ex.thenF (Tst.seq (Ev.name l0) Ev.cstr (by decide)) (Ex.thenT (Tst.seq (Ev.name l0) Ev.cstr (by decide)) (Ex.ret (Ev.bin (Ev.name l1) (Ev.name l2) (op_shr (by omega))) trivial))).int (by
      rw [Int.toNat_natCast, Int.fdiv_eq_ediv_of_nonneg _ (by have := two_pow_pos j; omega)])
theorem bw_arsh (hk : k ≤ 64) (h1 : 1 ≤ k) : Con (.ref 112) 2 [.str "arsh", .int a, .int j, .int k] (.int (sg a k / 2 ^ j % 2 ^ k)) :=
  (Con.of0 F_shifted 0 (ρ := [some (.str "arsh"), some (.int a), some (.int j), some (.int k)]) rfl rfl rfl fun c =>
    Ex.thenF (Tst.seq (Ev.name l0) Ev.cstr (by decide)) (Ex.thenF (Tst.seq (Ev.name l0) Ev.cstr (by decide)) (Ex.ret (Ev.call G_wrap g4 (.cons (Ev.bin (Ev.call G_signed g5 (.cons (Ev.name l1) (.cons (Ev.name l3) .nil)) (con_signed hk h1)) (Ev.name l2) (op_shr (by omega))) (.cons (Ev.name l3) .nil)) (con_wrap hk)) trivial))).int (by
      rw [Int.toNat_natCast, Int.fdiv_eq_ediv_of_nonneg _ (by have := two_pow_pos j; omega)])
theorem con_divided_div (hk : k ≤ 64) (h1 : 1 ≤ k) (hb0 : 0 ≤ b) (hb : b < 2 ^ 64) : Con (.ref 119) 3 [.str "div", .int a, .int b, .int k, .bool s] (.int (if s then Int.tdiv (sg a k) (sg b k) % 2 ^ k else a / b)) :=
  Con.of0 F_divided 0 (ρ := [some (.str "div"), some (.int a), some (.int b), some (.int k), some (.bool s)]) rfl rfl rfl fun c =>
    Ex.thenT (Tst.seq (Ev.name l0) Ev.cstr (by decide)) (Ex.ret (Ev.iteI (Tst.plain (Ev.name l4) rfl)
      (fun _ => Ev.call G_signed_quotient g5 (.cons (Ev.name l1) (.cons (Ev.name l2) (.cons (Ev.name l3) .nil))) (con_squot hk h1))
      (fun _ => Ev.call G_quotient g6 (.cons (Ev.name l1) (.cons (Ev.name l2) (.cons (Ev.name l3) .nil))) (con_quotient hb0 hb))) trivial)
theorem con_divided_mod (hk : k ≤ 64) (h1 : 1 ≤ k) (ha0 : 0 ≤ a) (ha : a < 2 ^ k) (hb0 : 0 ≤ b) : Con (.ref 119) 3 [.str "mod", .int a, .int b, .int k, .bool s] (.int (if s then Int.tmod (sg a k) (sg b k) % 2 ^ k else a % b)) :=
  Con.of0 F_divided 0 (ρ := [some (.str "mod"), some (.int a), some (.int b), some (.int k), some (.bool s)]) rfl rfl rfl fun c =>
    Ex.thenF (Tst.seq (Ev.name l0) Ev.cstr (by decide)) (Ex.ret (Ev.iteI (Tst.plain (Ev.name l4) rfl)
      (fun _ => Ev.call G_signed_remainder g7 (.cons (Ev.name l1) (.cons (Ev.name l2) (.cons (Ev.name l3) .nil))) (con_srem hk h1 ha0 ha))
      (fun _ => Ev.call G_remainder g8 (.cons (Ev.name l1) (.cons (Ev.name l2) (.cons (Ev.name l3) .nil))) (con_remainder hb0))) trivial)
theorem con_bits_or : Con (.ref 126) 1 [.str "or", .int a, .int b] (.int (Builtin.bitOr a b)) :=
  Con.of0 F_bits_worth 0 (ρ := [some (.str "or"), some (.int a), some (.int b)]) rfl rfl rfl fun c => Ex.thenT (Tst.seq (Ev.name l0) Ev.cstr (by decide)) (Ex.ret (Ev.bin (Ev.name l1) (Ev.name l2) op_or) trivial)
theorem con_bits_and : Con (.ref 126) 1 [.str "and", .int a, .int b] (.int (Builtin.bitAnd a b)) :=
  Con.of0 F_bits_worth 0 (ρ := [some (.str "and"), some (.int a), some (.int b)]) rfl rfl rfl fun c => Ex.thenF (Tst.seq (Ev.name l0) Ev.cstr (by decide)) (Ex.ret (Ev.ifexp (Tst.seq (Ev.name l0) Ev.cstr (t := true) (by decide)) (fun _ => Ev.bin (Ev.name l1) (Ev.name l2) op_and) (fun e => nomatch e)) trivial)
theorem con_bits_xor : Con (.ref 126) 1 [.str "xor", .int a, .int b] (.int (Builtin.bitXor a b)) :=
  Con.of0 F_bits_worth 0 (ρ := [some (.str "xor"), some (.int a), some (.int b)]) rfl rfl rfl fun c => Ex.thenF (Tst.seq (Ev.name l0) Ev.cstr (by decide)) (Ex.ret (Ev.ifexp (Tst.seq (Ev.name l0) Ev.cstr (t := false) (by decide)) (fun e => nomatch e) (fun _ => Ev.bin (Ev.name l1) (Ev.name l2) op_xor)) trivial)
end
end Mine
end

section
open PySem PySem.W PyProof.Rows PySem.Calls
set_option maxHeartbeats 1000000
namespace Mine
section
variable {f : Fn} {c : Cx} {n : Nat} {ρ : List (Option V)}
theorem EvS.nil : EvS f c n ρ [] [] := EvL.nil
theorem EvS.cons {e : Expr} {es : List Expr} {x : Str} {xs : List Str} (h1 : Ev f c n ρ e (.str x)) (h2 : EvS f c n ρ es xs) (he : ∀ env, starEach (e :: es) env = (false, eval e env) :: starEach es env := by intro _; rfl) : EvS f c n ρ (e :: es) (x :: xs) := EvL.cons h1 h2 he
theorem EvI.nil : EvI f c n ρ [] [] := EvL.nil
theorem EvI.cons {e : Expr} {es : List Expr} {x : Int} {xs : List Int} (h1 : Ev f c n ρ e (.int x)) (h2 : EvI f c n ρ es xs) (he : ∀ env, starEach (e :: es) env = (false, eval e env) :: starEach es env := by intro _; rfl) : EvI f c n ρ (e :: es) (x :: xs) := EvL.cons h1 h2 he
theorem Tst.sin {l r : Expr} {pos : Pos} {x : Str} {ys : List Str} {t : Bool} (hl : Ev f c n ρ l (.str x)) (hr : Ev f c n ρ r (.ts ys)) (ht : (ys.any fun y => y == x) = t) (hb : behindInMarks .In r = false := by rfl) : Tst f c n ρ (.Compare l [.In] [r] pos) t := Tst.cmp hl hr op_in ht.symm hb
end
section
variable {a b : Int} {k : Nat} {s : Bool} {op : Str}
theorem shift_count (hk : Sz k) : Builtin.bitAnd (b % 2 ^ k) ((k : Int) - 1) = (((b % k).toNat : Nat) : Int) := by
  rcases hk with rfl | rfl
  · show Builtin.bitAnd (b % 2 ^ 32) 31 = _
    rw [bitAnd_m5, Int.emod_emod_of_dvd _ (by decide)]
    have := Int.emod_nonneg b (by decide : (32 : Int) ≠ 0)
    show _ = (((b % 32).toNat : Nat) : Int)
    omega
  · show Builtin.bitAnd (b % 2 ^ 64) 63 = _
    rw [bitAnd_m6, Int.emod_emod_of_dvd _ (by decide)]
    have := Int.emod_nonneg b (by decide : (64 : Int) ≠ 0)
    show _ = (((b % 64).toNat : Nat) : Int)
    omega
theorem count_le (hk : Sz k) : (b % k).toNat ≤ 64 := by rcases hk with rfl | rfl <;> omega
abbrev aluEnv (op : Str) (a b : Int) (k : Nat) (s : Bool) : List (Option V) := [some (.str op), some (.int a), some (.int b), some (.int k), some (.bool s), some (.int (a % 2 ^ k)), some (.int (b % 2 ^ k))]
def AluIs (op : Str) (a b : Int) (k : Nat) (s : Bool) (d : Int) : Prop := ∀ c, Ex φ_alu_worth c 4 [some (.str op), some (.int a), some (.int b), some (.int k), some (.bool s), none, none] .none b_alu_worth (.ret (.int d) .none)
theorem AluIs.int {d e : Int} (h : AluIs op a b k s d) (q : d = e) : AluIs op a b k s e := q ▸ h
theorem alu_of {d : Int} (hk : Sz k) (h : ∀ c, Ex φ_alu_worth c 4 (aluEnv op a b k s) .none b_alu_worth.tail (.ret (.int d) .none)) : AluIs op a b k s d := fun c =>
    Ex.assign2 (.cons (Ev.call G_wrap g7 (.cons (Ev.name l1) (.cons (Ev.name l3) .nil)) (con_wrap hk.le)) (.cons (Ev.call G_wrap g7 (.cons (Ev.name l2) (.cons (Ev.name l3) .nil)) (con_wrap hk.le)) .nil)) trivial trivial q6 q5 trivial trivial (fun _ => rfl) (h c)
abbrev ts {f : Fn} {c : Cx} {n : Nat} {ρ : List (Option V)} {x y : Str} {e : Expr} {kk : Nat} {p pos : Pos} {t : Bool} (h : Ev f c n ρ e (.str x)) (ht : (x == y) = t) : Tst f c n ρ (.Compare e [.Eq] [.Constant (.str y) kk p] pos) t := Tst.seq h Ev.cstr ht
theorem alu_add (hk : Sz k) : AluIs "add" a b k s (aluV "add" a b k s % 2 ^ k) :=
  (alu_of hk fun c => Ex.thenT (ts (Ev.name l0) (by decide)) (Ex.ret (Ev.call G_wrap g7 (.cons (Ev.bin (Ev.name l5) (Ev.name l6) op_add) (.cons (Ev.name l3) .nil)) (con_wrap hk.le)) trivial)).int (by rw [aluV_add]; exact (Int.add_emod ..).symm)
theorem alu_sub (hk : Sz k) : AluIs "sub" a b k s (aluV "sub" a b k s % 2 ^ k) :=
  (alu_of hk fun c => Ex.thenF (ts (Ev.name l0) (by decide)) (Ex.thenT (ts (Ev.name l0) (by decide)) (Ex.ret (Ev.call G_wrap g7 (.cons (Ev.bin (Ev.name l5) (Ev.name l6) op_sub) (.cons (Ev.name l3) .nil)) (con_wrap hk.le)) trivial))).int (by rw [aluV_sub]; exact (Int.sub_emod ..).symm)
theorem bits64 {x : Int} (h : x.natAbs < 2 ^ 64) : Builtin.Int.intBits x ≤ 64 := by
  unfold Builtin.Int.intBits
  split
  · decide
  · rename_i h0
    have := (Nat.log2_lt (n := x.natAbs) (k := 64) (by simpa using h0)).mpr h
    omega
theorem mod_abs {x : Int} {k : Nat} (hk : k ≤ 64) : (x % 2 ^ k).natAbs < 2 ^ 64 := by
  have h0 := mod_lo x k
  have h1 := mod64 (x := x) hk
  omega
theorem nat_cast_lt {n : Nat} {k : Nat} (h : n < 2 ^ k) : (n : Int) < 2 ^ k := by rw [← pow_cast]; omega
theorem not_not (x : Int) : Builtin.bitNot (Builtin.bitNot x) = x := by unfold Builtin.bitNot; omega
theorem or_pp {x y : Int} (hx : 0 ≤ x) (hy : 0 ≤ y) : Builtin.bitOr x y = ((x.toNat ||| y.toNat : Nat) : Int) := by
  have h1 : ¬ 0 ≤ Builtin.bitNot x := by unfold Builtin.bitNot; omega
  have h2 : ¬ 0 ≤ Builtin.bitNot y := by unfold Builtin.bitNot; omega
  unfold Builtin.bitOr Builtin.bitAnd
  simp only [h1, h2, decide_false, not_not]
theorem nat_xor_add_and (m : Nat) : ∀ n : Nat, (m ^^^ n) + (m &&& n) = m ||| n := by
  induction m using Nat.strongRecOn with
  | ind m ih =>
    intro n
    by_cases h0 : m = 0
    · subst h0; simp
    · have ih' := ih (m / 2) (by omega) (n / 2)
      rw [← Nat.or_div_two, ← Nat.and_div_two, ← Nat.xor_div_two] at ih'
      have o1 := @Nat.or_mod_two_eq_one m n
      have a1 := @Nat.and_mod_two_eq_one m n
      have x1 := @Nat.xor_mod_two_eq_one m n
      omega
theorem xor_pp {x y : Int} (hx : 0 ≤ x) (hy : 0 ≤ y) : Builtin.bitXor x y = ((x.toNat ^^^ y.toNat : Nat) : Int) := by
  unfold Builtin.bitXor
  rw [or_pp hx hy, bitAnd_pp hx hy, ← nat_xor_add_and]
  omega
theorem or_rng {x y : Int} {k : Nat} (hx : 0 ≤ x) (hx1 : x < 2 ^ k) (hy : 0 ≤ y) (hy1 : y < 2 ^ k) : 0 ≤ Builtin.bitOr x y ∧ Builtin.bitOr x y < 2 ^ k := by
  rw [or_pp hx hy]
  have h1 : x.toNat < 2 ^ k := by have := pow_cast k; omega
  have h2 : y.toNat < 2 ^ k := by have := pow_cast k; omega
  have := Nat.or_lt_two_pow h1 h2
  exact ⟨by omega, nat_cast_lt this⟩
theorem and_rng {x y : Int} {k : Nat} (hx : 0 ≤ x) (hx1 : x < 2 ^ k) (hy : 0 ≤ y) (hy1 : y < 2 ^ k) : 0 ≤ Builtin.bitAnd x y ∧ Builtin.bitAnd x y < 2 ^ k := by
  have := bitAnd_range x hy
  omega
theorem xor_rng {x y : Int} {k : Nat} (hx : 0 ≤ x) (hx1 : x < 2 ^ k) (hy : 0 ≤ y) (hy1 : y < 2 ^ k) : 0 ≤ Builtin.bitXor x y ∧ Builtin.bitXor x y < 2 ^ k := by
  rw [xor_pp hx hy]
  have h1 : x.toNat < 2 ^ k := by have := pow_cast k; omega
  have h2 : y.toNat < 2 ^ k := by have := pow_cast k; omega
  have := Nat.xor_lt_two_pow h1 h2
  exact ⟨by omega, nat_cast_lt this⟩
theorem alu_mul (hk : Sz k) : AluIs "mul" a b k s (aluV "mul" a b k s % 2 ^ k) :=
  (alu_of hk fun c => Ex.thenF (ts (Ev.name l0) (by decide)) (Ex.thenF (ts (Ev.name l0) (by decide)) (Ex.thenT (ts (Ev.name l0) (by decide)) (Ex.ret (Ev.call G_wrap g7 (.cons (Ev.bin (Ev.name l5) (Ev.name l6) (op_mul (IntMulOk.of_left (bits64 (mod_abs hk.le))))) (.cons (Ev.name l3) .nil)) (con_wrap hk.le)) trivial)))).int (by rw [aluV_mul]; exact (Int.mul_emod ..).symm)
theorem alu_neg (hk : Sz k) : AluIs "neg" a b k s (aluV "neg" a b k s % 2 ^ k) :=
  (alu_of hk fun c => Ex.thenF (ts (Ev.name l0) (by decide)) (Ex.thenF (ts (Ev.name l0) (by decide)) (Ex.thenF (ts (Ev.name l0) (by decide)) (Ex.thenT (ts (Ev.name l0) (by decide)) (Ex.ret (Ev.call G_wrap g7 (.cons (Ev.un (Ev.name l5) op_neg) (.cons (Ev.name l3) .nil)) (con_wrap hk.le)) trivial))))).int (by rw [aluV_neg, ← Int.zero_sub, ← Int.zero_sub, Int.sub_emod, mod_mod, ← Int.sub_emod])
theorem alu_mov (hk : Sz k) : AluIs "mov" a b k s (aluV "mov" a b k s % 2 ^ k) :=
  (alu_of hk fun c => Ex.thenF (ts (Ev.name l0) (by decide)) (Ex.thenF (ts (Ev.name l0) (by decide)) (Ex.thenF (ts (Ev.name l0) (by decide)) (Ex.thenF (ts (Ev.name l0) (by decide)) (Ex.thenT (ts (Ev.name l0) (by decide)) (Ex.ret (Ev.name l6) trivial)))))).int (by rw [aluV_mov])
theorem alu_or (hk : Sz k) : AluIs "or" a b k s (aluV "or" a b k s % 2 ^ k) :=
  (alu_of hk fun c => Ex.thenF (ts (Ev.name l0) (by decide)) (Ex.thenF (ts (Ev.name l0) (by decide)) (Ex.thenF (ts (Ev.name l0) (by decide)) (Ex.thenF (ts (Ev.name l0) (by decide)) (Ex.thenF (ts (Ev.name l0) (by decide)) (Ex.thenT (Tst.sin (Ev.name l0) (Ev.stup (.cons Ev.cstr (.cons Ev.cstr (.cons Ev.cstr .nil))) (by decide)) (by decide)) (Ex.ret (Ev.call G_bits_worth g8 (.cons (Ev.name l0) (.cons (Ev.name l5) (.cons (Ev.name l6) .nil))) con_bits_or) trivial))))))).int (by rw [aluV_or]; have h := or_rng (mod_lo a k) (mod_hi a k) (mod_lo b k) (mod_hi b k); exact (mod_small h.1 h.2).symm)
theorem alu_and (hk : Sz k) : AluIs "and" a b k s (aluV "and" a b k s % 2 ^ k) :=
  (alu_of hk fun c => Ex.thenF (ts (Ev.name l0) (by decide)) (Ex.thenF (ts (Ev.name l0) (by decide)) (Ex.thenF (ts (Ev.name l0) (by decide)) (Ex.thenF (ts (Ev.name l0) (by decide)) (Ex.thenF (ts (Ev.name l0) (by decide)) (Ex.thenT (Tst.sin (Ev.name l0) (Ev.stup (.cons Ev.cstr (.cons Ev.cstr (.cons Ev.cstr .nil))) (by decide)) (by decide)) (Ex.ret (Ev.call G_bits_worth g8 (.cons (Ev.name l0) (.cons (Ev.name l5) (.cons (Ev.name l6) .nil))) con_bits_and) trivial))))))).int (by rw [aluV_and]; have h := and_rng (mod_lo a k) (mod_hi a k) (mod_lo b k) (mod_hi b k); exact (mod_small h.1 h.2).symm)
theorem alu_xor (hk : Sz k) : AluIs "xor" a b k s (aluV "xor" a b k s % 2 ^ k) :=
  (alu_of hk fun c => Ex.thenF (ts (Ev.name l0) (by decide)) (Ex.thenF (ts (Ev.name l0) (by decide)) (Ex.thenF (ts (Ev.name l0) (by decide)) (Ex.thenF (ts (Ev.name l0) (by decide)) (Ex.thenF (ts (Ev.name l0) (by decide)) (Ex.thenT (Tst.sin (Ev.name l0) (Ev.stup (.cons Ev.cstr (.cons Ev.cstr (.cons Ev.cstr .nil))) (by decide)) (by decide)) (Ex.ret (Ev.call G_bits_worth g8 (.cons (Ev.name l0) (.cons (Ev.name l5) (.cons (Ev.name l6) .nil))) con_bits_xor) trivial))))))).int (by rw [aluV_xor]; have h := xor_rng (mod_lo a k) (mod_hi a k) (mod_lo b k) (mod_hi b k); exact (mod_small h.1 h.2).symm)
theorem alu_div (hk : Sz k) : AluIs "div" a b k s (aluV "div" a b k s % 2 ^ k) :=
  (alu_of hk fun c => Ex.thenF (ts (Ev.name l0) (by decide)) (Ex.thenF (ts (Ev.name l0) (by decide)) (Ex.thenF (ts (Ev.name l0) (by decide)) (Ex.thenF (ts (Ev.name l0) (by decide)) (Ex.thenF (ts (Ev.name l0) (by decide)) (Ex.thenF (Tst.sin (Ev.name l0) (Ev.stup (.cons Ev.cstr (.cons Ev.cstr (.cons Ev.cstr .nil))) (by decide)) (by decide)) (Ex.thenT (Tst.sin (Ev.name l0) (Ev.stup (.cons Ev.cstr (.cons Ev.cstr .nil)) (by decide)) (by decide)) (Ex.ret (Ev.call G_divided g9 (.cons (Ev.name l0) (.cons (Ev.name l5) (.cons (Ev.name l6) (.cons (Ev.name l3) (.cons (Ev.name l4) .nil))))) (con_divided_div hk.le hk.pos (mod_lo b k) (mod64 hk.le))) trivial)))))))).int (by rw [aluV_div, sg_of_mod, sg_of_mod]; cases s; exact (mod_small (Int.ediv_nonneg (mod_lo a k) (mod_lo b k)) (Int.lt_of_le_of_lt (Int.ediv_le_self _ (mod_lo a k)) (mod_hi a k))).symm; rfl)
theorem emod_lo {x y : Int} (hx : 0 ≤ x) : 0 ≤ x % y := by
  by_cases h : y = 0
  · rw [h, Int.emod_zero]; exact hx
  · exact Int.emod_nonneg x h
theorem emod_le {x y : Int} (hx : 0 ≤ x) (hy : 0 ≤ y) : x % y ≤ x := by
  by_cases h : y = 0
  · rw [h, Int.emod_zero]; exact Int.le_refl _
  · have := Int.emod_add_mul_ediv x y
    have h2 : 0 ≤ y * (x / y) := Int.mul_nonneg hy (Int.ediv_nonneg hx hy)
    omega
theorem alu_mod (hk : Sz k) : AluIs "mod" a b k s (aluV "mod" a b k s % 2 ^ k) :=
  (alu_of hk fun c => Ex.thenF (ts (Ev.name l0) (by decide)) (Ex.thenF (ts (Ev.name l0) (by decide)) (Ex.thenF (ts (Ev.name l0) (by decide)) (Ex.thenF (ts (Ev.name l0) (by decide)) (Ex.thenF (ts (Ev.name l0) (by decide)) (Ex.thenF (Tst.sin (Ev.name l0) (Ev.stup (.cons Ev.cstr (.cons Ev.cstr (.cons Ev.cstr .nil))) (by decide)) (by decide)) (Ex.thenT (Tst.sin (Ev.name l0) (Ev.stup (.cons Ev.cstr (.cons Ev.cstr .nil)) (by decide)) (by decide)) (Ex.ret (Ev.call G_divided g9 (.cons (Ev.name l0) (.cons (Ev.name l5) (.cons (Ev.name l6) (.cons (Ev.name l3) (.cons (Ev.name l4) .nil))))) (con_divided_mod hk.le hk.pos (mod_lo a k) (mod_hi a k) (mod_lo b k))) trivial)))))))).int (by rw [aluV_mod, sg_of_mod, sg_of_mod]; cases s; exact (mod_small (emod_lo (mod_lo a k)) (Int.lt_of_le_of_lt (emod_le (mod_lo a k) (mod_lo b k)) (mod_hi a k))).symm; rfl)
theorem alu_lsh (hk : Sz k) : AluIs "lsh" a b k s (aluV "lsh" a b k s % 2 ^ k) :=
  (alu_of hk fun c => Ex.thenF (ts (Ev.name l0) (by decide)) (Ex.thenF (ts (Ev.name l0) (by decide)) (Ex.thenF (ts (Ev.name l0) (by decide)) (Ex.thenF (ts (Ev.name l0) (by decide)) (Ex.thenF (ts (Ev.name l0) (by decide)) (Ex.thenF (Tst.sin (Ev.name l0) (Ev.stup (.cons Ev.cstr (.cons Ev.cstr (.cons Ev.cstr .nil))) (by decide)) (by decide)) (Ex.thenF (Tst.sin (Ev.name l0) (Ev.stup (.cons Ev.cstr (.cons Ev.cstr .nil)) (by decide)) (by decide)) (Ex.thenT (Tst.sin (Ev.name l0) (Ev.stup (.cons Ev.cstr (.cons Ev.cstr (.cons Ev.cstr .nil))) (by decide)) (by decide)) (Ex.ret (Ev.call G_shifted g10 (.cons (Ev.name l0) (.cons (Ev.name l5) (.cons ((Ev.bin (Ev.name l6) (Ev.bin (Ev.name l3) Ev.cint op_sub) op_and).congr (congrArg V.int (shift_count hk))) (.cons (Ev.name l3) .nil)))) (bw_lsh hk.le (count_le hk) (mod_lo a k) (mod64 hk.le))) trivial))))))))).int (by rw [aluV_lsh])
theorem alu_rsh (hk : Sz k) : AluIs "rsh" a b k s (aluV "rsh" a b k s % 2 ^ k) :=
  (alu_of hk fun c => Ex.thenF (ts (Ev.name l0) (by decide)) (Ex.thenF (ts (Ev.name l0) (by decide)) (Ex.thenF (ts (Ev.name l0) (by decide)) (Ex.thenF (ts (Ev.name l0) (by decide)) (Ex.thenF (ts (Ev.name l0) (by decide)) (Ex.thenF (Tst.sin (Ev.name l0) (Ev.stup (.cons Ev.cstr (.cons Ev.cstr (.cons Ev.cstr .nil))) (by decide)) (by decide)) (Ex.thenF (Tst.sin (Ev.name l0) (Ev.stup (.cons Ev.cstr (.cons Ev.cstr .nil)) (by decide)) (by decide)) (Ex.thenT (Tst.sin (Ev.name l0) (Ev.stup (.cons Ev.cstr (.cons Ev.cstr (.cons Ev.cstr .nil))) (by decide)) (by decide)) (Ex.ret (Ev.call G_shifted g10 (.cons (Ev.name l0) (.cons (Ev.name l5) (.cons ((Ev.bin (Ev.name l6) (Ev.bin (Ev.name l3) Ev.cint op_sub) op_and).congr (congrArg V.int (shift_count hk))) (.cons (Ev.name l3) .nil)))) (bw_rsh)) trivial))))))))).int (by rw [aluV_rsh]; exact (mod_small (Int.ediv_nonneg (mod_lo a k) (Int.le_of_lt (two_pow_pos _))) (Int.lt_of_le_of_lt (Int.ediv_le_self _ (mod_lo a k)) (mod_hi a k))).symm)
theorem alu_arsh (hk : Sz k) : AluIs "arsh" a b k s (aluV "arsh" a b k s % 2 ^ k) :=
  (alu_of hk fun c => Ex.thenF (ts (Ev.name l0) (by decide)) (Ex.thenF (ts (Ev.name l0) (by decide)) (Ex.thenF (ts (Ev.name l0) (by decide)) (Ex.thenF (ts (Ev.name l0) (by decide)) (Ex.thenF (ts (Ev.name l0) (by decide)) (Ex.thenF (Tst.sin (Ev.name l0) (Ev.stup (.cons Ev.cstr (.cons Ev.cstr (.cons Ev.cstr .nil))) (by decide)) (by decide)) (Ex.thenF (Tst.sin (Ev.name l0) (Ev.stup (.cons Ev.cstr (.cons Ev.cstr .nil)) (by decide)) (by decide)) (Ex.thenT (Tst.sin (Ev.name l0) (Ev.stup (.cons Ev.cstr (.cons Ev.cstr (.cons Ev.cstr .nil))) (by decide)) (by decide)) (Ex.ret (Ev.call G_shifted g10 (.cons (Ev.name l0) (.cons (Ev.name l5) (.cons ((Ev.bin (Ev.name l6) (Ev.bin (Ev.name l3) Ev.cint op_sub) op_and).congr (congrArg V.int (shift_count hk))) (.cons (Ev.name l3) .nil)))) (bw_arsh hk.le hk.pos)) trivial))))))))).int (by rw [aluV_arsh, sg_of_mod])
/-- the names of the deeds -/
def deeds : List Str := ["div", "mod", "add", "sub", "mul", "or", "and", "lsh", "rsh", "neg", "xor", "mov", "arsh"]
theorem alu_is (hk : Sz k) (h : op ∈ deeds) : AluIs op a b k s (aluV op a b k s % 2 ^ k) := by
  unfold deeds at h
  simp only [List.mem_cons, List.not_mem_nil, or_false] at h
  rcases h with rfl | rfl | rfl | rfl | rfl | rfl | rfl | rfl | rfl | rfl | rfl | rfl | rfl
  · exact alu_div hk
  · exact alu_mod hk
  · exact alu_add hk
  · exact alu_sub hk
  · exact alu_mul hk
  · exact alu_or hk
  · exact alu_and hk
  · exact alu_lsh hk
  · exact alu_rsh hk
  · exact alu_neg hk
  · exact alu_xor hk
  · exact alu_mov hk
  · exact alu_arsh hk
theorem con_alu (hk : Sz k) (h : op ∈ deeds) : Con (.ref 134) 5 [.str op, .int a, .int b, .int k, .bool s] (.int (aluV op a b k s % 2 ^ k)) :=
  Con.of0 F_alu_worth 2 (ρ := [some (.str op), some (.int a), some (.int b), some (.int k), some (.bool s), none, none]) rfl rfl rfl (alu_is hk h)
theorem con_alu_d (hk : Sz k) (h : op ∈ deeds) : Con (.ref 134) 5 [.str op, .int a, .int b, .int k] (.int (aluV op a b k false % 2 ^ k)) :=
  Con.of D_alu_worth (dd := [.bool false]) (k := 2) rfl (fun _ => ⟨rfl, trivial⟩) (ρ := [some (.str op), some (.int a), some (.int b), some (.int k), some (.bool false), none, none]) rfl rfl (alu_is hk h)
theorem con_wrap_d {x : Int} : Con (.ref 69) 1 [.int x] (.int (x % 2 ^ 64)) :=
  (Con.of D_wrap (dd := [.int 64]) (k := 0) rfl (fun _ => ⟨⟨_, rfl⟩, trivial⟩) (ρ := [some (.int x), some (.int 64)]) rfl rfl fun c => Ex.ret (Ev.bin (Ev.name l0) (Ev.bin (Ev.bin Ev.cint (Ev.name l1) (op_shl (by omega) (by omega) nat_abs_one)) Ev.cint op_sub) op_and) trivial).int (by
    have h := mask_eq 64
    have e : ((64 : Nat) : Int) = (64 : Int) := rfl
    rw [e] at h
    rw [h, and_mask])
end
end Mine
end

section
open PySem PySem.W PyProof.Rows PySem.Calls
set_option maxHeartbeats 1000000
namespace Mine
theorem look_none {x : Str} {ns : List (Str × NameKind)} {ρ : List (Option V)} (hn : (ns.map (·.1)).Nodup) {i : Nat} (hx : ∃ k, ns[i]? = some (x, k)) (hr : ρ[i]? = some none) : ∀ d, ¬ Look ns ρ x d := by
  intro d l
  induction l generalizing i with
  | head =>
    obtain ⟨k, hx⟩ := hx
    cases i with
    | zero => simp at hr
    | succ i =>
      simp only [List.map_cons, List.nodup_cons] at hn
      refine hn.1 ?_
      simp only [List.getElem?_cons_succ] at hx
      exact List.mem_map.mpr ⟨_, List.mem_of_getElem? hx, rfl⟩
  | tail l' ih =>
    obtain ⟨k, hx⟩ := hx
    simp only [List.map_cons, List.nodup_cons] at hn
    cases i with
    | zero =>
      simp only [List.getElem?_cons_zero, Option.some.injEq] at hx
      subst hx
      exact hn.1 (List.mem_map.mpr ⟨_, l'.kd.mem, rfl⟩)
    | succ i =>
      simp only [List.getElem?_cons_succ] at hx hr
      exact ih hn.2 ⟨k, hx⟩ hr
section
variable {w : Int} {k : Nat}
-- bits
def bitsS (x : Int) : Nat → Int × List Int := stR (fun s _ => (s.1.fdiv 2, s.2 ++ [s.1.fmod 2])) (x, [])
theorem bitsS_len (x : Int) : ∀ i, (bitsS x i).2.length = i
  | 0 => rfl
  | i + 1 => by
    show ((bitsS x i).2 ++ [_]).length = _
    rw [List.length_append, bitsS_len x i]; rfl
theorem walk_bits (hk : k ≤ 64) : Con (.ref 218) 1 [.int w, .int k] (.li (bitsS (w.fmod (2 ^ k)) k).2) :=
  Con.of0 F_law_bits 3 (ρ := [some (.int w), some (.int k), none, none, none]) rfl rfl rfl fun c =>
    Ex.assign2row (Ev.bin (Ev.callT B_int g5 (.cons (Ev.name l0) .nil) con_int) (Ev.bin Ev.cint (Ev.name l1) (op_pow (by omega) (by omega) (by decide))) (op_mod (by have := two_pow_pos k; simp only [Int.toNat_natCast]; omega))) g3
      (look_none F_law_bits.ok.nd (i := 3) ⟨_, rfl⟩ rfl) q2 (by decide) (fun _ => rfl) fun a =>
    Ex.forRange (S := fun i => [some (.int w), some (.int k), some (.int (bitsS (w.fmod (2 ^ k)) i).1), none, none]) (gs := fun i => .row "row" a (bitsS (w.fmod (2 ^ k)) i).2) g6 (Ev.name l1) (by omega) (fun i => q4) (fun i => aw (by decide)) (fun _ => rfl) (fun _ => rfl)
      (fun i hi => Ex.append g3 (Ev.bin (Ev.callT B_int g5 (.cons (Ev.name l2) .nil) con_int) Ev.cint (op_mod (by decide))) (by rw [bitsS_len]; omega)
        (Ex.assign (Ev.bin (Ev.name l2) Ev.cint (op_div (by decide) py2)) (.inl rfl) q2 (aw (by decide)) Ex.nil))
      (fun i => .keep (.keep (.keep (.keep (.drop .nil))))) (Ex.pub q3 (Ex.ret (Ev.name l3) trivial))
end
end Mine
end

section
open PySem PySem.W PyProof.Rows PySem.Calls
set_option maxHeartbeats 1000000
namespace Mine
theorem mul_ok8 {x : Int} : IntMulOk 8 x := IntMulOk.of_left (by decide)
theorem op_mul8 {x : Int} : Op2 (binaryOp .Mult) (.int 8) (.int x) (.int (8 * x)) := op_mul mul_ok8
section
variable {a b x : Int} {k j : Nat} {op : Str}
/-- octets laid the other way -/
def tv (w : Int) : Nat → Int
  | 0 => 0
  | i + 1 => tv w i * 2 ^ 8 + w / 2 ^ (8 * i) % 2 ^ 8
theorem tv_rng (w : Int) : ∀ i, 0 ≤ tv w i ∧ tv w i < 2 ^ (8 * i)
  | 0 => ⟨Int.le_refl _, by show (0 : Int) < 2 ^ 0; decide⟩
  | i + 1 => by
    have h := tv_rng w i
    have h1 := mod_lo (w / 2 ^ (8 * i)) 8
    have h2 := mod_hi (w / 2 ^ (8 * i)) 8
    have e : (2 : Int) ^ (8 * (i + 1)) = 2 ^ (8 * i) * 2 ^ 8 := by rw [Nat.mul_add, Int.pow_add]
    unfold tv
    rw [e]
    constructor
    · omega
    · have : tv w i * 2 ^ 8 ≤ (2 ^ (8 * i) - 1) * 2 ^ 8 := Int.mul_le_mul_of_nonneg_right (by omega) (by decide)
      rw [Int.sub_mul] at this
      omega
theorem or_low {x y : Int} {k : Nat} (hx : 0 ≤ x) (hy : 0 ≤ y) (hy1 : y < 2 ^ k) : Builtin.bitOr (x * 2 ^ k) y = x * 2 ^ k + y := by
  have hp := two_pow_pos k
  rw [or_pp (Int.mul_nonneg hx (Int.le_of_lt hp)) hy]
  have h1 : y.toNat < 2 ^ k := by have := pow_cast k; omega
  have h2 : (x * 2 ^ k).toNat = x.toNat <<< k := by
    rw [Nat.shiftLeft_eq]
    have : ((x.toNat * 2 ^ k : Nat) : Int) = x * 2 ^ k := by push_cast; rw [Int.toNat_of_nonneg hx]
    omega
  rw [h2, ← Nat.shiftLeft_add_eq_or_of_lt h1, Nat.shiftLeft_eq]
  push_cast
  rw [Int.toNat_of_nonneg hx, Int.toNat_of_nonneg hy]
theorem turn_step (x : Int) (i : Nat) : Builtin.bitOr (tv x i * 2 ^ (8 : Int).toNat) (Builtin.bitAnd (x.fdiv (2 ^ ((8 : Int) * (i : Int)).toNat)) 255) = tv x (i + 1) := by
  have e : ((8 : Int) * (i : Int)).toNat = 8 * i := by omega
  have e2 : (255 : Int) = 2 ^ 8 - 1 := by decide
  have e3 : (8 : Int).toNat = 8 := rfl
  rw [e, e2, e3, and_mask, or_low (tv_rng x i).1 (mod_lo _ 8) (mod_hi _ 8), Int.fdiv_eq_ediv_of_nonneg _ (Int.le_of_lt (two_pow_pos _))]
  rfl
theorem con_turned (hj : j ≤ 8) : Con (.ref 141) 1 [.int x, .int ((8 * j : Nat) : Int)] (.int (tv x j)) :=
  Con.of0 F_turned 2 (ρ := [some (.int x), some (.int ((8 * j : Nat) : Int)), none, none]) rfl rfl rfl fun c =>
    Ex.assign Ev.cint trivial q2 trivial
    (Ex.forRange (S := fun i => [some (.int x), some (.int ((8 * j : Nat) : Int)), some (.int (tv x i)), none]) (gs := fun _ => .none) (N := j) g4
      ((Ev.bin (Ev.name l1) Ev.cint (op_div (by decide) (pylong (by decide)))).congr (congrArg V.int (by rw [Int.fdiv_eq_ediv_of_nonneg _ (by decide)]; omega))) (by omega) (fun i => q3) (fun _ => trivial) (fun _ => rfl) (fun _ => rfl)
      (fun i hi => Ex.assign ((Ev.bin (Ev.bin (Ev.name l2) Ev.cint (op_shl (by decide) (by decide) (by
          have h := tv_rng x i
          have : (2 : Int) ^ (8 * i) ≤ 2 ^ 56 := pow_le_pow (by omega)
          omega))) (Ev.bin (Ev.bin (Ev.name l0) (Ev.bin Ev.cint (Ev.name l3) op_mul8) (op_shr (by omega))) Ev.cint op_and) op_or).congr (congrArg V.int (turn_step x i))) trivial q2 trivial Ex.nil)
      (fun i => .keep (.keep (.keep (.drop .nil)))) (Ex.ret (Ev.name l2) trivial))
end
end Mine
end

section
open PySem PySem.W PyProof.Rows PySem.Calls
set_option maxHeartbeats 1000000
namespace Mine
section
variable {a b x : Int} {k j w : Nat} {op : Str} {s : Bool}
def Bt (k : Nat) : Prop := k = 16 ∨ k = 32 ∨ k = 64
theorem Bt.le {k : Nat} (h : Bt k) : k ≤ 64 := by rcases h with rfl | rfl | rfl <;> decide
def swapV (way : Str) (x : Int) (k : Nat) : Int := if way = ("le" : Str) then x % 2 ^ k else tv (x % 2 ^ k) (k / 8)
theorem in3 (h : Bt k) : (!([16, 32, 64] : List Int).any fun y => y == (k : Int)) = false := by rcases h with rfl | rfl | rfl <;> decide
theorem Tst.nin {f : Fn} {c : Cx} {n : Nat} {ρ : List (Option V)} {l r : Expr} {pos : Pos} {j : Int} {ys : List Int} {t : Bool} (hl : Ev f c n ρ l (.int j)) (hr : Ev f c n ρ r (.ti ys)) (ht : (!ys.any fun y => y == j) = t) (hb : behindInMarks .NotIn r = false := by rfl) : Tst f c n ρ (.Compare l [.NotIn] [r] pos) t := Tst.cmp hl hr op_notin ht.symm hb
theorem swap_of {d : V} (hk : Bt k) (h : ∀ c, Ex φ_swapped c 2 [some (.str op), some (.int x), some (.int k)] .none b_swapped.tail (.ret d .none)) : Con (.ref 148) 3 [.str op, .int x, .int k] d :=
  Con.of0 F_swapped 0 (ρ := [some (.str op), some (.int x), some (.int k)]) rfl rfl rfl fun c =>
    Ex.thenF (Tst.nin (Ev.name l2) (Ev.itup (.cons Ev.cint (.cons Ev.cint (.cons Ev.cint .nil))) (by decide)) (in3 hk)) (h c)
theorem turned_bits (hk : Bt k) {y : Int} : Con (.ref 141) 1 [.int y, .int k] (.int (tv y (k / 8))) := by
  rcases hk with rfl | rfl | rfl
  · exact con_turned (j := 2) (by decide)
  · exact con_turned (j := 4) (by decide)
  · exact con_turned (j := 8) (by decide)
theorem con_swapped (hk : Bt k) (h : op ∈ (["le", "be", "swap"] : List Str)) : Con (.ref 148) 3 [.str op, .int x, .int k] (.int (swapV op x k)) := by
  simp only [List.mem_cons, List.not_mem_nil, or_false] at h
  rcases h with rfl | rfl | rfl
  · exact (swap_of hk fun c => Ex.thenT (ts (Ev.name l0) (by decide)) (Ex.ret (Ev.call G_wrap g4 (.cons (Ev.name l1) (.cons (Ev.name l2) .nil)) (con_wrap hk.le)) trivial)).int (if_pos rfl).symm
  · exact (swap_of hk fun c => Ex.thenF (ts (Ev.name l0) (by decide)) (Ex.thenT (Tst.sin (Ev.name l0) (Ev.stup (.cons Ev.cstr (.cons Ev.cstr .nil)) (by decide)) (by decide))
      (Ex.ret (Ev.call G_turned g5 (.cons (Ev.call G_wrap g4 (.cons (Ev.name l1) (.cons (Ev.name l2) .nil)) (con_wrap hk.le)) (.cons (Ev.name l2) .nil)) (turned_bits hk)) trivial))).int (if_neg (by decide)).symm
  · exact (swap_of hk fun c => Ex.thenF (ts (Ev.name l0) (by decide)) (Ex.thenT (Tst.sin (Ev.name l0) (Ev.stup (.cons Ev.cstr (.cons Ev.cstr .nil)) (by decide)) (by decide))
      (Ex.ret (Ev.call G_turned g5 (.cons (Ev.call G_wrap g4 (.cons (Ev.name l1) (.cons (Ev.name l2) .nil)) (con_wrap hk.le)) (.cons (Ev.name l2) .nil)) (turned_bits hk)) trivial))).int (if_neg (by decide)).symm
theorem con_moved (hk : k ≤ 64) (hj : j ≤ 64) (h1 : 1 ≤ j) : Con (.ref 155) 2 [.int x, .int j, .int k] (.int (sg x j % 2 ^ k)) :=
  Con.of0 F_moved 0 (ρ := [some (.int x), some (.int j), some (.int k)]) rfl rfl rfl fun c =>
    Ex.ret (Ev.call G_wrap g3 (.cons (Ev.call G_signed g4 (.cons (Ev.name l0) (.cons (Ev.name l1) .nil)) (con_signed hj h1)) (.cons (Ev.name l2) .nil)) (con_wrap hk)) trivial
theorem ev_w8 {f : Fn} {c : Cx} {n : Nat} {ρ : List (Option V)} {y : Str} {p p2 pos : Pos} {k2 : Nat} (l : Look f.names ρ y (.int (w : Int))) : Ev f c n ρ (.BinOp (.Constant (.int 8) k2 p2) .Mult (.Name y p) pos) (.int ((8 * w : Nat) : Int)) :=
  (Ev.bin Ev.cint (Ev.name l) op_mul8).congr (congrArg V.int (by push_cast; rfl))
theorem con_extended (hj : 8 * w ≤ 64) (h1 : 1 ≤ w) : Con (.ref 162) 2 [.int x, .int w] (.int (sg x (8 * w) % 2 ^ 64)) :=
  Con.of0 F_extended 0 (ρ := [some (.int x), some (.int w)]) rfl rfl rfl fun c =>
    Ex.ret (Ev.call G_wrap g2 (.cons (Ev.call G_signed g3 (.cons (Ev.name l0) (.cons (ev_w8 l1) .nil)) (con_signed hj (by omega))) .nil) con_wrap_d) trivial
theorem con_result (hj : 8 * w ≤ 64) : Con (.ref 190) 2 [.str op, .int x, .int w] (.int (x % 2 ^ (8 * w))) :=
  (Con.of0 F_result_of 0 (ρ := [some (.str op), some (.int x), some (.int w)]) rfl rfl rfl fun c =>
    Ex.ret (Ev.bin (Ev.name l1) (Ev.call G_ones g3 (.cons (ev_w8 l2) .nil) (con_ones hj)) op_and) trivial).int (and_mask _ _)
-- conditions
theorem uh_gt : Con (.ref 169) 1 [.str "gt", .int a, .int b] (.bool (decide (b < a))) :=
  Con.of0 F_unsigned_holds 0 (ρ := [some (.str "gt"), some (.int a), some (.int b)]) rfl rfl rfl fun c => Ex.thenT (ts (Ev.name l0) (by decide)) (Ex.ret (Ev.cmp (Ev.name l1) (Ev.name l2) op_gt) trivial)
theorem uh_ge : Con (.ref 169) 1 [.str "ge", .int a, .int b] (.bool (decide (b ≤ a))) :=
  Con.of0 F_unsigned_holds 0 (ρ := [some (.str "ge"), some (.int a), some (.int b)]) rfl rfl rfl fun c => Ex.thenF (ts (Ev.name l0) (by decide)) (Ex.thenT (ts (Ev.name l0) (by decide)) (Ex.ret (Ev.cmp (Ev.name l1) (Ev.name l2) op_ge) trivial))
theorem uh_lt : Con (.ref 169) 1 [.str "lt", .int a, .int b] (.bool (decide (a < b))) :=
  Con.of0 F_unsigned_holds 0 (ρ := [some (.str "lt"), some (.int a), some (.int b)]) rfl rfl rfl fun c => Ex.thenF (ts (Ev.name l0) (by decide)) (Ex.thenF (ts (Ev.name l0) (by decide)) (Ex.thenT (ts (Ev.name l0) (by decide)) (Ex.ret (Ev.cmp (Ev.name l1) (Ev.name l2) op_lt) trivial)))
theorem uh_le : Con (.ref 169) 1 [.str "le", .int a, .int b] (.bool (decide (a ≤ b))) :=
  Con.of0 F_unsigned_holds 0 (ρ := [some (.str "le"), some (.int a), some (.int b)]) rfl rfl rfl fun c => Ex.thenF (ts (Ev.name l0) (by decide)) (Ex.thenF (ts (Ev.name l0) (by decide)) (Ex.thenF (ts (Ev.name l0) (by decide)) (Ex.thenT (ts (Ev.name l0) (by decide)) (Ex.ret (Ev.cmp (Ev.name l1) (Ev.name l2) op_le) trivial))))
theorem holds_of {d : V} (hk : Sz k) (h : ∀ c, Ex φ_holds c 4 [some (.str op), some (.int a), some (.int b), some (.int k), some (.int (a % 2 ^ k)), some (.int (b % 2 ^ k)), none] .none b_holds.tail (.ret d .none)) : Con (.ref 176) 5 [.str op, .int a, .int b, .int k] d :=
  Con.of0 F_holds 3 (ρ := [some (.str op), some (.int a), some (.int b), some (.int k), none, none, none]) rfl rfl rfl fun c =>
    Ex.assign2 (.cons (Ev.call G_wrap g7 (.cons (Ev.name l1) (.cons (Ev.name l3) .nil)) (con_wrap hk.le)) (.cons (Ev.call G_wrap g7 (.cons (Ev.name l2) (.cons (Ev.name l3) .nil)) (con_wrap hk.le)) .nil)) trivial trivial q5 q4 trivial trivial (fun _ => rfl) (h c)
theorem hol_eq (hk : Sz k) : Con (.ref 176) 5 [.str "eq", .int a, .int b, .int k] (.bool (a % 2 ^ k == b % 2 ^ k)) :=
  holds_of hk fun c => Ex.thenT (ts (Ev.name l0) (by decide)) (Ex.ret (Ev.cmp (Ev.name l4) (Ev.name l5) op_eq) trivial)
theorem hol_ne (hk : Sz k) : Con (.ref 176) 5 [.str "ne", .int a, .int b, .int k] (.bool (a % 2 ^ k != b % 2 ^ k)) :=
  holds_of hk fun c => Ex.thenF (ts (Ev.name l0) (by decide)) (Ex.thenT (ts (Ev.name l0) (by decide)) (Ex.ret (Ev.cmp (Ev.name l4) (Ev.name l5) op_ne) trivial))
theorem hol_set (hk : Sz k) : Con (.ref 176) 5 [.str "set", .int a, .int b, .int k] (.bool (Builtin.bitAnd (a % 2 ^ k) (b % 2 ^ k) != 0)) :=
  holds_of hk fun c => Ex.thenF (ts (Ev.name l0) (by decide)) (Ex.thenF (ts (Ev.name l0) (by decide)) (Ex.thenT (ts (Ev.name l0) (by decide)) (Ex.ret (Ev.cmp (Ev.bin (Ev.name l4) (Ev.name l5) op_and) Ev.cint op_ne) trivial)))
theorem Ev.sfrom1 {f : Fn} {c : Cx} {n : Nat} {ρ : List (Option V)} {pos sp px p2 : Pos} {k2 : Nat} {i : Int} {xn x y : Str} (hx : Look f.names ρ xn (.str x)) (hl : x.length ≤ 100) (e : Txt.slice x (some i) none = y) :
    Ev f c n ρ (.Subscript (.Name xn px) (.Slice (some (.Constant (.int i) k2 p2)) none none sp) pos) (.str y) := (Ev.sfrom (Ev.name hx) Ev.cint (by rw [sizeLine_eq]; omega)).congr (congrArg V.str e)
theorem Ev.supto1 {f : Fn} {c : Cx} {n : Nat} {ρ : List (Option V)} {pos sp px p2 : Pos} {k2 : Nat} {i : Int} {xn x y : Str} (hx : Look f.names ρ xn (.str x)) (hl : x.length ≤ 100) (e : Txt.slice x none (some i) = y) :
    Ev f c n ρ (.Subscript (.Name xn px) (.Slice none (some (.Constant (.int i) k2 p2)) none sp) pos) (.str y) := (Ev.supto (Ev.name hx) Ev.cint (by rw [sizeLine_eq]; omega)).congr (congrArg V.str e)
theorem hol_s {op' : Str} {f : Int → Int → Bool} (hk : Sz k) (h1 : (op == ("eq" : Str)) = false) (h2 : (op == ("ne" : Str)) = false) (h3 : (op == ("set" : Str)) = false) (h4 : (([("sgt" : Str), "sge", "slt", "sle"] : List Str).any fun y => y == op) = true) (hl : op.length ≤ 100) (e : Txt.slice op (some 1) none = op')
    (hu : ∀ a b, Con (.ref 169) 1 [.str op', .int a, .int b] (.bool (f a b))) : Con (.ref 176) 5 [.str op, .int a, .int b, .int k] (.bool (f (sg a k) (sg b k))) :=
  (holds_of hk fun c => Ex.thenF (ts (Ev.name l0) h1) (Ex.thenF (ts (Ev.name l0) h2) (Ex.thenF (ts (Ev.name l0) h3) (Ex.thenT (Tst.sin (Ev.name l0) (Ev.stup (.cons Ev.cstr (.cons Ev.cstr (.cons Ev.cstr (.cons Ev.cstr .nil)))) (by decide)) h4)
    (Ex.ret (Ev.call G_unsigned_holds g8 (.cons (Ev.sfrom1 l0 hl e) (.cons (Ev.call G_signed g9 (.cons (Ev.name l4) (.cons (Ev.name l3) .nil)) (con_signed hk.le hk.pos)) (.cons (Ev.call G_signed g9 (.cons (Ev.name l5) (.cons (Ev.name l3) .nil)) (con_signed hk.le hk.pos)) .nil))) (hu _ _)) trivial))))).congr (by rw [sg_of_mod, sg_of_mod])
theorem hol_u {f : Int → Int → Bool} (hk : Sz k) (h1 : (op == ("eq" : Str)) = false) (h2 : (op == ("ne" : Str)) = false) (h3 : (op == ("set" : Str)) = false) (h4 : (([("sgt" : Str), "sge", "slt", "sle"] : List Str).any fun y => y == op) = false)
    (hu : ∀ a b, Con (.ref 169) 1 [.str op, .int a, .int b] (.bool (f a b))) : Con (.ref 176) 5 [.str op, .int a, .int b, .int k] (.bool (f (a % 2 ^ k) (b % 2 ^ k))) :=
  holds_of hk fun c => Ex.thenF (ts (Ev.name l0) h1) (Ex.thenF (ts (Ev.name l0) h2) (Ex.thenF (ts (Ev.name l0) h3) (Ex.thenF (Tst.sin (Ev.name l0) (Ev.stup (.cons Ev.cstr (.cons Ev.cstr (.cons Ev.cstr (.cons Ev.cstr .nil)))) (by decide)) h4)
    (Ex.assign (Ev.call G_unsigned_holds g8 (.cons (Ev.name l0) (.cons (Ev.name l4) (.cons (Ev.name l5) .nil))) (hu _ _)) trivial q6 trivial
      (Ex.thenF (Tst.cmp (Ev.name l6) Ev.cnone op_isnone rfl) (Ex.ret (Ev.name l6) trivial))))))
def conds : List Str := ["eq", "gt", "ge", "set", "ne", "sgt", "sge", "lt", "le", "slt", "sle"]
def holdsV (op : Str) (a b : Int) (k : Nat) : Bool :=
  if op = ("eq" : Str) then a % 2 ^ k == b % 2 ^ k else if op = ("ne" : Str) then a % 2 ^ k != b % 2 ^ k else if op = ("set" : Str) then Builtin.bitAnd (a % 2 ^ k) (b % 2 ^ k) != 0
  else if op = ("gt" : Str) then decide (b % 2 ^ k < a % 2 ^ k) else if op = ("ge" : Str) then decide (b % 2 ^ k ≤ a % 2 ^ k) else if op = ("lt" : Str) then decide (a % 2 ^ k < b % 2 ^ k) else if op = ("le" : Str) then decide (a % 2 ^ k ≤ b % 2 ^ k)
  else if op = ("sgt" : Str) then decide (sg b k < sg a k) else if op = ("sge" : Str) then decide (sg b k ≤ sg a k) else if op = ("slt" : Str) then decide (sg a k < sg b k) else decide (sg a k ≤ sg b k)
theorem Con.bool {g : Value} {n : Nat} {ds : List V} {i j : Bool} (h : Con g n ds (.bool i)) (q : i = j) : Con g n ds (.bool j) := q ▸ h
theorem con_holds (hk : Sz k) (h : op ∈ conds) : Con (.ref 176) 5 [.str op, .int a, .int b, .int k] (.bool (holdsV op a b k)) := by
  unfold conds at h
  simp only [List.mem_cons, List.not_mem_nil, or_false] at h
  rcases h with rfl | rfl | rfl | rfl | rfl | rfl | rfl | rfl | rfl | rfl | rfl
  · exact (hol_eq hk).bool (if_pos rfl).symm
  · exact (hol_u (f := fun a b => decide (b < a)) hk (by decide) (by decide) (by decide) (by decide) fun _ _ => uh_gt).bool rfl
  · exact (hol_u (f := fun a b => decide (b ≤ a)) hk (by decide) (by decide) (by decide) (by decide) fun _ _ => uh_ge).bool rfl
  · exact (hol_set hk).bool rfl
  · exact (hol_ne hk).bool rfl
  · exact (hol_s (op' := "gt") (f := fun a b => decide (b < a)) hk (by decide) (by decide) (by decide) (by decide) (by decide) (by decide +kernel) fun _ _ => uh_gt).bool rfl
  · exact (hol_s (op' := "ge") (f := fun a b => decide (b ≤ a)) hk (by decide) (by decide) (by decide) (by decide) (by decide) (by decide +kernel) fun _ _ => uh_ge).bool rfl
  · exact (hol_u (f := fun a b => decide (a < b)) hk (by decide) (by decide) (by decide) (by decide) fun _ _ => uh_lt).bool rfl
  · exact (hol_u (f := fun a b => decide (a ≤ b)) hk (by decide) (by decide) (by decide) (by decide) fun _ _ => uh_le).bool rfl
  · exact (hol_s (op' := "lt") (f := fun a b => decide (a < b)) hk (by decide) (by decide) (by decide) (by decide) (by decide) (by decide +kernel) fun _ _ => uh_lt).bool rfl
  · exact (hol_s (op' := "le") (f := fun a b => decide (a ≤ b)) hk (by decide) (by decide) (by decide) (by decide) (by decide) (by decide +kernel) fun _ _ => uh_le).bool rfl
end
end Mine
end

section
open PySem PySem.W PyProof.Rows PySem.Calls
set_option maxHeartbeats 1000000
namespace Mine
section
variable {a b x : Int} {k w : Nat} {op pl : Str}
theorem atom_of {d : V} (hk : Sz (8 * w)) (h : ∀ c, Ex φ_atomic_worth c 6 [some (.str op), some (.int a), some (.int b), some (.int x), some (.int w), some (.int ((8 * w : Nat) : Int)), some (.int (a % 2 ^ (8 * w))), some (.int (b % 2 ^ (8 * w))), none] .none b_atomic_worth.tail.tail (.ret d .none)) : Con (.ref 183) 7 [.str op, .int a, .int b, .int x, .int w] d :=
  Con.of0 F_atomic_worth 4 (ρ := [some (.str op), some (.int a), some (.int b), some (.int x), some (.int w), none, none, none, none]) rfl rfl rfl fun c =>
    Ex.assign (ev_w8 l4) trivial q5 trivial
    (Ex.assign2 (.cons (Ev.call G_wrap g9 (.cons (Ev.name l1) (.cons (Ev.name l5) .nil)) (con_wrap hk.le)) (.cons (Ev.call G_wrap g9 (.cons (Ev.name l2) (.cons (Ev.name l5) .nil)) (con_wrap hk.le)) .nil)) trivial trivial q7 q6 trivial trivial (fun _ => rfl) (h c))
theorem atom_xchg (hk : Sz (8 * w)) : Con (.ref 183) 7 [.str "xchg", .int a, .int b, .int x, .int w] (.int (b % 2 ^ (8 * w))) :=
  atom_of hk fun c => Ex.thenT (ts (Ev.name l0) (by decide)) (Ex.ret (Ev.name l7) trivial)
theorem atom_cmp (hk : Sz (8 * w)) : Con (.ref 183) 7 [.str "cmpxchg", .int a, .int b, .int x, .int w] (.int (if a % 2 ^ (8 * w) == x % 2 ^ (8 * w) then b % 2 ^ (8 * w) else a % 2 ^ (8 * w))) :=
  atom_of hk fun c => Ex.thenF (ts (Ev.name l0) (by decide)) (Ex.thenT (ts (Ev.name l0) (by decide)) (Ex.ret (Ev.iteI (Tst.cmp (Ev.name l6) (Ev.call G_wrap g9 (.cons (Ev.name l3) (.cons (Ev.name l5) .nil)) (con_wrap hk.le)) op_eq rfl) (fun _ => Ev.name l7) (fun _ => Ev.name l6)) trivial))
theorem atom_tail {c : Cx} (hk : Sz (8 * w)) (hm : (([("add" : Str), "or", "and", "xor"] : List Str).any fun y => y == pl) = true) (hd : pl ∈ deeds) : Ex φ_atomic_worth c 6 [some (.str op), some (.int a), some (.int b), some (.int x), some (.int w), some (.int ((8 * w : Nat) : Int)), some (.int (a % 2 ^ (8 * w))), some (.int (b % 2 ^ (8 * w))), some (.str pl)] .none
    b_atomic_worth.tail.tail.tail.tail.tail (.ret (.int (aluV pl (a % 2 ^ (8 * w)) (b % 2 ^ (8 * w)) (8 * w) false % 2 ^ (8 * w))) .none) :=
  Ex.thenT (Tst.sin (Ev.name l8) (Ev.stup (.cons Ev.cstr (.cons Ev.cstr (.cons Ev.cstr (.cons Ev.cstr .nil)))) (by decide)) hm) (Ex.ret (Ev.call G_alu_worth g10 (.cons (Ev.name l8) (.cons (Ev.name l6) (.cons (Ev.name l7) (.cons (Ev.name l5) .nil)))) (con_alu_d hk hd)) trivial)
theorem atom_plain (hk : Sz (8 * w)) (h1 : (op == ("xchg" : Str)) = false) (h2 : (op == ("cmpxchg" : Str)) = false) {u : Str} (hl : op.length ≤ 100) (hu : Txt.slice op none (some 6) = u) (h3 : (u == ("fetch_" : Str)) = false)
    (hm : (([("add" : Str), "or", "and", "xor"] : List Str).any fun y => y == op) = true) (hd : op ∈ deeds) : Con (.ref 183) 7 [.str op, .int a, .int b, .int x, .int w] (.int (aluV op (a % 2 ^ (8 * w)) (b % 2 ^ (8 * w)) (8 * w) false % 2 ^ (8 * w))) :=
  atom_of hk fun c => Ex.thenF (ts (Ev.name l0) h1) (Ex.thenF (ts (Ev.name l0) h2) (Ex.assign (Ev.ifexp (Tst.seq (Ev.supto1 l0 hl hu) Ev.cstr h3) (fun e => nomatch e) (fun _ => Ev.name l0)) trivial q8 trivial (atom_tail hk hm hd)))
theorem atom_fetch (hk : Sz (8 * w)) (h1 : (op == ("xchg" : Str)) = false) (h2 : (op == ("cmpxchg" : Str)) = false) {u : Str} (hl : op.length ≤ 100) (hu : Txt.slice op none (some 6) = u) (h3 : (u == ("fetch_" : Str)) = true) (hp : Txt.slice op (some 6) none = pl)
    (hm : (([("add" : Str), "or", "and", "xor"] : List Str).any fun y => y == pl) = true) (hd : pl ∈ deeds) : Con (.ref 183) 7 [.str op, .int a, .int b, .int x, .int w] (.int (aluV pl (a % 2 ^ (8 * w)) (b % 2 ^ (8 * w)) (8 * w) false % 2 ^ (8 * w))) :=
  atom_of hk fun c => Ex.thenF (ts (Ev.name l0) h1) (Ex.thenF (ts (Ev.name l0) h2) (Ex.assign (Ev.ifexp (Tst.seq (Ev.supto1 l0 hl hu) Ev.cstr h3) (fun _ => Ev.sfrom1 l0 hl hp) (fun e => nomatch e)) trivial q8 trivial (atom_tail hk hm hd)))
def atoms : List Str := ["cmpxchg", "xchg", "add", "or", "and", "xor", "fetch_add", "fetch_or", "fetch_and", "fetch_xor"]
/-- the deed of an atomic name -/
def atomD (op : Str) : Str := if op.length > 6 then Txt.slice op (some 6) none else op
def atomV (op : Str) (a b x : Int) (k : Nat) : Int :=
  if op = ("xchg" : Str) then b % 2 ^ k else if op = ("cmpxchg" : Str) then (if a % 2 ^ k == x % 2 ^ k then b % 2 ^ k else a % 2 ^ k) else aluV (atomD op) (a % 2 ^ k) (b % 2 ^ k) k false % 2 ^ k
theorem con_atomic (hk : Sz (8 * w)) (h : op ∈ atoms) : Con (.ref 183) 7 [.str op, .int a, .int b, .int x, .int w] (.int (atomV op a b x (8 * w))) := by
  unfold atoms at h
  simp only [List.mem_cons, List.not_mem_nil, or_false] at h
  rcases h with rfl | rfl | rfl | rfl | rfl | rfl | rfl | rfl | rfl | rfl
  · exact (atom_cmp hk).int rfl
  · exact (atom_xchg hk).int rfl
  · exact (atom_plain (op := "add") hk (by decide) (by decide) (by decide) rfl (by decide +kernel) (by decide) (by decide)).int rfl
  · exact (atom_plain (op := "or") hk (by decide) (by decide) (by decide) rfl (by decide +kernel) (by decide) (by decide)).int rfl
  · exact (atom_plain (op := "and") hk (by decide) (by decide) (by decide) rfl (by decide +kernel) (by decide) (by decide)).int rfl
  · exact (atom_plain (op := "xor") hk (by decide) (by decide) (by decide) rfl (by decide +kernel) (by decide) (by decide)).int rfl
  · exact (atom_fetch (op := "fetch_add") (pl := "add") hk (by decide) (by decide) (by decide) rfl (by decide +kernel) (by decide +kernel) (by decide) (by decide)).int rfl
  · exact (atom_fetch (op := "fetch_or") (pl := "or") hk (by decide) (by decide) (by decide) rfl (by decide +kernel) (by decide +kernel) (by decide) (by decide)).int rfl
  · exact (atom_fetch (op := "fetch_and") (pl := "and") hk (by decide) (by decide) (by decide) rfl (by decide +kernel) (by decide +kernel) (by decide) (by decide)).int rfl
  · exact (atom_fetch (op := "fetch_xor") (pl := "xor") hk (by decide) (by decide) (by decide) rfl (by decide +kernel) (by decide +kernel) (by decide) (by decide)).int rfl
end
end Mine
end

section
open PySem PySem.W PyProof.Rows PySem.Calls
set_option maxHeartbeats 1000000
namespace Mine
-- places of a list
theorem fm_range (l : List Int) (a : Nat) : ∀ n, ((List.range n).map (fun k => a + k)).filterMap (l[·]?) = (l.drop a).take n
  | 0 => rfl
  | n + 1 => by
    rw [List.range_succ, List.map_append, List.filterMap_append, fm_range l a n, List.take_add_one, List.getElem?_drop]
    congr 1
theorem sr_up {a b : Nat} (h : a ≤ b) : sliceRange a b 1 = (List.range (b - a)).map (fun k => a + k) := by
  unfold sliceRange
  have e : (if (1 : Int) > 0 then (if (a : Int) < b then ((b : Int) - a + 1 - 1) / 1 else 0) else (if (a : Int) > b then ((a : Int) - b - 1 - 1) / (-1) else 0)).toNat = b - a := by
    rw [if_pos (by decide)]
    split
    · rw [Int.ediv_one]; omega
    · omega
  simp only [e]
  refine List.map_congr_left fun k _ => ?_
  omega
theorem pick_ab {l : List Int} {a b : Nat} (h : a ≤ b) (hb : b ≤ l.length) : pickNums l (some (a : Int)) (some (b : Int)) none = (l.drop a).take (b - a) := by
  have e : sliceBounds (some (a : Int)) (some (b : Int)) none l.length = ((a : Int), (b : Int), 1) := by
    unfold sliceBounds
    simp only [Option.getD_none]
    have h1 : ¬ ((a : Int) < 0) := by omega
    have h2 : ¬ ((b : Int) < 0) := by omega
    simp only [h1, h2, if_false, show (1 : Int) > 0 by decide, if_true]
    rw [show min (a : Int) l.length = a by omega, show min (b : Int) l.length = b by omega, show max (0 : Int) a = a by omega, show max (0 : Int) b = b by omega]
  unfold pickNums
  rw [e]
  exact (congrArg _ (sr_up h)).trans (fm_range l a _)
theorem pick_to {l : List Int} {b : Nat} (hb : b ≤ l.length) : pickNums l none (some (b : Int)) none = l.take b := by
  have e : sliceBounds none (some (b : Int)) none l.length = (((0 : Nat) : Int), (b : Int), 1) := by
    unfold sliceBounds
    simp only [Option.getD_none]
    have h2 : ¬ ((b : Int) < 0) := by omega
    simp only [h2, if_false, show (1 : Int) > 0 by decide, if_true]
    rw [show min (b : Int) l.length = b by omega, show max (0 : Int) b = b by omega]
    rfl
  unfold pickNums
  rw [e]
  exact (congrArg _ (sr_up (Nat.zero_le _))).trans (fm_range l 0 _)
theorem pick_from {l : List Int} {a : Nat} (ha : a ≤ l.length) : pickNums l (some (a : Int)) none none = l.drop a := by
  have e : sliceBounds (some (a : Int)) none none l.length = ((a : Int), ((l.length : Nat) : Int), 1) := by
    unfold sliceBounds
    simp only [Option.getD_none]
    have h1 : ¬ ((a : Int) < 0) := by omega
    simp only [h1, if_false, show (1 : Int) > 0 by decide, if_true]
    rw [show min (a : Int) l.length = a by omega, show max (0 : Int) a = a by omega]
  unfold pickNums
  rw [e]
  refine ((congrArg _ (sr_up ha)).trans (fm_range l a _)).trans ?_
  exact List.take_of_length_le (by rw [List.length_drop]; exact Nat.le_refl _)
theorem pick_neg {l : List Int} (h : 1 ≤ l.length) : pickNums l none (some (-1)) none = l.take (l.length - 1) := by
  have e : sliceBounds none (some (-1)) none l.length = (((0 : Nat) : Int), ((l.length - 1 : Nat) : Int), 1) := by
    unfold sliceBounds
    simp only [Option.getD_none]
    simp only [show (-1 : Int) < 0 by decide, if_true, show (1 : Int) > 0 by decide]
    rw [show max (0 : Int) (min (-1 + (l.length : Int)) l.length) = ((l.length - 1 : Nat) : Int) by omega]
    rfl
  unfold pickNums
  rw [e]
  exact (congrArg _ (sr_up (Nat.zero_le _))).trans (fm_range l 0 _)
theorem fm_down (l : List Int) : ∀ n, n ≤ l.length → ((List.range n).map (fun k => n - 1 - k)).filterMap (l[·]?) = (l.take n).reverse
  | 0, _ => rfl
  | n + 1, h => by
    rw [List.range_succ_eq_map, List.map_cons, List.map_map, List.filterMap_cons]
    have e : ((fun k => n + 1 - 1 - k) ∘ Nat.succ) = (fun k => n - 1 - k) := by funext k; simp only [Function.comp]; omega
    rw [e, fm_down l n (by omega), List.take_add_one, List.reverse_append]
    have hn : n < l.length := by omega
    simp [hn]
theorem pick_rev {l : List Int} : pickNums l none none (some (-1)) = l.reverse := by
  have e : sliceBounds none none (some (-1)) l.length = ((l.length : Int) - 1, -1, -1) := by
    unfold sliceBounds
    simp only [Option.getD_some, show ¬ ((-1 : Int) > 0) by decide, if_false]
  unfold pickNums
  rw [e]
  have e2 : sliceRange ((l.length : Int) - 1) (-1) (-1) = (List.range l.length).map (fun k => l.length - 1 - k) := by
    unfold sliceRange
    have e3 : (if (-1 : Int) > 0 then (if ((l.length : Int) - 1) < -1 then (-1 - ((l.length : Int) - 1) + -1 - 1) / -1 else 0) else (if ((l.length : Int) - 1) > -1 then (((l.length : Int) - 1) - -1 - -1 - 1) / (- -1) else 0)).toNat = l.length := by
      rw [if_neg (by decide)]
      split
      · rw [show (- -1 : Int) = 1 by decide, Int.ediv_one]; omega
      · omega
    simp only [e3]
    refine List.map_congr_left fun k _ => ?_
    omega
  refine ((congrArg _ e2).trans (fm_down l l.length (Nat.le_refl _))).trans ?_
  rw [List.take_length]
end Mine
end

section
open PySem PySem.W PyProof.Rows PySem.Calls
set_option maxHeartbeats 1000000
namespace Mine
-- rows of bits
def whole : List Int → Int
  | [] => 0
  | b :: r => b + 2 * whole r
theorem whole_foldr (l : List Int) : l.foldr (fun b s => 2 * s + b) 0 = whole l := by
  induction l with
  | nil => rfl
  | cons b r ih => rw [List.foldr_cons, ih]; show 2 * whole r + b = b + 2 * whole r; omega
theorem whole_rev (l : List Int) : stL (fun s b => 2 * s + b) 0 l.reverse l.reverse.length = whole l := by
  rw [stL_foldl, List.foldl_reverse, whole_foldr]
def bitsOf (w : Int) : Nat → List Int
  | 0 => []
  | k + 1 => w % 2 :: bitsOf (w / 2) k
theorem bitsOf_len (w : Int) (k : Nat) : (bitsOf w k).length = k := by
  induction k generalizing w with
  | zero => rfl
  | succ k ih => unfold bitsOf; rw [List.length_cons, ih]
theorem bitsOf_snoc (w : Int) (k : Nat) : bitsOf w (k + 1) = bitsOf w k ++ [w / 2 ^ k % 2] := by
  induction k generalizing w with
  | zero => simp [bitsOf]
  | succ k ih =>
    rw [bitsOf, ih, bitsOf, List.cons_append]
    congr 3
    rw [Int.pow_succ', Int.ediv_ediv_of_nonneg (by decide : (0 : Int) ≤ 2)]
def Bits (l : List Int) : Prop := ∀ b ∈ l, b = 0 ∨ b = 1
theorem Bits.cons {b : Int} {l : List Int} (h : Bits (b :: l)) : (b = 0 ∨ b = 1) ∧ Bits l := ⟨h b (.head _), fun x hx => h x (.tail _ hx)⟩
theorem Bits.mk {b : Int} {l : List Int} (h : b = 0 ∨ b = 1) (k : Bits l) : Bits (b :: l) := fun x hx => by
  rcases List.mem_cons.mp hx with rfl | hx
  · exact h
  · exact k x hx
theorem Bits.nil : Bits [] := fun _ h => nomatch h
theorem bit_mod (w : Int) : w % 2 = 0 ∨ w % 2 = 1 := by omega
theorem bitsOf_bits (w : Int) (k : Nat) : Bits (bitsOf w k) := by
  induction k generalizing w with
  | zero => exact .nil
  | succ k ih => exact .mk (bit_mod w) (ih _)
theorem mod_step (w : Int) (k : Nat) : w % 2 ^ (k + 1) = w % 2 + 2 * (w / 2 % 2 ^ k) := by
  have h1 := Int.emod_add_mul_ediv w 2
  have h2 := Int.emod_add_mul_ediv (w / 2) (2 ^ k)
  have h0 := mod_lo (w / 2) k
  have h3 := mod_hi (w / 2) k
  have h4 := Int.emod_nonneg w (by decide : (2 : Int) ≠ 0)
  have h5 := Int.emod_lt_of_pos w (by decide : (0 : Int) < 2)
  have e : w = (w % 2 + 2 * (w / 2 % 2 ^ k)) + 2 ^ (k + 1) * (w / 2 / 2 ^ k) := by
    rw [Int.pow_succ']
    have : 2 * 2 ^ k * (w / 2 / 2 ^ k) = 2 * (2 ^ k * (w / 2 / 2 ^ k)) := Int.mul_assoc ..
    omega
  have hp : (2 : Int) ^ (k + 1) = 2 * 2 ^ k := Int.pow_succ' ..
  conv => lhs; rw [e]
  rw [Int.add_mul_emod_self_left]
  exact mod_small (by omega) (by omega)
theorem whole_bitsOf (w : Int) (k : Nat) : whole (bitsOf w k) = w % 2 ^ k := by
  induction k generalizing w with
  | zero => simp [bitsOf, whole, Int.emod_one]
  | succ k ih =>
    unfold bitsOf whole
    rw [ih, mod_step]
theorem whole_rng {l : List Int} (h : Bits l) : 0 ≤ whole l ∧ whole l < 2 ^ l.length := by
  induction l with
  | nil => exact ⟨Int.le_refl _, by show (0 : Int) < 2 ^ 0; decide⟩
  | cons b r ih =>
    have := ih h.cons.2
    unfold whole
    rw [List.length_cons, Int.pow_succ']
    rcases h.cons.1 with rfl | rfl <;> omega
theorem bitsOf_whole {l : List Int} (h : Bits l) : bitsOf (whole l) l.length = l := by
  induction l with
  | nil => rfl
  | cons b r ih =>
    rw [List.length_cons]
    unfold bitsOf whole
    have e1 : (b + 2 * whole r) % 2 = b := by rcases h.cons.1 with rfl | rfl <;> omega
    have e2 : (b + 2 * whole r) / 2 = whole r := by rcases h.cons.1 with rfl | rfl <;> omega
    rw [e1, e2, ih h.cons.2]
theorem bitsOf_mod (w : Int) (k : Nat) : bitsOf (w % 2 ^ k) k = bitsOf w k := by
  have := bitsOf_whole (bitsOf_bits w k)
  rwa [whole_bitsOf, bitsOf_len] at this
theorem whole_inj {l r : List Int} (h : Bits l) (k : Bits r) (hl : l.length = r.length) (e : whole l = whole r) : l = r := by
  rw [← bitsOf_whole h, ← bitsOf_whole k, e, hl]
theorem bitsS_is (x : Int) : ∀ i, bitsS x i = (x / 2 ^ i, bitsOf x i)
  | 0 => by show (x, []) = _; simp [bitsOf]
  | i + 1 => by
    show ((bitsS x i).1.fdiv 2, (bitsS x i).2 ++ [(bitsS x i).1.fmod 2]) = _
    rw [bitsS_is x i, bitsOf_snoc, Int.fdiv_eq_ediv_of_nonneg _ (by decide), Int.fmod_eq_emod_of_nonneg _ (by decide), Int.ediv_ediv_of_nonneg (Int.le_of_lt (two_pow_pos i)), Int.pow_succ]
theorem con_bits {w : Int} {k : Nat} (hk : k ≤ 64) : Con (.ref 218) 1 [.int w, .int k] (.li (bitsOf w k)) :=
  (walk_bits hk).congr (by rw [bitsS_is, Int.fmod_eq_emod_of_nonneg _ (Int.le_of_lt (two_pow_pos k)), bitsOf_mod])
end Mine
end

section
open PySem PySem.W PyProof.Rows PySem.Calls
set_option maxHeartbeats 1000000
namespace Mine
def sumL : List Int → List Int → Int → List Int
  | a :: r, b :: s, c => (a + b + c) % 2 :: sumL r s ((a + b + c) / 2)
  | _, _, _ => []
theorem sumL_len : ∀ (l r : List Int) (c : Int), l.length = r.length → (sumL l r c).length = l.length
  | [], _, _, _ => rfl
  | a :: l, b :: r, c, h => by
    show (_ :: sumL l r _).length = _
    rw [List.length_cons, sumL_len l r _ (by simpa using h)]; rfl
theorem sumL_bits : ∀ (l r : List Int) (c : Int), Bits (sumL l r c)
  | [], _, _ => .nil
  | _ :: _, [], _ => .nil
  | a :: l, b :: r, c => .mk (bit_mod _) (sumL_bits l r _)
theorem whole_sumL : ∀ (l r : List Int) (c : Int), l.length = r.length → whole (sumL l r c) = (whole l + whole r + c) % 2 ^ l.length
  | [], r, c, h => by
    have : r = [] := by cases r with | nil => rfl | cons => cases h
    subst this
    show (0 : Int) = (0 + 0 + c) % 2 ^ 0
    rw [Int.pow_zero, Int.emod_one]
  | a :: l, b :: r, c, h => by
    show (a + b + c) % 2 + 2 * whole (sumL l r _) = ((a + 2 * whole l) + (b + 2 * whole r) + c) % 2 ^ (l.length + 1)
    rw [whole_sumL l r _ (by simpa using h), mod_step]
    have e1 : (a + 2 * whole l + (b + 2 * whole r) + c) % 2 = (a + b + c) % 2 := by omega
    have e2 : (a + 2 * whole l + (b + 2 * whole r) + c) / 2 = whole l + whole r + (a + b + c) / 2 := by omega
    rw [e1, e2]
abbrev sf (s : List Int × Int) (a b : Int) : List Int × Int := (s.1 ++ [(a + b + s.2).fmod 2], (a + b + s.2).fdiv 2)
theorem sum_st : ∀ (l r acc : List Int) (c : Int), l.length = r.length → (stZ sf (acc, c) l r l.length).1 = acc ++ sumL l r c
  | [], _, acc, c, _ => by show acc = acc ++ []; simp
  | a :: l, b :: r, acc, c, h => by
    rw [List.length_cons, stZ_cons]
    show (stZ sf (acc ++ [(a + b + c).fmod 2], (a + b + c).fdiv 2) l r l.length).1 = acc ++ (_ :: sumL l r _)
    rw [sum_st l r _ _ (by simpa using h), Int.fmod_eq_emod_of_nonneg _ (by decide), Int.fdiv_eq_ediv_of_nonneg _ (by decide), List.append_assoc]; rfl
theorem whole_not {l : List Int} : whole (l.map (fun b => 1 - b)) = 2 ^ l.length - 1 - whole l := by
  induction l with
  | nil => rfl
  | cons b r ih =>
    show (1 - b) + 2 * whole (r.map (fun b => 1 - b)) = 2 ^ (r.length + 1) - 1 - (b + 2 * whole r)
    rw [ih, Int.pow_succ']; omega
theorem whole_zeros (n : Nat) : whole (List.replicate n 0) = 0 := by
  induction n with
  | zero => rfl
  | succ n ih => show 0 + 2 * whole (List.replicate n 0) = 0; rw [ih]; rfl
theorem not_bits {l : List Int} (h : Bits l) : Bits (l.map (fun b => 1 - b)) := fun x hx => by
  obtain ⟨b, hb, rfl⟩ := List.mem_map.mp hx
  rcases h b hb with rfl | rfl
  · exact .inr rfl
  · exact .inl rfl
def tsign (l : List Int) : List Int := sumL (l.map (fun b => 1 - b)) (List.replicate l.length 0) 1
theorem tsign_len (l : List Int) : (tsign l).length = l.length := by
  unfold tsign; rw [sumL_len _ _ _ (by simp)]; simp
theorem tsign_bits (l : List Int) : Bits (tsign l) := sumL_bits _ _ _
theorem whole_tsign (l : List Int) : whole (tsign l) = (-whole l) % 2 ^ l.length := by
  unfold tsign
  rw [whole_sumL _ _ _ (by simp), whole_not, whole_zeros, List.length_map]
  have : (2 ^ l.length - 1 - whole l + 0 + 1 : Int) = -whole l + 2 ^ l.length := by omega
  rw [this, Int.add_emod_right]
theorem whole_snoc (l : List Int) (b : Int) : whole (l ++ [b]) = whole l + b * 2 ^ l.length := by
  induction l with
  | nil => show b + 2 * 0 = 0 + b * 2 ^ 0; omega
  | cons a r ih =>
    show a + 2 * whole (r ++ [b]) = a + 2 * whole r + b * 2 ^ (r.length + 1)
    rw [ih, Int.pow_succ', Int.mul_add, ← Int.mul_assoc, ← Int.mul_assoc, Int.mul_comm 2 b, Int.add_assoc]
def prodS (t : Int) (l : List Int) : Nat → Int := stR (fun s i => if l.getD i 0 == 1 then s + t * 2 ^ i else s) 0
theorem prodS_is (t : Int) (l : List Int) (h : Bits l) : ∀ i, i ≤ l.length → prodS t l i = t * whole (l.take i)
  | 0, _ => by show (0 : Int) = t * 0; simp
  | i + 1, hi => by
    show (if l.getD i 0 == 1 then prodS t l i + t * 2 ^ i else prodS t l i) = _
    have hl : i < l.length := hi
    rw [prodS_is t l h i (by omega), List.take_add_one, List.getElem?_eq_getElem hl]
    simp only [Option.toList_some, List.getD, List.getElem?_eq_getElem hl, Option.getD_some]
    rw [whole_snoc, List.length_take, Nat.min_eq_left (by omega)]
    rcases h _ (List.getElem_mem hl) with e | e <;> rw [e] <;> simp [Int.mul_add]
-- the division, bit by bit
abbrev pf (by' : Int) (s : Int × List Int) (b : Int) : Int × List Int := (if decide (by' ≤ 2 * s.1 + b) then 2 * s.1 + b - by' else 2 * s.1 + b, s.2 ++ [if decide (by' ≤ 2 * s.1 + b) then 1 else 0])
theorem part_fold {d : Int} (hd : 0 < d) : ∀ (l : List Int) (v : Int) (s : Int × List Int), Bits l → 0 ≤ v → s.1 = v % d → whole s.2.reverse = v / d → Bits s.2 →
    (l.foldl (pf d) s).1 = (l.foldl (fun s b => 2 * s + b) v) % d ∧ whole (l.foldl (pf d) s).2.reverse = (l.foldl (fun s b => 2 * s + b) v) / d ∧ Bits (l.foldl (pf d) s).2 ∧ (l.foldl (pf d) s).2.length = s.2.length + l.length
  | [], v, s, _, _, h1, h2, h3 => ⟨h1, h2, h3, rfl⟩
  | b :: l, v, s, hb, hv, h1, h2, h3 => by
    have hm := Int.emod_add_mul_ediv v d
    have m0 := Int.emod_nonneg v (by omega : d ≠ 0)
    have m1 := Int.emod_lt_of_pos v hd
    have hbb := hb.cons.1
    have hq : (2 * v + b) / d = 2 * (v / d) + (if d ≤ 2 * (v % d) + b then 1 else 0) ∧ (2 * v + b) % d = (if d ≤ 2 * (v % d) + b then 2 * (v % d) + b - d else 2 * (v % d) + b) := by
      have e : 2 * v + b = (if d ≤ 2 * (v % d) + b then 2 * (v % d) + b - d else 2 * (v % d) + b) + d * (2 * (v / d) + (if d ≤ 2 * (v % d) + b then 1 else 0)) := by
        rw [Int.mul_add]
        have : d * (2 * (v / d)) = 2 * (d * (v / d)) := by rw [← Int.mul_assoc, Int.mul_comm d 2, Int.mul_assoc]
        rw [this]
        split <;> omega
      have r0 : 0 ≤ (if d ≤ 2 * (v % d) + b then 2 * (v % d) + b - d else 2 * (v % d) + b) := by split <;> omega
      have r1 : (if d ≤ 2 * (v % d) + b then 2 * (v % d) + b - d else 2 * (v % d) + b) < d := by split <;> omega
      constructor
      · conv => lhs; rw [e]
        rw [Int.add_mul_ediv_left _ _ (by omega), Int.ediv_eq_zero_of_lt r0 r1]; omega
      · conv => lhs; rw [e]
        rw [Int.add_mul_emod_self_left, Int.emod_eq_of_lt r0 r1]
    have := part_fold hd l (2 * v + b) (pf d s b) hb.cons.2 (by omega) (by
        show (if decide (d ≤ 2 * s.1 + b) then 2 * s.1 + b - d else 2 * s.1 + b) = _
        rw [h1, hq.2]; simp only [decide_eq_true_eq]) (by
        show whole (s.2 ++ [if decide (d ≤ 2 * s.1 + b) then 1 else 0]).reverse = _
        rw [List.reverse_append, h1, hq.1]
        show (if decide (d ≤ 2 * (v % d) + b) then 1 else 0) + 2 * whole s.2.reverse = _
        rw [h2]; simp only [decide_eq_true_eq]; omega) (fun x hx => by
        rcases List.mem_append.mp hx with q | q
        · exact h3 x q
        · rw [List.mem_singleton.mp q]
          split
          · exact .inr rfl
          · exact .inl rfl)
    refine ⟨this.1, this.2.1, this.2.2.1, this.2.2.2.trans ?_⟩
    show (s.2 ++ [_]).length + l.length = s.2.length + (l.length + 1)
    rw [List.length_append, List.length_singleton]; omega
def partS (d : Int) (l : List Int) : Nat → Int × List Int := stL (pf d) (0, []) l
theorem partS_is {d : Int} (hd : 0 < d) {l : List Int} (h : Bits l) : (partS d l.reverse l.reverse.length).1 = whole l % d ∧ whole (partS d l.reverse l.reverse.length).2.reverse = whole l / d ∧ Bits (partS d l.reverse l.reverse.length).2 ∧ (partS d l.reverse l.reverse.length).2.length = l.length := by
  have hr : Bits l.reverse := fun x hx => h x (List.mem_reverse.mp hx)
  have := part_fold hd l.reverse 0 (0, []) hr (Int.le_refl _) (by simp) (by simp [whole]) .nil
  unfold partS
  rw [stL_foldl]
  have e : l.reverse.foldl (fun s b => 2 * s + b) 0 = whole l := by rw [List.foldl_reverse, whole_foldr]
  rw [e] at this
  refine ⟨this.1, this.2.1, this.2.2.1, this.2.2.2.trans ?_⟩
  simp
end Mine
end

section
open PySem PySem.W PyProof.Rows PySem.Calls
set_option maxHeartbeats 1000000
namespace Mine
section
variable {l r : List Int} {x y : Int} {k : Nat}
theorem two_ok {x : Int} : IntMulOk 2 x := IntMulOk.of_left (by decide)
theorem con_whole (hl : l.length ≤ 1000) : Con (.ref 225) 1 [.li l] (.int (whole l)) :=
  (Con.of0 F_law_whole 2 (ρ := [some (.li l), none, none]) rfl rfl rfl fun c =>
    Ex.assign Ev.cint trivial q1 trivial
    (Ex.forList (l := l.reverse) (S := fun i => [some (.li l), some (.int (stL (fun s b => 2 * s + b) 0 l.reverse i)), none]) (gs := fun _ => .none) ((Ev.sliceRev (Ev.name l0) hl).congr (by rw [pick_rev])) trivial (fun i => q2) (fun _ => trivial) (fun _ => rfl) (fun _ => rfl)
      (fun i hi => Ex.assign (Ev.bin (Ev.bin Ev.cint (Ev.name l1) (op_mul two_ok)) (Ev.name l2) op_add) trivial q1 trivial Ex.nil)
      (fun i => .keep (.keep (.drop .nil))) (Ex.ret (Ev.name l1) trivial))).int (whole_rev l)
theorem stZ_len (l r : List Int) (x : Int) : ∀ i, (stZ sf ([], x) l r i).1.length = i
  | 0 => rfl
  | i + 1 => by
    show ((stZ sf ([], x) l r i).1 ++ [_]).length = _
    rw [List.length_append, stZ_len l r x i]; rfl
theorem con_sum (hl : l.length = r.length) (h0 : l ≠ []) (hk : l.length ≤ 1000) : Con (.ref 232) 1 [.li l, .li r, .int x] (.li (sumL l r x)) :=
  (Con.of0 F_law_sum 4 (ρ := [some (.li l), some (.li r), some (.int x), none, none, none, none]) rfl rfl rfl fun c =>
    Ex.newrow g3 (look_none F_law_sum.ok.nd (i := 3) ⟨_, rfl⟩ rfl) fun a =>
    Ex.forZip (S := fun i => [some (.li l), some (.li r), some (.int (stZ sf ([], x) l r i).2), none, none, none, none]) (gs := fun i => .row "row" a (stZ sf ([], x) l r i).1) g7 (.cons (Ev.name l0) (.cons (Ev.name l1) .nil)) (.inr ⟨l, rfl, h0⟩) (.inr ⟨r, rfl, fun e => h0 (List.length_eq_zero_iff.mp (by rw [hl, e]; rfl))⟩) hl
      (fun i => q4) (fun i => q5) (fun i => aw (by decide)) (fun i => aw (by decide)) (fun _ => rfl) (fun _ => rfl)
      (fun i hi => Ex.assign (Ev.bin (Ev.bin (Ev.name l4) (Ev.name l5) op_add) (Ev.name l2) op_add) (.inl rfl) q6 (aw (by decide))
        (Ex.append g3 (Ev.bin (Ev.name l6) Ev.cint (op_mod (by decide))) (by rw [stZ_len]; omega)
        (Ex.assign (Ev.bin (Ev.name l6) Ev.cint (op_div (by decide) py2)) (.inl rfl) q2 (aw (by decide)) Ex.nil)))
      (fun i => .keep (.keep (.keep (.keep (.drop (.drop (.drop .nil))))))) (Ex.pub q3 (Ex.ret (Ev.name l3) trivial))).congr (congrArg V.li ((sum_st l r [] x hl).trans (by simp)))
end
end Mine
end

section
open PySem PySem.W PyProof.Rows PySem.Calls
set_option maxHeartbeats 1000000
namespace Mine
section
variable {f : Fn} {c : Cx} {n : Nat} {ρ : List (Option V)} {sc : Scope}
theorem ints_rep {vs : List Value} {l : List Int} (h : IntsAre vs l) : vs.length = (l.map V.int).length ∧ ∀ (i : Nat) v, vs[i]? = some v → Rep [] v ((l.map V.int).getD i .none) := by
  refine ⟨by rw [List.length_map, h.length], fun i v hv => ?_⟩
  obtain ⟨t, rfl⟩ := ints_at h hv
  have hi : i < l.length := by
    rw [← h.length]
    rcases Nat.lt_or_ge i vs.length with q | q
    · exact q
    · rw [List.getElem?_eq_none q] at hv; cases hv
  rw [show (l.map V.int).getD i .none = .int (l.getD i 0) by simp [List.getD, hi]]
  exact ⟨t, rfl⟩
theorem map_getD {l : List Int} {i : Nat} (h : i < l.length) : (l.map V.int).getD i .none = .int (l.getD i 0) := by simp [List.getD, h]
theorem Ev.compName {elt iter : Expr} {x : Str} {xp : Pos} {scope : Scope} {pos : Pos} {l : List Int} {g : Nat → Int} {U : V → List (Option V)} (co : CompOk f c sc [] scope) (hi : Ev f c n ρ iter (.li l))
    (hput : ∀ d, Put sc.names (no sc) x d (U d)) (hl : l.length ≤ 1000) (he : ∀ i, i < l.length → EvK f c n sc [] (U (.int (l.getD i 0))) [] elt (.int (g i)))
    (hs : ∀ env x, foldedSetIterable iter env x = pure x := by intro _ _; rfl) : Ev f c n ρ (.ListComp elt [⟨.Name x xp, iter, [], 0⟩] scope pos) (.li (accF g l.length)) :=
  fun s m news Q E ok F N S P => comp_list (m := m) (led := news) (cl := []) (ρc := []) (ds := l.map V.int) (g := g) (U := fun i => U ((l.map V.int).getD i .none)) ok co
    (fun Q' E' k => hi s m news Q' E' ok F N S fun v h' tk' led' F' N' s' R => by
      obtain ⟨a, vs, kk, rfl, hm, ii⟩ := R
      exact k a vs kk h' tk' led' F' N' s' hm (ints_rep ii).1 (ints_rep ii).2) (fun _ h => nomatch h) (fun i => hput _) (by rw [List.length_map]; exact hl)
    (fun i h => by rw [List.length_map] at h; rw [map_getD h]; exact he i h) (by rw [List.length_map]; exact P) (hs _)
theorem accF_map (g : Int → Int) (l : List Int) : accF (fun i => g (l.getD i 0)) l.length = l.map g := by
  have : ∀ n, n ≤ l.length → accF (fun i => g (l.getD i 0)) n = (l.take n).map g := by
    intro n
    induction n with
    | zero => intro _; rfl
    | succ n ih =>
      intro h
      have hn : n < l.length := h
      show accF _ n ++ [g (l.getD n 0)] = _
      rw [ih (by omega), List.take_add_one, List.map_append]
      simp [List.getD, hn]
  rw [this _ (Nat.le_refl _), List.take_length]
abbrev scBit : Scope := { kind := .function, names := [(Str.ofString ".0", .local), (Str.ofString "bit", .local)], isGenerator := false, isCoroutine := false }
theorem co_bit (f : Fn) (c : Cx) : CompOk f c scBit [] scBit :=
  ⟨rfl, rfl, rfl, by decide, by decide, ⟨by decide, by decide, rfl⟩⟩
theorem Ev.notRow {y : Str} {yp xp p1 p2 cp pos : Pos} {k1 : Nat} {l : List Int} (lk : Look f.names ρ y (.li l)) (hl : l.length ≤ 1000) :
    Ev f c n ρ (.ListComp (.BinOp (.Constant (.int 1) k1 p1) .Sub (.Name (Str.ofString "bit") p2) cp) [⟨.Name (Str.ofString "bit") xp, .Name y yp, [], 0⟩] scBit pos) (.li (l.map fun b => 1 - b)) :=
  (Ev.compName (g := fun i => 1 - l.getD i 0) (co_bit f c) (Ev.name lk) (fun d => q1) hl (fun i h => EvK.bin EvK.cint (EvK.name l1) op_sub)).congr (congrArg V.li (accF_map (fun b => 1 - b) l))
end
section
variable {l r : List Int} {x y : Int} {k : Nat}
theorem flat_zeros (n : Nat) (x : Int) : (List.replicate n [x]).flatten = List.replicate n x := by
  induction n with
  | zero => rfl
  | succ n ih => rw [List.replicate_succ, List.flatten_cons, ih, List.replicate_succ]; rfl
theorem ev_zeros {f : Fn} {c : Cx} {n : Nat} {ρ : List (Option V)} {e1 e : Expr} {p2 pos : Pos} {j : Nat} {i : Int} (hx : Ev f c n ρ e1 (.int i)) (h : Ev f c n ρ e (.int j)) (hj : j ≤ 256) (he : ∀ env, starEach [e1] env = (false, eval e1 env) :: starEach [] env := by intro _; rfl) : Ev f c n ρ (.BinOp (.List [e1] p2) .Mult e pos) (.li (List.replicate j i)) :=
  (Ev.bin (Ev.ilist (EvI.cons hx EvI.nil he) (by simp)) h (op_rep (by simpa using hj) (by omega) (by omega))).congr (congrArg V.li ((congrArg (fun k => (List.replicate k [i]).flatten) (Int.toNat_natCast j)).trans (flat_zeros j i)))
theorem con_tsign (h0 : l ≠ []) (hk : l.length ≤ 256) : Con (.ref 237) 2 [.li l] (.li (tsign l)) :=
  Con.of0 F_law_turned_sign 0 (ρ := [some (.li l)]) rfl rfl rfl fun c =>
    Ex.ret (Ev.call G_law_sum g1 (.cons (Ev.notRow l0 (by omega)) (.cons (ev_zeros Ev.cint (Ev.callB B_len g2 (.cons (Ev.name l0) .nil) (con_len (by omega))) hk) (.cons Ev.cint .nil))) (con_sum (by simp) (by simpa using h0) (by simp; omega))) trivial
end
end Mine
end

section
open PySem PySem.W PyProof.Rows PySem.Calls
set_option maxHeartbeats 1000000
namespace Mine
theorem put_same {ns : List (Str × NameKind)} {ρ ρ' : List (Option V)} {x : Str} {d e : V} (p : Put ns ρ x d ρ') (hn : (ns.map (·.1)).Nodup) (l : Look ns ρ x e) (q : d = e) : ρ' = ρ := by
  subst q
  induction p with
  | head =>
    cases l with
    | head => rfl
    | tail l =>
      simp only [List.map_cons, List.nodup_cons] at hn
      exact absurd (List.mem_map.mpr ⟨_, l.kd.mem, rfl⟩) hn.1
  | tail p ih =>
    simp only [List.map_cons, List.nodup_cons] at hn
    cases l with
    | head => exact absurd (List.mem_map.mpr ⟨_, p.kd.mem, rfl⟩) hn.1
    | tail l => rw [ih hn.2 l]
section
variable {f : Fn} {c : Cx} {n : Nat} {ρ ρ' : List (Option V)} {g : G}
theorem Ex.setIf {t e : Expr} {x : Str} {xp pos p2 : Pos} {r : List Stmt} {d d1 d2 : V} {q : Bool} {o : Out} (hn : (f.names.map (·.1)).Nodup) (ht : Tst f c n ρ t q) (lx : Look f.names ρ x d2) (he : q = true → Ev f c n ρ e d1) (p : Put f.names ρ x d ρ') (e1 : q = true → d1 = d) (e2 : q = false → d = d2) (hx : g.away x) (fit : Fits g d) (k : Ex f c n ρ' g r o)
    (hsw : ∀ env, swapsWith e (some (.Name x xp)) pos.line env = pure false := by intro _; rfl) : Ex f c n ρ g (.If t [.Assign [.Name x xp] e pos] [] p2 :: r) o :=
  Ex.ifNext ht (fun h => Ex.assign ((he h).congr (e1 h)) fit p hx Ex.nil hsw) (fun h => by rw [put_same p hn lx (e2 h)]; exact Ex.nil) k
end
section
variable {l r : List Int} {x y : Int} {k : Nat}
theorem whole_abs (h : Bits l) (hl : l.length ≤ 64) : (whole l).natAbs < 2 ^ 64 := by
  have h1 := whole_rng h
  have h2 := pow_le64 hl
  omega
theorem con_prod (hb : Bits l) (hr : Bits r) (hl : l.length ≤ 64) (hrl : r.length ≤ 64) : Con (.ref 244) 2 [.li l, .li r] (.li (bitsOf (whole l * whole r) l.length)) :=
  (Con.of0 F_law_product 3 (ρ := [some (.li l), some (.li r), none, none, none]) rfl rfl rfl fun c =>
    Ex.assign2 (.cons Ev.cint (.cons (Ev.call G_law_whole g5 (.cons (Ev.name l0) .nil) (con_whole (by omega))) .nil)) trivial trivial q3 q2 trivial trivial (fun _ => rfl)
    (Ex.forRange (S := fun i => [some (.li l), some (.li r), some (.int (prodS (whole l) r i)), some (.int (whole l)), none]) (gs := fun _ => .none) (N := r.length) g6 (Ev.callB B_len g7 (.cons (Ev.name l1) .nil) (con_len (by omega))) (by omega)
      (fun i => q4) (fun _ => trivial) (fun _ => rfl) (fun _ => rfl)
      (fun i hi => Ex.setIf F_law_product.ok.nd (q := r.getD i 0 == 1) ((Tst.cmp (Ev.item (Ev.name l1) (Ev.name l4) (by omega) (by omega) (by omega)) Ev.cint op_eq rfl).congr (by rw [Int.toNat_natCast])) l2
        (fun _ => Ev.bin (Ev.name l2) (Ev.bin (Ev.name l3) (Ev.bin Ev.cint (Ev.name l4) (op_pow (by omega) (by omega) (by decide))) (op_mul (IntMulOk.of_left (bits64 (whole_abs hb hl))))) op_add) q2
        (fun h => congrArg V.int (by show _ = (if (r.getD i 0 == 1) = true then _ else _); rw [if_pos h, Int.toNat_natCast]; rfl)) (fun h => congrArg V.int (by show (if (r.getD i 0 == 1) = true then _ else _) = _; rw [h]; rfl)) trivial trivial Ex.nil)
      (fun i => .keep (.keep (.keep (.keep (.drop .nil))))) (Ex.ret (Ev.call G_law_bits g8 (.cons (Ev.name l2) (.cons (Ev.callB B_len g7 (.cons (Ev.name l0) .nil) (con_len (by omega))) .nil)) (con_bits hl)) trivial))).congr (by
    rw [prodS_is _ _ hr _ (Nat.le_refl _), List.take_length])
theorem partS_len (d : Int) (l : List Int) : ∀ i, (partS d l i).2.length = i
  | 0 => rfl
  | i + 1 => by
    show ((partS d l i).2 ++ [_]).length = _
    rw [List.length_append, partS_len d l i]; rfl
theorem con_parted (h0 : l ≠ []) (hl : l.length ≤ 64) (hrl : r.length ≤ 64) (hd : whole r ≠ 0) : Con (.ref 251) 2 [.li l, .li r] (.pr (partS (whole r) l.reverse l.reverse.length).2.reverse (bitsOf (partS (whole r) l.reverse l.reverse.length).1 l.length)) :=
  Con.of0 F_law_parted 5 (ρ := [some (.li l), some (.li r), none, none, none, none, none]) rfl rfl rfl fun c =>
    Ex.assign2 (.cons (Ev.callB B_len g7 (.cons (Ev.name l0) .nil) (con_len (by omega))) (.cons (Ev.call G_law_whole g8 (.cons (Ev.name l1) .nil) (con_whole (by omega))) .nil)) trivial trivial q3 q2 trivial trivial (fun _ => rfl)
    (Ex.thenF (Tst.cmp (Ev.name l3) Ev.cint op_eq (by simpa [V.truth] using hd))
    (Ex.assign2row Ev.cint g5 (look_none F_law_parted.ok.nd (i := 5) ⟨_, rfl⟩ rfl) q4 (by decide) (fun _ => rfl) fun a =>
    Ex.forList (l := l.reverse) (S := fun i => [some (.li l), some (.li r), some (.int l.length), some (.int (whole r)), some (.int (partS (whole r) l.reverse i).1), none, none]) (gs := fun i => .row "row" a (partS (whole r) l.reverse i).2) ((Ev.sliceRev (Ev.name l0) (by omega)).congr (by rw [pick_rev]))
      (.inr ⟨_, rfl, by show l.reverse ≠ []; simpa using h0⟩) (fun i => q6) (fun _ => aw (by decide)) (fun _ => rfl) (fun _ => rfl)
      (fun i hi => Ex.assign (Ev.bin (Ev.bin Ev.cint (Ev.name l4) (op_mul two_ok)) (Ev.name l6) op_add) (.inl rfl) q4 (aw (by decide))
        (Ex.append g5 (Ev.callT B_int g10 (.cons (Ev.cmp (Ev.name l4) (Ev.name l3) op_ge) .nil) con_intb) (by rw [partS_len]; simp at hi; omega)
        (Ex.assign (Ev.iteI (Tst.cmp (Ev.name l4) (Ev.name l3) op_ge rfl) (fun _ => Ev.bin (Ev.name l4) (Ev.name l3) op_sub) (fun _ => Ev.name l4)) (.inl rfl) q4 (aw (by decide)) Ex.nil)))
      (fun i => .keep (.keep (.keep (.keep (.keep (.keep (.drop .nil))))))) (Ex.pub q5 (Ex.ret (Ev.pair (.cons ((Ev.sliceRev (Ev.name l5) (by rw [partS_len, List.length_reverse]; omega)).congr (by rw [pick_rev])) (.cons (Ev.call G_law_bits g11 (.cons (Ev.name l4) (.cons (Ev.name l2) .nil)) (con_bits hl)) .nil))) trivial))))
theorem con_parted0 (hl : l.length ≤ 64) (hrl : r.length ≤ 64) (hd : whole r = 0) : Con (.ref 251) 2 [.li l, .li r] (.pr (List.replicate l.length 0) l) :=
  Con.of0 F_law_parted 5 (ρ := [some (.li l), some (.li r), none, none, none, none, none]) rfl rfl rfl fun c =>
    Ex.assign2 (.cons (Ev.callB B_len g7 (.cons (Ev.name l0) .nil) (con_len (by omega))) (.cons (Ev.call G_law_whole g8 (.cons (Ev.name l1) .nil) (con_whole (by omega))) .nil)) trivial trivial q3 q2 trivial trivial (fun _ => rfl)
    (Ex.thenT (Tst.cmp (Ev.name l3) Ev.cint op_eq (by simpa [V.truth] using hd))
      (Ex.ret (Ev.pair (.cons (ev_zeros Ev.cint (Ev.name l2) (by omega)) (.cons (Ev.callT B_list g9 (.cons (Ev.name l0) .nil) (con_list (by omega))) .nil))) trivial))
end
end Mine
end

section
open PySem PySem.W PyProof.Rows PySem.Calls
set_option maxHeartbeats 1000000
namespace Mine
section
variable {l r : List Int} {x y : Int} {k : Nat} {op : Str}
theorem EvP.no {f : Fn} {c : Cx} {n : Nat} {ρ : List (Option V)} : EvP f c n ρ none none := trivial
theorem EvP.yes {f : Fn} {c : Cx} {n : Nat} {ρ : List (Option V)} {e : Expr} {i : Int} (h : Ev f c n ρ e (.int i)) : EvP f c n ρ (some e) (some i) := h
/-- the last bit -/
def lastV (l : List Int) : Int := l.getD (-1 + (l.length : Int)).toNat 0
theorem ev_last {f : Fn} {c : Cx} {n : Nat} {ρ : List (Option V)} {y : Str} {p1 p2 p3 pos : Pos} {k2 : Nat} (lk : Look f.names ρ y (.li l)) (h : l ≠ []) (hl : l.length ≤ 1000) : Ev f c n ρ (.Subscript (.Name y p1) (.UnaryOp .USub (.Constant (.int 1) k2 p2) p3) pos) (.int (lastV l)) :=
  Ev.itemNeg (Ev.name lk) (Ev.un Ev.cint op_neg) (by decide) (by have := List.length_pos_iff.mpr h; omega) (by decide)
theorem tst_last {f : Fn} {c : Cx} {n : Nat} {ρ : List (Option V)} {y : Str} {p1 p2 p3 p4 p5 pos : Pos} {k2 k3 : Nat} (lk : Look f.names ρ y (.li l)) (h : l ≠ []) (hl : l.length ≤ 1000) : Tst f c n ρ (.Compare (.Subscript (.Name y p1) (.UnaryOp .USub (.Constant (.int 1) k2 p2) p3) p4) [.Eq] [.Constant (.int 1) k3 p5] pos) (lastV l == 1) :=
  Tst.cmp (ev_last lk h hl) Ev.cint op_eq rfl
def absL (l : List Int) : List Int := if (lastV l == 1) = true then tsign l else l
theorem absL_len (l : List Int) : (absL l).length = l.length := by unfold absL; split <;> simp [tsign_len]
theorem absL_ne (h : l ≠ []) : absL l ≠ [] := fun e => h (List.length_eq_zero_iff.mp (by rw [← absL_len, e]; rfl))
def quoL (l r : List Int) : List Int := (partS (whole (absL r)) (absL l).reverse (absL l).reverse.length).2.reverse
def remL (l r : List Int) : List Int := bitsOf (partS (whole (absL r)) (absL l).reverse (absL l).reverse.length).1 (absL l).length
theorem quoL_len (l r : List Int) : (quoL l r).length = l.length := by unfold quoL; rw [List.length_reverse, partS_len, List.length_reverse, absL_len]
theorem remL_len (l r : List Int) : (remL l r).length = l.length := by unfold remL; rw [bitsOf_len, absL_len]
theorem con_signs (h0 : l ≠ []) (hr0 : r ≠ []) (hl : l.length ≤ 64) (hrl : r.length ≤ 64) (hd : whole r ≠ 0) (hd2 : whole (absL r) ≠ 0) :
    Con (.ref 258) 3 [.li l, .li r] (.pr (if (lastV l != lastV r) = true then tsign (quoL l r) else quoL l r) (if (lastV l == 1) = true then tsign (remL l r) else remL l r)) :=
  Con.of0 F_law_parted_signs 4 (ρ := [some (.li l), some (.li r), none, none, none, none]) rfl rfl rfl fun c =>
    Ex.thenF (Tst.cmp (Ev.call G_law_whole g6 (.cons (Ev.name l1) .nil) (con_whole (by omega))) Ev.cint op_eq (by simpa [V.truth] using hd))
    (Ex.assign (Ev.iteL (tst_last l0 h0 (by omega)) (fun _ => Ev.call G_law_turned_sign g9 (.cons (Ev.name l0) .nil) (con_tsign h0 (by omega))) (fun _ => Ev.name l0)) trivial q2 trivial
    (Ex.assign (Ev.iteL (tst_last l1 hr0 (by omega)) (fun _ => Ev.call G_law_turned_sign g9 (.cons (Ev.name l1) .nil) (con_tsign hr0 (by omega))) (fun _ => Ev.name l1)) trivial q3 trivial
    (Ex.unpair (l1 := quoL l r) (l2 := remL l r) (Ev.call G_law_parted g10 (.cons (Ev.name l2) (.cons (Ev.name l3) .nil)) (con_parted (l := absL l) (r := absL r) (absL_ne h0) (by rw [absL_len]; exact hl) (by rw [absL_len]; exact hrl) hd2)) q4 q5 (fun _ => rfl) (fun _ => rfl)
    (Ex.setIf F_law_parted_signs.ok.nd (q := lastV l != lastV r) (d := .li (if (lastV l != lastV r) = true then tsign (quoL l r) else quoL l r)) (Tst.cmp (ev_last l0 h0 (by omega)) (ev_last l1 hr0 (by omega)) op_ne rfl) l4
      (fun _ => Ev.call G_law_turned_sign g9 (.cons (Ev.name l4) .nil) (con_tsign (fun e => h0 (List.length_eq_zero_iff.mp (by rw [← quoL_len l r, e]; rfl))) (by rw [quoL_len]; omega))) q4 (fun h => by rw [h]; rfl) (fun h => by rw [h]; rfl) trivial trivial
    (Ex.ret (Ev.pair (.cons (Ev.name l4) (.cons (Ev.iteL (tst_last l0 h0 (by omega)) (fun _ => Ev.call G_law_turned_sign g9 (.cons (Ev.name l5) .nil) (con_tsign (fun e => h0 (List.length_eq_zero_iff.mp (by rw [← remL_len l r, e]; rfl))) (by rw [remL_len]; omega))) (fun _ => Ev.name l5)) .nil))) trivial)))))
theorem con_signs0 (hl : l.length ≤ 64) (hrl : r.length ≤ 64) (hd : whole r = 0) : Con (.ref 258) 3 [.li l, .li r] (.pr (List.replicate l.length 0) l) :=
  Con.of0 F_law_parted_signs 4 (ρ := [some (.li l), some (.li r), none, none, none, none]) rfl rfl rfl fun c =>
    Ex.thenT (Tst.cmp (Ev.call G_law_whole g6 (.cons (Ev.name l1) .nil) (con_whole (by omega))) Ev.cint op_eq (by simpa [V.truth] using hd))
      (Ex.ret (Ev.pair (.cons (ev_zeros Ev.cint (Ev.callB B_len g7 (.cons (Ev.name l0) .nil) (con_len (by omega))) (by omega)) (.cons (Ev.callT B_list g8 (.cons (Ev.name l0) .nil) (con_list (by omega))) .nil))) trivial)
-- shifts
theorem con_lsh (hl : l.length ≤ 64) (hk : k ≤ l.length) : Con (.ref 265) 1 [.str "lsh", .li l, .int k] (.li (List.replicate k 0 ++ l.take (l.length - k))) :=
  Con.of0 F_law_shift 0 (ρ := [some (.str "lsh"), some (.li l), some (.int k)]) rfl rfl rfl fun c =>
    Ex.thenT (ts (Ev.name l0) (by decide)) (Ex.ret (Ev.bin (ev_zeros Ev.cint (Ev.name l2) (by omega)) ((Ev.slice (a := none) (b := some ((l.length : Int) - k)) (Ev.name l1) .no (.yes (Ev.bin (Ev.callB B_len g3 (.cons (Ev.name l1) .nil) (con_len (by omega))) (Ev.name l2) op_sub)) (by omega)).congr
      (by rw [show ((l.length : Int) - k) = ((l.length - k : Nat) : Int) by omega, pick_to (by omega)])) (op_cat (by simp; omega))) trivial)
theorem con_rsh (h0 : l ≠ []) (hl : l.length ≤ 64) (hk : k ≤ l.length) (h1 : (op == ("lsh" : Str)) = false) : Con (.ref 265) 1 [.str op, .li l, .int k] (.li (l.drop k ++ List.replicate k (if (op == ("arsh" : Str)) = true then lastV l else 0))) :=
  Con.of0 F_law_shift 0 (ρ := [some (.str op), some (.li l), some (.int k)]) rfl rfl rfl fun c =>
    Ex.thenF (ts (Ev.name l0) h1) (Ex.ret (Ev.bin ((Ev.slice (a := some (k : Int)) (b := none) (Ev.name l1) (.yes (Ev.name l2)) .no (by omega)).congr (by rw [pick_from hk]))
      (ev_zeros (Ev.iteI (ts (Ev.name l0) rfl) (fun _ => ev_last l1 h0 (by omega)) (fun _ => Ev.cint)) (Ev.name l2) (by omega)) (op_cat (by simp; omega))) trivial)
-- less
def lessS (l r : List Int) : Nat → Bool := stZ (fun s a b => if (a != b) = true then b == 1 else s) false l r
theorem con_less (hl : l.length = r.length) (hk : l.length ≤ 1000) : Con (.ref 277) 1 [.li l, .li r] (.bool (lessS l r l.length)) :=
  Con.of0 F_law_less 3 (ρ := [some (.li l), some (.li r), none, none, none]) rfl rfl rfl fun c =>
    Ex.assign Ev.cbool trivial q2 trivial
    (Ex.forZip (S := fun i => [some (.li l), some (.li r), some (.bool (lessS l r i)), none, none]) (gs := fun i => .none) g5 (.cons (Ev.name l0) (.cons (Ev.name l1) .nil)) trivial trivial hl
      (fun i => q3) (fun i => q4) (fun i => trivial) (fun i => trivial) (fun _ => rfl) (fun _ => rfl)
      (fun i hi => Ex.setIf F_law_less.ok.nd (q := l.getD i 0 != r.getD i 0) (Tst.cmp (Ev.name l3) (Ev.name l4) op_ne rfl) l2 (fun _ => Ev.cmp (Ev.name l4) Ev.cint op_eq) q2
        (fun h => congrArg V.bool (by show _ = (if (l.getD i 0 != r.getD i 0) = true then _ else _); rw [h]; rfl)) (fun h => congrArg V.bool (by show (if (l.getD i 0 != r.getD i 0) = true then _ else _) = _; rw [h]; rfl)) trivial trivial Ex.nil)
      (fun i => .keep (.keep (.keep (.drop (.drop .nil))))) (Ex.ret (Ev.name l2) trivial))
-- octets
def octS (l : List Int) : Nat → List Int := stR (fun s i => (l.drop (8 * i)).take 8 ++ s) []
theorem octS_len (l : List Int) : ∀ i, 8 * i ≤ l.length → (octS l i).length = 8 * i
  | 0, _ => rfl
  | i + 1, h => by
    show ((l.drop (8 * i)).take 8 ++ octS l i).length = _
    rw [List.length_append, octS_len l i (by omega), List.length_take, List.length_drop]; omega
theorem ev_8 {f : Fn} {c : Cx} {n : Nat} {ρ : List (Option V)} {y : Str} {p p2 pos : Pos} {k2 : Nat} {i : Nat} (lk : Look f.names ρ y (.int (i : Int))) : Ev f c n ρ (.BinOp (.Constant (.int 8) k2 p2) .Mult (.Name y p) pos) (.int ((8 * i : Nat) : Int)) :=
  (Ev.bin Ev.cint (Ev.name lk) op_mul8).congr (congrArg V.int (by push_cast; rfl))
theorem con_octets {j : Nat} (hl : l.length = 8 * j) (hk : l.length ≤ 64) : Con (.ref 289) 1 [.li l] (.li (octS l j)) :=
  Con.of0 F_law_octets 2 (ρ := [some (.li l), none, none]) rfl rfl rfl fun c =>
    Ex.assign (Ev.ilist EvI.nil (by decide)) trivial q1 trivial
    (Ex.forRange (S := fun i => [some (.li l), some (.li (octS l i)), none]) (gs := fun i => .none) (N := j) g3 ((Ev.bin (Ev.callB B_len g4 (.cons (Ev.name l0) .nil) (con_len (by omega))) Ev.cint (op_div (by decide) (pylong (by decide)))).congr (congrArg V.int (by rw [Int.fdiv_eq_ediv_of_nonneg _ (by decide)]; omega))) (by omega)
      (fun i => q2) (fun i => trivial) (fun _ => rfl) (fun _ => rfl)
      (fun i hi => Ex.assign (Ev.bin ((Ev.slice (a := some ((8 * i : Nat) : Int)) (b := some ((8 * i + 8 : Nat) : Int)) (Ev.name l0) (.yes (ev_8 l2)) (.yes ((Ev.bin (ev_8 l2) Ev.cint op_add).congr (congrArg V.int (by push_cast; rfl)))) (by omega)).congr (by rw [pick_ab (by omega) (by omega), show 8 * i + 8 - 8 * i = 8 by omega]))
        (Ev.name l1) (op_cat (by rw [octS_len l i (by omega), List.length_take, List.length_drop]; omega))) trivial q1 trivial Ex.nil)
      (fun i => .keep (.keep (.drop .nil))) (Ex.ret (Ev.name l1) trivial))
theorem con_filled (h0 : l ≠ []) (hl : l.length ≤ 64) (hk : k ≤ 64) : Con (.ref 296) 1 [.li l, .int k] (.li (l ++ List.replicate (k - l.length) (lastV l))) :=
  Con.of0 F_law_filled 0 (ρ := [some (.li l), some (.int k)]) rfl rfl rfl fun c =>
    Ex.ret (Ev.bin (Ev.name l0) ((Ev.bin (Ev.ilist (EvI.cons (ev_last l0 h0 (by omega)) EvI.nil) (by simp)) (Ev.bin (Ev.name l1) (Ev.callB B_len g2 (.cons (Ev.name l0) .nil) (con_len (by omega))) op_sub) (op_rep (by simp; omega) (by omega) (by omega))).congr (congrArg V.li (by
      rw [show ((k : Int) - (l.length : Int)).toNat = k - l.length by omega]; exact flat_zeros _ _))) (op_cat (by simp; omega))) trivial
end
end Mine
end

section
open PySem PySem.W PyProof.Rows PySem.Calls
set_option maxHeartbeats 1000000
namespace Mine
section
variable {f : Fn} {c : Cx} {n : Nat} {ρ : List (Option V)} {sc : Scope} {cl : List (Str × Addr)} {ρc : List (Str × V)} {m : Str → Option Value} {s : Shared}
theorem Ev.nameB {x : Str} {v : Value} {pos : Pos} (hg : GBi x v) (hk : Kd .globalImplicit f.names x) : Ev f c n ρ (.Name x pos) (.obj v) :=
  fun s m news Q E ok F N S P => nameX_B F ok.kin (topRead_of ok.top) (hg.1 c.w.params) hg.2.1 hg.2.2 (P v s.heap s.toks news F N (fun _ h => h) rfl) rfl (hk.kindOf c ok.fok) (ok.fok.dbg _ hk.mem)
theorem con_isint {x : Int} : Con (.builtin "isinstance") 0 [.int x, .obj (.type "int")] (.bool true) := by
  intro f c s m news vs Q E ok F N R P
  obtain ⟨v, u, rfl, ⟨t, rfl⟩, rfl⟩ := R.two
  exact IsiPair.int_int (P _ s.heap s.toks news F N (fun _ h => h) rfl)
theorem con_isbool {x : Int} : Con (.builtin "isinstance") 0 [.int x, .obj (.type "bool")] (.bool false) := by
  intro f c s m news vs Q E ok F N R P
  obtain ⟨v, u, rfl, ⟨t, rfl⟩, rfl⟩ := R.two
  exact IsiPair.int_bool (P _ s.heap _ news F N (fun _ h => h) rfl)
theorem op_notb {b : Bool} : Op1 (unaryOp .Not) (.bool b) (.bool (!b)) := by
  rintro f c s m news v Q E hu F N rfl P
  exact not_of (wpAny_truthy_bool (P _ s.heap s.toks news F N (fun _ h => h) rfl))
theorem con_is {x : Int} {l : List Int} (hl : l.length ≤ 1000) : Con (.ref 303) 2 [.int x, .li l] (.bool (x == whole l)) :=
  (Con.of0 F_law_is 0 (ρ := [some (.int x), some (.li l)]) rfl rfl rfl fun c =>
    Ex.ret (Ev.and_cons (Ev.callB B_isinstance g2 (.cons (Ev.name l0) (.cons (Ev.nameB B_int g3) .nil)) con_isint) fun _ =>
      Ev.and_cons (Ev.un (Ev.callB B_isinstance g2 (.cons (Ev.name l0) (.cons (Ev.nameB B_bool g4) .nil)) con_isbool) op_notb) fun _ =>
      Ev.bool_one (Ev.cmp (Ev.name l0) (Ev.call G_law_whole g5 (.cons (Ev.name l1) .nil) (con_whole hl)) op_eq)) trivial).congr (by simp)
-- comprehensions over pairs
theorem zip_hit {e1 e2 : Expr} {zp cp : Pos} {l1 l2 : List Int} {news : Led} (hk : Kd .globalImplicit f.names (Str.ofString "zip")) (hE : EvL f c n ρ [e1, e2] [.li l1, .li l2]) (ok : c.Ok f n) (F : Fr c.h₀ c.L s.heap m) (N : News c.h₀ c.L s.heap news) (S : Sees f.names ρ m news)
    (he : ∀ env, starEach [e1, e2] env = (false, eval e1 env) :: starEach [e2] env) (hpa : ∀ env, (backTo cp (starEach [e2] env)).any (·.1) = false) :
    ∀ (Q' E' : Value → Shared → Prop), (∀ a1 a2 vs1 vs2 k1 k2 h' tk' led', Fr c.h₀ c.L h' m → News c.h₀ c.L h' led' → (∀ p ∈ news, p ∈ led') → (a1, W.listOf (List.toArray vs1) k1) ∈ led' → (a2, W.listOf (List.toArray vs2) k2) ∈ led' → IntsAre vs1 l1 → IntsAre vs2 l2 →
        wpAny (model pg c.w) (c.A f) (call (.type "zip") [.ref a1, .ref a2]) Q' E' { s with heap := h', toks := tk' }) →
      wpAny (model pg c.w) (c.A f) (eval (.Call (.Name (Str.ofString "zip") zp) [e1, e2] [] cp) (c.env f)) Q' E' s :=
  fun Q' E' k => Call_ (nameX_B F ok.kin (topRead_of ok.top) (B_zip.1 c.w.params) B_zip.2.1 B_zip.2.2
    (PyProof.Rows.callWith_type1 (hE cp s m _ _ _ ok F N S fun vs hh1 t1 led F1 N1 s1 R1 => by
      obtain ⟨v1, v2, rfl, ⟨a1, vs1, k1, rfl, hm1, hi1⟩, ⟨a2, vs2, k2, rfl, hm2, hi2⟩⟩ := R1.two
      exact k a1 a2 vs1 vs2 k1 k2 hh1 t1 led F1 N1 s1 hm1 hm2 hi1 hi2) (he _) (hpa _)) rfl (hk.kindOf c ok.fok) (ok.fok.dbg _ hk.mem))
theorem compZip_at {elt e1 e2 : Expr} {x y : Str} {xp yp tp zp cp : Pos} {kk : Nat} {scope : Scope} {pos : Pos} {l1 l2 : List Int} {g : Nat → Int} {U U2 : Nat → List (Option V)} {news : Led} {Q E : Value → Shared → Prop} (co : CompOk f c sc cl scope) (hk : Kd .globalImplicit f.names (Str.ofString "zip")) (hE : EvL f c n ρ [e1, e2] [.li l1, .li l2]) (hll : l1.length = l2.length) (hl : l1.length ≤ 1000)
    (hput : ∀ i, Put sc.names (no sc) x (.int (l1.getD i 0)) (U i)) (hput2 : ∀ i, Put sc.names (U i) y (.int (l2.getD i 0)) (U2 i)) (hel : ∀ i, i < l1.length → EvK f c n sc cl (U2 i) ρc elt (.int (g i)))
    (ok : c.Ok f n) (F : Fr c.h₀ c.L s.heap m) (N : News c.h₀ c.L s.heap news) (S : Sees f.names ρ m news) (hc : KCells cl ρc news) (P : Post c s m news Q (.li (accF g l1.length)))
    (he : ∀ env, starEach [e1, e2] env = (false, eval e1 env) :: starEach [e2] env := by intro _; rfl) (hpa : ∀ env, (backTo cp (starEach [e2] env)).any (·.1) = false := by intro _; rfl) :
    wpAny (model pg c.w) (c.A f) (eval (.ListComp elt [⟨.Tuple [.Name x xp, .Name y yp] kk tp, .Call (.Name (Str.ofString "zip") zp) [e1, e2] [] cp, [], 0⟩] scope pos) (c.env f)) Q E s :=
  comp_zip (m := m) (led := news) (cl := cl) (ρc := ρc) (acc := accF g) (l1 := l1) (l2 := l2) (BodyWp := fun C D => bodyPlain f c elt (kenv c f sc cl C) D) (fun I C D s R E₀ h => htr_plain s R E₀ h) ok co hll (zip_hit hk hE ok F N S he hpa) hc hput hput2 rfl
    (fun i hi C D rest h₁ tk₁ s ad a hc K E' k => comp_emit ok co.ok ad a hc (hel i hi) (by rw [accF_len]; omega) k) P (fun _ => rfl)
theorem compZipIf_at {elt t e1 e2 : Expr} {x y : Str} {xp yp tp zp cp : Pos} {kk : Nat} {scope : Scope} {pos : Pos} {l1 l2 : List Int} {b : Nat → Bool} {g : Nat → Int} {U U2 : Nat → List (Option V)} {news : Led} {Q E : Value → Shared → Prop} (co : CompOk f c sc cl scope) (hk : Kd .globalImplicit f.names (Str.ofString "zip")) (hE : EvL f c n ρ [e1, e2] [.li l1, .li l2]) (hll : l1.length = l2.length) (hl : l1.length ≤ 1000)
    (hput : ∀ i, Put sc.names (no sc) x (.int (l1.getD i 0)) (U i)) (hput2 : ∀ i, Put sc.names (U i) y (.int (l2.getD i 0)) (U2 i)) (ht : ∀ i, i < l1.length → TsK f c n sc cl (U2 i) ρc t (b i)) (hel : ∀ i, i < l1.length → EvK f c n sc cl (U2 i) ρc elt (.int (g i)))
    (ok : c.Ok f n) (F : Fr c.h₀ c.L s.heap m) (N : News c.h₀ c.L s.heap news) (S : Sees f.names ρ m news) (hc : KCells cl ρc news) (P : Post c s m news Q (.li (accT b g l1.length)))
    (he : ∀ env, starEach [e1, e2] env = (false, eval e1 env) :: starEach [e2] env := by intro _; rfl) (hpa : ∀ env, (backTo cp (starEach [e2] env)).any (·.1) = false := by intro _; rfl) :
    wpAny (model pg c.w) (c.A f) (eval (.ListComp elt [⟨.Tuple [.Name x xp, .Name y yp] kk tp, .Call (.Name (Str.ofString "zip") zp) [e1, e2] [] cp, [t], 0⟩] scope pos) (c.env f)) Q E s :=
  comp_zip (m := m) (led := news) (cl := cl) (ρc := ρc) (acc := accT b g) (l1 := l1) (l2 := l2) (BodyWp := fun C D => bodyIf f c t elt (kenv c f sc cl C) D) (fun I C D s R E₀ h => htr_if s R E₀ h) ok co hll (zip_hit hk hE ok F N S he hpa) hc hput hput2 rfl
    (fun i hi C D rest h₁ tk₁ s ad a hc K E' k => comp_test ok co.ok ad a hc (ht i hi) fun h2 t2 a2 => by
      have e : accT b g (i + 1) = if b i then accT b g i ++ [g i] else accT b g i := rfl
      rw [e] at k
      cases hb : b i with
      | true =>
        rw [hb] at k
        rw [if_pos rfl]
        exact comp_emit ok co.ok ad a2 hc (hel i hi) (by have := accT_len b g i; omega) k
      | false =>
        rw [hb] at k
        rw [if_neg (by decide)]
        exact k h2 t2 a2) P (fun _ => rfl)
end
end Mine
end

section
open PySem PySem.W PyProof.Rows PySem.Calls
set_option maxHeartbeats 1000000
namespace Mine
section
variable {l r : List Int} {op : Str}
abbrev scPair : Scope := { kind := .function, names := [(Str.ofString ".0", .local), (Str.ofString "first", .local), (Str.ofString "second", .local)], isGenerator := false, isCoroutine := false }
theorem co_pair (f : Fn) (c : Cx) : CompOk f c scPair [] scPair := ⟨rfl, rfl, rfl, by decide, by decide, ⟨by decide, by decide, rfl⟩⟩
def bothL (l r : List Int) : List Int := accT (fun i => l.getD i 0 == 1 && r.getD i 0 == 1) (fun _ => 1) l.length
theorem ev_both {f : Fn} {c : Cx} {n : Nat} {ρ : List (Option V)} {a b : Str} {xp yp tp zp cp p1 p2 p3 p4 p5 p6 p7 p8 p9 p10 pos : Pos} {kk k1 k2 k3 : Nat} (hk : Kd .globalImplicit f.names (Str.ofString "zip")) (la : Look f.names ρ a (.li l)) (lb : Look f.names ρ b (.li r)) (hll : l.length = r.length) (hl : l.length ≤ 1000) :
    Ev f c n ρ (.ListComp (.Constant (.int 1) k1 p1) [⟨.Tuple [.Name (Str.ofString "first") xp, .Name (Str.ofString "second") yp] kk tp, .Call (.Name (Str.ofString "zip") zp) [.Name a p2, .Name b p3] [] cp,
      [.BoolOp .And [.Compare (.Name (Str.ofString "first") p4) [.Eq] [.Constant (.int 1) k2 p5] p6, .Compare (.Name (Str.ofString "second") p7) [.Eq] [.Constant (.int 1) k3 p8] p9] p10], 0⟩] scPair pos) (.li (bothL l r)) :=
  fun s m news Q E ok F N S P => compZipIf_at (cl := []) (ρc := []) (b := fun i => l.getD i 0 == 1 && r.getD i 0 == 1) (g := fun _ => 1) (U := fun i => [none, some (.int (l.getD i 0)), none]) (U2 := fun i => [none, some (.int (l.getD i 0)), some (.int (r.getD i 0))]) (co_pair f c) hk (.cons (Ev.name la) (.cons (Ev.name lb) .nil)) hll hl (fun i => q1) (fun i => q2)
    (fun i hi => TsK.and2 (TsK.cmp (EvK.name l1) EvK.cint op_eq rfl) (TsK.cmp (EvK.name l2) EvK.cint op_eq rfl)) (fun i hi => EvK.cint) ok F N S (fun _ h => nomatch h) P
def flipL (l : List Int) : List Int := l.take (l.length - 1) ++ [1 - lastV l]
theorem flipL_len (h : l ≠ []) : (flipL l).length = l.length := by
  have := List.length_pos_iff.mpr h
  unfold flipL; rw [List.length_append, List.length_take, List.length_singleton]; omega
theorem ev_flip {f : Fn} {c : Cx} {n : Nat} {ρ : List (Option V)} {y : Str} {p1 p2 p3 p4 p5 p6 p7 p8 p9 p10 p11 p12 p13 : Pos} {k1 k2 k3 : Nat} (lk : Look f.names ρ y (.li l)) (h : l ≠ []) (hl : l.length ≤ 500) :
    Ev f c n ρ (.BinOp (.Subscript (.Name y p1) (.Slice none (some (.UnaryOp .USub (.Constant (.int 1) k1 p2) p3)) none p4) p5) .Add (.List [.BinOp (.Constant (.int 1) k2 p6) .Sub (.Subscript (.Name y p7) (.UnaryOp .USub (.Constant (.int 1) k3 p8) p9) p10) p11] p12) p13) (.li (flipL l)) :=
  Ev.bin ((Ev.slice (a := none) (b := some (-1)) (Ev.name lk) .no (.yes (Ev.un Ev.cint op_neg)) (by omega)).congr (by rw [pick_neg (List.length_pos_iff.mpr h)])) (Ev.ilist (EvI.cons (Ev.bin Ev.cint (ev_last lk h (by omega)) op_sub) EvI.nil) (by simp)) (op_cat (by simp; omega))
def standsV (op : Str) (l r : List Int) : Bool :=
  if op = ("lt" : Str) then lessS l r l.length == true else if op = ("ge" : Str) then lessS l r l.length == false else if op = ("gt" : Str) then lessS r l r.length == true else lessS r l r.length == false
abbrev stE (op : Str) (l r : List Int) : List (Option V) := [some (.str op), some (.li l), some (.li r)]
theorem st_lt {c : Cx} {b : Bool} (hl : l.length = r.length) (hk : l.length ≤ 1000) (h : (([("lt" : Str), "ge"] : List Str).any fun y => y == op) = true) (hb : (op == ("lt" : Str)) = b) : Ex φ_law_stands c 2 (stE op l r) .none b_law_stands.tail.tail.tail (.ret (.bool (lessS l r l.length == b)) .none) :=
  Ex.thenT (Tst.sin (Ev.name l0) (Ev.stup (.cons Ev.cstr (.cons Ev.cstr .nil)) (by decide)) h) (Ex.ret (Ev.cmp (Ev.call G_law_less g4 (.cons (Ev.name l1) (.cons (Ev.name l2) .nil)) (con_less hl hk)) (Ev.cmp (Ev.name l0) Ev.cstr op_eqs) (hb ▸ op_eqb)) trivial)
theorem st_gt {c : Cx} {b : Bool} (hl : l.length = r.length) (hk : l.length ≤ 1000) (h : (([("lt" : Str), "ge"] : List Str).any fun y => y == op) = false) (hb : (op == ("gt" : Str)) = b) : Ex φ_law_stands c 2 (stE op l r) .none b_law_stands.tail.tail.tail (.ret (.bool (lessS r l r.length == b)) .none) :=
  Ex.thenF (Tst.sin (Ev.name l0) (Ev.stup (.cons Ev.cstr (.cons Ev.cstr .nil)) (by decide)) h) (Ex.ret (Ev.cmp (Ev.call G_law_less g4 (.cons (Ev.name l2) (.cons (Ev.name l1) .nil)) (con_less hl.symm (by omega))) (Ev.cmp (Ev.name l0) Ev.cstr op_eqs) (hb ▸ op_eqb)) trivial)
theorem st_tail {c : Cx} (hl : l.length = r.length) (hk : l.length ≤ 1000) (h : op ∈ (["lt", "ge", "gt", "le"] : List Str)) : Ex φ_law_stands c 2 (stE op l r) .none b_law_stands.tail.tail.tail (.ret (.bool (standsV op l r)) .none) := by
  simp only [List.mem_cons, List.not_mem_nil, or_false] at h
  rcases h with rfl | rfl | rfl | rfl
  · exact st_lt hl hk (by decide) (by decide)
  · exact st_lt hl hk (by decide) (by decide)
  · exact st_gt hl hk (by decide) (by decide)
  · exact st_gt hl hk (by decide) (by decide)
theorem stn_set (hl : l.length = r.length) (hk : l.length ≤ 1000) : Con (.ref 282) 3 [.str "set", .li l, .li r] (.bool (!decide (bothL l r = []))) :=
  Con.of0 F_law_stands 0 (ρ := stE "set" l r) rfl rfl rfl fun c => Ex.thenT (ts (Ev.name l0) (by decide)) (Ex.ret (Ev.cmp (ev_both g3 l1 l2 hl hk) (Ev.ilist EvI.nil (by decide)) op_nel) trivial)
theorem stn_eq {b : Bool} (h1 : (op == ("set" : Str)) = false) (h2 : (([("eq" : Str), "ne"] : List Str).any fun y => y == op) = true) (hb : (op == ("eq" : Str)) = b) : Con (.ref 282) 3 [.str op, .li l, .li r] (.bool (decide (l = r) == b)) :=
  Con.of0 F_law_stands 0 (ρ := stE op l r) rfl rfl rfl fun c => Ex.thenF (ts (Ev.name l0) h1) (Ex.thenT (Tst.sin (Ev.name l0) (Ev.stup (.cons Ev.cstr (.cons Ev.cstr .nil)) (by decide)) h2)
    (Ex.ret (Ev.cmp (Ev.cmp (Ev.name l1) (Ev.name l2) op_eql) (Ev.cmp (Ev.name l0) Ev.cstr op_eqs) (hb ▸ op_eqb)) trivial))
theorem stn_u {u : Str} (hl : l.length = r.length) (hk : l.length ≤ 1000) (h1 : (op == ("set" : Str)) = false) (h2 : (([("eq" : Str), "ne"] : List Str).any fun y => y == op) = false) (hlen : 0 < op.length) (hu : Txt.item op 0 = u) (h3 : (u == ("s" : Str)) = false) (h : op ∈ (["lt", "ge", "gt", "le"] : List Str)) : Con (.ref 282) 3 [.str op, .li l, .li r] (.bool (standsV op l r)) :=
  Con.of0 F_law_stands 0 (ρ := stE op l r) rfl rfl rfl fun c => Ex.thenF (ts (Ev.name l0) h1) (Ex.thenF (Tst.sin (Ev.name l0) (Ev.stup (.cons Ev.cstr (.cons Ev.cstr .nil)) (by decide)) h2)
    (Ex.thenF (Tst.seq (Ev.sitem (Ev.name l0) Ev.cint (by decide) (by omega) (by omega)) Ev.cstr (hu ▸ h3)) (st_tail hl hk h)))
theorem stn_s {u op' : Str} (h0 : l ≠ []) (hl : l.length = r.length) (hk : l.length ≤ 500) (h1 : (op == ("set" : Str)) = false) (h2 : (([("eq" : Str), "ne"] : List Str).any fun y => y == op) = false) (hlen : 0 < op.length) (hlen2 : op.length ≤ 100) (hu : Txt.item op 0 = u) (h3 : (u == ("s" : Str)) = true) (e : Txt.slice op (some 1) none = op') (h : op' ∈ (["lt", "ge", "gt", "le"] : List Str)) : Con (.ref 282) 3 [.str op, .li l, .li r] (.bool (standsV op' (flipL l) (flipL r))) :=
  have hr0 : r ≠ [] := fun e => h0 (List.length_eq_zero_iff.mp (by rw [hl, e]; rfl))
  Con.of0 F_law_stands 0 (ρ := stE op l r) rfl rfl rfl fun c => Ex.thenF (ts (Ev.name l0) h1) (Ex.thenF (Tst.sin (Ev.name l0) (Ev.stup (.cons Ev.cstr (.cons Ev.cstr .nil)) (by decide)) h2)
    (Ex.elseT (ρ' := stE op' (flipL l) (flipL r)) (Tst.seq (Ev.sitem (Ev.name l0) Ev.cint (by decide) (by omega) (by omega)) Ev.cstr (hu ▸ h3))
      (Ex.assign2 (.cons (ev_flip l1 h0 hk) (.cons (ev_flip l2 hr0 (by omega)) .nil)) trivial trivial q2 q1 trivial trivial (fun _ => rfl) (Ex.assign (Ev.sfrom1 l0 hlen2 e) trivial q0 trivial Ex.nil))
      (st_tail (by rw [flipL_len h0, flipL_len hr0, hl]) (by rw [flipL_len h0]; omega) h)))
def lawStands (op : Str) (l r : List Int) : Bool :=
  if op = ("set" : Str) then !decide (bothL l r = []) else if op = ("eq" : Str) then decide (l = r) else if op = ("ne" : Str) then !decide (l = r)
  else if op = ("sgt" : Str) then standsV "gt" (flipL l) (flipL r) else if op = ("sge" : Str) then standsV "ge" (flipL l) (flipL r) else if op = ("slt" : Str) then standsV "lt" (flipL l) (flipL r) else if op = ("sle" : Str) then standsV "le" (flipL l) (flipL r) else standsV op l r
theorem con_stands (h0 : l ≠ []) (hl : l.length = r.length) (hk : l.length ≤ 500) (h : op ∈ conds) : Con (.ref 282) 3 [.str op, .li l, .li r] (.bool (lawStands op l r)) := by
  unfold conds at h
  simp only [List.mem_cons, List.not_mem_nil, or_false] at h
  rcases h with rfl | rfl | rfl | rfl | rfl | rfl | rfl | rfl | rfl | rfl | rfl
  · exact (stn_eq (op := "eq") (b := true) (by decide) (by decide) (by decide)).bool (by show (decide (l = r) == true) = decide (l = r); simp)
  · exact (stn_u (op := "gt") hl (by omega) (by decide) (by decide) (by decide) rfl (by decide +kernel) (by decide)).bool rfl
  · exact (stn_u (op := "ge") hl (by omega) (by decide) (by decide) (by decide) rfl (by decide +kernel) (by decide)).bool rfl
  · exact (stn_set hl (by omega)).bool rfl
  · exact (stn_eq (op := "ne") (b := false) (by decide) (by decide) (by decide)).bool (by show (decide (l = r) == false) = !decide (l = r); simp)
  · exact (stn_s (op := "sgt") (op' := "gt") h0 hl hk (by decide) (by decide) (by decide) (by decide) rfl (by decide +kernel) (by decide +kernel) (by decide)).bool rfl
  · exact (stn_s (op := "sge") (op' := "ge") h0 hl hk (by decide) (by decide) (by decide) (by decide) rfl (by decide +kernel) (by decide +kernel) (by decide)).bool rfl
  · exact (stn_u (op := "lt") hl (by omega) (by decide) (by decide) (by decide) rfl (by decide +kernel) (by decide)).bool rfl
  · exact (stn_u (op := "le") hl (by omega) (by decide) (by decide) (by decide) rfl (by decide +kernel) (by decide)).bool rfl
  · exact (stn_s (op := "slt") (op' := "lt") h0 hl hk (by decide) (by decide) (by decide) (by decide) rfl (by decide +kernel) (by decide +kernel) (by decide)).bool rfl
  · exact (stn_s (op := "sle") (op' := "le") h0 hl hk (by decide) (by decide) (by decide) (by decide) rfl (by decide +kernel) (by decide +kernel) (by decide)).bool rfl
end
end Mine
end

section
open PySem PySem.W PyProof.Rows PySem.Calls
set_option maxHeartbeats 1000000
namespace Mine
section
variable {l r : List Int} {op : Str} {s : Bool} {n : Nat}
abbrev rowE (op : Str) (l r : List Int) (s : Bool) : List (Option V) := [some (.str op), some (.li l), some (.li r), some (.bool s), none]
theorem row_of {d : V} (hb : ∀ c a ob, c.cl = [(Str.ofString "least", a)] → ob.data = .cell none → Ex φ_law_row c n (rowE op l r s) (.own [(a, ob)]) b_law_row (.ret d .none)) : Con (.ref 270) (n + 1) [.str op, .li l, .li r, .bool s] d := by
  intro f c st m news vs Q E ok F N R P
  have hl : vs.length = 4 := R.length
  refine enterC F_law_row ok F N hl (by decide) (by decide) fun g L' h₁ tk cells ok' F' N' Y lt E' => ?_
  have loc : ∀ p ∈ [Str.ofString "op", Str.ofString "one", Str.ofString "other", Str.ofString "is_signed"].zip vs, ((c.intoC f φ_law_row g L').env φ_law_row).kindOf p.1 = some .local := fun p hp => by
    have : p.1 ∈ ([Str.ofString "op", Str.ofString "one", Str.ofString "other", Str.ofString "is_signed"] : List Str) := (List.of_mem_zip (a := p.1) (b := p.2) hp).1
    simp only [List.mem_cons, List.not_mem_nil, or_false] at this
    rcases this with e | e | e | e <;> rw [e] <;> rfl
  rw [bindC_local loc] at Y
  obtain ⟨ob, rfl, hob⟩ := Y.one
  have S : Sees φ_law_row.names (rowE op l r s) (bindL ((c.intoC f φ_law_row g L').env φ_law_row).kindOf ([Str.ofString "op", Str.ofString "one", Str.ofString "other", Str.ofString "is_signed"].zip vs) fun _ => none) news := by
    have S1 := sees_zip (ns := φ_law_row.names) (k := 1) (ps := [Str.ofString "op", Str.ofString "one", Str.ofString "other", Str.ofString "is_signed"]) (ρ := rowE op l r s) (os := [some (.str op), some (.li l), some (.li r), some (.bool s)]) F_law_row.ok.nd rfl rfl (R.toO) hl.symm
    intro x d q
    obtain ⟨v, hv, rv⟩ := S1 x d q
    refine ⟨v, ?_, rv⟩
    rw [bindL_local loc]
    have hv' : List.lookup x ([Str.ofString "op", Str.ofString "one", Str.ofString "other", Str.ofString "is_signed"].zip vs).reverse = some v := hv
    rw [hv']
  refine hb (c.intoC f φ_law_row g L') (L' + 1) ob rfl hob _ _ news _ _ E' ok' F' N' ⟨rfl, fun p hp => by rw [List.mem_singleton.mp hp]; exact off_data hob, fun p hp e => ?_⟩ S ?_
  · have e1 : p.1 = L' + 1 := by simpa using e
    exact absurd (lt p hp) (by rw [e1]; exact Nat.not_lt.mpr (Nat.le_succ _))
  · intro v h' tk' m' rest' gl' F2 N2 G2 s2 R2
    cases G2
    exact ⟨h', tk', m', rest', rfl, F2, N2, fun kF kN => P v h' tk' rest' kF kN s2 R2⟩
def pairV (s : Bool) (l r : List Int) : List Int × List Int :=
  if whole r = 0 then (List.replicate l.length 0, l) else if s = true then ((if (lastV l != lastV r) = true then tsign (quoL l r) else quoL l r), (if (lastV l == 1) = true then tsign (remL l r) else remL l r))
  else ((partS (whole r) l.reverse l.reverse.length).2.reverse, bitsOf (partS (whole r) l.reverse l.reverse.length).1 l.length)
theorem whole_absL {l : List Int} (h0 : l ≠ []) (hb : Bits l) : whole (absL l) = if (lastV l == 1) = true then 2 ^ l.length - whole l else whole l := by
  unfold absL
  split
  · rename_i h
    rw [whole_tsign]
    have h1 := whole_rng hb
    have h2 : 0 < whole l := by
      rcases List.eq_nil_or_concat l with e | ⟨l', b, rfl⟩
      · exact absurd e h0
      · rw [List.concat_eq_append] at *
        have hb' : Bits l' := fun x hx => hb x (List.mem_append_left _ hx)
        have e1 : b = 1 := by
          have : lastV (l' ++ [b]) = b := by
            unfold lastV
            have e : (-1 + ((l' ++ [b]).length : Int)).toNat = l'.length := by simp; omega
            rw [e]; simp [List.getD]
          rw [this] at h
          simpa using h
        rw [whole_snoc, e1]
        have := (whole_rng hb').1
        have := two_pow_pos l'.length
        omega
    have e : -whole l = (2 ^ l.length - whole l) + 2 ^ l.length * (-1) := by omega
    rw [e, Int.add_mul_emod_self_left]
    exact mod_small (by omega) (by omega)
  · rfl
theorem absL_pos {l : List Int} (h0 : l ≠ []) (hb : Bits l) (h : whole l ≠ 0) : whole (absL l) ≠ 0 := by
  rw [whole_absL h0 hb]
  have := whole_rng hb
  split <;> omega
theorem con_pairs (h0 : l ≠ []) (hr0 : r ≠ []) (hbr : Bits r) (hl : l.length ≤ 64) (hrl : r.length ≤ 64) : Con (.ref 258) 3 [.li l, .li r] (.pr (pairV true l r).1 (pairV true l r).2) := by
  unfold pairV
  by_cases h : whole r = 0
  · rw [if_pos h]; exact con_signs0 hl hrl h
  · rw [if_neg h, if_pos rfl]; exact con_signs h0 hr0 hl hrl h (absL_pos hr0 hbr h)
theorem con_pairu (h0 : l ≠ []) (hl : l.length ≤ 64) (hrl : r.length ≤ 64) : Con (.ref 251) 2 [.li l, .li r] (.pr (pairV false l r).1 (pairV false l r).2) := by
  unfold pairV
  by_cases h : whole r = 0
  · rw [if_pos h]; exact con_parted0 hl hrl h
  · rw [if_neg h, if_neg (by decide)]; exact con_parted h0 hl hrl h
def nb (l : List Int) : Nat := if l.length = 64 then 6 else 5
def shK (l r : List Int) : Nat := (whole (r.take (nb l))).toNat
abbrev scI : Scope := { kind := .function, names := [(Str.ofString ".0", .local), (Str.ofString "first", .local), (Str.ofString "second", .local), (Str.ofString "int", .globalImplicit)], isGenerator := false, isCoroutine := false }
abbrev scL : Scope := { kind := .function, names := [(Str.ofString ".0", .local), (Str.ofString "first", .local), (Str.ofString "second", .local), (Str.ofString "int", .globalImplicit), (Str.ofString "least", .free)], isGenerator := false, isCoroutine := false }
abbrev scL' : Scope := { kind := .function, names := [(Str.ofString ".0", .local), (Str.ofString "first", .local), (Str.ofString "second", .local), (Str.ofString "int", .globalImplicit), (Str.ofString "least", .cell)], isGenerator := false, isCoroutine := false }
theorem co_I (f : Fn) (c : Cx) : CompOk f c scI [] scI := ⟨rfl, rfl, rfl, by decide, by decide, ⟨by decide, by decide, rfl⟩⟩
theorem co_L {c : Cx} {a : Addr} (h : c.cl = [(Str.ofString "least", a)]) : CompOk φ_law_row c scL' [(Str.ofString "least", a)] scL := by
  obtain ⟨w, mean, mg, mb, dp, un, gd, outer, A₀, base, h₀, L, cl⟩ := c
  dsimp only at h
  subst h
  exact ⟨rfl, rfl, rfl, by decide, by decide, ⟨by decide, by decide, rfl⟩⟩
def xorL (l r : List Int) : List Int := accF (fun i => if (l.getD i 0 != r.getD i 0) = true then 1 else 0) l.length
def atL (k : Int) (l r : List Int) : List Int := accF (fun i => if decide (k ≤ l.getD i 0 + r.getD i 0) = true then 1 else 0) l.length
def rowV (op : Str) (l r : List Int) (s : Bool) : List Int :=
  if op = ("add" : Str) then sumL l r 0 else if op = ("sub" : Str) then sumL l (r.map fun b => 1 - b) 1 else if op = ("neg" : Str) then tsign l else if op = ("mov" : Str) then r else if op = ("mul" : Str) then bitsOf (whole l * whole r) l.length
  else if op = ("div" : Str) then (pairV s l r).1 else if op = ("mod" : Str) then (pairV s l r).2
  else if op = ("lsh" : Str) then List.replicate (shK l r) 0 ++ l.take (l.length - shK l r) else if op = ("rsh" : Str) then l.drop (shK l r) ++ List.replicate (shK l r) 0 else if op = ("arsh" : Str) then l.drop (shK l r) ++ List.replicate (shK l r) (lastV l)
  else if op = ("xor" : Str) then xorL l r else if op = ("and" : Str) then atL 2 l r else atL 1 l r
structure RowOk (l r : List Int) : Prop where
  bl : Bits l
  br : Bits r
  sz : Sz l.length
  len : l.length = r.length
theorem RowOk.ne {l r : List Int} (h : RowOk l r) : l ≠ [] := fun e => by
  have := h.sz.pos
  rw [e] at this; exact absurd this (by decide)
theorem RowOk.ner {l r : List Int} (h : RowOk l r) : r ≠ [] := fun e => h.ne (List.length_eq_zero_iff.mp (by rw [h.len, e]; rfl))
theorem RowOk.le {l r : List Int} (h : RowOk l r) : l.length ≤ 64 := h.sz.le
theorem RowOk.ler {l r : List Int} (h : RowOk l r) : r.length ≤ 64 := by rw [← h.len]; exact h.sz.le
theorem row_add (h : RowOk l r) : Con (.ref 270) 4 [.str "add", .li l, .li r, .bool s] (.li (sumL l r 0)) := row_of fun c a ob hcl hob =>
  Ex.thenT (ts (Ev.name l0) (by decide)) (Ex.retN (Ev.call G_law_sum g6 (.cons (Ev.name l1) (.cons (Ev.name l2) (.cons Ev.cint .nil))) (con_sum h.len h.ne (by have := h.le; omega))))
theorem row_sub (h : RowOk l r) : Con (.ref 270) 4 [.str "sub", .li l, .li r, .bool s] (.li (sumL l (r.map fun b => 1 - b) 1)) := row_of fun c a ob hcl hob =>
  Ex.thenF (ts (Ev.name l0) (by decide)) (Ex.thenT (ts (Ev.name l0) (by decide)) (Ex.retN (Ev.call G_law_sum g6 (.cons (Ev.name l1) (.cons (Ev.notRow l2 (by have := h.ler; omega)) (.cons Ev.cint .nil))) (con_sum (by rw [List.length_map]; exact h.len) h.ne (by have := h.le; omega)))))
theorem row_neg (h : RowOk l r) : Con (.ref 270) 4 [.str "neg", .li l, .li r, .bool s] (.li (tsign l)) := row_of fun c a ob hcl hob =>
  Ex.thenF (ts (Ev.name l0) (by decide)) (Ex.thenF (ts (Ev.name l0) (by decide)) (Ex.thenT (ts (Ev.name l0) (by decide)) (Ex.retN (Ev.call G_law_turned_sign g7 (.cons (Ev.name l1) .nil) (con_tsign h.ne (by have := h.le; omega))))))
theorem row_mov (h : RowOk l r) : Con (.ref 270) 4 [.str "mov", .li l, .li r, .bool s] (.li r) := row_of fun c a ob hcl hob =>
  Ex.thenF (ts (Ev.name l0) (by decide)) (Ex.thenF (ts (Ev.name l0) (by decide)) (Ex.thenF (ts (Ev.name l0) (by decide)) (Ex.thenT (ts (Ev.name l0) (by decide)) (Ex.retN (Ev.name l2)))))
theorem row_mul (h : RowOk l r) : Con (.ref 270) 4 [.str "mul", .li l, .li r, .bool s] (.li (bitsOf (whole l * whole r) l.length)) := row_of fun c a ob hcl hob =>
  Ex.thenF (ts (Ev.name l0) (by decide)) (Ex.thenF (ts (Ev.name l0) (by decide)) (Ex.thenF (ts (Ev.name l0) (by decide)) (Ex.thenF (ts (Ev.name l0) (by decide)) (Ex.thenT (ts (Ev.name l0) (by decide)) (Ex.retN (Ev.call G_law_product g8 (.cons (Ev.name l1) (.cons (Ev.name l2) .nil)) (con_prod h.bl h.br h.le h.ler)))))))
theorem ev_pair {c : Cx} (h : RowOk l r) {p1 p2 p3 p4 p5 p6 p7 p8 p9 p0 : Pos} : Ev φ_law_row c 3 (rowE op l r s) (.IfExp (.Name (Str.ofString "is_signed") p1) (.Call (.Name (Str.ofString "_law_parted_signs") p2) [.Name (Str.ofString "one") p3, .Name (Str.ofString "other") p4] [] p5) (.Call (.Name (Str.ofString "_law_parted") p6) [.Name (Str.ofString "one") p7, .Name (Str.ofString "other") p8] [] p9) p0) (.pr (pairV s l r).1 (pairV s l r).2) :=
  Ev.ifexp (Tst.plain (Ev.name l3) rfl) (fun e => e ▸ Ev.call G_law_parted_signs g9 (.cons (Ev.name l1) (.cons (Ev.name l2) .nil)) (con_pairs h.ne h.ner h.br h.le h.ler)) (fun e => e ▸ Ev.call G_law_parted g10 (.cons (Ev.name l1) (.cons (Ev.name l2) .nil)) (con_pairu h.ne h.le h.ler))
end
end Mine
end

section
open PySem PySem.W PyProof.Rows PySem.Calls
set_option maxHeartbeats 1000000
namespace Mine
section
variable {l r : List Int} {op : Str} {s : Bool}
theorem row_5 {c : Cx} {g : G} {b : List Stmt} {o : Out} {n : Nat} {t1 t2 t3 t4 t5 : List Stmt} {k1 k2 k3 k4 k5 : Nat} {p11 p12 p13 p14 p21 p22 p23 p24 p31 p32 p33 p34 p41 p42 p43 p44 p51 p52 p53 p54 : Pos}
    (h : (([("add" : Str), "sub", "neg", "mov", "mul"] : List Str).any fun y => op == y) = false) (k : Ex φ_law_row c n (rowE op l r s) g b o) :
    Ex φ_law_row c n (rowE op l r s) g
      (.If (.Compare (.Name (Str.ofString "op") p11) [.Eq] [.Constant (.str "add") k1 p12] p13) t1 [] p14 :: .If (.Compare (.Name (Str.ofString "op") p21) [.Eq] [.Constant (.str "sub") k2 p22] p23) t2 [] p24 :: .If (.Compare (.Name (Str.ofString "op") p31) [.Eq] [.Constant (.str "neg") k3 p32] p33) t3 [] p34 ::
       .If (.Compare (.Name (Str.ofString "op") p41) [.Eq] [.Constant (.str "mov") k4 p42] p43) t4 [] p44 :: .If (.Compare (.Name (Str.ofString "op") p51) [.Eq] [.Constant (.str "mul") k5 p52] p53) t5 [] p54 :: b) o := by
  simp only [List.any_cons, List.any_nil, Bool.or_false, Bool.or_eq_false_iff] at h
  obtain ⟨h1, h2, h3, h4, h5⟩ := h
  exact Ex.thenF (ts (Ev.name l0) h1) (Ex.thenF (ts (Ev.name l0) h2) (Ex.thenF (ts (Ev.name l0) h3) (Ex.thenF (ts (Ev.name l0) h4) (Ex.thenF (ts (Ev.name l0) h5) k))))
theorem row_div (h : RowOk l r) : Con (.ref 270) 4 [.str "div", .li l, .li r, .bool s] (.li (pairV s l r).1) := row_of fun c a ob hcl hob =>
  row_5 (by decide) (Ex.thenT (Tst.sin (Ev.name l0) (Ev.stup (.cons Ev.cstr (.cons Ev.cstr .nil)) (by decide)) (by decide)) (Ex.assign (ev_pair h) trivial q4 trivial (Ex.retN (Ev.ifexp (q := true) (ts (Ev.name l0) (by decide)) (fun _ => Ev.pair0 (Ev.name l4) Ev.cint) (fun e => nomatch e)))))
theorem row_mod (h : RowOk l r) : Con (.ref 270) 4 [.str "mod", .li l, .li r, .bool s] (.li (pairV s l r).2) := row_of fun c a ob hcl hob =>
  row_5 (by decide) (Ex.thenT (Tst.sin (Ev.name l0) (Ev.stup (.cons Ev.cstr (.cons Ev.cstr .nil)) (by decide)) (by decide)) (Ex.assign (ev_pair h) trivial q4 trivial (Ex.retN (Ev.ifexp (q := false) (ts (Ev.name l0) (by decide)) (fun e => nomatch e) (fun _ => Ev.pair1 (Ev.name l4) Ev.cint)))))
theorem take_bits {l : List Int} (h : Bits l) (n : Nat) : Bits (l.take n) := fun x hx => h x (List.mem_of_mem_take hx)
theorem shK_le (h : RowOk l r) : shK l r ≤ l.length := by
  have h1 := whole_rng (take_bits h.br (nb l))
  have h2 := h.len
  unfold shK nb at *
  rcases h.sz with e | e
  · rw [if_neg (by omega)] at *
    have : (r.take 5).length = 5 := by rw [List.length_take]; omega
    rw [this] at h1
    have e5 : (2 : Int) ^ 5 = 32 := by decide
    omega
  · rw [if_pos e] at *
    have : (r.take 6).length = 6 := by rw [List.length_take]; omega
    rw [this] at h1
    have e5 : (2 : Int) ^ 6 = 64 := by decide
    omega
theorem ev_shift {c : Cx} (h : RowOk l r) {p1 p2 p3 p4 p5 p6 p7 p8 p9 p10 p11 p12 p13 : Pos} {k1 k2 k3 : Nat} : Ev φ_law_row c 3 (rowE op l r s)
    (.Call (.Name (Str.ofString "_law_whole") p1) [.Subscript (.Name (Str.ofString "other") p2) (.Slice none (some (.IfExp (.Compare (.Call (.Name (Str.ofString "len") p3) [.Name (Str.ofString "one") p4] [] p5) [.Eq] [.Constant (.int 64) k1 p6] p7) (.Constant (.int 6) k2 p8) (.Constant (.int 5) k3 p9) p10)) none p11) p12] [] p13) (.int (shK l r : Nat)) :=
  (Ev.call G_law_whole g12 (.cons ((Ev.slice (a := none) (b := some (nb l : Int)) (Ev.name l2) .no (.yes ((Ev.iteI (Tst.cmp (Ev.callB B_len g13 (.cons (Ev.name l1) .nil) (con_len (by have := h.le; omega))) Ev.cint op_eq rfl) (fun _ => Ev.cint) (fun _ => Ev.cint)).congr (congrArg V.int (by
      unfold nb
      rcases h.sz with e | e <;> rw [e] <;> rfl)))) (by have := h.ler; omega)).congr (congrArg V.li (pick_to (by
      have := h.len
      unfold nb
      rcases h.sz with e | e <;> rw [e] <;> simp <;> omega)))) .nil) (con_whole (by rw [List.length_take]; have := h.ler; omega))).congr (congrArg V.int (by
    unfold shK
    rw [Int.toNat_of_nonneg (whole_rng (take_bits h.br (nb l))).1]))
theorem row_sh {d : List Int} (h : RowOk l r) (h1 : (([("add" : Str), "sub", "neg", "mov", "mul"] : List Str).any fun y => op == y) = false) (h2 : (([("div" : Str), "mod"] : List Str).any fun y => y == op) = false) (h3 : (([("lsh" : Str), "rsh", "arsh"] : List Str).any fun y => y == op) = true)
    (hc : Con (.ref 265) 1 [.str op, .li l, .int (shK l r : Nat)] (.li d)) : Con (.ref 270) 4 [.str op, .li l, .li r, .bool s] (.li d) := row_of fun c a ob hcl hob =>
  row_5 h1 (Ex.thenF (Tst.sin (Ev.name l0) (Ev.stup (.cons Ev.cstr (.cons Ev.cstr .nil)) (by decide)) h2) (Ex.thenT (Tst.sin (Ev.name l0) (Ev.stup (.cons Ev.cstr (.cons Ev.cstr (.cons Ev.cstr .nil))) (by decide)) h3)
    (Ex.retN (Ev.call G_law_shift g11 (.cons (Ev.name l0) (.cons (Ev.name l1) (.cons (ev_shift h) .nil))) hc))))
theorem row_bits {d : List Int} {j : Int} {b : Bool} (h1 : (([("add" : Str), "sub", "neg", "mov", "mul"] : List Str).any fun y => op == y) = false) (h2 : (([("div" : Str), "mod"] : List Str).any fun y => y == op) = false) (h3 : (([("lsh" : Str), "rsh", "arsh"] : List Str).any fun y => y == op) = false)
    (h4 : (op == ("and" : Str)) = b) (hj : (if b = true then 2 else 1) = j) (k : ∀ c a, c.cl = [(Str.ofString "least", a)] → ExC φ_law_row c 3 (rowE op l r s) [(Str.ofString "least", .int j)] .none (b_law_row.drop 8) (.ret (.li d) .none)) : Con (.ref 270) 4 [.str op, .li l, .li r, .bool s] (.li d) := row_of fun c a ob hcl hob =>
  row_5 h1 (Ex.thenF (Tst.sin (Ev.name l0) (Ev.stup (.cons Ev.cstr (.cons Ev.cstr .nil)) (by decide)) h2) (Ex.thenF (Tst.sin (Ev.name l0) (Ev.stup (.cons Ev.cstr (.cons Ev.cstr (.cons Ev.cstr .nil))) (by decide)) h3)
    (Ex.assignCell (a := a) ((Ev.iteI (ts (Ev.name l0) h4) (fun _ => Ev.cint) (fun _ => Ev.cint)).congr (congrArg V.int hj)) (by rw [hcl]; rfl) hob g5 (k c a hcl))))
theorem row_xor (h : RowOk l r) : Con (.ref 270) 4 [.str "xor", .li l, .li r, .bool s] (.li (xorL l r)) := row_bits (b := false) (j := 1) (by decide) (by decide) (by decide) (by decide) rfl fun c a hcl =>
  ExC.thenT (ts (Ev.name l0) (by decide)) (ExC.retN (EvC.of fun st m news Q E ok F N S P => compZip_at (cl := []) (ρc := []) (U := fun i => [none, some (.int (l.getD i 0)), none, none]) (U2 := fun i => [none, some (.int (l.getD i 0)), some (.int (r.getD i 0)), none]) (co_I _ c) g14 (.cons (Ev.name l1) (.cons (Ev.name l2) .nil)) h.len (by have := h.le; omega) (fun i => q1) (fun i => q2)
    (fun i hi => EvK.callT B_int g3 (.cons (EvK.cmp (EvK.name l1) (EvK.name l2) op_ne) .nil) con_intb) ok F N S (fun _ h => nomatch h) P))
theorem row_at {j : Int} {b : Bool} (h : RowOk l r) (h1 : (([("add" : Str), "sub", "neg", "mov", "mul"] : List Str).any fun y => op == y) = false) (h2 : (([("div" : Str), "mod"] : List Str).any fun y => y == op) = false) (h3 : (([("lsh" : Str), "rsh", "arsh"] : List Str).any fun y => y == op) = false)
    (h4 : (op == ("and" : Str)) = b) (hj : (if b = true then 2 else 1) = j) (h5 : (op == ("xor" : Str)) = false) : Con (.ref 270) 4 [.str op, .li l, .li r, .bool s] (.li (atL j l r)) := row_bits h1 h2 h3 h4 hj fun c a hcl =>
  ExC.thenF (ts (Ev.name l0) h5) (ExC.retN fun st m news Q E ok F N S K P => compZip_at (cl := [(Str.ofString "least", a)]) (ρc := [(Str.ofString "least", .int j)]) (U := fun i => [none, some (.int (l.getD i 0)), none, none, none]) (U2 := fun i => [none, some (.int (l.getD i 0)), some (.int (r.getD i 0)), none, none]) (co_L hcl) g14 (.cons (Ev.name l1) (.cons (Ev.name l2) .nil)) h.len (by have := h.le; omega) (fun i => q1) (fun i => q2)
    (fun i hi => EvK.callT B_int g3 (.cons (EvK.cmp (EvK.bin (EvK.name l1) (EvK.name l2) op_add) (EvK.cell g4 (.head _)) op_ge) .nil) con_intb) ok F N S (hcl ▸ K) P)
theorem con_row (h : RowOk l r) (ho : op ∈ deeds) : Con (.ref 270) 4 [.str op, .li l, .li r, .bool s] (.li (rowV op l r s)) := by
  unfold deeds at ho
  simp only [List.mem_cons, List.not_mem_nil, or_false] at ho
  rcases ho with rfl | rfl | rfl | rfl | rfl | rfl | rfl | rfl | rfl | rfl | rfl | rfl | rfl
  · exact (row_div h).congr rfl
  · exact (row_mod h).congr rfl
  · exact (row_add h).congr rfl
  · exact (row_sub h).congr rfl
  · exact (row_mul h).congr rfl
  · exact (row_at (op := "or") (b := false) (j := 1) h (by decide) (by decide) (by decide) (by decide) rfl (by decide)).congr rfl
  · exact (row_at (op := "and") (b := true) (j := 2) h (by decide) (by decide) (by decide) (by decide) rfl (by decide)).congr rfl
  · exact (row_sh (op := "lsh") h (by decide) (by decide) (by decide) (con_lsh h.le (shK_le h))).congr rfl
  · exact (row_sh (op := "rsh") h (by decide) (by decide) (by decide) (con_rsh (op := "rsh") h.ne h.le (shK_le h) (by decide))).congr rfl
  · exact (row_neg h).congr rfl
  · exact (row_xor h).congr rfl
  · exact (row_mov h).congr rfl
  · exact (row_sh (op := "arsh") h (by decide) (by decide) (by decide) (con_rsh (op := "arsh") h.ne h.le (shK_le h) (by decide))).congr rfl
end
end Mine
end

section
open PySem PySem.W PyProof.Rows PySem.Calls
set_option maxHeartbeats 1000000
namespace Mine
-- expressions beside something that changes
section
variable {f : Fn} {c : Cx} {n : Nat} {ρ ρ' : List (Option V)} {g g' : G} {P : Addr} {ns : List Int} {k k' : Nat} {x y : Int}
def EvG (f : Fn) (c : Cx) (n : Nat) (ρ : List (Option V)) (g : G) (e : Expr) (d : V) : Prop :=
  ∀ (s : Shared) (m : Str → Option Value) (rest gl : Led) (Q E : Value → Shared → Prop), c.Ok f n → Fr c.h₀ c.L s.heap m → News c.h₀ c.L s.heap (gl ++ rest) → GOk g m rest gl → Sees f.names ρ m rest →
    (∀ v h' tk' rest', Fr c.h₀ c.L h' m → News c.h₀ c.L h' (gl ++ rest') → GOk g m rest' gl → (∀ p ∈ rest, p ∈ rest') → Rep rest' v d → Q v { s with heap := h', toks := tk' }) →
    wpAny (model pg c.w) (c.A f) (eval e (c.env f)) Q E s
theorem EvG.of {e : Expr} {d : V} (h : Ev f c n ρ e d) (fit : Fits g d) : EvG f c n ρ g e d :=
  fun s m rest gl Q E ok F N G S P => h s m _ Q E ok F N S.gl fun v h' t' led F' N' s' R => by
    obtain ⟨rest', N2, G2, s2, R2⟩ := regain N' G s' R fit
    exact P v h' t' rest' F' N2 G2 s2 R2
theorem EvG.congr {e : Expr} {a b : V} (h : EvG f c n ρ g e a) (q : a = b) : EvG f c n ρ g e b := q ▸ h
/-- the end of an operation: what it made goes onto the ledger -/
theorem gpost {s : Shared} {m : Str → Option Value} {rest gl : Led} {Q : Value → Shared → Prop} {d : V} (G : GOk g m rest gl) (fit : Fits g d)
    (P : ∀ v h' tk' rest', Fr c.h₀ c.L h' m → News c.h₀ c.L h' (gl ++ rest') → GOk g m rest' gl → (∀ p ∈ rest, p ∈ rest') → Rep rest' v d → Q v { s with heap := h', toks := tk' }) : Post c s m (gl ++ rest) Q d :=
  fun v h' t' led F' N' s' R => by
    obtain ⟨rest', N2, G2, s2, R2⟩ := regain N' G s' R fit
    exact P v h' t' rest' F' N2 G2 s2 R2
theorem glL {gl rest : Led} {v : Value} {d : V} (R : Rep rest v d) : Rep (gl ++ rest) v d := R.mono fun p hp => List.mem_append_right _ hp
theorem EvG.bin {l r : Expr} {op : Operator} {pos : Pos} {a b d : V} (hl : EvG f c n ρ g l a) (hr : EvG f c n ρ g r b) (ho : Op2 (binaryOp op) a b d) (fit : Fits g d) : EvG f c n ρ g (.BinOp l op r pos) d :=
  fun s m rest gl Q E ok F N G S P => wpAny_BinOp (hl s m rest gl _ E ok F N G S fun v h1 t1 r1 F1 N1 G1 s1 R1 =>
    hr _ m r1 gl _ E ok F1 N1 G1 (S.mono s1) fun u h2 t2 r2 F2 N2 G2 s2 R2 =>
      ho f c _ m _ v u Q E (by have := ok.units; omega) F2 N2 (glL (R1.mono s2)) (glL R2) (gpost G2 fit fun w h3 t3 r3 F3 N3 G3 s3 R3 => P w h3 t3 r3 F3 N3 G3 (fun p hp => s3 p (s2 p (s1 p hp))) R3))
theorem EvG.cmp {l r : Expr} {op : CmpOp} {pos : Pos} {a b d : V} (hl : EvG f c n ρ g l a) (hr : EvG f c n ρ g r b) (ho : Op2 (compareOp op) a b d) (fit : Fits g d) (hb : behindInMarks op r = false := by rfl) : EvG f c n ρ g (.Compare l [op] [r] pos) d :=
  fun s m rest gl Q E ok F N G S P => wpAny_Compare1 (hl s m rest gl _ E ok F N G S fun v h1 t1 r1 F1 N1 G1 s1 R1 =>
    hr _ m r1 gl _ E ok F1 N1 G1 (S.mono s1) fun u h2 t2 r2 F2 N2 G2 s2 R2 =>
      ho f c _ m _ v u Q E (by have := ok.units; omega) F2 N2 (glL (R1.mono s2)) (glL R2) (gpost G2 fit fun w h3 t3 r3 F3 N3 G3 s3 R3 => P w h3 t3 r3 F3 N3 G3 (fun p hp => s3 p (s2 p (s1 p hp))) R3)) hb
def TstG (f : Fn) (c : Cx) (n : Nat) (ρ : List (Option V)) (g : G) (e : Expr) (b : Bool) : Prop :=
  ∀ (s : Shared) (m : Str → Option Value) (rest gl : Led) (Q : Bool → Shared → Prop) (E : Value → Shared → Prop), c.Ok f n → Fr c.h₀ c.L s.heap m → News c.h₀ c.L s.heap (gl ++ rest) → GOk g m rest gl → Sees f.names ρ m rest →
    (∀ h' tk' rest', Fr c.h₀ c.L h' m → News c.h₀ c.L h' (gl ++ rest') → GOk g m rest' gl → (∀ p ∈ rest, p ∈ rest') → Q b { s with heap := h', toks := tk' }) →
    wpAny (model pg c.w) (c.A f) (PySem.isTrue e (c.env f) (eval e (c.env f))) Q E s
theorem TstG.cmp {l r : Expr} {op : CmpOp} {pos : Pos} {a b d : V} {t : Bool} (hl : EvG f c n ρ g l a) (hr : EvG f c n ρ g r b) (ho : Op2 (compareOp op) a b d) (fit : Fits g d) (ht : d.truth t) (hb : behindInMarks op r = false := by rfl) : TstG f c n ρ g (.Compare l [op] [r] pos) t :=
  fun s m rest gl Q E ok F N G S P => wpAny_isTrue_Compare1 (hl s m rest gl _ E ok F N G S fun v h1 t1 r1 F1 N1 G1 s1 R1 =>
    hr _ m r1 gl _ E ok F1 N1 G1 (S.mono s1) fun u h2 t2 r2 F2 N2 G2 s2 R2 =>
      ho f c _ m _ v u _ E (by have := ok.units; omega) F2 N2 (glL (R1.mono s2)) (glL R2) (gpost G2 fit fun w h3 t3 r3 F3 N3 G3 s3 R3 => truthy_V ht R3 (P h3 t3 r3 F3 N3 G3 (fun p hp => s3 p (s2 p (s1 p hp)))))) hb
theorem TstG.and2 {x y : Expr} {pos : Pos} {b1 b2 : Bool} (h1 : TstG f c n ρ g x b1) (h2 : b1 = true → TstG f c n ρ g y b2) : TstG f c n ρ g (.BoolOp .And [x, y] pos) (b1 && b2) :=
  fun s m rest gl Q E ok F N G S P => isTrue_and (h1 s m rest gl _ E ok F N G S fun h' t' r' F' N' G' s' => by
    cases b1 with
    | true => exact isTrue_and (h2 rfl _ m r' gl _ E ok F' N' G' (S.mono s') fun h3 t3 r3 F3 N3 G3 s3 => by
        cases b2 with
        | true => exact isTrue_and_nil (P h3 t3 r3 F3 N3 G3 (fun p hp => s3 p (s' p hp)))
        | false => exact P h3 t3 r3 F3 N3 G3 (fun p hp => s3 p (s' p hp)))
    | false => exact P h' t' r' F' N' G' s')
theorem TstG.congr {e : Expr} {a b : Bool} (h : TstG f c n ρ g e a) (q : a = b) : TstG f c n ρ g e b := q ▸ h
theorem EvG.callT1 {x : Str} {p pos : Pos} {T : String} {e : Expr} {a d : V} {j : Nat} (hg : GBi x (.type T)) (hk : Kd .globalImplicit f.names x) (ha : EvG f c n ρ g e a) (hc : Con (.type T) j [a] d) (fit : Fits g d) (hn : j ≤ n := by decide)
    (he : ∀ env, starEach [e] env = (false, eval e env) :: starEach [] env := by intro _; rfl) :
    EvG f c n ρ g (.Call (.Name x p) [e] [] pos) d :=
  fun s m rest gl Q E ok F N G S P => Call_ (nameX_B F ok.kin (topRead_of ok.top) (hg.1 c.w.params) hg.2.1 hg.2.2
    (PyProof.Rows.callWith_type1 (spliced_more (ha s m rest gl _ E ok F N G S fun v h' t' r' F' N' G' s' R => spliced_none
      (hc f c _ m _ [v] Q E (ok.le hn) F' N' ⟨glL R, trivial⟩ (gpost G' fit fun w h3 t3 r3 F3 N3 G3 s3 R3 => P w h3 t3 r3 F3 N3 G3 (fun p hp => s3 p (s' p hp)) R3))) (he _)) (he _) rfl)
    rfl (hk.kindOf c ok.fok) (ok.fok.dbg _ hk.mem))
theorem EvG.callB1 {x : Str} {p pos : Pos} {T : String} {e : Expr} {a d : V} {j : Nat} (hg : GBi x (.builtin T)) (hk : Kd .globalImplicit f.names x) (ha : EvG f c n ρ g e a) (hc : Con (.builtin T) j [a] d) (fit : Fits g d) (hn : j ≤ n := by decide)
    (he : ∀ env, starEach [e] env = (false, eval e env) :: starEach [] env := by intro _; rfl) :
    EvG f c n ρ g (.Call (.Name x p) [e] [] pos) d :=
  fun s m rest gl Q E ok F N G S P => Call_ (nameX_B F ok.kin (topRead_of ok.top) (hg.1 c.w.params) hg.2.1 hg.2.2
    (callWith_b1 (spliced_more (ha s m rest gl _ E ok F N G S fun v h' t' r' F' N' G' s' R => spliced_none
      (hc f c _ m _ [v] Q E (ok.le hn) F' N' ⟨glL R, trivial⟩ (gpost G' fit fun w h3 t3 r3 F3 N3 G3 s3 R3 => P w h3 t3 r3 F3 N3 G3 (fun p hp => s3 p (s' p hp)) R3))) (he _)) (he _) rfl)
    rfl (hk.kindOf c ok.fok) (ok.fok.dbg _ hk.mem))
theorem EvG.item {x slice : Expr} {pos : Pos} {l : List Int} {i : Int} (hx : EvG f c n ρ g x (.li l)) (hi : EvG f c n ρ g slice (.int i)) (h0 : 0 ≤ i) (h1 : i < l.length) (h2 : i < 2 ^ 63)
    (hs : ∀ a b, subscripted slice false a b = operate [a, b] (getItem a b) := by intro _ _; rfl) : EvG f c n ρ g (.Subscript x slice pos) (.int (l.getD i.toNat 0)) :=
  fun s m rest gl Q E ok F N G S P => Subscript_ (hx s m rest gl _ E ok F N G S fun v h1' t1 r1 F1 N1 G1 s1 R1 =>
    hi _ m r1 gl _ E ok F1 N1 G1 (S.mono s1) fun u h2' t2 r2 F2 N2 G2 s2 R2 => by
      obtain ⟨a, vs, k, rfl, hm, ii⟩ := R1.mono s2
      obtain ⟨t, rfl⟩ := R2
      exact item_list_intsR ⟨_, (N2 _ (List.mem_append_right _ hm)).1, rfl, k, rfl⟩ ii h0 h1 h2 (fun t' => P _ h2' t2 r2 F2 N2 G2 (fun p hp => s2 p (s1 p hp)) ⟨t', rfl⟩) (hs _ _))
/-- the places of the pen -/
theorem EvG.pen1 {y : Str} {p p2 pos : Pos} {k2 : Nat} {a b : Int} (l : Look f.names ρ y (.obj (.ref P))) : EvG f c n ρ (.penx P ns a b) (.Subscript (.Name y p) (.Constant (.int 1) k2 p2) pos) (.int a) :=
  fun s m rest gl Q E ok F N G S PP => Subscript_ ((EvG.of (g := .penx P ns a b) (Ev.name l) trivial) s m rest gl _ E ok F N G S fun v h1 t1 r1 F1 N1 G1 s1 R1 =>
    (EvG.of (g := .penx P ns a b) Ev.cint trivial) _ m r1 gl _ E ok F1 N1 G1 (S.mono s1) fun u h2 t2 r2 F2 N2 G2 s2 R2 => by
      cases R1
      obtain ⟨t, rfl⟩ := R2
      obtain ⟨l', vs, ln, ta, tb, pn, e, hm, hi, ho⟩ := id G2
      subst e
      exact PyProof.Rows.item_listL ⟨_, (N2 _ (.head _)).1, rfl, pn, rfl⟩ (by decide) (by decide) rfl (PP _ h2 t2 r2 F2 N2 G2 (fun p hp => s2 p (s1 p hp)) ⟨ta, rfl⟩) (by rfl) (by intro _; rfl))
theorem EvG.pen2 {y : Str} {p p2 pos : Pos} {k2 : Nat} {a b : Int} (l : Look f.names ρ y (.obj (.ref P))) : EvG f c n ρ (.penx P ns a b) (.Subscript (.Name y p) (.Constant (.int 2) k2 p2) pos) (.int b) :=
  fun s m rest gl Q E ok F N G S PP => Subscript_ ((EvG.of (g := .penx P ns a b) (Ev.name l) trivial) s m rest gl _ E ok F N G S fun v h1 t1 r1 F1 N1 G1 s1 R1 =>
    (EvG.of (g := .penx P ns a b) Ev.cint trivial) _ m r1 gl _ E ok F1 N1 G1 (S.mono s1) fun u h2 t2 r2 F2 N2 G2 s2 R2 => by
      cases R1
      obtain ⟨t, rfl⟩ := R2
      obtain ⟨l', vs, ln, ta, tb, pn, e, hm, hi, ho⟩ := id G2
      subst e
      exact PyProof.Rows.item_listL ⟨_, (N2 _ (.head _)).1, rfl, pn, rfl⟩ (by decide) (by decide) rfl (PP _ h2 t2 r2 F2 N2 G2 (fun p hp => s2 p (s1 p hp)) ⟨tb, rfl⟩) (by rfl) (by intro _; rfl))
theorem EvG.pen0 {y : Str} {p p2 pos : Pos} {k2 : Nat} {a b : Int} (l : Look f.names ρ y (.obj (.ref P))) : EvG f c n ρ (.penx P ns a b) (.Subscript (.Name y p) (.Constant (.int 0) k2 p2) pos) (.li ns) :=
  fun s m rest gl Q E ok F N G S PP => Subscript_ ((EvG.of (g := .penx P ns a b) (Ev.name l) trivial) s m rest gl _ E ok F N G S fun v h1 t1 r1 F1 N1 G1 s1 R1 =>
    (EvG.of (g := .penx P ns a b) Ev.cint trivial) _ m r1 gl _ E ok F1 N1 G1 (S.mono s1) fun u h2 t2 r2 F2 N2 G2 s2 R2 => by
      cases R1
      obtain ⟨t, rfl⟩ := R2
      obtain ⟨l', vs, ln, ta, tb, pn, e, hm, hi, ho⟩ := id G2
      subst e
      exact PyProof.Rows.item_listL ⟨_, (N2 _ (.head _)).1, rfl, pn, rfl⟩ (by decide) (by decide) rfl (PP _ h2 t2 r2 F2 N2 G2 (fun p hp => s2 p (s1 p hp)) ⟨l', vs, ln, rfl, hm, hi⟩) (by rfl) (by intro _; rfl))
-- statements
theorem Ex.assignG {x : Str} {xp : Pos} {e : Expr} {pos : Pos} {r : List Stmt} {d : V} {o : Out} (h : EvG f c n ρ g e d) (p : Put f.names ρ x d ρ') (hx : g.away x) (k : Ex f c n ρ' g r o)
    (hsw : ∀ env, swapsWith e (some (.Name x xp)) pos.line env = pure false := by intro _; rfl) : Ex f c n ρ g (.Assign [.Name x xp] e pos :: r) o :=
  fun s m rest gl Q E ok F N G S P => wpAny_execs_cons (wpAny_Assign_Name (h s m rest gl _ E ok F N G S fun v h' t' rest' F' N2 G2 s2 R2 => by
    refine storeX_L F' N2 (fun h3 F3 N3 => ?_) rfl (p.kd.kindOf c ok.fok)
    exact k _ _ rest' gl Q E ok F3 N3 (G2.set hx) ((S.mono s2).put ok.fok.nd p R2) (P.sub s2 _ _)) (hsw _))
theorem Ex.retG {e : Expr} {pos : Pos} {r : List Stmt} {d : V} (h : EvG f c n ρ g e d) : Ex f c n ρ g (.Return (some e) pos :: r) (.ret d g) :=
  fun s m rest gl Q E ok F N G S P => wpAny_execs_cons (wpAny_Return_some (h s m rest gl _ E ok F N G S fun v h' t' rest' F' N2 G2 s2 R2 => P v h' t' m rest' gl F' N2 G2 s2 R2))
theorem Ex.thenTG {t : Expr} {A B r : List Stmt} {pos : Pos} {d : V} (ht : TstG f c n ρ g t true) (h1 : Ex f c n ρ g A (.ret d g')) : Ex f c n ρ g (.If t A B pos :: r) (.ret d g') :=
  fun s m rest gl Q E ok F N G S P => wpAny_execs_cons (wpAny_If (ht s m rest gl _ E ok F N G S fun h' t' r' F' N' G' s' =>
    h1 _ m r' gl _ E ok F' N' G' (S.mono s') fun v h2 t2 m2 r2 gl2 F2 N2 G2 s2 R2 => P v h2 t2 m2 r2 gl2 F2 N2 G2 (fun p hp => s2 p (s' p hp)) R2))
theorem Ex.thenFG {t : Expr} {A r : List Stmt} {pos : Pos} {o : Out} (ht : TstG f c n ρ g t false) (h1 : Ex f c n ρ g r o) : Ex f c n ρ g (.If t A [] pos :: r) o :=
  fun s m rest gl Q E ok F N G S P => wpAny_execs_cons (wpAny_If (ht s m rest gl _ E ok F N G S fun h' t' r' F' N' G' s' =>
    wpAny_execs_nil (h1 _ m r' gl Q E ok F' N' G' (S.mono s') (P.sub s' _ _))))
theorem Ex.elseTG {t : Expr} {A B r : List Stmt} {pos : Pos} {o : Out} (ht : TstG f c n ρ g t true) (h1 : Ex f c n ρ g A (.next ρ' g')) (h2 : Ex f c n ρ' g' r o) : Ex f c n ρ g (.If t A B pos :: r) o :=
  fun s m rest gl Q E ok F N G S P => wpAny_execs_cons (wpAny_If (ht s m rest gl _ E ok F N G S fun h' t' r' F' N' G' s' =>
    h1 _ m r' gl _ E ok F' N' G' (S.mono s') fun h2' t2 m2 r2 gl2 F2 N2 G2 s2 S2 => h2 _ m2 r2 gl2 Q E ok F2 N2 G2 S2 (P.sub (fun p hp => s2 p (s' p hp)) _ _)))
theorem pen_set {h₀ h : Heap} {L : Addr} {l : Addr} {a b a' b' : Int} {ta tb ta' tb' : Tok} {pn : Nat} {rest : Led} {j : Nat} {v : Value} (N : News h₀ L h ((P, penObj l a b ta tb pn) :: rest)) (hr : ∀ p ∈ rest, p.1 ≠ P) (he : (#[Value.ref l, Value.int a ta, Value.int b tb] : Array Value).setIfInBounds j v = #[Value.ref l, Value.int a' ta', Value.int b' tb']) :
    News h₀ L (h.update P (Obj.mapSeq (·.setIfInBounds j v))) ((P, penObj l a' b' ta' tb' pn) :: rest) :=
  ki_turn (pre := []) (post := rest) (its := #[Value.ref l, Value.int a ta, Value.int b tb]) (its' := #[Value.ref l, Value.int a' ta', Value.int b' tb']) (fun its => its.setIfInBounds j v) N (fun _ h => nomatch h) hr he rfl
theorem Ex.store1 {y : Str} {p p2 p3 pos : Pos} {k2 : Nat} {e : Expr} {r : List Stmt} {a b i : Int} {o : Out} (l : Look f.names ρ y (.obj (.ref P))) (h : EvG f c n ρ (.penx P ns a b) e (.int i)) (k : Ex f c n ρ (.penx P ns i b) r o)
    (hsw : ∀ env, swapsWith e (some (.Subscript (.Name y p) (.Constant (.int 1) k2 p2) p3)) pos.line env = pure false := by intro _; rfl) : Ex f c n ρ (.penx P ns a b) (.Assign [.Subscript (.Name y p) (.Constant (.int 1) k2 p2) p3] e pos :: r) o :=
  fun s m rest gl Q E ok F N G S PP => wpAny_execs_cons (wpAny_Assign_Subscript (h s m rest gl _ E ok F N G S fun v h1 t1 r1 F1 N1 G1 s1 R1 =>
    (EvG.of (g := .penx P ns a b) (Ev.name l) trivial) _ m r1 gl _ E ok F1 N1 G1 (S.mono s1) fun ov h2 t2 r2 F2 N2 G2 s2 R2 =>
    (EvG.of (g := .penx P ns a b) Ev.cint trivial) _ m r2 gl _ E ok F2 N2 G2 (S.mono fun p hp => s2 p (s1 p hp)) fun iv h3 t3 r3 F3 N3 G3 s3 R3 => by
      obtain ⟨t, rfl⟩ := R1
      cases R2
      obtain ⟨t', rfl⟩ := R3
      obtain ⟨l', vs, ln, ta, tb, pn, e, hm, hi, ho⟩ := id G3
      subst e
      have z := N3 _ (.head _)
      refine ki_setAt (s := { s with heap := h3, toks := t3 }) (n := pn) z.1 (by decide) (by decide) (by simp) ?_
      exact k _ m r3 _ Q E ok (F3.change (Heap.SameBut.update ..) z.2.1 z.2.2) (pen_set (ta' := t) (tb' := tb) N3 ho rfl) ⟨l', vs, ln, t, tb, pn, rfl, hm, hi, ho⟩ (S.mono fun p hp => s3 p (s2 p (s1 p hp))) (PP.sub (fun p hp => s3 p (s2 p (s1 p hp))) _ _)) (hsw _))
theorem Ex.store2 {y : Str} {p p2 p3 pos : Pos} {k2 : Nat} {e : Expr} {r : List Stmt} {a b i : Int} {o : Out} (l : Look f.names ρ y (.obj (.ref P))) (h : EvG f c n ρ (.penx P ns a b) e (.int i)) (k : Ex f c n ρ (.penx P ns a i) r o)
    (hsw : ∀ env, swapsWith e (some (.Subscript (.Name y p) (.Constant (.int 2) k2 p2) p3)) pos.line env = pure false := by intro _; rfl) : Ex f c n ρ (.penx P ns a b) (.Assign [.Subscript (.Name y p) (.Constant (.int 2) k2 p2) p3] e pos :: r) o :=
  fun s m rest gl Q E ok F N G S PP => wpAny_execs_cons (wpAny_Assign_Subscript (h s m rest gl _ E ok F N G S fun v h1 t1 r1 F1 N1 G1 s1 R1 =>
    (EvG.of (g := .penx P ns a b) (Ev.name l) trivial) _ m r1 gl _ E ok F1 N1 G1 (S.mono s1) fun ov h2 t2 r2 F2 N2 G2 s2 R2 =>
    (EvG.of (g := .penx P ns a b) Ev.cint trivial) _ m r2 gl _ E ok F2 N2 G2 (S.mono fun p hp => s2 p (s1 p hp)) fun iv h3 t3 r3 F3 N3 G3 s3 R3 => by
      obtain ⟨t, rfl⟩ := R1
      cases R2
      obtain ⟨t', rfl⟩ := R3
      obtain ⟨l', vs, ln, ta, tb, pn, e, hm, hi, ho⟩ := id G3
      subst e
      have z := N3 _ (.head _)
      refine ki_setAt (s := { s with heap := h3, toks := t3 }) (n := pn) z.1 (by decide) (by decide) (by simp) ?_
      exact k _ m r3 _ Q E ok (F3.change (Heap.SameBut.update ..) z.2.1 z.2.2) (pen_set (ta' := ta) (tb' := t) N3 ho rfl) ⟨l', vs, ln, ta, t, pn, rfl, hm, hi, ho⟩ (S.mono fun p hp => s3 p (s2 p (s1 p hp))) (PP.sub (fun p hp => s3 p (s2 p (s1 p hp))) _ _)) (hsw _))
end
end Mine
end

section
open PySem PySem.W PyProof.Rows PySem.Calls
set_option maxHeartbeats 1000000
namespace Mine
section
variable {P : Addr} {ns : List Int} {a b many x : Int}
theorem fmod_lo {x y : Int} (hy : 0 < y) : 0 ≤ x.fmod y := by rw [Int.fmod_eq_emod_of_nonneg _ (by omega)]; exact Int.emod_nonneg _ (by omega)
theorem fmod_hi {x y : Int} (hy : 0 < y) : x.fmod y < y := by rw [Int.fmod_eq_emod_of_nonneg _ (by omega)]; exact Int.emod_lt_of_pos _ hy
theorem fdiv_lo {x y : Int} (hx : 0 ≤ x) (hy : 0 < y) : 0 ≤ x.fdiv y := by rw [Int.fdiv_eq_ediv_of_nonneg _ (by omega)]; exact Int.ediv_nonneg hx (by omega)
theorem pyl {x : Int} (h1 : 1 ≤ many) (h2 : many < 2 ^ 40) : Builtin.divisionGoesByPylong x many = false := pylong (by omega)
abbrev drE (P : Addr) (many : Int) (t c : Option V) : List (Option V) := [some (.obj (.ref P)), some (.int many), none, t, c, none, none]
theorem fx {d : V} : Fits (.penx P ns a b) d := trivial
theorem abs_lo (x : Int) : 0 ≤ (if x < 0 then -x else x) := by split <;> omega
theorem draw_tst {c : Cx} {p1 p2 p3 p4 p5 p6 p7 p8 p9 p10 p11 p12 p13 q1 q2 : Pos} {k1 k2 k3 : Nat} (hn : ns.length ≤ 24) : TstG φ_law_draw c 1 (drE P many (some (.int a)) (some (.int x))) (.penx P ns (a + 1) b)
    (.BoolOp .And [.Compare (.Name (Str.ofString "turn") p1) [.Lt] [.Call (.Name (Str.ofString "len") p2) [.Subscript (.Name (Str.ofString "pen") p3) (.Constant (.int 0) k1 p4) p5] [] p6] p7,
      .Compare (.Call (.Name (Str.ofString "abs") p8) [.Name (Str.ofString "cell") p9] [] p10) [.GtE] [.BinOp (.Constant (.int 10) k2 p11) .Pow (.Constant (.int 18) k3 p12) p13] q1] q2) (decide (a < ns.length) && decide ((10 : Int) ^ (18 : Int).toNat ≤ (if x < 0 then -x else x))) :=
  TstG.and2 (TstG.cmp (EvG.of (Ev.name l3) trivial) (EvG.callB1 B_len g8 (EvG.pen0 l0) (con_len (by omega)) trivial) op_lt trivial rfl) fun _ =>
    TstG.cmp (EvG.of (Ev.callB B_abs g9 (.cons (Ev.name l4) .nil) con_abs) trivial) (EvG.of (Ev.bin Ev.cint Ev.cint (op_pow (by decide) (by decide) (by decide))) trivial) op_ge trivial rfl
theorem draw_tail (h1 : 1 ≤ many) (h2 : many < 2 ^ 40) (ha : 0 ≤ a) (ha2 : a ≤ 100000) (hb : 0 ≤ b) (hn : ns.length ≤ 24) : ∃ d b', 0 ≤ d ∧ d < many ∧ 0 ≤ b' ∧
    ∀ c, Ex φ_law_draw c 1 (drE P many (some (.int a)) (some (.int x))) (.penx P ns (a + 1) b) (b_law_draw.drop 5) (.ret (.int d) (.penx P ns (a + 1) b')) := by
  cases hc : (decide (a < ns.length) && decide ((10 : Int) ^ (18 : Int).toNat ≤ (if x < 0 then -x else x))) with
  | true =>
    have hx : (10 : Int) ^ (18 : Int).toNat ≤ (if x < 0 then -x else x) := of_decide_eq_true (Bool.and_eq_true_iff.mp hc).2
    have h18 : (0 : Int) ≤ (if x < 0 then -x else x) - (10 : Int) ^ (18 : Int).toNat := Int.sub_nonneg.mpr hx
    refine ⟨((if x < 0 then -x else x) - (10 : Int) ^ (18 : Int).toNat).fmod many, ((if x < 0 then -x else x) - (10 : Int) ^ (18 : Int).toNat).fdiv many, ?b1, ?b2, ?b3, ?e⟩
    case e => exact fun c => Ex.thenTG ((draw_tst hn).congr hc) (Ex.assign (Ev.bin (Ev.callB B_abs g9 (.cons (Ev.name l4) .nil) con_abs) (Ev.bin Ev.cint Ev.cint (op_pow (by decide) (by decide) (by decide))) op_sub) trivial q5 trivial
      (Ex.store2 l0 (EvG.of (Ev.bin (Ev.callT B_int g7 (.cons (Ev.name l5) .nil) con_int) (Ev.name l1) (op_div (by omega) (pyl h1 h2))) trivial)
      (Ex.ret (Ev.bin (Ev.callT B_int g7 (.cons (Ev.name l5) .nil) con_int) (Ev.name l1) (op_mod (by omega))) trivial)))
    case b1 => exact fmod_lo (by omega)
    case b2 => exact fmod_hi (by omega)
    case b3 => exact fdiv_lo h18 (by omega)
  | false =>
    have m1 : ∀ z : Int, 0 ≤ z.fmod 2147483549 ∧ z.fmod 2147483549 < 2147483549 := fun z => ⟨fmod_lo (by decide), fmod_hi (by decide)⟩
    have m2 : ∀ z : Int, 0 ≤ z.fmod 2147483647 ∧ z.fmod 2147483647 < 2147483647 := fun z => ⟨fmod_lo (by decide), fmod_hi (by decide)⟩
    have aa : 0 ≤ 60493 * a * a ∧ 60493 * a * a ≤ 60493 * 100000 * 100000 := ⟨Int.mul_nonneg (by omega) ha, Int.mul_le_mul (by omega) ha2 ha (by decide)⟩
    have mm : ∀ z : Int, 0 ≤ z.fmod 2147483647 * (2 * a + 1867) ∧ z.fmod 2147483647 * (2 * a + 1867) ≤ 2147483647 * 201867 := fun z => ⟨Int.mul_nonneg (m2 z).1 (by omega), Int.mul_le_mul (by have := (m2 z).2; omega) (by omega) (by omega) (by decide)⟩
    refine ⟨((((((x.fmod 2147483549 + 51907 * a + 3389) ^ (5 : Int).toNat).fmod 2147483647 * (2 * a + 1867) + 60493 * a * a + 643) ^ (3 : Int).toNat).fmod 2147483563).fdiv 32).fmod many, b, ?b1, ?b2, hb, ?e⟩
    case e => exact fun c => Ex.thenFG ((draw_tst hn).congr hc) (Ex.assign (Ev.bin (Ev.callT B_int g7 (.cons (Ev.bin (Ev.bin (Ev.bin (Ev.bin (Ev.callT B_int g7 (.cons (Ev.name l4) .nil) con_int) Ev.cint (op_mod (by decide))) (Ev.bin Ev.cint (Ev.name l3) (op_mul (IntMulOk.of_left (by decide)))) op_add) Ev.cint op_add) Ev.cint (op_pow (by decide) (by decide) (by have := m1 x; omega))) .nil) con_int) Ev.cint (op_mod (by decide))) trivial q6 trivial
      (Ex.assign (Ev.bin (Ev.callT B_int g7 (.cons (Ev.bin (Ev.bin (Ev.bin (Ev.bin (Ev.name l6) (Ev.bin (Ev.bin Ev.cint (Ev.name l3) (op_mul two_ok)) Ev.cint op_add) (op_mul (IntMulOk.of_left (bits64 (by have := m2 ((x.fmod 2147483549 + 51907 * a + 3389) ^ (5 : Int).toNat); omega)))))
        (Ev.bin (Ev.bin Ev.cint (Ev.name l3) (op_mul (IntMulOk.of_left (by decide)))) (Ev.name l3) (op_mul (IntMulOk.of_left (bits64 (by omega))))) op_add) Ev.cint op_add) Ev.cint (op_pow (by decide) (by decide) (by have := mm ((x.fmod 2147483549 + 51907 * a + 3389) ^ (5 : Int).toNat); omega))) .nil) con_int) Ev.cint (op_mod (by decide))) trivial q6 trivial
      (Ex.ret (Ev.bin (Ev.callT B_int g7 (.cons (Ev.bin (Ev.name l6) Ev.cint (op_div (by decide) (pylong (by decide)))) .nil) con_int) (Ev.name l1) (op_mod (by omega))) trivial)))
    case b1 => exact fmod_lo (by omega)
    case b2 => exact fmod_hi (by omega)
theorem draw_ex (h1 : 1 ≤ many) (h2 : many < 2 ^ 40) (ha : 0 ≤ a) (ha2 : a ≤ 100000) (hb : 0 ≤ b) (hn : ns.length ≤ 24) : ∃ d a' b', 0 ≤ d ∧ d < many ∧ 0 ≤ a' ∧ a' ≤ a + 1 ∧ 0 ≤ b' ∧
    ∀ c, Ex φ_law_draw c 1 (drE P many none none) (.penx P ns a b) b_law_draw (.ret (.int d) (.penx P ns a' b')) := by
  by_cases h : 0 < b
  · refine ⟨b.fmod many, a, b.fdiv many, ?b1, ?b2, ha, by omega, ?b3, ?e⟩
    case e => exact fun c => Ex.thenTG (TstG.cmp (EvG.pen2 l0) (EvG.of Ev.cint trivial) op_gt trivial (decide_eq_true h).symm) (Ex.assignG (EvG.bin (EvG.callT1 B_int g7 (EvG.pen2 l0) con_int trivial) (EvG.of (Ev.name l1) trivial) (op_mod (by omega)) trivial) q2 trivial (Ex.store2 l0 (EvG.bin (EvG.callT1 B_int g7 (EvG.pen2 l0) con_int trivial) (EvG.of (Ev.name l1) trivial) (op_div (by omega) (pyl h1 h2)) trivial) (Ex.ret (Ev.name l2) trivial)))
    case b1 => exact fmod_lo (by omega)
    case b2 => exact fmod_hi (by omega)
    case b3 => exact fdiv_lo hb (by omega)
  · by_cases hns : ns = []
    · obtain ⟨d, b', d0, d1, b0, ex⟩ := draw_tail (P := P) (x := 90023 * a + 7919) h1 h2 ha ha2 hb hn
      refine ⟨d, a + 1, b', d0, d1, by omega, by omega, b0, fun c => Ex.thenFG (TstG.cmp (EvG.pen2 l0) (EvG.of Ev.cint trivial) op_gt trivial (decide_eq_false h).symm) (Ex.assignG (EvG.pen1 l0) q3 trivial (Ex.store1 l0 (EvG.of (Ev.bin (Ev.name l3) Ev.cint op_add) trivial)
        (Ex.assign (Ev.bin (Ev.bin Ev.cint (Ev.name l3) (op_mul (IntMulOk.of_left (by decide)))) Ev.cint op_add) trivial q4 trivial
        (Ex.thenFG (TstG.cmp (EvG.pen0 l0) (EvG.of (Ev.ilist EvI.nil (by decide)) trivial) op_nel trivial (by simp [V.truth, hns])) (ex c)))))⟩
    · have hl : 0 < ns.length := List.length_pos_iff.mpr hns
      obtain ⟨d, b', d0, d1, b0, ex⟩ := draw_tail (P := P) (x := ns.getD (a.fmod ns.length).toNat 0) h1 h2 ha ha2 hb hn
      have f0 := fmod_lo (x := a) (y := ns.length) (by omega)
      have f1 := fmod_hi (x := a) (y := ns.length) (by omega)
      refine ⟨d, a + 1, b', d0, d1, by omega, by omega, b0, fun c => Ex.thenFG (TstG.cmp (EvG.pen2 l0) (EvG.of Ev.cint trivial) op_gt trivial (decide_eq_false h).symm) (Ex.assignG (EvG.pen1 l0) q3 trivial (Ex.store1 l0 (EvG.of (Ev.bin (Ev.name l3) Ev.cint op_add) trivial)
        (Ex.assign (Ev.bin (Ev.bin Ev.cint (Ev.name l3) (op_mul (IntMulOk.of_left (by decide)))) Ev.cint op_add) trivial q4 trivial
        (Ex.elseTG (TstG.cmp (EvG.pen0 l0) (EvG.of (Ev.ilist EvI.nil (by decide)) trivial) op_nel trivial (by simp [V.truth, hns]))
          (Ex.assignG (EvG.item (EvG.pen0 l0) (EvG.bin (EvG.of (Ev.callT B_int g7 (.cons (Ev.name l3) .nil) con_int) trivial) (EvG.callB1 B_len g8 (EvG.pen0 l0) (con_len (by omega)) trivial) (op_mod (by omega)) trivial) f0 f1 (by omega)) q4 trivial Ex.nil) (ex c)))))⟩
end
end Mine
end

section
open PySem PySem.W PyProof.Rows PySem.Calls
set_option maxHeartbeats 1000000
namespace Mine
-- what turns the pen
def ConM (g : Value) (n : Nat) (ds : List V) (j : Nat) (D : V → Prop) : Prop :=
  ∀ (f : Fn) (c : Cx) (P : Addr) (ns : List Int) (k : Nat) (s : Shared) (m : Str → Option Value) (rest gl : Led) (vs : List Value) (Q E : Value → Shared → Prop), c.Ok f n → k + j ≤ 5000 → ns.length ≤ 24 → Fr c.h₀ c.L s.heap m → News c.h₀ c.L s.heap (gl ++ rest) → GOk (.pen P ns k) m rest gl → RepL rest vs ds →
    (∀ d v h' tk' rest' gl', D d → Fr c.h₀ c.L h' m → News c.h₀ c.L h' (gl' ++ rest') → GOk (.pen P ns (k + j)) m rest' gl' → (∀ p ∈ rest, p ∈ rest') → Rep rest' v d → Q v { s with heap := h', toks := tk' }) →
    wpAny (model pg c.w) (c.A f) (call g (.ref P :: vs)) Q E s
theorem GOk.pen_le {P : Addr} {ns : List Int} {k k' : Nat} {m m' : Str → Option Value} {rest gl : Led} (h : GOk (.pen P ns k) m rest gl) (hk : k ≤ k') : GOk (.pen P ns k') m' rest gl := by
  obtain ⟨a, b, h0, h1, h2, x⟩ := h
  exact ⟨a, b, h0, by omega, h2, x⟩
theorem ConM.of {φ : Fn} {params : Arguments} {body : List Stmt} {x : Str} {ps : List Str} (H : FnFact φ params body (x :: ps) []) {n j : Nat} {ds : List V} {D : V → Prop} (r : Nat) {rest' : List (Str × NameKind)}
    (hns : φ.names = (x :: ps).map (fun p => (p, NameKind.local)) ++ rest') (hlen : ds.length = ps.length)
    (hb : ∀ c P ns k, k + j ≤ 5000 → ns.length ≤ 24 → Ex φ c n (some (.obj (.ref P)) :: (ds.map some ++ List.replicate r none)) (.pen P ns k) body (.retD D (.pen P ns (k + j)))) : ConM (.ref φ.a) (n + 1) ds j D := by
  intro f c P ns k s m rest gl vs Q E ok hk hn F N G R PP
  have hl : ((Value.ref P :: vs) ++ []).length = (x :: ps).length := by simp [R.length, hlen]
  refine enter H ok F N hl hns fun g L' h₁ tk ok' F' N' E' => ?_
  have RO : RepO rest ((Value.ref P :: vs) ++ []) (some (.obj (.ref P)) :: ds.map some) := by
    rw [List.append_nil]
    exact ⟨rfl, R.toO⟩
  have G' : GOk (.pen P ns k) (fun y => ((x :: ps).zip ((Value.ref P :: vs) ++ [])).reverse.lookup y) rest gl := G
  refine hb _ P ns k hk hn _ _ rest gl _ E' ok' F' N' G' (sees_zip H.ok.nd hns (by rw [List.cons_append]) RO hl.symm) ?_
  intro d v h' tk' m' rest2 gl2 hd F2 N2 G2 s2 R2
  exact ⟨h', tk', m', gl2 ++ rest2, rfl, F2, N2, fun kF kN => PP d v h' tk' rest2 gl2 hd kF kN G2 s2 R2⟩
theorem ConM.le {g : Value} {n j j' : Nat} {ds : List V} {D D' : V → Prop} (h : ConM g n ds j D) (hj : j ≤ j') (hd : ∀ d, D d → D' d) : ConM g n ds j' D' :=
  fun f c P ns k s m rest gl vs Q E ok hk hn F N G R PP => h f c P ns k s m rest gl vs Q E ok (by omega) hn F N G R fun d v h' tk' rest' gl' q F' N' G' s' R' => PP d v h' tk' rest' gl' (hd d q) F' N' (G'.pen_le (by omega)) s' R'
section
variable {f : Fn} {c : Cx} {n : Nat} {ρ ρ' : List (Option V)} {g : G} {P : Addr} {ns : List Int} {k k1 k2 k' : Nat} {D D1 D2 : V → Prop}
def EvLG (f : Fn) (c : Cx) (n : Nat) (ρ : List (Option V)) (g : G) (es : List Expr) (ds : List V) : Prop :=
  ∀ (pos : Pos) (s : Shared) (m : Str → Option Value) (rest gl : Led) (Q : List Value → Shared → Prop) (E : Value → Shared → Prop), c.Ok f n → Fr c.h₀ c.L s.heap m → News c.h₀ c.L s.heap (gl ++ rest) → GOk g m rest gl → Sees f.names ρ m rest →
    (∀ vs h' tk' rest', Fr c.h₀ c.L h' m → News c.h₀ c.L h' (gl ++ rest') → GOk g m rest' gl → (∀ p ∈ rest, p ∈ rest') → RepL rest' vs ds → Q vs { s with heap := h', toks := tk' }) →
    wpAny (model pg c.w) (c.A f) (spliced (backTo pos (starEach es (c.env f)))) Q E s
theorem EvLG.nil : EvLG f c n ρ g [] [] := fun pos s m rest gl Q E ok F N G S P => spliced_none (P [] s.heap s.toks rest F N G (fun _ h => h) trivial)
theorem EvLG.cons {e : Expr} {es : List Expr} {d : V} {ds : List V} (h1 : EvG f c n ρ g e d) (h2 : EvLG f c n ρ g es ds) (he : ∀ env, starEach (e :: es) env = (false, eval e env) :: starEach es env := by intro _; rfl) : EvLG f c n ρ g (e :: es) (d :: ds) :=
  fun pos s m rest gl Q E ok F N G S P => spliced_more (h1 s m rest gl _ E ok F N G S fun v h' t' r' F' N' G' s' R =>
    h2 pos _ m r' gl _ E ok F' N' G' (S.mono s') fun vs h3 t3 r3 F3 N3 G3 s3 R3 => P (v :: vs) h3 t3 r3 F3 N3 G3 (fun p hp => s3 p (s' p hp)) ⟨R.mono s3, R3⟩) (he _)
theorem EvG.anyPen {e : Expr} {d : V} (h : ∀ a b, EvG f c n ρ (.penx P ns a b) e d) : EvG f c n ρ (.pen P ns k) e d :=
  fun s m rest gl Q E ok F N G S PP => by
    obtain ⟨a, b, h0, h1, h2, x⟩ := id G
    exact h a b s m rest gl Q E ok F N x S fun v h' t' r' F' N' G' s' R => PP v h' t' r' F' N' ⟨a, b, h0, h1, h2, G'⟩ s' R
def EvM (f : Fn) (c : Cx) (n : Nat) (ρ : List (Option V)) (P : Addr) (ns : List Int) (k k' : Nat) (e : Expr) (D : V → Prop) : Prop :=
  ∀ (s : Shared) (m : Str → Option Value) (rest gl : Led) (Q E : Value → Shared → Prop), c.Ok f n → Fr c.h₀ c.L s.heap m → News c.h₀ c.L s.heap (gl ++ rest) → GOk (.pen P ns k) m rest gl → Sees f.names ρ m rest →
    (∀ d v h' tk' rest' gl', D d → Fr c.h₀ c.L h' m → News c.h₀ c.L h' (gl' ++ rest') → GOk (.pen P ns k') m rest' gl' → (∀ p ∈ rest, p ∈ rest') → Rep rest' v d → Q v { s with heap := h', toks := tk' }) →
    wpAny (model pg c.w) (c.A f) (eval e (c.env f)) Q E s
theorem EvM.ofG {e : Expr} {d : V} (h : EvG f c n ρ (.pen P ns k) e d) : EvM f c n ρ P ns k k e (fun x => x = d) :=
  fun s m rest gl Q E ok F N G S PP => h s m rest gl Q E ok F N G S fun v h' t' r' F' N' G' s' R => PP d v h' t' r' gl rfl F' N' G' s' R
theorem EvM.of {e : Expr} {d : V} (h : Ev f c n ρ e d) : EvM f c n ρ P ns k k e (fun x => x = d) := EvM.ofG (EvG.of h trivial)
theorem EvM.weak {e : Expr} (h : EvM f c n ρ P ns k k1 e D) (hk : k1 ≤ k') (hd : ∀ d, D d → D1 d) : EvM f c n ρ P ns k k' e D1 :=
  fun s m rest gl Q E ok F N G S PP => h s m rest gl Q E ok F N G S fun d v h' t' r' gl' q F' N' G' s' R => PP d v h' t' r' gl' (hd d q) F' N' (G'.pen_le hk) s' R
theorem EvM.call {x y : Str} {p p2 pos : Pos} {fa : Addr} {es : List Expr} {ds : List V} {i j : Nat} (hg : GFn x fa) (hk : Kd .globalImplicit f.names x) (ly : Look f.names ρ y (.obj (.ref P))) (ha : EvLG f c n ρ (.pen P ns k) es ds) (hc : ConM (.ref fa) i ds j D) (hkk : k + j ≤ 5000) (hns : ns.length ≤ 24) (hn : i ≤ n := by decide)
    (he : ∀ env, starEach (.Name y p2 :: es) env = (false, eval (.Name y p2) env) :: starEach es env := by intro _; rfl) (hplain : ∀ env, (backTo pos (starEach es env)).any (·.1) = false := by intro _; rfl) :
    EvM f c n ρ P ns k (k + j) (.Call (.Name x p) (.Name y p2 :: es) [] pos) D :=
  fun s m rest gl Q E ok F N G S PP => Call_ (nameX_K F ok.kin (topRead_of ok.top) (hg c.w.params).1
    (callWith_K (h₀ := c.h₀) ok.kin (hg c.w.params).2 (spliced_more ((EvG.of (g := .pen P ns k) (Ev.name ly) trivial) s m rest gl _ E ok F N G S fun v h1 t1 r1 F1 N1 G1 s1 R1 =>
      ha pos _ m r1 gl _ E ok F1 N1 G1 (S.mono s1) fun vs h' t' r' F' N' G' s' R => ⟨ok.kin.keeps F'.keep, by
        cases R1
        exact hc f c P ns k _ m r' gl vs Q E (ok.le hn) hkk hns F' N' G' R fun d v h3 t3 r3 gl3 q F3 N3 G3 s3 R3 => PP d v h3 t3 r3 gl3 q F3 N3 G3 (fun p hp => s3 p (s' p (s1 p hp))) R3⟩) (he _)) (he _) (hplain _))
    rfl (hk.kindOf c ok.fok) (ok.fok.dbg _ hk.mem))
theorem EvM.bin {l r : Expr} {op : Operator} {pos : Pos} (hl : EvM f c n ρ P ns k k1 l D1) (hr : EvM f c n ρ P ns k1 k2 r D2) (ho : ∀ a b, D1 a → D2 b → ∃ d, Op2 (binaryOp op) a b d ∧ D d) : EvM f c n ρ P ns k k2 (.BinOp l op r pos) D :=
  fun s m rest gl Q E ok F N G S PP => wpAny_BinOp (hl s m rest gl _ E ok F N G S fun a v h1 t1 r1 gl1 qa F1 N1 G1 s1 R1 =>
    hr _ m r1 gl1 _ E ok F1 N1 G1 (S.mono s1) fun b u h2 t2 r2 gl2 qb F2 N2 G2 s2 R2 => by
      obtain ⟨d, o, q⟩ := ho a b qa qb
      exact o f c _ m _ v u Q E (by have := ok.units; omega) F2 N2 (glL (R1.mono s2)) (glL R2) (gpost G2 trivial fun w h3 t3 r3 F3 N3 G3 s3 R3 => PP d w h3 t3 r3 gl2 q F3 N3 G3 (fun p hp => s3 p (s2 p (s1 p hp))) R3))
theorem EvM.cmp {l r : Expr} {op : CmpOp} {pos : Pos} (hl : EvM f c n ρ P ns k k1 l D1) (hr : EvM f c n ρ P ns k1 k2 r D2) (ho : ∀ a b, D1 a → D2 b → ∃ d, Op2 (compareOp op) a b d ∧ D d) (hb : behindInMarks op r = false := by rfl) : EvM f c n ρ P ns k k2 (.Compare l [op] [r] pos) D :=
  fun s m rest gl Q E ok F N G S PP => wpAny_Compare1 (hl s m rest gl _ E ok F N G S fun a v h1 t1 r1 gl1 qa F1 N1 G1 s1 R1 =>
    hr _ m r1 gl1 _ E ok F1 N1 G1 (S.mono s1) fun b u h2 t2 r2 gl2 qb F2 N2 G2 s2 R2 => by
      obtain ⟨d, o, q⟩ := ho a b qa qb
      exact o f c _ m _ v u Q E (by have := ok.units; omega) F2 N2 (glL (R1.mono s2)) (glL R2) (gpost G2 trivial fun w h3 t3 r3 F3 N3 G3 s3 R3 => PP d w h3 t3 r3 gl2 q F3 N3 G3 (fun p hp => s3 p (s2 p (s1 p hp))) R3)) hb
theorem EvM.ifexp {t a b : Expr} {pos : Pos} {q : Bool} (ht : TstG f c n ρ (.pen P ns k) t q) (h1 : q = true → EvM f c n ρ P ns k k' a D) (h2 : q = false → EvM f c n ρ P ns k k' b D) : EvM f c n ρ P ns k k' (.IfExp t a b pos) D :=
  fun s m rest gl Q E ok F N G S PP => wpAny_IfExp (ht s m rest gl _ E ok F N G S fun h' t' r' F' N' G' s' => by
    cases q with
    | true => exact h1 rfl _ m r' gl Q E ok F' N' G' (S.mono s') fun d v h3 t3 r3 gl3 q F3 N3 G3 s3 R => PP d v h3 t3 r3 gl3 q F3 N3 G3 (fun p hp => s3 p (s' p hp)) R
    | false => exact h2 rfl _ m r' gl Q E ok F' N' G' (S.mono s') fun d v h3 t3 r3 gl3 q F3 N3 G3 s3 R => PP d v h3 t3 r3 gl3 q F3 N3 G3 (fun p hp => s3 p (s' p hp)) R)
/-- a place of a list, told by a draw -/
theorem EvM.item {x slice : Expr} {pos : Pos} {l : List Int} (hx : EvG f c n ρ (.pen P ns k) x (.li l)) (hi : EvM f c n ρ P ns k k' slice (fun d => ∃ i, d = .int i ∧ 0 ≤ i ∧ i < l.length)) (hl : l.length ≤ 1000)
    (hs : ∀ a b, subscripted slice false a b = operate [a, b] (getItem a b) := by intro _ _; rfl) : EvM f c n ρ P ns k k' (.Subscript x slice pos) (fun d => ∃ i ∈ l, d = .int i) :=
  fun s m rest gl Q E ok F N G S PP => Subscript_ (hx s m rest gl _ E ok F N G S fun v h1' t1 r1 F1 N1 G1 s1 R1 =>
    hi _ m r1 gl _ E ok F1 N1 G1 (S.mono s1) fun d u h2' t2 r2 gl2 q F2 N2 G2 s2 R2 => by
      obtain ⟨i, rfl, h0, h1⟩ := q
      obtain ⟨a, vs, k, rfl, hm, ii⟩ := R1.mono s2
      obtain ⟨t, rfl⟩ := R2
      have hlt : i.toNat < l.length := by omega
      exact item_list_intsR ⟨_, (N2 _ (List.mem_append_right _ hm)).1, rfl, k, rfl⟩ ii h0 h1 (by omega) (fun t' => PP (.int (l.getD i.toNat 0)) _ h2' t2 r2 gl2 ⟨_, by rw [List.getD, List.getElem?_eq_getElem hlt]; exact List.getElem_mem hlt, rfl⟩ F2 N2 G2 (fun p hp => s2 p (s1 p hp)) ⟨t', rfl⟩) (hs _ _))
theorem EvM.sitem {slice : Expr} {xn : Str} {px pos : Pos} {l : List Str} (hx : Look f.names ρ xn (.ls l)) (hi : EvM f c n ρ P ns k k' slice (fun d => ∃ i, d = .int i ∧ 0 ≤ i ∧ i < l.length)) (hl : l.length ≤ 1000)
    (hs : ∀ a b, subscripted slice false a b = operate [a, b] (getItem a b) := by intro _ _; rfl) : EvM f c n ρ P ns k k' (.Subscript (.Name xn px) slice pos) (fun d => ∃ x ∈ l, d = .str x) :=
  fun s m rest gl Q E ok F N G S PP => Subscript_ ((EvG.of (g := .pen P ns k) (Ev.name hx) trivial) s m rest gl _ E ok F N G S fun v h1' t1 r1 F1 N1 G1 s1 R1 =>
    hi _ m r1 gl _ E ok F1 N1 G1 (S.mono s1) fun d u h2' t2 r2 gl2 q F2 N2 G2 s2 R2 => by
      obtain ⟨i, rfl, h0, h1⟩ := q
      obtain ⟨a, vs, k, rfl, hm, ii⟩ := R1.mono s2
      obtain ⟨t, rfl⟩ := R2
      have hlt : i.toNat < l.length := by omega
      obtain ⟨t', e⟩ := ii.get i.toNat l[i.toNat] (List.getElem?_eq_getElem hlt)
      exact PyProof.Rows.item_listL (l := vs) ⟨_, (N2 _ (List.mem_append_right _ hm)).1, rfl, k, rfl⟩ h0 (by omega) e (PP (.str l[i.toNat]) _ h2' t2 r2 gl2 ⟨_, List.getElem_mem hlt, rfl⟩ F2 N2 G2 (fun p hp => s2 p (s1 p hp)) ⟨t', rfl⟩) (hs _ _) (by intro _; rfl))
-- statements
theorem Ex.assignM {x : Str} {xp : Pos} {e : Expr} {pos : Pos} {r : List Stmt} {o : Out} {T : V → List (Option V)} (h : EvM f c n ρ P ns k k' e D) (p : ∀ d, Put f.names ρ x d (T d)) (kk : ∀ d, D d → Ex f c n (T d) (.pen P ns k') r o)
    (hsw : ∀ env, swapsWith e (some (.Name x xp)) pos.line env = pure false := by intro _; rfl) : Ex f c n ρ (.pen P ns k) (.Assign [.Name x xp] e pos :: r) o :=
  fun s m rest gl Q E ok F N G S PP => wpAny_execs_cons (wpAny_Assign_Name (h s m rest gl _ E ok F N G S fun d v h' t' rest' gl' q F' N2 G2 s2 R2 => by
    refine storeX_L F' N2 (fun h3 F3 N3 => ?_) rfl ((p d).kd.kindOf c ok.fok)
    exact kk d q _ _ rest' gl' Q E ok F3 N3 (G2.set (g := .pen P ns k') trivial) ((S.mono s2).put ok.fok.nd (p d) R2) (PP.sub s2 _ _)) (hsw _))
theorem Ex.assign2M {x y : Str} {px py tp p2 pos : Pos} {i i2 : Nat} {e1 e2 : Expr} {r : List Stmt} {o : Out} {T : V → List (Option V)} {U : V → V → List (Option V)} (h1 : EvM f c n ρ P ns k k1 e1 D1) (h2 : EvM f c n ρ P ns k1 k2 e2 D2)
    (q1 : ∀ d2, Put f.names ρ y d2 (T d2)) (q2 : ∀ d1 d2, Put f.names (T d2) x d1 (U d1 d2)) (hw : ∀ c : Cx, swappedStores [.Tuple [.Name x px, .Name y py] i tp] (.Tuple [e1, e2] i2 p2) (c.env f) = pure (some [x, y]))
    (kk : ∀ d1 d2, D1 d1 → D2 d2 → Ex f c n (U d1 d2) (.pen P ns k2) r o) (he : ∀ env, starEach [e1, e2] env = (false, eval e1 env) :: starEach [e2] env := by intro _; rfl) (he2 : ∀ env, starEach [e2] env = (false, eval e2 env) :: starEach [] env := by intro _; rfl) :
    Ex f c n ρ (.pen P ns k) (.Assign [.Tuple [.Name x px, .Name y py] i tp] (.Tuple [e1, e2] i2 p2) pos :: r) o :=
  fun s m rest gl Q E ok F N G S PP => wpAny_execs_cons (Assign_Tuple_swapped (names := [x, y]) (Tuple_ (spliced_more (h1 s m rest gl _ E ok F N G S fun d1 v1 ha ta ra gla qa Fa Na Ga sa Ra =>
    spliced_more (h2 _ m ra gla _ E ok Fa Na Ga (S.mono sa) fun d2 v2 hb tb rb glb qb Fb Nb Gb sb Rb => spliced_none (by
      refine newTuple_N Fb Nb (fun hc Fc Nc => ?_) (by rw [sizeLine_eq]; simp)
      refine unpackItemsN_ Fc Nc (News.isTup Nc (.head _)) rfl rfl fun h3 F3 N3 => ?_
      obtain ⟨rest', N4, G4, s4, R4⟩ := regainA N3 Gb (fun p hp => .tail _ hp)
      have R1' := R4 v1 d1 trivial (glL (Ra.mono sb) |>.mono fun p hp => .tail _ hp)
      have R2' := R4 v2 d2 trivial (glL Rb |>.mono fun p hp => .tail _ hp)
      refine assignInOrder_cons (bindName_ (storeX_L F3 N4 (fun h5 F5 N5 => ?_) rfl ((q1 d2).kd.kindOf c ok.fok)))
      refine assignInOrder_cons (bindName_ (storeX_L F5 N5 (fun h6 F6 N6 => ?_) rfl ((q2 d1 d2).kd.kindOf c ok.fok)))
      refine assignInOrder_nil ?_
      exact kk d1 d2 qa qb _ _ rest' glb Q E ok F6 N6 G4 (((S.mono fun p hp => s4 p (sb p (sa p hp))).put ok.fok.nd (q1 d2) R2').put ok.fok.nd (q2 d1 d2) R1') (PP.sub (fun p hp => s4 p (sb p (sa p hp))) _ _))) (he2 _)) (he _))) rfl (hw c))
theorem Ex.retM {e : Expr} {pos : Pos} {r : List Stmt} (h : EvM f c n ρ P ns k k' e D) : Ex f c n ρ (.pen P ns k) (.Return (some e) pos :: r) (.retD D (.pen P ns k')) :=
  fun s m rest gl Q E ok F N G S PP => wpAny_execs_cons (wpAny_Return_some (h s m rest gl _ E ok F N G S fun d v h' t' rest' gl' q F' N2 G2 s2 R2 => PP d v h' t' m rest' gl' q F' N2 G2 s2 R2))
theorem Ex.toD {b : List Stmt} {d : V} {g' : G} (h : Ex f c n ρ g b (.ret d g')) (hd : D d) : Ex f c n ρ g b (.retD D g') :=
  fun s m rest gl Q E ok F N G S PP => h s m rest gl Q E ok F N G S fun v h' t' m' rest' gl' F' N2 G2 s2 R2 => PP d v h' t' m' rest' gl' hd F' N2 G2 s2 R2
theorem Ex.penLe {b : List Stmt} (h : Ex f c n ρ g b (.retD D1 (.pen P ns k1))) (hk : k1 ≤ k') (hd : ∀ d, D1 d → D d) : Ex f c n ρ g b (.retD D (.pen P ns k')) :=
  fun s m rest gl Q E ok F N G S PP => h s m rest gl Q E ok F N G S fun d v h' t' m' rest' gl' q F' N2 G2 s2 R2 => PP d v h' t' m' rest' gl' (hd d q) F' N2 (G2.pen_le hk) s2 R2
theorem Ex.thenD {t : Expr} {A r : List Stmt} {pos : Pos} {q : Bool} {g' : G} (ht : Tst f c n ρ t q) (h1 : q = true → Ex f c n ρ g A (.retD D g')) (h2 : q = false → Ex f c n ρ g r (.retD D g')) : Ex f c n ρ g (.If t A [] pos :: r) (.retD D g') :=
  fun s m rest gl Q E ok F N G S PP => wpAny_execs_cons (wpAny_If (ht s m _ _ E ok F N S.gl fun h' t' led F' N' s' => by
    have N2 : News c.h₀ c.L h' (gl ++ rest) := fun p hp => N' p (s' p hp)
    cases q with
    | true => exact h1 rfl _ m rest gl _ E ok F' N2 G S fun d v h2 t2 m2 r2 gl2 q F2 N2 G2 s2 R2 => PP d v h2 t2 m2 r2 gl2 q F2 N2 G2 s2 R2
    | false => exact wpAny_execs_nil (h2 rfl _ m rest gl Q E ok F' N2 G S (PP.sub (fun _ h => h) _ _))))
end
end Mine
end

section
open PySem PySem.W PyProof.Rows PySem.Calls
set_option maxHeartbeats 1000000
namespace Mine
def Dr (many : Int) (d : V) : Prop := ∃ i, d = .int i ∧ 0 ≤ i ∧ i < many
def isI (d : V) : Prop := ∃ i, d = .int i
theorem Dr.isI {many : Int} {d : V} (h : Dr many d) : isI d := let ⟨i, e, _⟩ := h; ⟨i, e⟩
theorem con_draw {many : Int} (h1 : 1 ≤ many) (h2 : many < 2 ^ 40) : ConM (.ref 197) 2 [.int many] 1 (Dr many) :=
  ConM.of F_law_draw 5 rfl rfl fun c P ns k hk hn s m rest gl Q E ok F N G S PP => by
    obtain ⟨a, b, h0, h1', h2', x⟩ := G
    obtain ⟨d, a', b', d0, d1, a0, a1, b0, ex⟩ := draw_ex (P := P) (ns := ns) (a := a) (b := b) (many := many) h1 h2 h0 (by omega) h2' hn
    exact ex c s m rest gl Q E ok F N x S fun v h' tk' m' rest' gl' F' N' G' s' R => PP (.int d) v h' tk' m' rest' gl' ⟨d, rfl, d0, d1⟩ F' N' ⟨a', b', a0, by omega, b0, G'⟩ s' R
theorem con_pick {l : List Int} (h0 : l ≠ []) (hl : l.length ≤ 1000) : ConM (.ref 204) 3 [.li l] 1 (fun d => ∃ i ∈ l, d = .int i) :=
  have hp := List.length_pos_iff.mpr h0
  ConM.of F_law_pick 0 rfl rfl fun c P ns k hk hn => Ex.retM (EvM.item (EvG.of (Ev.name l1) trivial) (EvM.call G_law_draw g2 l0 (.cons (EvG.of (Ev.callB B_len g3 (.cons (Ev.name l1) .nil) (con_len (by omega))) trivial) .nil) (con_draw (by omega) (by omega)) hk hn) hl)
theorem con_picks {l : List Str} (h0 : l ≠ []) (hl : l.length ≤ 1000) : ConM (.ref 204) 3 [.ls l] 1 (fun d => ∃ x ∈ l, d = .str x) :=
  have hp := List.length_pos_iff.mpr h0
  ConM.of F_law_pick 0 rfl rfl fun c P ns k hk hn => Ex.retM (EvM.sitem l1 (EvM.call G_law_draw g2 l0 (.cons (EvG.of (Ev.callB B_len g3 (.cons (Ev.name l1) .nil) (con_lens (by omega))) trivial) .nil) (con_draw (by omega) (by omega)) hk hn) hl)
section
variable {f : Fn} {c : Cx} {n : Nat} {ρ : List (Option V)} {g : G} {P : Addr} {ns : List Int} {k : Nat}
theorem two_pow_int {j : Int} (h0 : 0 ≤ j) (h1 : j ≤ 1000000) {x : Int} (hx : x.natAbs < 2 ^ 64) : Op2 (binaryOp .Pow) (.int x) (.int j) (.int (x ^ j.toNat)) := op_pow h0 h1 hx
theorem ev_pow {p1 p2 p3 : Pos} {k1 k2 : Nat} {j : Int} (h0 : 0 ≤ j := by decide) (h1 : j ≤ 1000000 := by decide) : Ev f c n ρ (.BinOp (.Constant (.int 2) k1 p1) .Pow (.Constant (.int j) k2 p2) p3) (.int (2 ^ j.toNat)) :=
  Ev.bin Ev.cint Ev.cint (op_pow h0 h1 (by decide))
theorem ev_pow1 {p1 p2 p3 p4 p5 : Pos} {k1 k2 k3 : Nat} {j : Int} (h0 : 0 ≤ j := by decide) (h1 : j ≤ 1000000 := by decide) : Ev f c n ρ (.BinOp (.BinOp (.Constant (.int 2) k1 p1) .Pow (.Constant (.int j) k2 p2) p3) .Sub (.Constant (.int 1) k3 p4) p5) (.int (2 ^ j.toNat - 1)) :=
  Ev.bin (ev_pow h0 h1) Ev.cint op_sub
theorem m_draw {p p2 pos : Pos} {y : Str} {e : Expr} {many : Int} (hk : Kd .globalImplicit f.names (Str.ofString "_law_draw")) (ly : Look f.names ρ y (.obj (.ref P))) (he : Ev f c n ρ e (.int many)) (h1 : 1 ≤ many) (h2 : many < 2 ^ 40) (hkk : k + 1 ≤ 5000) (hns : ns.length ≤ 24) (hn : 2 ≤ n := by decide)
    (hs : ∀ env, starEach [.Name y p2, e] env = (false, eval (.Name y p2) env) :: starEach [e] env := by intro _; rfl) (hs2 : ∀ env, starEach [e] env = (false, eval e env) :: starEach [] env := by intro _; rfl) (hpl : ∀ env, (backTo pos (starEach [e] env)).any (·.1) = false := by intro _; rfl) :
    EvM f c n ρ P ns k (k + 1) (.Call (.Name (Str.ofString "_law_draw") p) [.Name y p2, e] [] pos) (Dr many) :=
  EvM.call G_law_draw hk ly (.cons (EvG.of he trivial) .nil hs2) (con_draw h1 h2) hkk hns hn hs hpl
end
theorem ii_add (a b : V) (ha : isI a) (hb : isI b) : ∃ d, Op2 (binaryOp .Add) a b d ∧ isI d := by
  obtain ⟨i, rfl⟩ := ha; obtain ⟨j, rfl⟩ := hb; exact ⟨_, op_add, _, rfl⟩
theorem ii_sub (a b : V) (ha : isI a) (hb : isI b) : ∃ d, Op2 (binaryOp .Sub) a b d ∧ isI d := by
  obtain ⟨i, rfl⟩ := ha; obtain ⟨j, rfl⟩ := hb; exact ⟨_, op_sub, _, rfl⟩
def num0 : List Int := [0, 1, 2, 7, 2 ^ (31 : Int).toNat - 1, 2 ^ (31 : Int).toNat, 2 ^ (32 : Int).toNat - 1, 2 ^ (32 : Int).toNat, 2 ^ (63 : Int).toNat - 1, 2 ^ (63 : Int).toNat, 2 ^ (64 : Int).toNat - 1, 2 ^ (64 : Int).toNat]
theorem con_number : ConM (.ref 211) 4 [] 4 isI :=
  ConM.of F_law_number 2 rfl rfl fun c P ns k hk hn =>
    Ex.assignM (T := fun d => [some (.obj (.ref P)), some d, none]) (m_draw g3 l0 Ev.cint (by decide) (by decide) (by omega) hn) (fun d => q1) fun d hd => by
      obtain ⟨kind, rfl, _, _⟩ := hd
      refine Ex.thenD (Tst.cmp (Ev.name l1) Ev.cint op_lt rfl) (fun _ => ?_) fun _ => Ex.thenD (Tst.cmp (Ev.name l1) Ev.cint op_eq rfl) (fun _ => ?_) fun _ => Ex.thenD (Tst.cmp (Ev.name l1) Ev.cint op_eq rfl) (fun _ => ?_) fun _ => Ex.thenD (Tst.cmp (Ev.name l1) Ev.cint op_eq rfl) (fun _ => ?_) fun _ => ?_
      · refine Ex.penLe (k1 := k + 2) (D1 := isI) ?_ (by omega) (fun _ h => h)
        exact Ex.assignM (T := fun d => [some (.obj (.ref P)), some (.int kind), some d]) (EvM.call G_law_pick g4 l0 (.cons (EvG.of (Ev.ilist (is := num0) (.cons Ev.cint (.cons Ev.cint (.cons Ev.cint (.cons Ev.cint (.cons ev_pow1 (.cons ev_pow (.cons ev_pow1 (.cons ev_pow (.cons ev_pow1 (.cons ev_pow (.cons ev_pow1 (.cons ev_pow .nil)))))))))))) (by decide)) trivial) .nil) (con_pick (by decide) (by decide)) (by omega) hn) (fun d => q2) fun d hd => by
          obtain ⟨i, _, rfl⟩ := hd
          exact Ex.toD (Ex.ret (Ev.iteI (Tst.cmp (Ev.name l1) Ev.cint op_eq rfl) (fun _ => Ev.name l2) (fun _ => Ev.bin Ev.cint (Ev.name l2) op_sub)) trivial) ⟨_, rfl⟩
      · refine Ex.penLe (k1 := k + 2) (D1 := isI) ?_ (by omega) (fun _ h => h)
        exact Ex.retM (EvM.bin (m_draw (k := k + 1) g3 l0 Ev.cint (by decide) (by decide) (by omega) hn) (EvM.of Ev.cint) fun a b ha hb => ii_sub a b ha.isI ⟨_, hb⟩)
      · refine Ex.penLe (k1 := k + 4) (D1 := isI) ?_ (by omega) (fun _ h => h)
        exact Ex.retM (EvM.bin (D1 := isI) (D2 := isI) (EvM.bin (D2 := isI) (m_draw (k := k + 1) g3 l0 ev_pow (by decide) (by decide) (by omega) hn)
          (EvM.bin (EvM.of ev_pow) (m_draw (k := k + 2) g3 l0 ev_pow (by decide) (by decide) (by omega) hn) fun a b ha hb => by
            obtain ⟨i, rfl, _⟩ := hb; subst ha; exact ⟨_, op_mul (IntMulOk.of_left (by decide)), _, rfl⟩) fun a b ha hb => ii_add a b ha.isI hb)
          (EvM.bin (EvM.of ev_pow) (m_draw (k := k + 3) g3 l0 ev_pow (by decide) (by decide) (by omega) hn) fun a b ha hb => by
            obtain ⟨i, rfl, _⟩ := hb; subst ha; exact ⟨_, op_mul (IntMulOk.of_left (by decide)), _, rfl⟩) fun a b ha hb => ii_add a b ha hb)
      · refine Ex.penLe (k1 := k + 3) (D1 := isI) ?_ (by omega) (fun _ h => h)
        exact Ex.retM (EvM.bin (D1 := isI) (EvM.bin (D1 := isI) (EvM.bin (EvM.of Ev.cint) (m_draw (k := k + 1) g3 l0 Ev.cint (by decide) (by decide) (by omega) hn) fun a b ha hb => by
            obtain ⟨i, rfl, h0, h1⟩ := hb; subst ha; exact ⟨_, op_pow h0 (by omega) (by decide), _, rfl⟩) (m_draw (k := k + 2) g3 l0 Ev.cint (by decide) (by decide) (by omega) hn) fun a b ha hb => ii_add a b ha hb.isI)
          (EvM.of Ev.cint) fun a b ha hb => ii_sub a b ha ⟨_, hb⟩)
      · refine Ex.penLe (k1 := k + 2) (D1 := isI) ?_ (by omega) (fun _ h => h)
        refine Ex.retM (EvM.ifexp (q := !decide (ns = [])) (TstG.cmp (EvG.anyPen fun a b => EvG.pen0 l0) (EvG.of (Ev.ilist EvI.nil (by decide)) trivial) op_nel trivial rfl) (fun h => ?_) fun h => (EvM.of Ev.cint).weak (by omega) fun d e => ⟨_, e⟩)
        have hne : ns ≠ [] := by simpa using h
        have hp := List.length_pos_iff.mpr hne
        exact (EvM.item (EvG.anyPen fun a b => EvG.pen0 l0) (EvM.call G_law_draw g3 l0 (.cons (EvG.callB1 B_len g5 (EvG.anyPen fun a b => EvG.pen0 l0) (con_len (by omega)) trivial) .nil) (con_draw (by omega) (by omega)) (by omega) hn) (by omega)).weak (Nat.le_refl _) fun d ⟨i, _, e⟩ => ⟨i, e⟩
end Mine
end

section
open PySem PySem.W PyProof.Rows PySem.Calls
set_option maxHeartbeats 1000000
namespace Mine
theorem whole_append (l r : List Int) : whole (l ++ r) = whole l + 2 ^ l.length * whole r := by
  induction l with
  | nil => show whole r = 0 + 2 ^ 0 * whole r; omega
  | cons a l ih =>
    show a + 2 * whole (l ++ r) = a + 2 * whole l + 2 ^ (l.length + 1) * whole r
    rw [ih, Int.pow_succ', Int.mul_add, Int.mul_assoc, Int.add_assoc]
theorem whole_ones (n : Nat) : whole (List.replicate n 1) = 2 ^ n - 1 := by
  induction n with
  | zero => rfl
  | succ n ih => show 1 + 2 * whole (List.replicate n 1) = 2 ^ (n + 1) - 1; rw [ih, Int.pow_succ']; omega
theorem drop_bits {l : List Int} (h : Bits l) (n : Nat) : Bits (l.drop n) := fun x hx => h x (List.mem_of_mem_drop hx)
theorem whole_cut {l : List Int} (h : Bits l) {n : Nat} (hn : n ≤ l.length) : whole (l.take n) = whole l % 2 ^ n ∧ whole (l.drop n) = whole l / 2 ^ n := by
  have e := whole_append (l.take n) (l.drop n)
  rw [List.take_append_drop, List.length_take, Nat.min_eq_left hn] at e
  have r := whole_rng (take_bits h n)
  rw [List.length_take, Nat.min_eq_left hn] at r
  have hp := two_pow_pos n
  rw [e]
  constructor
  · rw [Int.add_mul_emod_self_left, mod_small r.1 r.2]
  · rw [Int.add_mul_ediv_left _ _ (by omega), Int.ediv_eq_zero_of_lt r.1 r.2]; omega
theorem last_is {l : List Int} (h : Bits l) (h0 : l ≠ []) : (lastV l = 0 ∨ lastV l = 1) ∧ whole l = whole (l.take (l.length - 1)) + lastV l * 2 ^ (l.length - 1) := by
  rcases List.eq_nil_or_concat l with e | ⟨l', b, rfl⟩
  · exact absurd e h0
  · rw [List.concat_eq_append] at *
    have e1 : lastV (l' ++ [b]) = b := by
      unfold lastV
      have e : (-1 + ((l' ++ [b]).length : Int)).toNat = l'.length := by simp; omega
      rw [e]; simp [List.getD]
    rw [e1]
    refine ⟨h b (by simp), ?_⟩
    have e2 : (l' ++ [b]).length - 1 = l'.length := by simp
    rw [e2, List.take_left, whole_snoc]
theorem last_sg {l : List Int} {a : Int} {k : Nat} (h : Bits l) (hk : 1 ≤ k) (hl : l.length = k) (hw : whole l = a % 2 ^ k) : (lastV l = 0 ∧ sg a k = a % 2 ^ k ∧ a % 2 ^ k < 2 ^ (k - 1)) ∨ (lastV l = 1 ∧ sg a k = a % 2 ^ k - 2 ^ k ∧ 2 ^ (k - 1) ≤ a % 2 ^ k) := by
  have h0 : l ≠ [] := fun e => by rw [e] at hl; simp at hl; omega
  obtain ⟨hb, e⟩ := last_is h h0
  have r := whole_rng (take_bits h (l.length - 1))
  rw [List.length_take, hl, Nat.min_eq_left (by omega)] at r
  rw [hl, hw] at e
  have hp := two_pow_pos (k - 1)
  rcases hb with q | q
  · left
    rw [q, Int.zero_mul] at e
    refine ⟨q, ?_, by omega⟩
    unfold sg
    rw [if_neg (by omega)]
  · right
    rw [q, Int.one_mul] at e
    refine ⟨q, ?_, by omega⟩
    unfold sg
    rw [if_pos (by omega)]
/-- a row made longer by its last bit -/
theorem whole_fill {l : List Int} {a : Int} {k n : Nat} (h : Bits l) (hk : 1 ≤ k) (hl : l.length = k) (hw : whole l = a % 2 ^ k) : whole (l ++ List.replicate n (lastV l)) = sg a k % 2 ^ (k + n) := by
  have m0 := mod_lo a k
  have m1 := mod_hi a k
  have hp : (2 : Int) ^ k ≤ 2 ^ (k + n) := pow_le_pow (by omega)
  rw [whole_append, hl, hw]
  rcases last_sg h hk hl hw with ⟨q, e, _⟩ | ⟨q, e, _⟩
  · rw [q, whole_zeros, e, Int.mul_zero, Int.add_zero]
    exact (mod_small m0 (by omega)).symm
  · rw [q, whole_ones, e, Int.mul_sub, ← Int.pow_add, Int.mul_one]
    have e2 : a % 2 ^ k - 2 ^ k = (a % 2 ^ k + (2 ^ (k + n) - 2 ^ k)) + 2 ^ (k + n) * (-1) := by omega
    rw [e2, Int.add_mul_emod_self_left]
    exact (show a % 2 ^ k + (2 ^ (k + n) - 2 ^ k) = (a % 2 ^ k + (2 ^ (k + n) - 2 ^ k)) % 2 ^ (k + n) from (mod_small (by omega) (by omega)).symm)
theorem take_bitsOf (a : Int) {j k : Nat} (h : j ≤ k) : (bitsOf a k).take j = bitsOf a j := by
  refine whole_inj (take_bits (bitsOf_bits a k) j) (bitsOf_bits a j) (by rw [List.length_take, bitsOf_len, bitsOf_len]; omega) ?_
  rw [(whole_cut (bitsOf_bits a k) (by rw [bitsOf_len]; exact h)).1, whole_bitsOf, whole_bitsOf]
  obtain ⟨i, rfl⟩ := Nat.exists_eq_add_of_le h
  exact Int.emod_emod_of_dvd _ ⟨2 ^ i, Int.pow_add ..⟩
theorem shK_is (a b : Int) {k : Nat} (hk : Sz k) : shK (bitsOf a k) (bitsOf b k) = (b % k).toNat := by
  unfold shK nb
  rw [bitsOf_len]
  rcases hk with rfl | rfl
  · rw [if_neg (by decide), take_bitsOf b (by decide), whole_bitsOf]; rfl
  · rw [if_pos rfl, take_bitsOf b (by decide), whole_bitsOf]; rfl
theorem whole_lsh (a : Int) {j k : Nat} (h : j ≤ k) : whole (List.replicate j 0 ++ (bitsOf a k).take (k - j)) = a % 2 ^ k * 2 ^ j % 2 ^ k := by
  rw [whole_append, whole_zeros, List.length_replicate, take_bitsOf a (by omega), whole_bitsOf, Int.zero_add]
  have e : (2 : Int) ^ k = 2 ^ j * 2 ^ (k - j) := by rw [← Int.pow_add]; congr 1; omega
  rw [Int.mul_emod (a % 2 ^ k), mod_mod, ← Int.mul_emod, Int.mul_comm a, e, Int.mul_emod_mul_of_pos _ _ (two_pow_pos j)]
theorem whole_rsh (a : Int) {j k : Nat} (h : j ≤ k) : whole ((bitsOf a k).drop j ++ List.replicate j 0) = a % 2 ^ k / 2 ^ j := by
  rw [whole_append, whole_zeros, (whole_cut (bitsOf_bits a k) (by rw [bitsOf_len]; exact h)).2, whole_bitsOf, Int.mul_zero, Int.add_zero]
theorem bitsOf_ne (a : Int) {k : Nat} (hk : 1 ≤ k) : bitsOf a k ≠ [] := fun e => by
  have := bitsOf_len a k
  rw [e] at this; simp at this; omega
theorem whole_arsh (a : Int) {j k : Nat} (hk : 1 ≤ k) (h : j ≤ k) : whole ((bitsOf a k).drop j ++ List.replicate j (lastV (bitsOf a k))) = sg a k / 2 ^ j % 2 ^ k := by
  have hpj := two_pow_pos j
  have m0 := mod_lo a k
  have m1 := mod_hi a k
  have e : (2 : Int) ^ k = 2 ^ j * 2 ^ (k - j) := by rw [← Int.pow_add]; congr 1; omega
  have d0 : 0 ≤ a % 2 ^ k / 2 ^ j := Int.ediv_nonneg m0 (Int.le_of_lt hpj)
  have d1 : a % 2 ^ k / 2 ^ j < 2 ^ (k - j) := Int.ediv_lt_of_lt_mul hpj (by rw [Int.mul_comm, ← e]; exact m1)
  have hpk : (2 : Int) ^ (k - j) ≤ 2 ^ k := pow_le_pow (by omega)
  rw [whole_append, (whole_cut (bitsOf_bits a k) (by rw [bitsOf_len]; exact h)).2, whole_bitsOf, List.length_drop, bitsOf_len]
  rcases last_sg (bitsOf_bits a k) hk (bitsOf_len a k) (whole_bitsOf a k) with ⟨q, es, _⟩ | ⟨q, es, _⟩
  · rw [q, whole_zeros, es, Int.mul_zero, Int.add_zero]
    exact (mod_small d0 (by omega)).symm
  · rw [q, whole_ones, es, Int.mul_sub, Int.mul_one, Int.mul_comm (2 ^ (k - j)), ← e]
    have e2 : a % 2 ^ k - 2 ^ k = a % 2 ^ k + 2 ^ j * (-2 ^ (k - j)) := by rw [Int.mul_neg, ← e]; omega
    rw [e2, Int.add_mul_ediv_left _ _ (by omega)]
    have e3 : a % 2 ^ k / 2 ^ j + -2 ^ (k - j) = (a % 2 ^ k / 2 ^ j + (2 ^ k - 2 ^ (k - j))) + 2 ^ k * (-1) := by omega
    rw [e3, Int.add_mul_emod_self_left]
    exact (show a % 2 ^ k / 2 ^ j + (2 ^ k - 2 ^ (k - j)) = (a % 2 ^ k / 2 ^ j + (2 ^ k - 2 ^ (k - j))) % 2 ^ k from (mod_small (by omega) (by omega)).symm)
-- bit by bit
theorem accF_cons (g : Nat → Int) : ∀ n, accF g (n + 1) = g 0 :: accF (fun i => g (i + 1)) n
  | 0 => rfl
  | n + 1 => by
    show accF g (n + 1) ++ [g (n + 1)] = _
    rw [accF_cons g n]; rfl
theorem whole_zip {φ : Nat → Nat → Nat} {g : Int → Int → Int} (hg : ∀ x y : Int, (x = 0 ∨ x = 1) → (y = 0 ∨ y = 1) → g x y = (φ x.toNat y.toNat : Nat)) (h00 : φ 0 0 = 0)
    (hs : ∀ x y m n : Nat, x ≤ 1 → y ≤ 1 → φ (x + 2 * m) (y + 2 * n) = φ x y + 2 * φ m n) : ∀ {l r : List Int}, Bits l → Bits r → l.length = r.length → whole (accF (fun i => g (l.getD i 0) (r.getD i 0)) l.length) = (φ (whole l).toNat (whole r).toNat : Nat)
  | [], r, _, _, h => by
    have : r = [] := List.length_eq_zero_iff.mp h.symm
    subst this
    show (0 : Int) = (φ 0 0 : Nat); rw [h00]; rfl
  | x :: l, [], _, _, h => by cases h
  | x :: l, y :: r, hl, hr, h => by
    rw [List.length_cons, accF_cons]
    show g x y + 2 * whole (accF (fun i => g (l.getD i 0) (r.getD i 0)) l.length) = _
    rw [whole_zip hg h00 hs hl.cons.2 hr.cons.2 (by simpa using h), hg x y hl.cons.1 hr.cons.1]
    have w1 := whole_rng hl.cons.2
    have w2 := whole_rng hr.cons.2
    have e1 : (whole (x :: l)).toNat = x.toNat + 2 * (whole l).toNat := by show (x + 2 * whole l).toNat = _; rcases hl.cons.1 with rfl | rfl <;> omega
    have e2 : (whole (y :: r)).toNat = y.toNat + 2 * (whole r).toNat := by show (y + 2 * whole r).toNat = _; rcases hr.cons.1 with rfl | rfl <;> omega
    rw [e1, e2, hs _ _ _ _ (by rcases hl.cons.1 with rfl | rfl <;> decide) (by rcases hr.cons.1 with rfl | rfl <;> decide)]
    push_cast; rfl
theorem xor_step (x y m n : Nat) (hx : x ≤ 1) (hy : y ≤ 1) : (x + 2 * m) ^^^ (y + 2 * n) = (x ^^^ y) + 2 * (m ^^^ n) := by
  have h1 := @Nat.xor_div_two (x + 2 * m) (y + 2 * n)
  have h2 := @Nat.xor_mod_two_eq_one (x + 2 * m) (y + 2 * n)
  rw [show (x + 2 * m) / 2 = m by omega, show (y + 2 * n) / 2 = n by omega] at h1
  have : x = 0 ∨ x = 1 := by omega
  have : y = 0 ∨ y = 1 := by omega
  rcases ‹x = 0 ∨ x = 1› with rfl | rfl <;> rcases ‹y = 0 ∨ y = 1› with rfl | rfl <;> simp only [show (0 ^^^ 0 : Nat) = 0 from rfl, show (0 ^^^ 1 : Nat) = 1 from rfl, show (1 ^^^ 0 : Nat) = 1 from rfl, show (1 ^^^ 1 : Nat) = 0 from rfl] <;> omega
theorem and_step (x y m n : Nat) (hx : x ≤ 1) (hy : y ≤ 1) : (x + 2 * m) &&& (y + 2 * n) = (x &&& y) + 2 * (m &&& n) := by
  have h1 := @Nat.and_div_two (x + 2 * m) (y + 2 * n)
  have h2 := @Nat.and_mod_two_eq_one (x + 2 * m) (y + 2 * n)
  rw [show (x + 2 * m) / 2 = m by omega, show (y + 2 * n) / 2 = n by omega] at h1
  have : x = 0 ∨ x = 1 := by omega
  have : y = 0 ∨ y = 1 := by omega
  rcases ‹x = 0 ∨ x = 1› with rfl | rfl <;> rcases ‹y = 0 ∨ y = 1› with rfl | rfl <;> simp only [show (0 &&& 0 : Nat) = 0 from rfl, show (0 &&& 1 : Nat) = 0 from rfl, show (1 &&& 0 : Nat) = 0 from rfl, show (1 &&& 1 : Nat) = 1 from rfl] <;> omega
theorem or_step (x y m n : Nat) (hx : x ≤ 1) (hy : y ≤ 1) : (x + 2 * m) ||| (y + 2 * n) = (x ||| y) + 2 * (m ||| n) := by
  have h1 := @Nat.or_div_two (x + 2 * m) (y + 2 * n)
  have h2 := @Nat.or_mod_two_eq_one (x + 2 * m) (y + 2 * n)
  rw [show (x + 2 * m) / 2 = m by omega, show (y + 2 * n) / 2 = n by omega] at h1
  have : x = 0 ∨ x = 1 := by omega
  have : y = 0 ∨ y = 1 := by omega
  rcases ‹x = 0 ∨ x = 1› with rfl | rfl <;> rcases ‹y = 0 ∨ y = 1› with rfl | rfl <;> simp only [show (0 ||| 0 : Nat) = 0 from rfl, show (0 ||| 1 : Nat) = 1 from rfl, show (1 ||| 0 : Nat) = 1 from rfl, show (1 ||| 1 : Nat) = 1 from rfl] <;> omega
theorem whole_xor {l r : List Int} (hl : Bits l) (hr : Bits r) (h : l.length = r.length) : whole (xorL l r) = Builtin.bitXor (whole l) (whole r) := by
  rw [xor_pp (whole_rng hl).1 (whole_rng hr).1]
  exact whole_zip (φ := fun a b => a ^^^ b) (g := fun x y => if (x != y) = true then 1 else 0) (fun x y hx hy => by rcases hx with rfl | rfl <;> rcases hy with rfl | rfl <;> rfl) rfl xor_step hl hr h
theorem whole_and {l r : List Int} (hl : Bits l) (hr : Bits r) (h : l.length = r.length) : whole (atL 2 l r) = Builtin.bitAnd (whole l) (whole r) := by
  rw [bitAnd_pp (whole_rng hl).1 (whole_rng hr).1]
  exact whole_zip (φ := fun a b => a &&& b) (g := fun x y => if decide ((2 : Int) ≤ x + y) = true then 1 else 0) (fun x y hx hy => by rcases hx with rfl | rfl <;> rcases hy with rfl | rfl <;> rfl) rfl and_step hl hr h
theorem whole_or {l r : List Int} (hl : Bits l) (hr : Bits r) (h : l.length = r.length) : whole (atL 1 l r) = Builtin.bitOr (whole l) (whole r) := by
  rw [or_pp (whole_rng hl).1 (whole_rng hr).1]
  exact whole_zip (φ := fun a b => a ||| b) (g := fun x y => if decide ((1 : Int) ≤ x + y) = true then 1 else 0) (fun x y hx hy => by rcases hx with rfl | rfl <;> rcases hy with rfl | rfl <;> rfl) rfl or_step hl hr h
end Mine
end

section
open PySem PySem.W PyProof.Rows PySem.Calls
set_option maxHeartbeats 1000000
namespace Mine
section
variable {a b : Int} {k : Nat}
def absI (x : Int) : Int := if x < 0 then -x else x
theorem whole_abs_is (hk : 1 ≤ k) : whole (absL (bitsOf a k)) = absI (sg a k) ∧ 0 ≤ absI (sg a k) ∧ absI (sg a k) < 2 ^ k ∧ (lastV (bitsOf a k) == 1) = decide (sg a k < 0) := by
  rw [whole_absL (bitsOf_ne a hk) (bitsOf_bits a k), bitsOf_len, whole_bitsOf]
  have m0 := mod_lo a k
  have m1 := mod_hi a k
  have hh := half_pow hk
  have hp := two_pow_pos (k - 1)
  unfold absI
  rcases last_sg (bitsOf_bits a k) hk (bitsOf_len a k) (whole_bitsOf a k) with ⟨q, e, h⟩ | ⟨q, e, h⟩
  · rw [q, if_neg (by decide), e, if_neg (by omega)]
    exact ⟨rfl, m0, m1, by simp; exact m0⟩
  · rw [q, if_pos (by decide), e, if_pos (by omega)]
    refine ⟨by omega, by omega, by omega, ?_⟩
    rw [decide_eq_true (by omega : a % 2 ^ k - 2 ^ k < 0)]; rfl
theorem absL_bits {l : List Int} (h : Bits l) : Bits (absL l) := by
  unfold absL
  split
  · exact tsign_bits l
  · exact h
theorem neg_mod_mod (x : Int) (k : Nat) : (-(x % 2 ^ k)) % 2 ^ k = (-x) % 2 ^ k := by rw [← Int.zero_sub, ← Int.zero_sub, Int.sub_emod, mod_mod, ← Int.sub_emod]
theorem quo_facts (hk : 1 ≤ k) (hb : sg b k ≠ 0) : whole (quoL (bitsOf a k) (bitsOf b k)) = absI (sg a k) / absI (sg b k) ∧ (partS (whole (absL (bitsOf b k))) (absL (bitsOf a k)).reverse (absL (bitsOf a k)).reverse.length).1 = absI (sg a k) % absI (sg b k) := by
  obtain ⟨wa, a0, a1, _⟩ := whole_abs_is (a := a) hk
  obtain ⟨wb, b0, b1, _⟩ := whole_abs_is (a := b) hk
  have hpos : 0 < absI (sg b k) := by unfold absI at *; split at b0 <;> split <;> omega
  have := partS_is (d := whole (absL (bitsOf b k))) (by rw [wb]; exact hpos) (absL_bits (bitsOf_bits a k))
  unfold quoL
  rw [this.2.1, this.1, wa, wb]
  exact ⟨rfl, rfl⟩
theorem sg_zero_iff (hk : 1 ≤ k) : sg b k = 0 ↔ b % 2 ^ k = 0 := by
  have m0 := mod_lo b k
  have m1 := mod_hi b k
  have hp := two_pow_pos (k - 1)
  unfold sg
  split <;> omega
theorem pair_quo (hk : 1 ≤ k) (s : Bool) : whole (pairV s (bitsOf a k) (bitsOf b k)).1 = (if s then Int.tdiv (sg a k) (sg b k) else a % 2 ^ k / (b % 2 ^ k)) % 2 ^ k := by
  have m0 := mod_lo a k
  have m1 := mod_hi a k
  have n0 := mod_lo b k
  unfold pairV
  rw [whole_bitsOf]
  by_cases h : b % 2 ^ k = 0
  · rw [if_pos h, whole_zeros, (sg_zero_iff hk).mpr h, h, Int.tdiv_zero, Int.ediv_zero, ite_self, Int.zero_emod]
  · rw [if_neg h]
    have hs : sg b k ≠ 0 := fun e => h ((sg_zero_iff hk).mp e)
    cases s with
    | false =>
      rw [if_neg (by decide), if_neg (by decide)]
      have := partS_is (d := b % 2 ^ k) (by omega) (bitsOf_bits a k)
      rw [this.2.1, whole_bitsOf]
      exact (mod_small (Int.ediv_nonneg m0 n0) (Int.lt_of_le_of_lt (Int.ediv_le_self _ m0) m1)).symm
    | true =>
      rw [if_pos rfl, if_pos rfl]
      obtain ⟨q, _⟩ := quo_facts (a := a) hk hs
      obtain ⟨wa, a0, a1, la⟩ := whole_abs_is (a := a) hk
      obtain ⟨wb, b0, b1, lb⟩ := whole_abs_is (a := b) hk
      have qe : (absI (sg a k)).fdiv (absI (sg b k)) = absI (sg a k) / absI (sg b k) := Int.fdiv_eq_ediv_of_nonneg _ b0
      have bitA := (last_is (bitsOf_bits a k) (bitsOf_ne a hk)).1
      have bitB := (last_is (bitsOf_bits b k) (bitsOf_ne b hk)).1
      have eq : (lastV (bitsOf a k) != lastV (bitsOf b k)) = !(decide (sg a k < 0) == decide (sg b k < 0)) := by
        rw [← la, ← lb]
        rcases bitA with e | e <;> rcases bitB with e' | e' <;> rw [e, e'] <;> rfl
      rw [eq, tdiv_signs _ _ hs]
      show _ = (if (decide (sg a k < 0) == decide (sg b k < 0)) = true then (absI (sg a k)).fdiv (absI (sg b k)) else -((absI (sg a k)).fdiv (absI (sg b k)))) % 2 ^ k
      rw [qe]
      cases (decide (sg a k < 0) == decide (sg b k < 0)) with
      | true =>
        rw [if_neg (by decide), if_pos rfl, q]
        exact (mod_small (Int.ediv_nonneg a0 b0) (Int.lt_of_le_of_lt (Int.ediv_le_self _ a0) a1)).symm
      | false =>
        simp only [Bool.not_false, if_true, Bool.false_eq_true, if_false]
        rw [whole_tsign, q, quoL_len, bitsOf_len]
theorem pair_rem (hk : 1 ≤ k) (s : Bool) : whole (pairV s (bitsOf a k) (bitsOf b k)).2 = (if s then Int.tmod (sg a k) (sg b k) else a % 2 ^ k % (b % 2 ^ k)) % 2 ^ k := by
  have m0 := mod_lo a k
  have m1 := mod_hi a k
  have n0 := mod_lo b k
  unfold pairV
  rw [whole_bitsOf]
  by_cases h : b % 2 ^ k = 0
  · rw [if_pos h, whole_bitsOf, (sg_zero_iff hk).mpr h, h, Int.tmod_zero, Int.emod_zero]
    cases s with
    | false => rw [if_neg (by decide), mod_mod]
    | true => rw [if_pos rfl, sg_mod]
  · rw [if_neg h]
    have hs : sg b k ≠ 0 := fun e => h ((sg_zero_iff hk).mp e)
    cases s with
    | false =>
      rw [if_neg (by decide), if_neg (by decide)]
      have := partS_is (d := b % 2 ^ k) (by omega) (bitsOf_bits a k)
      show whole (bitsOf _ _) = _
      rw [this.1, whole_bitsOf, whole_bitsOf, bitsOf_len]
    | true =>
      rw [if_pos rfl, if_pos rfl]
      obtain ⟨_, q⟩ := quo_facts (a := a) hk hs
      obtain ⟨wa, a0, a1, la⟩ := whole_abs_is (a := a) hk
      obtain ⟨wb, b0, b1, lb⟩ := whole_abs_is (a := b) hk
      have wr : whole (remL (bitsOf a k) (bitsOf b k)) = absI (sg a k) % absI (sg b k) % 2 ^ k := by
        unfold remL
        rw [q, whole_bitsOf, absL_len, bitsOf_len]
      rw [la, tmod_signs _ _ hs]
      show whole (if decide (sg a k < 0) = true then tsign (remL (bitsOf a k) (bitsOf b k)) else remL (bitsOf a k) (bitsOf b k)) = (if sg a k < 0 then -((absI (sg a k)).fmod (absI (sg b k))) else (absI (sg a k)).fmod (absI (sg b k))) % 2 ^ k
      rw [Int.fmod_eq_emod_of_nonneg _ b0]
      by_cases hn : sg a k < 0
      · rw [if_pos (decide_eq_true hn), if_pos hn, whole_tsign, wr, remL_len, bitsOf_len, neg_mod_mod]
      · rw [if_neg (by simpa using hn), if_neg hn, wr]
theorem row_ok (a b : Int) (hk : Sz k) : RowOk (bitsOf a k) (bitsOf b k) := ⟨bitsOf_bits a k, bitsOf_bits b k, by rw [bitsOf_len]; exact hk, by rw [bitsOf_len, bitsOf_len]⟩
theorem count_lek (hk : Sz k) : (b % k).toNat ≤ k := by rcases hk with rfl | rfl <;> omega
/-- a deed's worth is its row's -/
theorem alu_law {op : Str} {s : Bool} (hk : Sz k) (ho : op ∈ deeds) : aluV op a b k s % 2 ^ k = whole (rowV op (bitsOf a k) (bitsOf b k) s) := by
  have hl : (bitsOf a k).length = (bitsOf b k).length := by rw [bitsOf_len, bitsOf_len]
  have A0 := mod_lo a k
  have A1 := mod_hi a k
  have B0 := mod_lo b k
  have B1 := mod_hi b k
  unfold deeds at ho
  simp only [List.mem_cons, List.not_mem_nil, or_false] at ho
  rcases ho with rfl | rfl | rfl | rfl | rfl | rfl | rfl | rfl | rfl | rfl | rfl | rfl | rfl
  · rw [aluV_div]; exact (pair_quo hk.pos s).symm
  · rw [aluV_mod]; exact (pair_rem hk.pos s).symm
  · rw [aluV_add]
    show _ = whole (sumL (bitsOf a k) (bitsOf b k) 0)
    rw [whole_sumL _ _ _ hl, whole_bitsOf, whole_bitsOf, bitsOf_len, Int.add_zero, ← Int.add_emod]
  · rw [aluV_sub]
    show _ = whole (sumL (bitsOf a k) ((bitsOf b k).map fun b => 1 - b) 1)
    rw [whole_sumL _ _ _ (by rw [List.length_map]; exact hl), whole_not, whole_bitsOf, whole_bitsOf, bitsOf_len, bitsOf_len, Int.sub_emod]
    have e : a % 2 ^ k + (2 ^ k - 1 - b % 2 ^ k) + 1 = (a % 2 ^ k - b % 2 ^ k) + 2 ^ k := by omega
    rw [e, Int.add_emod_right]
  · rw [aluV_mul]
    show _ = whole (bitsOf (whole (bitsOf a k) * whole (bitsOf b k)) (bitsOf a k).length)
    rw [whole_bitsOf, whole_bitsOf, whole_bitsOf, bitsOf_len, ← Int.mul_emod]
  · rw [aluV_or]
    show _ = whole (atL 1 (bitsOf a k) (bitsOf b k))
    rw [whole_or (bitsOf_bits _ _) (bitsOf_bits _ _) hl, whole_bitsOf, whole_bitsOf]
    have h := or_rng A0 A1 B0 B1
    exact mod_small h.1 h.2
  · rw [aluV_and]
    show _ = whole (atL 2 (bitsOf a k) (bitsOf b k))
    rw [whole_and (bitsOf_bits _ _) (bitsOf_bits _ _) hl, whole_bitsOf, whole_bitsOf]
    have h := and_rng A0 A1 B0 B1
    exact mod_small h.1 h.2
  · rw [aluV_lsh]
    show _ = whole (List.replicate (shK (bitsOf a k) (bitsOf b k)) 0 ++ (bitsOf a k).take ((bitsOf a k).length - shK (bitsOf a k) (bitsOf b k)))
    rw [shK_is a b hk, bitsOf_len, whole_lsh a (count_lek hk)]
  · rw [aluV_rsh]
    show _ = whole ((bitsOf a k).drop (shK (bitsOf a k) (bitsOf b k)) ++ List.replicate (shK (bitsOf a k) (bitsOf b k)) 0)
    rw [shK_is a b hk, whole_rsh a (count_lek hk)]
    exact mod_small (Int.ediv_nonneg A0 (Int.le_of_lt (two_pow_pos _))) (Int.lt_of_le_of_lt (Int.ediv_le_self _ A0) A1)
  · rw [aluV_neg]
    show _ = whole (tsign (bitsOf a k))
    rw [whole_tsign, whole_bitsOf, bitsOf_len, neg_mod_mod]
  · rw [aluV_xor]
    show _ = whole (xorL (bitsOf a k) (bitsOf b k))
    rw [whole_xor (bitsOf_bits _ _) (bitsOf_bits _ _) hl, whole_bitsOf, whole_bitsOf]
    have h := xor_rng A0 A1 B0 B1
    exact mod_small h.1 h.2
  · rw [aluV_mov]
    show _ = whole (bitsOf b k)
    rw [whole_bitsOf]
  · rw [aluV_arsh]
    show _ = whole ((bitsOf a k).drop (shK (bitsOf a k) (bitsOf b k)) ++ List.replicate (shK (bitsOf a k) (bitsOf b k)) (lastV (bitsOf a k)))
    rw [shK_is a b hk, whole_arsh a hk.pos (count_lek hk)]
end
end Mine
end

section
open PySem PySem.W PyProof.Rows PySem.Calls
set_option maxHeartbeats 1000000
namespace Mine
section
variable {a b : Int} {k : Nat} {op : Str}
theorem rows_eq : (bitsOf a k = bitsOf b k) ↔ a % 2 ^ k = b % 2 ^ k := by
  constructor
  · intro h; rw [← whole_bitsOf, h, whole_bitsOf]
  · intro h; rw [← bitsOf_mod a, h, bitsOf_mod]
theorem less_is {l r : List Int} (hl : Bits l) (hr : Bits r) (h : l.length = r.length) : ∀ i, i ≤ l.length → lessS l r i = decide (whole (l.take i) < whole (r.take i))
  | 0, _ => rfl
  | i + 1, hi => by
    have h1 : i < l.length := hi
    have h2 : i < r.length := by omega
    have eL : whole (l.take (i + 1)) = whole (l.take i) + l[i] * 2 ^ i := by
      rw [List.take_add_one, List.getElem?_eq_getElem h1]
      show whole (l.take i ++ [l[i]]) = _
      rw [whole_snoc, List.length_take, Nat.min_eq_left (by omega)]
    have eR : whole (r.take (i + 1)) = whole (r.take i) + r[i] * 2 ^ i := by
      rw [List.take_add_one, List.getElem?_eq_getElem h2]
      show whole (r.take i ++ [r[i]]) = _
      rw [whole_snoc, List.length_take, Nat.min_eq_left (by omega)]
    rw [eL, eR]
    show (if (l.getD i 0 != r.getD i 0) = true then r.getD i 0 == 1 else lessS l r i) = _
    rw [less_is hl hr h i (by omega), show l.getD i 0 = l[i] by simp [List.getD, h1], show r.getD i 0 = r[i] by simp [List.getD, h2]]
    have w1 := whole_rng (take_bits hl i)
    have w2 := whole_rng (take_bits hr i)
    rw [List.length_take, Nat.min_eq_left (by omega)] at w1 w2
    rcases hl _ (List.getElem_mem h1) with e | e <;> rcases hr _ (List.getElem_mem h2) with e' | e' <;> rw [e, e'] <;> simp <;> omega
theorem less_rows (a b : Int) (k : Nat) : lessS (bitsOf a k) (bitsOf b k) (bitsOf a k).length = decide (a % 2 ^ k < b % 2 ^ k) := by
  rw [less_is (bitsOf_bits a k) (bitsOf_bits b k) (by rw [bitsOf_len, bitsOf_len]) _ (Nat.le_refl _), bitsOf_len, List.take_of_length_le (by rw [bitsOf_len]; exact Nat.le_refl _), List.take_of_length_le (by rw [bitsOf_len]; exact Nat.le_refl _), whole_bitsOf, whole_bitsOf]
theorem flip_bits {l : List Int} (h : Bits l) (h0 : l ≠ []) : Bits (flipL l) := fun x hx => by
  unfold flipL at hx
  rcases List.mem_append.mp hx with q | q
  · exact take_bits h _ x q
  · rw [List.mem_singleton.mp q]
    rcases (last_is h h0).1 with e | e <;> rw [e]
    · exact .inr rfl
    · exact .inl rfl
theorem whole_flip (hk : 1 ≤ k) : whole (flipL (bitsOf a k)) = sg a k + 2 ^ (k - 1) := by
  have hh := half_pow hk
  obtain ⟨_, e⟩ := last_is (bitsOf_bits a k) (bitsOf_ne a hk)
  unfold flipL
  rw [whole_snoc, List.length_take, bitsOf_len, Nat.min_eq_left (by omega)]
  rw [whole_bitsOf, bitsOf_len] at e
  rcases last_sg (bitsOf_bits a k) hk (bitsOf_len a k) (whole_bitsOf a k) with ⟨q, es, _⟩ | ⟨q, es, _⟩
  · rw [q] at e ⊢; rw [es]; omega
  · rw [q] at e ⊢; rw [es]; omega
theorem less_flip (hk : 1 ≤ k) : lessS (flipL (bitsOf a k)) (flipL (bitsOf b k)) (flipL (bitsOf a k)).length = decide (sg a k < sg b k) := by
  have l1 := flipL_len (bitsOf_ne a hk)
  have l2 := flipL_len (bitsOf_ne b hk)
  rw [bitsOf_len] at l1 l2
  rw [less_is (flip_bits (bitsOf_bits a k) (bitsOf_ne a hk)) (flip_bits (bitsOf_bits b k) (bitsOf_ne b hk)) (by rw [l1, l2]) _ (Nat.le_refl _), List.take_of_length_le (Nat.le_refl _), List.take_of_length_le (by omega), whole_flip hk, whole_flip hk]
  simp only [Int.add_lt_add_iff_right]
theorem accT_nil {b : Nat → Bool} {g : Nat → Int} : ∀ n, accT b g n = [] ↔ ∀ i, i < n → b i = false
  | 0 => ⟨fun _ _ h => absurd h (Nat.not_lt_zero _), fun _ => rfl⟩
  | n + 1 => by
    have ih := accT_nil (b := b) (g := g) n
    show (if b n then accT b g n ++ [g n] else accT b g n) = [] ↔ _
    cases hb : b n with
    | true =>
      simp only [if_true, List.append_eq_nil_iff, List.cons_ne_nil, and_false, false_iff]
      intro h
      have := h n (Nat.lt_succ_self n)
      rw [hb] at this; cases this
    | false =>
      simp only [Bool.false_eq_true, if_false]
      rw [ih]
      constructor
      · intro h i hi
        rcases Nat.lt_succ_iff_lt_or_eq.mp hi with q | q
        · exact h i q
        · rw [q]; exact hb
      · exact fun h i hi => h i (Nat.lt_succ_of_lt hi)
theorem accF_zero {g : Nat → Int} (h01 : ∀ i, g i = 0 ∨ g i = 1) : ∀ n, whole (accF g n) = 0 ↔ ∀ i, i < n → g i = 0
  | 0 => ⟨fun _ _ h => absurd h (Nat.not_lt_zero _), fun _ => rfl⟩
  | n + 1 => by
    have ih := accF_zero h01 n
    show whole (accF g n ++ [g n]) = 0 ↔ _
    have hb : Bits (accF g n) := by
      clear ih
      induction n with
      | zero => exact .nil
      | succ n ih => intro x hx; rcases List.mem_append.mp hx with q | q; exact ih x q; rw [List.mem_singleton.mp q]; exact h01 n
    have hw := whole_rng hb
    rw [whole_snoc, accF_len]
    have hp := two_pow_pos n
    constructor
    · intro h i hi
      have e0 : g n = 0 := by rcases h01 n with e | e; exact e; rw [e] at h; omega
      rw [e0] at h
      rcases Nat.lt_succ_iff_lt_or_eq.mp hi with q | q
      · exact ih.mp (by omega) i q
      · rw [q]; exact e0
    · intro h
      rw [ih.mpr fun i hi => h i (Nat.lt_succ_of_lt hi), h n (Nat.lt_succ_self n)]; omega
theorem getD_bit {l : List Int} (h : Bits l) (i : Nat) : l.getD i 0 = 0 ∨ l.getD i 0 = 1 := by
  rcases Nat.lt_or_ge i l.length with q | q
  · rw [List.getD, List.getElem?_eq_getElem q]; exact h _ (List.getElem_mem q)
  · rw [List.getD, List.getElem?_eq_none q]; exact .inl rfl
theorem both_is (hk : 1 ≤ k) : (Builtin.bitAnd (a % 2 ^ k) (b % 2 ^ k) != 0) = !decide (bothL (bitsOf a k) (bitsOf b k) = []) := by
  have hl : (bitsOf a k).length = (bitsOf b k).length := by rw [bitsOf_len, bitsOf_len]
  have e := whole_and (bitsOf_bits a k) (bitsOf_bits b k) hl
  rw [whole_bitsOf, whole_bitsOf] at e
  rw [← e]
  have z1 := accF_zero (g := fun i => if decide ((2 : Int) ≤ (bitsOf a k).getD i 0 + (bitsOf b k).getD i 0) = true then 1 else 0) (fun i => by
    show (if _ then (1 : Int) else 0) = 0 ∨ _
    split
    · exact .inr rfl
    · exact .inl rfl) (bitsOf a k).length
  have z2 := accT_nil (b := fun i => (bitsOf a k).getD i 0 == 1 && (bitsOf b k).getD i 0 == 1) (g := fun _ => 1) (bitsOf a k).length
  have z : whole (atL 2 (bitsOf a k) (bitsOf b k)) = 0 ↔ bothL (bitsOf a k) (bitsOf b k) = [] := by
    refine z1.trans (Iff.trans ?_ z2.symm)
    refine forall_congr' fun i => forall_congr' fun _ => ?_
    rcases getD_bit (bitsOf_bits a k) i with p | p <;> rcases getD_bit (bitsOf_bits b k) i with q | q <;> simp only [p, q] <;> decide
  by_cases h : bothL (bitsOf a k) (bitsOf b k) = []
  · rw [z.mpr h, decide_eq_true h]; rfl
  · rw [decide_eq_false h]
    have : whole (atL 2 (bitsOf a k) (bitsOf b k)) ≠ 0 := fun e => h (z.mp e)
    simpa using this
theorem not_lt_b (x y : Int) : (decide (x < y) == false) = decide (y ≤ x) := by by_cases h : x < y <;> simp [h] <;> omega
/-- a condition holds where its rows say so -/
theorem cond_law (hk : Sz k) (ho : op ∈ conds) : holdsV op a b k = lawStands op (bitsOf a k) (bitsOf b k) := by
  have l1 := flipL_len (bitsOf_ne a hk.pos)
  have l2 := flipL_len (bitsOf_ne b hk.pos)
  unfold conds at ho
  simp only [List.mem_cons, List.not_mem_nil, or_false] at ho
  rcases ho with rfl | rfl | rfl | rfl | rfl | rfl | rfl | rfl | rfl | rfl | rfl
  · show (a % 2 ^ k == b % 2 ^ k) = decide (bitsOf a k = bitsOf b k)
    rw [show decide (bitsOf a k = bitsOf b k) = decide (a % 2 ^ k = b % 2 ^ k) from decide_eq_decide.mpr rows_eq]; rfl
  · show decide (b % 2 ^ k < a % 2 ^ k) = (lessS (bitsOf b k) (bitsOf a k) (bitsOf b k).length == true)
    rw [less_rows]; simp
  · show decide (b % 2 ^ k ≤ a % 2 ^ k) = (lessS (bitsOf a k) (bitsOf b k) (bitsOf a k).length == false)
    rw [less_rows, not_lt_b]
  · exact both_is hk.pos
  · show (a % 2 ^ k != b % 2 ^ k) = !decide (bitsOf a k = bitsOf b k)
    rw [show decide (bitsOf a k = bitsOf b k) = decide (a % 2 ^ k = b % 2 ^ k) from decide_eq_decide.mpr rows_eq]; rfl
  · show decide (sg b k < sg a k) = (lessS (flipL (bitsOf b k)) (flipL (bitsOf a k)) (flipL (bitsOf b k)).length == true)
    rw [less_flip hk.pos]; simp
  · show decide (sg b k ≤ sg a k) = (lessS (flipL (bitsOf a k)) (flipL (bitsOf b k)) (flipL (bitsOf a k)).length == false)
    rw [less_flip hk.pos, not_lt_b]
  · show decide (a % 2 ^ k < b % 2 ^ k) = (lessS (bitsOf a k) (bitsOf b k) (bitsOf a k).length == true)
    rw [less_rows]; simp
  · show decide (a % 2 ^ k ≤ b % 2 ^ k) = (lessS (bitsOf b k) (bitsOf a k) (bitsOf b k).length == false)
    rw [less_rows, not_lt_b]
  · show decide (sg a k < sg b k) = (lessS (flipL (bitsOf a k)) (flipL (bitsOf b k)) (flipL (bitsOf a k)).length == true)
    rw [less_flip hk.pos]; simp
  · show decide (sg a k ≤ sg b k) = (lessS (flipL (bitsOf b k)) (flipL (bitsOf a k)) (flipL (bitsOf b k)).length == false)
    rw [less_flip hk.pos, not_lt_b]
-- octets
theorem oct_whole {l : List Int} (h : Bits l) : ∀ i, 8 * i ≤ l.length → whole (octS l i) = tv (whole l) i
  | 0, _ => rfl
  | i + 1, hi => by
    show whole ((l.drop (8 * i)).take 8 ++ octS l i) = tv (whole l) i * 2 ^ 8 + whole l / 2 ^ (8 * i) % 2 ^ 8
    have e8 : ((l.drop (8 * i)).take 8).length = 8 := by rw [List.length_take, List.length_drop]; omega
    rw [whole_append, e8, oct_whole h i (by omega), (whole_cut (drop_bits h (8 * i)) (by rw [List.length_drop]; omega)).1, (whole_cut h (by omega)).2, Int.mul_comm]; omega
theorem fill_law (a : Int) {j n : Nat} (hj : 1 ≤ j) (h : j ≤ n) : whole (bitsOf a j ++ List.replicate (n - j) (lastV (bitsOf a j))) = sg a j % 2 ^ n := by
  rw [whole_fill (bitsOf_bits a j) hj (bitsOf_len a j) (whole_bitsOf a j), show j + (n - j) = n by omega]
end
end Mine
end

section
open PySem PySem.W PyProof.Rows PySem.Calls
set_option maxHeartbeats 1000000
namespace Mine
theorem EvS.c {f : Fn} {c : Cx} {n : Nat} {ρ : List (Option V)} {x : Str} {xs : List Str} {k : Nat} {p : Pos} {es : List Expr} (h : EvS f c n ρ es xs) : EvS f c n ρ (.Constant (.str x) k p :: es) (x :: xs) := EvS.cons Ev.cstr h fun _ => rfl
theorem m_pick {f : Fn} {c : Cx} {n : Nat} {ρ : List (Option V)} {P : Addr} {ns : List Int} {k : Nat} {p p2 lp pos : Pos} {y : Str} {es : List Expr} {l : List Str} (hk : Kd .globalImplicit f.names (Str.ofString "_law_pick")) (ly : Look f.names ρ y (.obj (.ref P))) (h : EvS f c n ρ es l) (h0 : l ≠ []) (hl : l.length ≤ 1000) (hkk : k + 1 ≤ 5000) (hns : ns.length ≤ 24) (hn : 3 ≤ n := by decide) :
    EvM f c n ρ P ns k (k + 1) (.Call (.Name (Str.ofString "_law_pick") p) [.Name y p2, .List es lp] [] pos) (fun d => ∃ x ∈ l, d = .str x) :=
  EvM.call G_law_pick hk ly (.cons (EvG.of (Ev.slist h hl) trivial) .nil) (con_picks h0 hl) hkk hns hn
theorem m_picki {f : Fn} {c : Cx} {n : Nat} {ρ : List (Option V)} {P : Addr} {ns : List Int} {k : Nat} {p p2 lp pos : Pos} {y : Str} {es : List Expr} {l : List Int} (hk : Kd .globalImplicit f.names (Str.ofString "_law_pick")) (ly : Look f.names ρ y (.obj (.ref P))) (h : EvI f c n ρ es l) (h0 : l ≠ []) (hl : l.length ≤ 1000) (hkk : k + 1 ≤ 5000) (hns : ns.length ≤ 24) (hn : 3 ≤ n := by decide) :
    EvM f c n ρ P ns k (k + 1) (.Call (.Name (Str.ofString "_law_pick") p) [.Name y p2, .List es lp] [] pos) (fun d => ∃ x ∈ l, d = .int x) :=
  EvM.call G_law_pick hk ly (.cons (EvG.of (Ev.ilist h hl) trivial) .nil) (con_pick h0 hl) hkk hns hn
theorem con_lenstr {x : Str} (hx : x.length ≤ 1000) : Con (.builtin "len") 0 [.str x] (.int x.length) := by
  intro f c s m news vs Q E ok F N R P
  match vs, R with
  | [v], R =>
    obtain ⟨⟨t, rfl⟩, _⟩ := R
    exact PySem.P.len_str (by omega) (P _ s.heap _ news F N (fun _ h => h) ⟨_, rfl⟩)
theorem pairV_len (s : Bool) {l r : List Int} (h : RowOk l r) : (pairV s l r).1.length = l.length ∧ (pairV s l r).2.length = l.length := by
  unfold pairV
  split
  · exact ⟨List.length_replicate .., rfl⟩
  · split
    · constructor
      · show (if _ then _ else _ : List Int).length = _
        split <;> simp [tsign_len, quoL_len]
      · show (if _ then _ else _ : List Int).length = _
        split <;> simp [tsign_len, remL_len]
    · constructor
      · show (partS _ _ _).2.reverse.length = _
        rw [List.length_reverse, partS_len, List.length_reverse]
      · exact bitsOf_len ..
theorem rowV_len {op : Str} {s : Bool} {l r : List Int} (h : RowOk l r) (ho : op ∈ deeds) : (rowV op l r s).length = l.length := by
  have hs := shK_le h
  unfold deeds at ho
  simp only [List.mem_cons, List.not_mem_nil, or_false] at ho
  rcases ho with rfl | rfl | rfl | rfl | rfl | rfl | rfl | rfl | rfl | rfl | rfl | rfl | rfl
  · exact (pairV_len s h).1
  · exact (pairV_len s h).2
  · exact sumL_len _ _ _ h.len
  · exact sumL_len _ _ _ (by rw [List.length_map]; exact h.len)
  · exact bitsOf_len ..
  · exact accF_len ..
  · exact accF_len ..
  · show (List.replicate _ _ ++ l.take _).length = _
    rw [List.length_append, List.length_replicate, List.length_take]; omega
  · show (l.drop _ ++ List.replicate _ _).length = _
    rw [List.length_append, List.length_replicate, List.length_drop]; omega
  · exact tsign_len l
  · exact accF_len ..
  · exact h.len.symm
  · show (l.drop _ ++ List.replicate _ _).length = _
    rw [List.length_append, List.length_replicate, List.length_drop]; omega
theorem size_of {i : Int} (h : i ∈ ([64, 32] : List Int)) : ∃ k : Nat, Sz k ∧ i = k := by
  simp only [List.mem_cons, List.not_mem_nil, or_false] at h
  rcases h with rfl | rfl
  · exact ⟨64, .inr rfl, rfl⟩
  · exact ⟨32, .inl rfl, rfl⟩
def isT (d : V) : Prop := d = .bool true
section
variable {a b : Int}
theorem con_deed : ConM (.ref 310) 6 [.int a, .int b] 3 isT :=
  ConM.of F_law_deed_right 5 rfl rfl fun c P ns k hk hn =>
    Ex.assignM (T := fun d => [some (.obj (.ref P)), some (.int a), some (.int b), some d, none, none, none, none]) (m_pick (l := deeds) g8 l0 (by repeat (first | exact EvS.nil | refine EvS.c ?_)) (by decide) (by decide) (by omega) hn) (fun d => q3) fun d hd => by
      obtain ⟨op, ho, rfl⟩ := hd
      exact Ex.assign2M (T := fun d2 => [some (.obj (.ref P)), some (.int a), some (.int b), some (.str op), none, some d2, none, none]) (U := fun d1 d2 => [some (.obj (.ref P)), some (.int a), some (.int b), some (.str op), some d1, some d2, none, none]) (D2 := fun d => ∃ b, d = .bool b)
        (m_picki (l := [64, 32]) g8 l0 (.cons Ev.cint (.cons Ev.cint .nil)) (by decide) (by decide) (by omega) hn)
        (EvM.cmp (m_draw g9 l0 Ev.cint (by decide) (by decide) (by omega) hn) (EvM.of Ev.cint) fun x y hx hy => by
          obtain ⟨i, rfl, _⟩ := hx; subst hy; exact ⟨_, op_eq, _, rfl⟩) (fun d2 => q5) (fun d1 d2 => q4) (fun _ => rfl) fun d1 d2 h1 h2 => by
          obtain ⟨i, hi, rfl⟩ := h1
          obtain ⟨s, rfl⟩ := h2
          obtain ⟨z, hz, rfl⟩ := size_of hi
          have R := row_ok a b hz
          refine Ex.assign2 (.cons (Ev.call G_law_bits g10 (.cons (Ev.name l1) (.cons (Ev.name l4) .nil)) (con_bits hz.le)) (.cons (Ev.call G_law_bits g10 (.cons (Ev.name l2) (.cons (Ev.name l4) .nil)) (con_bits hz.le)) .nil)) trivial trivial q7 q6 trivial trivial (fun _ => rfl) ?_
          refine Ex.thenF (Tst.congr (Tst.bool (TstL.and_cons (Tst.not (Tst.plain (Ev.name l5) rfl)) fun _ => TstL.and_cons (Tst.not (Tst.plain (Ev.call G_law_is g11 (.cons (Ev.call G_alu_worth g12 (.cons (Ev.name l3) (.cons (Ev.name l1) (.cons (Ev.name l2) (.cons (Ev.name l4) .nil)))) (con_alu_d hz ho)) (.cons (Ev.call G_law_row g13 (.cons (Ev.name l3) (.cons (Ev.name l6) (.cons (Ev.name l7) (.cons Ev.cbool .nil)))) (con_row R ho)) .nil)) (con_is (by rw [rowV_len R ho, bitsOf_len]; have := hz.le; omega))) rfl)) fun _ => .and_nil)) (by rw [alu_law hz ho]; simp)) ?_
          exact Ex.toD (Ex.ret ((Ev.call G_law_is g11 (.cons (Ev.call G_alu_worth g12 (.cons (Ev.name l3) (.cons (Ev.name l1) (.cons (Ev.name l2) (.cons (Ev.name l4) (.cons (Ev.name l5) .nil))))) (con_alu hz ho)) (.cons (Ev.call G_law_row g13 (.cons (Ev.name l3) (.cons (Ev.name l6) (.cons (Ev.name l7) (.cons (Ev.name l5) .nil)))) (con_row R ho)) .nil)) (con_is (by rw [rowV_len R ho, bitsOf_len]; have := hz.le; omega)))) trivial) (congrArg V.bool (by rw [alu_law hz ho]; simp))
theorem add_pow_mod (b : Int) (k : Nat) : bitsOf (b + 2 ^ k) k = bitsOf b k := by rw [← bitsOf_mod, Int.add_emod_right, bitsOf_mod]
theorem con_condition : ConM (.ref 317) 6 [.int a, .int b] 2 isT :=
  ConM.of F_law_condition_right 4 rfl rfl fun c P ns k hk hn =>
    Ex.assignM (T := fun d => [some (.obj (.ref P)), some (.int a), some (.int b), some d, none, none, none]) (m_pick (l := conds) g7 l0 (by repeat (first | exact EvS.nil | refine EvS.c ?_)) (by decide) (by decide) (by omega) hn) (fun d => q3) fun d hd => by
      obtain ⟨op, ho, rfl⟩ := hd
      exact Ex.assignM (T := fun d => [some (.obj (.ref P)), some (.int a), some (.int b), some (.str op), some d, none, none]) (m_picki (l := [64, 32]) g7 l0 (.cons Ev.cint (.cons Ev.cint .nil)) (by decide) (by decide) (by omega) hn) (fun d => q4) fun d hd => by
          obtain ⟨i, hi, rfl⟩ := hd
          obtain ⟨z, hz, rfl⟩ := size_of hi
          have hl : (bitsOf a z).length = (bitsOf b z).length := by rw [bitsOf_len, bitsOf_len]
          have hle := hz.le
          refine Ex.assign2 (.cons (Ev.call G_law_bits g8 (.cons (Ev.name l1) (.cons (Ev.name l4) .nil)) (con_bits hz.le)) (.cons (Ev.call G_law_bits g8 (.cons (Ev.name l2) (.cons (Ev.name l4) .nil)) (con_bits hz.le)) .nil)) trivial trivial q6 q5 trivial trivial (fun _ => rfl) ?_
          refine Ex.thenF (Tst.cmp (Ev.call G_holds g9 (.cons (Ev.name l3) (.cons (Ev.name l1) (.cons (Ev.name l2) (.cons (Ev.name l4) .nil)))) (con_holds hz ho)) (Ev.call G_law_stands g10 (.cons (Ev.name l3) (.cons (Ev.name l5) (.cons (Ev.name l6) .nil))) (con_stands (bitsOf_ne a hz.pos) hl (by rw [bitsOf_len]; omega) ho)) op_neb (by rw [cond_law hz ho]; simp [V.truth])) ?_
          exact Ex.toD (Ex.ret (Ev.cmp (Ev.call G_holds g9 (.cons (Ev.name l3) (.cons (Ev.name l2) (.cons (Ev.bin (Ev.name l2) (Ev.bin Ev.cint (Ev.name l4) (op_pow (by omega) (by omega) (by decide))) op_add) (.cons (Ev.name l4) .nil)))) (con_holds hz ho)) (Ev.call G_law_stands g10 (.cons (Ev.name l3) (.cons (Ev.name l6) (.cons (Ev.name l6) .nil))) (con_stands (bitsOf_ne b hz.pos) rfl (by rw [bitsOf_len]; omega) ho)) op_eqb) trivial)
            (congrArg V.bool (by rw [Int.toNat_natCast, cond_law hz ho, add_pow_mod]; simp))
end
end Mine
end

section
open PySem PySem.W PyProof.Rows PySem.Calls
set_option maxHeartbeats 1000000
namespace Mine
section
variable {a b w : Int}
theorem bits_of {i : Int} (h : i ∈ ([16, 32, 64] : List Int)) : ∃ k j : Nat, Bt k ∧ i = k ∧ k = 8 * j := by
  simp only [List.mem_cons, List.not_mem_nil, or_false] at h
  rcases h with rfl | rfl | rfl
  · exact ⟨16, 2, .inl rfl, rfl, rfl⟩
  · exact ⟨32, 4, .inr (.inl rfl), rfl, rfl⟩
  · exact ⟨64, 8, .inr (.inr rfl), rfl, rfl⟩
theorem few_of {i : Int} (h : i ∈ ([8, 16, 32] : List Int)) : ∃ j : Nat, 1 ≤ j ∧ j ≤ 32 ∧ i = j := by
  simp only [List.mem_cons, List.not_mem_nil, or_false] at h
  rcases h with rfl | rfl | rfl
  · exact ⟨8, by decide, by decide, rfl⟩
  · exact ⟨16, by decide, by decide, rfl⟩
  · exact ⟨32, by decide, by decide, rfl⟩
theorem width_of {i : Int} (h : i ∈ ([1, 2, 4] : List Int)) : ∃ j : Nat, 1 ≤ j ∧ j ≤ 4 ∧ i = j := by
  simp only [List.mem_cons, List.not_mem_nil, or_false] at h
  rcases h with rfl | rfl | rfl
  · exact ⟨1, by decide, by decide, rfl⟩
  · exact ⟨2, by decide, by decide, rfl⟩
  · exact ⟨4, by decide, by decide, rfl⟩
theorem swap_law {way : Str} {k j : Nat} (hk : k = 8 * j) : swapV way w k = whole (if (way == ("le" : Str)) = true then bitsOf w k else octS (bitsOf w k) j) := by
  unfold swapV
  by_cases h : way = ("le" : Str)
  · rw [if_pos h, if_pos (by simpa using h), whole_bitsOf]
  · rw [if_neg h, if_neg (by simpa using h), oct_whole (bitsOf_bits w k) j (by rw [bitsOf_len]; omega), whole_bitsOf]
    congr 1; omega
theorem con_moves : ConM (.ref 324) 4 [.int w] 5 isT :=
  ConM.of F_law_moves_right 6 rfl rfl fun c P ns k hk hn =>
    Ex.assign2M (T := fun d2 => [some (.obj (.ref P)), some (.int w), none, some d2, none, none, none, none]) (U := fun d1 d2 => [some (.obj (.ref P)), some (.int w), some d1, some d2, none, none, none, none])
      (m_pick (l := ["le", "be", "swap"]) g8 l0 (by repeat (first | exact EvS.nil | refine EvS.c ?_)) (by decide) (by decide) (by omega) hn) (m_picki (l := [16, 32, 64]) g8 l0 (.cons Ev.cint (.cons Ev.cint (.cons Ev.cint .nil))) (by decide) (by decide) (by omega) hn) (fun d2 => q3) (fun d1 d2 => q2) (fun _ => rfl) fun d1 d2 h1 h2 => by
        obtain ⟨way, hw, rfl⟩ := h1
        obtain ⟨i, hi, rfl⟩ := h2
        obtain ⟨z, j, hz, rfl, hj⟩ := bits_of hi
        have hle := hz.le
        have hlz : (bitsOf w z).length = z := bitsOf_len w z
        refine Ex.assign (Ev.call G_law_bits g9 (.cons (Ev.name l1) (.cons (Ev.name l3) .nil)) (con_bits hz.le)) trivial q4 trivial ?_
        have hoct : (octS (bitsOf w z) j).length = z := by rw [octS_len _ _ (by rw [bitsOf_len]; omega)]; omega
        refine Ex.thenF (Tst.congr (a := !(swapV way w z == whole (if (way == ("le" : Str)) = true then bitsOf w z else octS (bitsOf w z) j))) (Tst.not (Tst.plain (Ev.call G_law_is g10 (.cons (Ev.call G_swapped g11 (.cons (Ev.name l2) (.cons (Ev.name l1) (.cons (Ev.name l3) .nil))) (con_swapped hz hw)) (.cons (Ev.iteL (ts (Ev.name l2) rfl) (fun _ => Ev.name l4) (fun _ => Ev.call G_law_octets g12 (.cons (Ev.name l4) .nil) (con_octets (j := j) (by rw [bitsOf_len]; exact hj) (by rw [bitsOf_len]; exact hle)))) .nil)) (con_is (by split <;> omega))) rfl)) (by rw [swap_law hj]; simp)) ?_
        exact Ex.assign2M (T := fun d2 => [some (.obj (.ref P)), some (.int w), some (.str way), some (.int z), some (.li (bitsOf w z)), none, some d2, none]) (U := fun d1 d2 => [some (.obj (.ref P)), some (.int w), some (.str way), some (.int z), some (.li (bitsOf w z)), some d1, some d2, none])
          (m_picki (l := [8, 16, 32]) g8 l0 (.cons Ev.cint (.cons Ev.cint (.cons Ev.cint .nil))) (by decide) (by decide) (by omega) hn) (m_picki (l := [64, 32]) g8 l0 (.cons Ev.cint (.cons Ev.cint .nil)) (by decide) (by decide) (by omega) hn) (fun d2 => q6) (fun d1 d2 => q5) (fun _ => rfl) fun d1 d2 h1 h2 => by
            obtain ⟨i, hi, rfl⟩ := h1
            obtain ⟨i2, hi2, rfl⟩ := h2
            obtain ⟨fw, f1, f2, rfl⟩ := few_of hi
            obtain ⟨y, hy, rfl⟩ := size_of hi2
            have hyl := hy.le
            have hge : 32 ≤ y := by rcases hy with rfl | rfl <;> decide
            refine Ex.thenF (Tst.congr (a := !(sg w fw % 2 ^ y == whole (bitsOf w fw ++ List.replicate (y - (bitsOf w fw).length) (lastV (bitsOf w fw))))) (Tst.not (Tst.plain (Ev.call G_law_is g10 (.cons (Ev.call G_moved g13 (.cons (Ev.name l1) (.cons (Ev.name l5) (.cons (Ev.name l6) .nil))) (con_moved hyl (by omega) f1)) (.cons (Ev.call G_law_filled g14 (.cons (Ev.call G_law_bits g9 (.cons (Ev.name l1) (.cons (Ev.name l5) .nil)) (con_bits (by omega))) (.cons (Ev.name l6) .nil)) (con_filled (bitsOf_ne w f1) (by rw [bitsOf_len]; omega) hyl)) .nil)) (con_is (by rw [List.length_append, List.length_replicate, bitsOf_len]; omega))) rfl)) (by rw [bitsOf_len, fill_law w f1 (by omega)]; simp)) ?_
            exact Ex.assignM (T := fun d => [some (.obj (.ref P)), some (.int w), some (.str way), some (.int z), some (.li (bitsOf w z)), some (.int fw), some (.int y), some d]) (m_picki (l := [1, 2, 4]) g8 l0 (.cons Ev.cint (.cons Ev.cint (.cons Ev.cint .nil))) (by decide) (by decide) (by omega) hn) (fun d => q7) fun d hd => by
                obtain ⟨i, hi, rfl⟩ := hd
                obtain ⟨v, v1, v2, rfl⟩ := width_of hi
                exact Ex.toD (Ex.ret (Ev.call G_law_is g10 (.cons (Ev.call G_extended g15 (.cons (Ev.name l1) (.cons (Ev.name l7) .nil)) (con_extended (w := v) (by omega) v1)) (.cons (Ev.call G_law_filled g14 (.cons (Ev.call G_law_bits g9 (.cons (Ev.name l1) (.cons (ev_w8 l7) .nil)) (con_bits (k := 8 * v) (by omega))) (.cons Ev.cint .nil)) (con_filled (k := 64) (bitsOf_ne w (by omega)) (by rw [bitsOf_len]; omega) (by decide))) .nil)) (con_is (by rw [List.length_append, List.length_replicate, bitsOf_len]; omega))) trivial)
                  (congrArg V.bool (by rw [bitsOf_len, fill_law w (by omega) (by omega)]; simp))
end
end Mine
end

section
open PySem PySem.W PyProof.Rows PySem.Calls
set_option maxHeartbeats 1000000
namespace Mine
section
variable {a b x : Int} {op : Str}
theorem wide_of {i : Int} (h : i ∈ ([8, 4] : List Int)) : ∃ v : Nat, Sz (8 * v) ∧ i = v := by
  simp only [List.mem_cons, List.not_mem_nil, or_false] at h
  rcases h with rfl | rfl
  · exact ⟨8, .inr rfl, rfl⟩
  · exact ⟨4, .inl rfl, rfl⟩
abbrev atE (P : Addr) (a b x : Int) (op : Str) (v : Nat) (d : Option V) : List (Option V) := [some (.obj (.ref P)), some (.int a), some (.int b), some (.str op), some (.int v), some (.int x), some (.li (bitsOf a (8 * v))), some (.li (bitsOf b (8 * v))), d]
theorem atom_end {c : Cx} {P : Addr} {ns : List Int} {k v : Nat} {du : List Int} (hz : Sz (8 * v)) (ho : op ∈ atoms) (hd : du.length ≤ 1000) (hw : atomV op a b x (8 * v) = whole du) :
    Ex φ_law_atomic_right c 7 (atE P a b x op v (some (.li du))) (.pen P ns k) (b_law_atomic_right.drop 4) (.retD isT (.pen P ns k)) :=
  Ex.toD (Ex.ret (Ev.and_cons (Ev.call G_law_is g13 (.cons (Ev.call G_atomic_worth g14 (.cons (Ev.name l3) (.cons (Ev.name l1) (.cons (Ev.name l2) (.cons (Ev.name l5) (.cons (Ev.name l4) .nil))))) (con_atomic hz ho)) (.cons (Ev.name l8) .nil)) (con_is hd)) fun _ =>
    Ev.bool_one (Ev.call G_law_is g13 (.cons (Ev.call G_result_of g15 (.cons (Ev.name l3) (.cons (Ev.name l1) (.cons (Ev.name l4) .nil))) (con_result hz.le)) (.cons (Ev.name l6) .nil)) (con_is (by rw [bitsOf_len]; have := hz.le; omega)))) trivial)
    (congrArg V.bool (by rw [hw, whole_bitsOf]; simp))
theorem atom_plainlaw {v : Nat} (hz : Sz (8 * v)) (h1 : (op == ("xchg" : Str)) = false) (h2 : (op == ("cmpxchg" : Str)) = false) (hd : atomD op ∈ deeds) : atomV op a b x (8 * v) = whole (rowV (atomD op) (bitsOf a (8 * v)) (bitsOf b (8 * v)) false) := by
  unfold atomV
  rw [if_neg (by simpa using h1), if_neg (by simpa using h2), alu_law hz hd, bitsOf_mod, bitsOf_mod]
theorem atom_other {c : Cx} {P : Addr} {ns : List Int} {k v : Nat} (hz : Sz (8 * v)) (ho : op ∈ atoms) (h1 : (op == ("xchg" : Str)) = false) (h2 : (op == ("cmpxchg" : Str)) = false) (hd : atomD op ∈ deeds) (hl : op.length ≤ 100) :
    Ex φ_law_atomic_right c 7 (atE P a b x op v none) (.pen P ns k) (b_law_atomic_right.drop 3) (.retD isT (.pen P ns k)) :=
  have R := row_ok a b hz
  Ex.elseF (ts (Ev.name l3) h1) (Ex.elseF (ts (Ev.name l3) h2) (Ex.assign (Ev.call G_law_row g11 (.cons (Ev.ifexp (d := .str (atomD op)) (q := decide ((6 : Int) < op.length)) (Tst.cmp (Ev.callB B_len g12 (.cons (Ev.name l3) .nil) (con_lenstr (by omega))) Ev.cint op_gt rfl)
      (fun h => (Ev.sfrom1 l3 hl rfl).congr (by unfold atomD; rw [if_pos (by have := of_decide_eq_true h; omega)])) (fun h => (Ev.name l3).congr (by unfold atomD; rw [if_neg (by have := of_decide_eq_false h; omega)]))) (.cons (Ev.name l6) (.cons (Ev.name l7) (.cons Ev.cbool .nil)))) (con_row R hd)) trivial q8 trivial Ex.nil) Ex.nil)
    (atom_end hz ho (by rw [rowV_len R hd, bitsOf_len]; have := hz.le; omega) (atom_plainlaw hz h1 h2 hd))
theorem atom_x {c : Cx} {P : Addr} {ns : List Int} {k v : Nat} (hz : Sz (8 * v)) : Ex φ_law_atomic_right c 7 (atE P a b x "xchg" v none) (.pen P ns k) (b_law_atomic_right.drop 3) (.retD isT (.pen P ns k)) :=
  Ex.elseT (ts (Ev.name l3) (by decide)) (Ex.assign (Ev.name l7) trivial q8 trivial Ex.nil) (atom_end hz (by decide) (by rw [bitsOf_len]; have := hz.le; omega) (by rw [whole_bitsOf]; rfl))
theorem atom_c {c : Cx} {P : Addr} {ns : List Int} {k v : Nat} (hz : Sz (8 * v)) : Ex φ_law_atomic_right c 7 (atE P a b x "cmpxchg" v none) (.pen P ns k) (b_law_atomic_right.drop 3) (.retD isT (.pen P ns k)) :=
  Ex.elseF (ts (Ev.name l3) (by decide)) (Ex.elseT (ts (Ev.name l3) (by decide)) (Ex.assign (Ev.iteL (Tst.cmp (Ev.name l6) (Ev.call G_law_bits g10 (.cons (Ev.name l5) (.cons (ev_w8 l4) .nil)) (con_bits hz.le)) op_eql rfl) (fun _ => Ev.name l7) (fun _ => Ev.name l6)) trivial q8 trivial Ex.nil) Ex.nil)
    (atom_end hz (by decide) (by split <;> rw [bitsOf_len] <;> have := hz.le <;> omega) (by
      show (if (a % 2 ^ (8 * v) == x % 2 ^ (8 * v)) = true then b % 2 ^ (8 * v) else a % 2 ^ (8 * v)) = _
      by_cases h : a % 2 ^ (8 * v) = x % 2 ^ (8 * v)
      · rw [if_pos (by simpa using h), if_pos (by simpa using rows_eq.mpr h), whole_bitsOf]
      · rw [if_neg (by simpa using h), if_neg (by simpa using fun e => h (rows_eq.mp e)), whole_bitsOf]))
theorem con_atomicr : ConM (.ref 331) 8 [.int a, .int b] 3 isT :=
  ConM.of F_law_atomic_right 6 rfl rfl fun c P ns k hk hn =>
    Ex.assign2M (T := fun d2 => [some (.obj (.ref P)), some (.int a), some (.int b), none, some d2, none, none, none, none]) (U := fun d1 d2 => [some (.obj (.ref P)), some (.int a), some (.int b), some d1, some d2, none, none, none, none])
      (m_pick (l := atoms) g9 l0 (by repeat (first | exact EvS.nil | refine EvS.c ?_)) (by decide) (by decide) (by omega) hn) (m_picki (l := [8, 4]) g9 l0 (.cons Ev.cint (.cons Ev.cint .nil)) (by decide) (by decide) (by omega) hn) (fun d2 => q4) (fun d1 d2 => q3) (fun _ => rfl) fun d1 d2 h1 h2 => by
        obtain ⟨op, ho, rfl⟩ := h1
        obtain ⟨i, hi, rfl⟩ := h2
        obtain ⟨v, hz, rfl⟩ := wide_of hi
        exact Ex.assignM (T := fun d => [some (.obj (.ref P)), some (.int a), some (.int b), some (.str op), some (.int v), some d, none, none, none])
          (EvM.bin (D := isI) (EvM.of (Ev.name l1)) (m_picki (l := [0, 2 ^ (32 : Int).toNat, 1, 2 ^ (64 : Int).toNat]) g9 l0 (.cons Ev.cint (.cons ev_pow (.cons Ev.cint (.cons ev_pow .nil)))) (by decide) (by decide) (by omega) hn) fun u w hu hw => by
            obtain ⟨j, _, rfl⟩ := hw; subst hu; exact ⟨_, op_add, _, rfl⟩) (fun d => q5) fun d hd => by
            obtain ⟨x, rfl⟩ := hd
            refine Ex.assign2 (.cons (Ev.call G_law_bits g10 (.cons (Ev.name l1) (.cons (ev_w8 l4) .nil)) (con_bits hz.le)) (.cons (Ev.call G_law_bits g10 (.cons (Ev.name l2) (.cons (ev_w8 l4) .nil)) (con_bits hz.le)) .nil)) trivial trivial q7 q6 trivial trivial (fun _ => rfl) ?_
            unfold atoms at ho
            simp only [List.mem_cons, List.not_mem_nil, or_false] at ho
            rcases ho with rfl | rfl | rfl | rfl | rfl | rfl | rfl | rfl | rfl | rfl
            · exact atom_c hz
            · exact atom_x hz
            · exact atom_other (op := "add") hz (by decide) (by decide) (by decide) (by decide +kernel) (by decide)
            · exact atom_other (op := "or") hz (by decide) (by decide) (by decide) (by decide +kernel) (by decide)
            · exact atom_other (op := "and") hz (by decide) (by decide) (by decide) (by decide +kernel) (by decide)
            · exact atom_other (op := "xor") hz (by decide) (by decide) (by decide) (by decide +kernel) (by decide)
            · exact atom_other (op := "fetch_add") hz (by decide) (by decide) (by decide) (by decide +kernel) (by decide)
            · exact atom_other (op := "fetch_or") hz (by decide) (by decide) (by decide) (by decide +kernel) (by decide)
            · exact atom_other (op := "fetch_and") hz (by decide) (by decide) (by decide) (by decide +kernel) (by decide)
            · exact atom_other (op := "fetch_xor") hz (by decide) (by decide) (by decide) (by decide +kernel) (by decide)
end
end Mine
end

section
open PySem PySem.W PyProof.Rows PySem.Calls
set_option maxHeartbeats 1000000
namespace Mine
theorem fill2 (P : Params) : PySem.Challenge.rw_np0318_01 = PySem.Challenge.rw_np0318_01 ∧ hd.heap_39 P = hd.heap_39 P := by k_fill; exact ⟨rfl, rfl⟩
-- CodeError: its making
abbrev bmC : List Value := [.ref 39, .type "Exception", .type "BaseException", .type "object"]
theorem c52 : ∀ P, ∃ q k2 k3 ab col dd sn sub, (hd.heap_39 P).lookup 52 = some (excClassObj (Str.ofString "CodeError") q 52 51 [.ref 39] bmC true sn sub ab col dd (some (.ref 43)) none k2 k3 (some (.bool true)) "Exception.__new__") :=
  fun P => ⟨_, _, _, _, _, _, _, _, by k_is⟩
theorem i52 : ∀ P, findIn (hd.heap_39 P) (.ref 52) "__init__" = some (some (.ref 29)) := fun P => by k_is
theorem s52 : ∀ P, findIn (hd.heap_39 P) (.ref 52) "__setattr__" = some (some (.builtin "object.__setattr__")) := fun P => by k_is
theorem f29 : ∀ P, typeIn (hd.heap_39 P) (.ref 29) = some (.type "function") := fun P => by k_is
theorem fe : ∀ P, findCls (hd.heap_39 P) (.type "Exception") (.type "type") (Str.ofString "__init__") = some (.val (.builtin "Exception.__init__")) := fun P => by k_is
theorem ex52 : ∀ P, exmOne (hd.heap_39 P) (.ref 52) (.ref 52) = some true := fun P => by kernel_rfl
theorem hasE : (Value.ref 52 :: bmC).contains (.type "Exception") = true := by decide +kernel
theorem hasB : (Value.ref 52 :: bmC).contains (.type "BaseException") = true := by decide +kernel
theorem noA : (Value.ref 52 :: bmC).contains (.type "AttributeError") = false := by decide +kernel
theorem noN : (Value.ref 52 :: bmC).contains (.type "NameError") = false := by decide +kernel
theorem hasO : (Value.ref 52 :: bmC).contains (.type "object") = true := by decide +kernel
theorem hasC : (Value.ref 52 :: bmC).contains (.ref 52) = true := by decide +kernel
-- GateError.__init__
@[reducible] def φ_init : Fn := { qual := Str.ofString "GateError.__init__", names := [(Str.ofString "self", .local), (Str.ofString "what", .local), (Str.ofString "at", .local), (Str.ofString "Exception", .globalImplicit)], a := 29, cd := .ref 28 }
def Stmt.clsL : Stmt → List Stmt
  | .ClassDef _ _ _ b _ _ _ _ _ _ _ => b
  | _ => []
noncomputable def st_init : Stmt := (Stmt.clsL (stOf 1)).getD 0 (.Pass default)
noncomputable def p_init : Arguments := Stmt.paramsL st_init
noncomputable def b_init : List Stmt := Stmt.bodyL st_init
theorem D_init : FnFact φ_init p_init b_init [Str.ofString "self", Str.ofString "what", Str.ofString "at"] [.none] :=
  ⟨⟨by decide +kernel, by decide +kernel⟩, by decide, fun P => ⟨_, _, _, _, _, _, _, _, _, _, by k_is, by k_is, fun s vs X hl => by
    obtain ⟨_, _, rfl⟩ := vs2 (vs := vs) (by simpa using hl)
    exact binds_K X rfl (by k_is) rfl rfl rfl⟩⟩
theorem B_Exception : GBi (Str.ofString "Exception") (.type "Exception") := ⟨fun P => by k_is, by decide +kernel, by decide⟩
theorem fw : ∀ P, findIn (hd.heap_39 P) (.ref 52) (Str.ofString "what") = some none := fun P => by k_is
theorem fa : ∀ P, findIn (hd.heap_39 P) (.ref 52) (Str.ofString "at") = some none := fun P => by k_is
theorem g52 : GFn (Str.ofString "CodeError") 52 := fun P => ⟨by k_is, by k_is⟩
end Mine
end

section
open PySem PySem.W PyProof.Rows PySem.Calls
set_option maxHeartbeats 1000000
namespace Mine
section
variable {M : Model} {A : Around} {E : Value → Shared → Prop} {h : Heap} {g : Array GenState} {d : Drawn} {t : Nat} {os : OsState}
variable {q : Str} {k2 k3 : Option Value} {ab : Bool} {col : Option Bool} {dd : Option Addr} {sn : List Str} {sub : List Value}
theorem err_check_new {rest : List Value} {Q : Unit → Shared → Prop} (hC : h.get? 52 = some (excClassObj (Str.ofString "CodeError") q 52 51 [.ref 39] bmC true sn sub ab col dd (some (.ref 43)) none k2 k3 (some (.bool true)) "Exception.__new__"))
    (hq : Q () ⟨h, g, d, t, os⟩) : wpAny M A (checkBuiltinCall "Exception.__new__" ⟨.ref 52 :: rest, []⟩) Q E ⟨h, g, d, t, os⟩ := by
  have F := PySem.F.excBase_Exception
  have hstar := F.noStar
  simp only [checkBuiltinCall, F.newKind, F.newSplit, F.newRow]
  repeat (first | refine wpAny_loadPart_at hC ?_ | (refine wpAny_isSubtype_exc hC ?_; rw [hasE]) | refine wpAny_staticBase_exc hC ?_ | refine wpAny_madeBy_exc hC ?_ | simp only [bne_self_eq_false, Bool.false_eq_true, if_false] | wp_step)
  exact hq
end
section
variable {prog : Program} {w : World} {A : Around} {R : Result → Shared → Prop} {E : Value → Shared → Prop} {h : Heap} {g : Array GenState} {d : Drawn} {t : Nat} {os : OsState}
variable {q : Str} {k2 k3 : Option Value} {ab : Bool} {col : Option Bool} {dd : Option Addr} {sn : List Str} {sub : List Value}
theorem err_new {rest : List Value} (hC : h.get? 52 = some (excClassObj (Str.ofString "CodeError") q 52 51 [.ref 39] bmC true sn sub ab col dd (some (.ref 43)) none k2 k3 (some (.bool true)) "Exception.__new__"))
    (hq : R (.ok (.ret (.ref (h.objs.size + 1)))) ⟨(h.push (tupOf rest.toArray)).push (excO h.objs.size none), g, d, t, os⟩) (hrest : rest.length ≤ sizeLine) :
    codeAny (model prog w) A (.builtin "Exception.__new__" ⟨.ref 52 :: rest, []⟩) R ⟨h, g, d, t, os⟩ := by
  have F := PySem.F.excBase_Exception
  have hends := F.ends
  refine codeAny_builtinAt F.entry ?_
  unfold Builtin.«BaseException.__new__»
  refine PySem.wpAt_bind ?_
  show PySem.wpAt _ _ _ (stack >>= _) _ _ _
  refine PySem.wpAt_bind (PySem.wpAt_stack fun p below => PySem.wpAt_of_wpAny ?_)
  wp_walk
  refine PySem.wpAt_of_wpAny ?_
  rw [F.owner]
  repeat (first | with_reducible refine wpAny_madeHere_exc F.canon hC ?_ | with_reducible refine wpAny_loadPart_at hC ?_ | (with_reducible refine wpAny_isSubtype_exc hC ?_; first | rw [hasE] | rw [noA] | rw [noN]) | wp_step)
  show R _ _
  rw [Heap.size_push]
  exact hq
theorem err_call {P : Params} {rest : List Value} {Q : Value → Shared → Prop} (X : (hd.heap_39 P).In h)
    (hq : ∀ h' e, Heap.MadeExcOf h h' e (.ref 52) rest → wpAny (model prog w) (A.under (.builtin "type.__call__" ⟨.ref 52 :: rest, []⟩)) (call (.ref 29) (.ref e :: rest)) (fun r s' => r = .none ∧ Q (.ref e) s') E ⟨h', g, d, t, os⟩) (hrest : rest.length ≤ sizeLine) :
    wpAny (model prog w) A (call (.ref 52) rest) Q E ⟨h, g, d, t, os⟩ := by
  have F := PySem.F.excBase_Exception
  obtain ⟨q, k2, k3, ab, col, dd, sn, sub, hC⟩ := c52 P
  have hC := X _ _ hC
  have f1 := tc_lookup
  have f2 := tc_bind (.ref 52)
  have hT : (⟨h, g, d, t, os⟩ : Shared).TypeIs (.ref 52) "type" := ⟨_, hC, rfl⟩
  refine wpAny_call (codeAny_of_tree ?_)
  show wpAny _ _ (callAny (.ref 52) _) _ _ _
  repeat (any_goals (first | assumption | with_reducible refine wpAny_loadPart_at hC ?_ | wp_step))
  refine ⟨rfl, ?_⟩
  refine codeAny_call_builtin_at (Code.quiet_builtin _ (by decide +kernel)) entry_typeCall (wpAny_check_type_call_sub hC ?_)
  repeat (first | with_reducible refine wpAny_loadPart_at hC ?_ | with_reducible refine wpAny_madeBy_exc hC ?_ | wp_step)
  refine codeAny_call_builtin_code (Code.quiet_builtin _ F.quiet) (err_check_new hC ?_)
  refine err_new (rest := rest) hC ?_ hrest
  show wpAny _ _ _ _ _ _
  have up : ∀ b o, h.get? b = some o → ((h.push (tupOf rest.toArray)).push (excO h.objs.size none)).get? b = some o := fun b o e => Heap.get?_push_of_some _ (Heap.get?_push_of_some _ e)
  have hC₁ := up _ _ hC
  have X₁ := X.keeps up
  have hget : ((h.push (tupOf rest.toArray)).push (excO h.objs.size none)).get? (h.objs.size + 1) = some { cls := .ref 52, data := .fields #[.ref h.objs.size, .none, .none, .none, .bool false, .none] } := by heap_get
  unfold isInstance
  repeat (first | with_reducible refine wpAny_loadPart_at hget ?_ | (with_reducible refine wpAny_isSubtype_exc hC₁ ?_; rw [hasC]) | wp_step)
  show wpAny _ _ (typeLookup (.ref 52) _) _ _ _
  refine (looks_findIn X₁ (i52 P)).here (wpAny_holding (wpAny_bind ?_))
  unfold bindSpecial
  refine wpAny_bind ((looks_typeIn X₁ (f29 P)).here ?_)
  rw [if_pos (by decide)]
  refine wpAny_pure (wpAny_bind (wpAny_mono (hq _ (h.objs.size + 1) ⟨up, Heap.get?_none_of_le (Nat.le_succ _), h.objs.size, hget, Heap.get?_none_of_le (Nat.le_refl _), ?_⟩) (fun r s' hr => ?_) fun _ _ x => x))
  · exact Heap.get?_push_of_some _ (Heap.get?_push_at rfl rfl)
  · obtain ⟨rfl, hQ⟩ := hr
    wp_walk
    exact hQ
end
end Mine
end

section
open PySem PySem.W PyProof.Rows PySem.Calls
set_option maxHeartbeats 1000000
namespace Mine
-- CodeError: its fields
theorem refuse_exc (self : Value) : refuseLoop self "__setattr__" (.ref 52 :: bmC) = pure () := by rw [refuseLoop_ref, refuseLoop_ref]; kernel_rfl
theorem cls52 (P : Params) : ∃ cd : ClassData, clsIn (hd.heap_39 P) 52 = some cd ∧ cd.mro = .ref 52 :: bmC ∧ cd.hasDict = true := by
  obtain ⟨q, k2, k3, ab, col, dd, sn, sub, hC⟩ := c52 P
  exact ⟨_, by unfold clsIn; rw [hC], rfl, rfl⟩
section
open PySem.Builtin.ObjectAttr
variable {prog : Program} {w : World} {A : Around} {R : Result → Shared → Prop} {E : Value → Shared → Prop} {s : Shared} {h₀ : Heap} {L x : Addr} {m : Str → Option Value} {ox : Obj} {od : Option Obj} {name : Str} {tk : Tok} {v : Value}
theorem exc_open (X : (hd.heap_39 w.params).In s.heap) (I : InstAt s.heap x ox 52 od) (hf : findIn (hd.heap_39 w.params) (.ref 52) name = some none)
    (h : wpAny (model prog w) A.in1 (storeInOwnDict (.ref x) (.ref 52) (.str name tk) name v false)
      (fun fin s' => match fin with | .done f => R (.ok f) s' | .again c' => c'.quiet = true ∧ codeAny (model prog w) A c' R s') (fun e s' => R (.error e) s') s) :
    codeAny (model prog w) A (.call (.builtin "object.__setattr__") ⟨[.ref x, .str name tk, v], []⟩) R s := by
  have SF := PySem.F.store_object
  obtain ⟨cd, hc, hmro, hdict⟩ := cls52 w.params
  have sub : Looks (model prog w) s.heap (isInstance (.ref x) (.type "object")) true := I.type.andThen (looks_mroIn X (by unfold mroIn; rw [hc, Option.bind_some, hmro]; decide +kernel))
  refine codeAny_call_builtin SF.slot.plain SF.entry (@check_slot (model prog w) _ _ s "object.__setattr__" "object" "__setattr__" (.ref x) [.str name tk, v] [] _ SF.kind SF.split sub (SF.args (.ref x) (.str name tk) v) ?_)
  have hm : Looks (model prog w) s.heap (mroOf (.ref 52)) (.ref 52 :: bmC) := hmro ▸ (looks_clsIn X hc).andThen .now
  have L3 : Looks (model prog w) s.heap (storeTaker? none) none := .now
  rw [osa_eq, refuse_eq]
  refine wpAny_bind (wpAny_bind (I.type.here (wpAny_bind (hm.here ?_))))
  rw [refuse_exc]
  refine wpAny_pure (wpAny_bind (I.type.here (wpAny_bind ((looks_findIn X hf).here (wpAny_bind (L3.here ?_))))))
  exact h
theorem exc_dict {A' : Around} {t d : Addr} {post : Led} {es : List DictEntry} {n : Nat} (F : Fr h₀ L s.heap m) (N : News h₀ L s.heap ((x, excO t (some d)) :: (d, dictOf es n) :: post)) (hxd : x ≠ d) (hp : ∀ p ∈ post, p.1 ≠ d) (X : (hd.heap_39 w.params).In s.heap)
    (hl : (getL name es).isSome = true) (hz : es.length ≤ 100)
    (h : ∀ h', Fr h₀ L h' m → News h₀ L h' ((x, excO t (some d)) :: (d, dictOf (putL name (PyData.keyHash w.params name) (.str name s.toks) v es) (putN name es n)) :: post) → R (.ok (.ret .none)) { s with heap := h', toks := s.toks + 1 }) :
    wpAny (model prog w) A' (storeInDict d (.str name tk) name v) (fun fin s' => match fin with | .done f => R (.ok f) s' | .again c' => c'.quiet = true ∧ codeAny (model prog w) A c' R s') (fun e s' => R (.error e) s') s := by
  have hlen : (putL name (PyData.keyHash w.params name) (.str name s.toks) v es).length ≤ 101 := by
    have : ∀ es : List DictEntry, (putL name (PyData.keyHash w.params name) (.str name s.toks) v es).length ≤ es.length + 1 := fun es => by
      induction es with
      | nil => exact Nat.le_refl _
      | cons e r ih => unfold putL; split <;> simp <;> omega
    have := this es; omega
  obtain ⟨U1, U2⟩ := news_upd (pre := [(x, excO t (some d))]) (f := Obj.putName name (PyData.keyHash w.params name) (.str name s.toks) v) F N (fun p hp => by rw [List.mem_singleton.mp hp]; exact hxd) hp (putName_dict ..) rfl
  have D := (N (d, dictOf es n) (by simp)).1
  have D' := (U2 (d, _) (.tail _ (.head _))).1
  unfold storeInDict
  refine wpAny_bind (wpAny_pure (wpAny_bind ?_))
  unfold nsSet
  refine wpAny_bind (wpAny_bind (wpAny_askSetting (wpAny_pure (wpAny_bind (wpAny_mkText (wpAny_bind (wpAny_loadPart D ?_)))))))
  dsimp only
  have c : (!es.toArray.any (·.key.isStr name) && es.toArray.any (·.refKey)) = false := by
    rw [List.any_toArray, List.any_toArray]
    unfold getL at hl
    split at hl
    · rename_i en he
      rw [List.any_eq_true.mpr ⟨en, List.mem_of_find?_eq_some he, List.find?_some he⟩]; rfl
    · split at hl
      · cases hl
      · rename_i z; rw [Bool.not_eq_true] at z; rw [z, Bool.and_false]
  rw [aRefKeyMayBeTheName_at, c]
  refine wpAny_updatePart D ?_
  refine wpAny_bind (wpAny_lookBehind D' (pastItsLine_dict (by rw [List.size_toArray, sizeLine_eq]; omega)) ?_)
  exact wpAny_pure (h _ U1 U2)
end
section
open PySem.Builtin.ObjectAttr
variable {prog : Program} {w : World} {A : Around} {E : Value → Shared → Prop} {s : Shared} {h₀ : Heap} {L x t : Addr} {m : Str → Option Value} {name : Str} {v : Value} {post : Led} {Q : Unit → Shared → Prop}
theorem exc_set1 (F : Fr h₀ L s.heap m) (X : (hd.heap_39 w.params).In h₀) (N : News h₀ L s.heap ((x, excO t none) :: post)) (hp : ∀ p ∈ post, p.1 ≠ x) (hf : findIn (hd.heap_39 w.params) (.ref 52) name = some none)
    (h : ∀ d h' e, Fr h₀ L h' m → x ≠ d → (∀ p ∈ post, p.1 ≠ d) → e.key.isStr name = true → e.refKey = false → News h₀ L h' ((x, excO t (some d)) :: (d, dictOf [e] 1) :: post) → Q () { s with heap := h', toks := s.toks + 2 }) :
    wpAny (model prog w) A (setAttr (.ref x) name v) Q E s := by
  have Xh := X.keeps F.keep
  obtain ⟨cd, hc, hmro, hdict⟩ := cls52 w.params
  have hx := (N _ (.head _)).1
  have I : InstAt s.heap x (excO t none) 52 none := ⟨hx, rfl, rfl, trivial⟩
  refine set_plain Xh I (s52 _) (exc_open (s := { s with toks := s.toks + 1 }) Xh I hf ?_)
  unfold storeInOwnDict
  refine wpAny_bind (wpAny_pure (wpAny_bind ?_))
  have hne : x ≠ s.heap.objs.size := Nat.ne_of_lt (Heap.lt_size hx)
  have N1 : News h₀ L (s.heap.push emptyDict) ((x, excO t none) :: (s.heap.objs.size, emptyDict) :: post) := fun p hp' => by
    rcases List.mem_cons.mp hp' with rfl | hp'
    · exact ⟨Heap.get?_push_of_some _ hx, (N _ (.head _)).2⟩
    · rcases List.mem_cons.mp hp' with rfl | hp'
      · exact ((N.push F emptyDict) _ (.head _))
      · exact ⟨Heap.get?_push_of_some _ (N _ (.tail _ hp')).1, (N _ (.tail _ hp')).2⟩
  obtain ⟨U1, U2⟩ := news_upd (pre := []) (d := x) (o' := excO t (some s.heap.objs.size)) (f := fun o => { o with dict := some s.heap.objs.size }) (F.push _) N1 (fun _ h => nomatch h) (fun p hp' => by
    rcases List.mem_cons.mp hp' with rfl | hp'
    · exact fun q => hne q.symm
    · exact hp p hp') rfl rfl
  show wpAny _ _ (instanceDict x true) _ _ _
  unfold instanceDict
  refine wpAny_bind (wpAny_loadPart hx ?_)
  dsimp only
  refine wpAny_bind (Looks.here (s := { s with toks := s.toks + 1 }) (looks_clsIn (M := model prog w) Xh hc) ?_)
  rw [hdict]
  refine wpAny_bind (wpAny_alloc ?_)
  refine wpAny_bind (wpAny_updatePart (Heap.get?_push_of_some _ hx) ?_)
  refine wpAny_pure ?_
  dsimp only
  refine exc_dict (R := fun r s' => match r with | .ok (.ret _) => Q () s' | .ok _ => False | .error e => E e s') (A := A) (s := { s with heap := (s.heap.push emptyDict).update x _, toks := s.toks + 1 }) U1 U2 hne (fun p hp' => Nat.ne_of_lt (Heap.lt_size (N p (.tail _ hp')).1)) (X.keeps U1.keep) (es := []) (n := 0) rfl (by decide) fun h' F' N' => ?_
  exact h _ h' _ F' hne (fun p hp' => Nat.ne_of_lt (Heap.lt_size (N p (.tail _ hp')).1)) (by simp [Value.isStr]) rfl N'
theorem exc_set2 {d : Addr} {es : List DictEntry} {n : Nat} (F : Fr h₀ L s.heap m) (X : (hd.heap_39 w.params).In h₀) (N : News h₀ L s.heap ((x, excO t (some d)) :: (d, dictOf es n) :: post)) (hxd : x ≠ d) (hp : ∀ p ∈ post, p.1 ≠ d) (hf : findIn (hd.heap_39 w.params) (.ref 52) name = some none)
    (hl : (getL name es).isSome = true) (hz : es.length ≤ 100)
    (h : ∀ h' es' n', Fr h₀ L h' m → News h₀ L h' ((x, excO t (some d)) :: (d, dictOf es' n') :: post) → Q () { s with heap := h', toks := s.toks + 2 }) :
    wpAny (model prog w) A (setAttr (.ref x) name v) Q E s := by
  have Xh := X.keeps F.keep
  obtain ⟨cd, hc, hmro, hdict⟩ := cls52 w.params
  have hx := (N _ (.head _)).1
  have I : InstAt s.heap x (excO t (some d)) 52 (some (dictOf es n)) := ⟨hx, rfl, rfl, (N _ (.tail _ (.head _))).1⟩
  refine set_plain Xh I (s52 _) (exc_open (s := { s with toks := s.toks + 1 }) Xh I hf ?_)
  unfold storeInOwnDict
  refine wpAny_bind (wpAny_pure (wpAny_bind ?_))
  show wpAny _ _ (instanceDict x true) _ _ _
  unfold instanceDict
  refine wpAny_bind (wpAny_loadPart hx ?_)
  dsimp only
  refine wpAny_bind (Looks.here (s := { s with toks := s.toks + 1 }) (looks_clsIn (M := model prog w) Xh hc) ?_)
  rw [hdict]
  refine wpAny_pure ?_
  dsimp only
  exact exc_dict (R := fun r s' => match r with | .ok (.ret _) => Q () s' | .ok _ => False | .error e => E e s') (A := A) (s := { s with toks := s.toks + 1 }) F N hxd hp Xh hl hz fun h' F' N' => h h' _ _ F' N'
end
end Mine
end

section
open PySem PySem.W PyProof.Rows PySem.Calls
set_option maxHeartbeats 1000000
namespace Mine
theorem ty_exc : typeOf (.type "Exception") = pure (.type "type") := by kernel_rfl
theorem stub_exc : Manifest.isStub "Exception" = false := by decide +kernel
theorem off_exc {t : Addr} {d : Option Addr} : OffObj (excO t d) := off_cls (by simp) (by simp)
theorem off_dict {es : List DictEntry} {n : Nat} : OffObj (dictOf es n) := off_cls (by simp) (by simp)
section
variable {prog : Program} {w : World} {A : Around} {E : Value → Shared → Prop} {s : Shared} {h₀ : Heap} {L x t : Addr} {m : Str → Option Value} {v : Value} {post : Led} {Q : Value → Shared → Prop}
theorem exc_init0 (F : Fr h₀ L s.heap m) (X : (hd.heap_39 w.params).In h₀) (N : News h₀ L s.heap ((x, excO t none) :: post)) (hp : ∀ p ∈ post, p.1 ≠ x)
    (h : ∀ t' h', Fr h₀ L h' m → News h₀ L h' ((x, excO t' none) :: post) → Q .none { s with heap := h' }) :
    wpAny (model prog w) A (call (.builtin "Exception.__init__") [.ref x, v]) Q E s := by
  have FB := PySem.F.excBase_Exception
  have hx := (N _ (.head _)).1
  obtain ⟨q, k2, k3, ab, col, dd, sn, sub, hC⟩ := c52 w.params
  have hC := X.keeps F.keep _ _ hC
  obtain ⟨U1, U2⟩ := news_upd (pre := []) (d := x) (o' := excO s.heap.objs.size none) (f := Obj.mapFields (·.setIfInBounds 0 (.ref s.heap.objs.size))) (F.push (tupOf #[v])) (post := post) (o := excO t none) (fun p hp' => by
    obtain ⟨a, b⟩ := N p hp'
    exact ⟨Heap.get?_push_of_some _ a, b⟩) (fun _ h => nomatch h) hp rfl rfl
  obtain ⟨hh, g, d, tk, os⟩ := s
  refine wpAny_call (codeAny_call_builtin FB.init.plain FB.initEntry ?_)
  have hstar := FB.noStar
  simp only [checkBuiltinCall, FB.initKind, FB.initSplit, FB.initRow]
  repeat (first | with_reducible refine wpAny_loadPart_at hx ?_ | with_reducible refine wpAny_loadPart_at hC ?_ | (with_reducible refine wpAny_isSubtype_exc hC ?_; rw [hasE]) | wp_step)
  exact h _ _ U1 U2
end
section
variable {f : Fn} {c : Cx} {n : Nat} {ρ : List (Option V)} {x t : Addr} {o : Out} {r : List Stmt}
theorem Ex.excInit {y z : Str} {d : V} {pn ap p1 p2 pos p4 : Pos} (kE : Kd .globalImplicit f.names (Str.ofString "Exception")) (ly : Look f.names ρ y (.obj (.ref x))) (lz : Look f.names ρ z d) (k : ∀ t', Ex f c n ρ (.own [(x, excO t' none)]) r o)
    (hc : ∀ env, eval (.Call (.Attribute (.Name (Str.ofString "Exception") pn) (Str.ofString "__init__") ap) [.Name y p1, .Name z p2] [] pos) env = (do
      let ov ← eval (.Name (Str.ofString "Exception") pn) env
      standAt ap.atName
      let (f, first) ← holding [ov] (getMethod ov (Str.ofString "__init__") (do return (← importBound (.Name (Str.ofString "Exception") pn) env).getD true))
      callWith pos f first (backTo pos (starEach [.Name y p1, .Name z p2] env)) []) := by intro _; rfl) :
    Ex f c n ρ (.own [(x, excO t none)]) (.Expr (.Call (.Attribute (.Name (Str.ofString "Exception") pn) (Str.ofString "__init__") ap) [.Name y p1, .Name z p2] [] pos) p4 :: r) o :=
  fun s m rest gl Q E ok F N G S P => by
    refine wpAny_execs_cons (wpAny_Expr (MethodCall_ (pl := do return (← importBound (.Name (Str.ofString "Exception") pn) (c.env f)).getD true) (nameX_B F ok.kin (topRead_of ok.top) (B_Exception.1 c.w.params) B_Exception.2.1 B_Exception.2.2 (method_type F ok.kin ty_exc stub_exc (fe _) rfl ?_) rfl (kE.kindOf c ok.fok) (ok.fok.dbg _ kE.mem)) (hc _)) rfl rfl)
    refine callWith_b1 ?_ rfl rfl
    exact (EvLG.cons (g := .own [(x, excO t none)]) (EvG.of (Ev.name ly) trivial) (.cons (EvG.of (Ev.name lz) trivial) .nil)) pos _ m rest gl _ E ok F N G S fun vs h' t2 r2 F2 N2 G2 s2 R2 => by
      obtain ⟨v, u, rfl, R1, R3⟩ := R2.two
      cases R1
      obtain ⟨rfl, ho, hr⟩ := G2
      refine exc_init0 F2 ok.kin N2 (fun p hp => by simpa using hr p hp) fun t' h3 F3 N3 => ?_
      exact k t' _ m r2 _ Q E ok F3 N3 ⟨rfl, fun p hp => by rw [List.mem_singleton.mp hp]; exact off_exc, hr⟩ (S.mono s2) (P.sub s2 _ _)
theorem Ex.excSet1 {y z at_ : Str} {d : V} {p1 p2 p3 pos : Pos} (hf : ∀ P, findIn (hd.heap_39 P) (.ref 52) at_ = some none) (ly : Look f.names ρ y (.obj (.ref x))) (lz : Look f.names ρ z d) (k : ∀ dx e, x ≠ dx → e.key.isStr at_ = true → e.refKey = false → Ex f c n ρ (.own [(x, excO t (some dx)), (dx, dictOf [e] 1)]) r o)
    (hsw : ∀ env, swapsWith (.Name z p3) (some (.Attribute (.Name y p1) at_ p2)) pos.line env = pure false := by intro _; rfl) :
    Ex f c n ρ (.own [(x, excO t none)]) (.Assign [.Attribute (.Name y p1) at_ p2] (.Name z p3) pos :: r) o :=
  fun s m rest gl Q E ok F N G S P => by
    refine wpAny_execs_cons (plainObj_wpAny_Assign_Attribute ((EvG.of (g := .own [(x, excO t none)]) (Ev.name lz) trivial) s m rest gl _ E ok F N G S fun v h1 t1 r1 F1 N1 G1 s1 R1 =>
      (EvG.of (g := .own [(x, excO t none)]) (Ev.name ly) trivial) _ m r1 gl _ E ok F1 N1 G1 (S.mono s1) fun u h2 t2 r2 F2 N2 G2 s2 R2 => ?_) (hsw _))
    cases R2
    obtain ⟨rfl, ho, hr⟩ := G2
    refine exc_set1 F2 ok.kin N2 (fun p hp => by simpa using hr p hp) (hf _) fun dx h3 e F3 hne hd3 he1 he2 N3 => ?_
    refine k dx e hne he1 he2 _ m r2 _ Q E ok F3 N3 ⟨rfl, fun p hp => ?_, fun p hp => ?_⟩ (S.mono fun p hp => s2 p (s1 p hp)) (P.sub (fun p hp => s2 p (s1 p hp)) _ _)
    · rcases List.mem_cons.mp hp with rfl | hp
      · exact off_exc
      · rw [List.mem_singleton.mp hp]; exact off_dict
    · have := hr p hp
      simp only [List.map_cons, List.map_nil, List.mem_cons, List.not_mem_nil, or_false, not_or] at this ⊢
      exact ⟨this, hd3 p hp⟩
theorem Ex.excSet2 {y z at_ : Str} {d : V} {dx : Addr} {es : List DictEntry} {n₂ : Nat} {p1 p2 p3 pos : Pos} (hf : ∀ P, findIn (hd.heap_39 P) (.ref 52) at_ = some none) (hxd : x ≠ dx) (hl : (getL at_ es).isSome = true) (hz : es.length ≤ 100) (ly : Look f.names ρ y (.obj (.ref x))) (lz : Look f.names ρ z d) (k : ∀ es' n', Ex f c n ρ (.own [(x, excO t (some dx)), (dx, dictOf es' n')]) r o)
    (hsw : ∀ env, swapsWith (.Name z p3) (some (.Attribute (.Name y p1) at_ p2)) pos.line env = pure false := by intro _; rfl) :
    Ex f c n ρ (.own [(x, excO t (some dx)), (dx, dictOf es n₂)]) (.Assign [.Attribute (.Name y p1) at_ p2] (.Name z p3) pos :: r) o :=
  fun s m rest gl Q E ok F N G S P => by
    refine wpAny_execs_cons (plainObj_wpAny_Assign_Attribute ((EvG.of (g := .own [(x, excO t (some dx)), (dx, dictOf es n₂)]) (Ev.name lz) trivial) s m rest gl _ E ok F N G S fun v h1 t1 r1 F1 N1 G1 s1 R1 =>
      (EvG.of (g := .own [(x, excO t (some dx)), (dx, dictOf es n₂)]) (Ev.name ly) trivial) _ m r1 gl _ E ok F1 N1 G1 (S.mono s1) fun u h2 t2 r2 F2 N2 G2 s2 R2 => ?_) (hsw _))
    cases R2
    obtain ⟨rfl, ho, hr⟩ := G2
    refine exc_set2 F2 ok.kin N2 hxd (fun p hp => ?_) (hf _) hl hz fun h3 es' n' F3 N3 => ?_
    · have := hr p hp
      simp only [List.map_cons, List.map_nil, List.mem_cons, List.not_mem_nil, or_false, not_or] at this
      exact this.2
    · refine k es' n' _ m r2 _ Q E ok F3 N3 ⟨rfl, fun p hp => ?_, hr⟩ (S.mono fun p hp => s2 p (s1 p hp)) (P.sub (fun p hp => s2 p (s1 p hp)) _ _)
      rcases List.mem_cons.mp hp with rfl | hp
      · exact off_exc
      · rw [List.mem_singleton.mp hp]; exact off_dict
theorem Ex.ownK {l : Led} {K : Led → Prop} (h : K l) : Ex f c n ρ (.own l) [] (.nextK K) := fun s m rest gl Q E ok F N G S P => wpAny_execs_nil (by
  obtain ⟨rfl, _, _⟩ := G
  exact P s.heap s.toks m rest _ F N h (fun _ h => h))
end
theorem init_ex {x t : Addr} {d : V} (c : Cx) (n : Nat) : Ex φ_init c n [some (.obj (.ref x)), some d, some .none] (.own [(x, excO t none)]) b_init (.nextK fun gl => ∃ t' dx es n', gl = [(x, excO t' (some dx)), (dx, dictOf es n')]) :=
  Ex.excInit g3 l0 l1 fun t' => Ex.excSet1 fw l0 l1 fun dx e hne he1 he2 => Ex.excSet2 fa hne (by
      unfold getL
      simp only [List.find?_cons, List.find?_nil, List.any_cons, List.any_nil, he2]
      split <;> simp_all) (by simp) l0 l2 fun es' n' => Ex.ownK ⟨t', dx, es', n', rfl⟩
section
variable {f : Fn} {c : Cx} {n : Nat} {s : Shared} {m : Str → Option Value} {x t : Addr} {v : Value} {d : V} {rest : Led} {Q E : Value → Shared → Prop}
theorem call_init (ok : c.Ok f (n + 1)) (F : Fr c.h₀ c.L s.heap m) (N : News c.h₀ c.L s.heap ((x, excO t none) :: rest)) (hx : ∀ p ∈ rest, p.1 ≠ x) (R : Rep rest v d)
    (P : ∀ h' tk t' dx rest', Fr c.h₀ c.L h' m → News c.h₀ c.L h' ((x, excO t' (some dx)) :: rest') → (∀ p ∈ rest, p ∈ rest') → Q .none { s with heap := h', toks := tk }) :
    wpAny (model pg c.w) (c.A f) (call (.ref 29) [.ref x, v]) Q E s := by
  refine enter D_init ok F N rfl rfl fun g L' h₁ tk ok' F' N' E' => ?_
  have RO : RepO rest ([Value.ref x, v] ++ [Value.none]) ((([V.obj (.ref x), d] : List V).map some) ++ (([V.none] : List V).map some)) := ⟨rfl, R, rfl, trivial⟩
  refine init_ex (t := t) (d := d) (c.into f g L') n _ _ rest [(x, excO t none)] _ E' ok' F' N' ⟨rfl, fun p hp => by rw [List.mem_singleton.mp hp]; exact off_exc, fun p hp => by simpa using hx p hp⟩ (sees_zip (k := 0) D_init.ok.nd rfl rfl RO rfl) ?_
  intro h' tk' m' rest' gl' F2 N2 K2 s2
  obtain ⟨t', dx, es, n', rfl⟩ := K2
  exact ⟨h', tk', m', _, rfl, F2, N2, fun kF kN => P h' tk' t' dx _ kF kN (fun p hp => .tail _ (s2 p hp))⟩
end
end Mine
end

section
open PySem PySem.W PyProof.Rows PySem.Calls
set_option maxHeartbeats 1000000
namespace Mine
section
variable {f : Fn} {c : Cx} {n : Nat} {s : Shared} {m : Str → Option Value} {v : Value} {d : V} {news : Led} {Q E : Value → Shared → Prop}
theorem make_err (ok : c.Ok f (n + 2)) (F : Fr c.h₀ c.L s.heap m) (N : News c.h₀ c.L s.heap news) (R : Rep news v d)
    (P : ∀ e h' tk t' dx rest', Fr c.h₀ c.L h' m → News c.h₀ c.L h' ((e, excO t' (some dx)) :: rest') → (∀ p ∈ news, p ∈ rest') → (∀ p ∈ news, p.1 ≠ e) → Q (.ref e) { s with heap := h', toks := tk }) :
    wpAny (model pg c.w) (c.A f) (call (.ref 52) [v]) Q E s := by
  obtain ⟨hh, g, dr, tk, os⟩ := s
  refine err_call (ok.kin.keeps F.keep) (fun h' e hm => ?_) (by rw [sizeLine_eq]; simp)
  obtain ⟨t, he, htn, ht⟩ := hm.there
  have fresh : ∀ b, hh.get? b = none → c.h₀.get? b = none := fun b hb => by
    cases q : c.h₀.get? b with
    | none => rfl
    | some o => have := F.keep b o q; rw [show hh.get? b = none from hb] at this; cases this
  have F' : Fr c.h₀ c.L h' m := F.keeps hm.keeps
  have N0 : News c.h₀ c.L h' news := fun p hp => ⟨hm.keeps _ _ (N p hp).1, (N p hp).2⟩
  have N1 : News c.h₀ c.L h' ((t, tupOf [v].toArray) :: news) := News.more F' N0 ht (fun _ _ q => by cases q) (fresh t htn)
  have N2 : News c.h₀ c.L h' ((e, excO t none) :: (t, tupOf [v].toArray) :: news) := News.more F' N1 he (fun _ _ q => by cases q) (fresh e hm.new)
  have old : ∀ p ∈ news, p.1 ≠ e := fun p hp q => by
    have := (N p hp).1
    rw [show p.1 = e from q] at this
    rw [show hh.get? e = none from hm.new] at this
    cases this
  refine call_init (c := { c with dp := c.dp + (Code.builtin "type.__call__" ⟨.ref 52 :: [v], []⟩).weight, un := c.un + (Code.builtin "type.__call__" ⟨.ref 52 :: [v], []⟩).cUnits, gd := pushGuards (Code.builtin "type.__call__" ⟨.ref 52 :: [v], []⟩).guards c.gd }) (n := n) (s := ⟨h', g, dr, tk, os⟩) (t := t) (rest := (t, tupOf [v].toArray) :: news)
    ⟨ok.below, ok.kin, ok.top, by have := ok.room; show c.dp + 1 + (n + 1) < 900; omega, by have := ok.units; show c.un + 1 + 8 * (n + 1) < 9000; omega, ok.fok⟩ F' N2 (fun p hp => ?_) (R.mono fun p hp => .tail _ hp) fun h3 tk3 t' dx rest' F3 N3 s3 => ⟨rfl, P e h3 tk3 t' dx rest' F3 N3 (fun p hp => s3 p (.tail _ hp)) old⟩
  rcases List.mem_cons.mp hp with rfl | hp
  · intro q
    have q' : t = e := q
    rw [q', he] at ht
    cases ht
  · exact old p hp
end
section
variable {M : Model} {A : Around} {E : Value → Shared → Prop} {env : Env}
theorem err_raise {P : Params} {s : Shared} {x : Sem Value} {Q : Flow → Shared → Prop} (hh : A.handled = none)
    (h : wpAny M A x (fun v s₁ => ∃ e t d, v = .ref e ∧ (hd.heap_39 P).In s₁.heap ∧ s₁.heap.get? e = some (excO t d) ∧ E (.ref e) s₁) E s) :
    wpAny M A (raiseStmt env (some x) none) Q E s := by
  unfold raiseStmt
  refine wpAny_bind (wpAny_mono h (fun v s₁ h₁ => ?_) fun _ _ x => x)
  obtain ⟨e, t, dd, rfl, X, he, hE⟩ := h₁
  obtain ⟨q, k2, k3, ab, col, dd, sn, sub, hC⟩ := c52 P
  have hC := X _ _ hC
  obtain ⟨hp, g, d, tk, os⟩ := s₁
  repeat (first | with_reducible refine wpAny_loadPart_at he ?_ | with_reducible refine wpAny_loadPart_at hC ?_ | (with_reducible refine wpAny_isSubtype_exc hC ?_; rw [hasB]) | wp_step)
  exact wpAny_raiseNew_none hh hE
end
theorem G_CodeError : GFn (Str.ofString "CodeError") 52 := g52
section
variable {f : Fn} {c : Cx} {n : Nat} {ρ : List (Option V)} {o : Out} {r : List Stmt}
theorem Ex.raiseMsg {e : Expr} {d : V} {p cp pos : Pos} (hk : Kd .globalImplicit f.names (Str.ofString "CodeError")) (h : Ev f c (n + 2) ρ e d)
    (he : ∀ env, starEach [e] env = (false, eval e env) :: starEach [] env := by intro _; rfl) (hplain : ∀ env, (backTo cp (starEach [] env)).any (·.1) = false := by intro _; rfl) :
    Ex f c (n + 2) ρ .none (.Raise (some (.Call (.Name (Str.ofString "CodeError") p) [e] [] cp)) none pos :: r) .raise :=
  fun s m rest gl Q E ok F N G S P => by
    cases G
    refine wpAny_execs_cons ?_
    rw [arm_exec_Raise]
    refine wpAny_bind (wpAny_standAt (err_raise (P := c.w.params) rfl (wpAny_bind (wpAny_mono (Q := fun v s₁ => ∃ e t d, v = .ref e ∧ (hd.heap_39 c.w.params).In s₁.heap ∧ s₁.heap.get? e = some (excO t d) ∧ E (.ref e) s₁) ?_ (fun v s₃ h₃ => wpAny_bind (wpAny_standAt (wpAny_pure h₃))) fun _ _ x => x))))
    exact Call_ (nameX_K F ok.kin (topRead_of ok.top) (G_CodeError c.w.params).1
      (callWith_K (h₀ := c.h₀) ok.kin (G_CodeError c.w.params).2 ((EvL.cons h .nil he) cp s m _ _ E ok F N S fun vs h' t' n' F' N' s' R => ⟨ok.kin.keeps F'.keep, by
        obtain ⟨v, rfl, R1⟩ := R.one
        refine make_err ok F' N' R1 fun e h3 tk t' dx rest' F3 N3 s3 ne => ?_
        exact ⟨e, t', some dx, rfl, ok.kin.keeps F3.keep, (N3 _ (.head _)).1, P e t' dx h3 tk m rest' F3 N3 (fun p hp => s3 p (s' p hp)) fun p hp => ne p (s' p hp)⟩⟩) (he _) (hplain _))
      rfl (hk.kindOf c ok.fok) (ok.fok.dbg _ hk.mem))
end
end Mine
end

section
open PySem PySem.W PyProof.Rows PySem.Calls
set_option maxHeartbeats 1000000
namespace Mine
-- an exception leaves a frame
section
variable {M : Model} {A : Around} {E : Value → Shared → Prop} {s' : Shared} {base g : Heap} {outer : List Env} {L a e : Addr} {m : Str → Option Value} {name : Str} {scope : Scope} {cd : Value} {Q : Unit → Shared → Prop} {news : List (Addr × Obj)}
theorem leave_own {cls a0 : Value} {vs : Array Value} {oe : Obj} (K : Below A base outer g) (F : Fr g L s'.heap m) (N : News g L s'.heap news) (hen : g.get? e = none) (hne : ∀ q ∈ news, q.1 ≠ e) (he : s'.heap.get? e = some oe) (hcls : oe.cls = cls) (hd : oe.data = .fields vs) (h0 : vs[0]? = some a0) (h1 : vs[1]? = some .none)
    (hQ : ∀ h', RaisedSN base g outer e cls news h' → g.UpToSlots h' → Q () { s' with heap := h' }) (hk : scope.kind = .function) :
    wpAny M (A.deeper (envOf name scope L a cd)) (leaving (envOf name scope L a cd) (.ref e)) Q E s' := by
  have K' := K.push (name := name) (a := a) (cd := cd) F hk
  let as := e :: (envOf name scope L a cd :: outer).filterMap (·.frame)
  have hin : ∀ env ∈ (envOf name scope L a cd :: outer), ∀ b, env.frame = some b → b ∈ as := fun env hm b hb => .tail _ (List.mem_filterMap.mpr ⟨env, hm, hb⟩)
  have st : base.StaysIn (hideAll s'.heap as) := fun b o q => hideAll_get _ (K'.stays b o q) fun hm => by
    rcases List.mem_cons.mp hm with rfl | hm
    · rw [K.stays _ o q] at hen; cases hen
    · rw [(K'.frames.mem hm).1] at q; cases q
  have sg : ∀ b o, g.get? b = some o → b ∉ outer.filterMap (·.frame) → (hideAll s'.heap as).get? b = some o := fun b o q nm => hideAll_get _ (F.keep b o q) fun hm => by
    rcases List.mem_cons.mp hm with rfl | hm
    · rw [q] at hen; cases hen
    · rcases kts_mem hm with z | z
      · rw [z, kts_self F] at q
        cases q
      · exact nm z
  have hl : ∀ q ∈ news, (hideAll s'.heap as).get? q.1 = some q.2 ∧ g.get? q.1 = none ∧ base.get? q.1 = none := fun q hq => by
    refine ⟨hideAll_get _ (N q hq).1 fun hm => ?_, (N q hq).2.2, fresh_of_stays K.stays (N q hq).2.2⟩
    rcases List.mem_cons.mp hm with z | hm
    · exact hne q hq z
    · obtain ⟨env, hm, hf⟩ := List.mem_filterMap.mp hm
      rcases List.mem_cons.mp hm with rfl | hm
      · exact (N q hq).2.1 (Option.some.inj hf).symm
      · obtain ⟨o, ho, _⟩ := (K.frames.mem (List.mem_filterMap.mpr ⟨env, hm, hf⟩)).2
        rw [(N q hq).2.2] at ho; cases ho
  have hen' : (hideAll s'.heap as).get? e = none := hideAll_none _ (.head _)
  refine wpAny_leaving_firstW (a0 := a0) K'.stack (funFrames_hide K'.frames hin) rfl he (fun b o hb => of_hideAll _ hb) hen' hd h1 h0 fun h' hL => ?_
  obtain ⟨k1, ⟨_, _, k2⟩, k3, k4⟩ := hL
  exact hQ h' ⟨_, a0, st, sg, hl, k1, hen', k2, by rw [← hcls]; exact k3⟩ ((Heap.UpToSlots.of_keeps F.keep).trans k4)
end
theorem raised_sub {base G h : Heap} {l : List Env} {e : Addr} {cls : Value} {n1 n2 : Led} (R : RaisedSN base G l e cls n1 h) (hs : ∀ p ∈ n2, p ∈ n1) : RaisedSN base G l e cls n2 h := by
  obtain ⟨B, a0, hB, hBG, hl, hfl⟩ := R
  exact ⟨B, a0, hB, hBG, fun q hq => hl q (hs q hq), hfl⟩
/-- what a callable raises -/
def RaiseTo (f : Fn) (c : Cx) (s : Shared) (m : Str → Option Value) (news : Led) (E : Value → Shared → Prop) : Prop :=
  ∀ e g₂ h' tk', Fr c.h₀ c.L g₂ m → RaisedSN c.base g₂ (c.env f :: c.outer) e (.ref 52) news h' → g₂.UpToSlots h' → E (.ref e) { s with heap := h', toks := tk' }
def ConE (g : Value) (n : Nat) (ds : List V) : Prop :=
  ∀ (f : Fn) (c : Cx) (s : Shared) (m : Str → Option Value) (news : Led) (vs : List Value) (Q E : Value → Shared → Prop), c.Ok f n → Fr c.h₀ c.L s.heap m → News c.h₀ c.L s.heap news → RepL news vs ds → RaiseTo f c s m news E →
    wpAny (model pg c.w) (c.A f) (call g vs) Q E s
theorem ConE.of {φ : Fn} {params : Arguments} {body : List Stmt} {ps : List Str} {dv : List Value} {dd : List V} (H : FnFact φ params body ps dv) {n : Nat} {ds : List V} {ρ : List (Option V)} {k : Nat} {rest : List (Str × NameKind)}
    (hns : φ.names = ps.map (fun p => (p, NameKind.local)) ++ rest) (hdv : ∀ news, RepL news dv dd) (hρ : ρ = (ds.map some ++ dd.map some) ++ List.replicate k Option.none) (hlen : ds.length + dd.length = ps.length)
    (hb : ∀ c, Ex φ c n ρ .none body .raise) : ConE (.ref φ.a) (n + 1) ds := by
  intro f c s m news vs Q E ok F N R P
  have hl : (vs ++ dv).length = ps.length := by rw [List.length_append, R.length, (hdv []).length]; exact hlen
  obtain ⟨oc, od, name, dV, kV, doc, pm, an, ct, osl, h1, h2, h3⟩ := H.fact c.w.params
  have hmem : ∀ y ∈ ps.zip (vs ++ dv), φ.scope.names.lookup y.1 = some .local := fun y hy => by
    refine lookup_nodup H.ok.nd ?_
    rw [hns]
    refine List.mem_append_left _ (List.mem_map.mpr ⟨y.1, ?_, rfl⟩)
    have h9 : y.1 ∈ (ps.zip (vs ++ dv)).map (·.1) := List.mem_map.mpr ⟨y, hy, rfl⟩
    rwa [zip_fst hl.symm] at h9
  refine wpAny_call (code_def (K := hd.heap_39 c.w.params) ok.below F ok.kin N ok.top rfl rfl rfl h1 h2 (by show c.dp < recursionLimit; have := ok.room; show c.dp < 1000; omega) (h3 s vs (ok.kin.keeps F.keep) hl) hmem (fun g L' h₁ Fg F' N' B' X' T' => ?_) rfl rfl rfl H.cells)
  have ok' : (c.into f g L').Ok φ n := ⟨B', X', T', by have := ok.room; show c.dp + 1 + n < 900; omega, by have := ok.units; show c.un + 3 + 8 * n < 9000; omega, H.ok⟩
  refine hb (c.into f g L') _ _ news [] _ _ ok' F' N' rfl (sees_zip H.ok.nd hns hρ (R.toO.append (hdv news).toO) hl.symm) ?_
  intro e t d h' tk' m' rest' F2 N2 s2 ne
  refine leave_own (news := news) (cls := .ref 52) B' F2 (fun p hp => N2 p (.tail _ (s2 p hp))) (N2 _ (.head _)).2.2 ne (N2 _ (.head _)).1 rfl rfl rfl rfl (fun h3 R3 U3 => ?_) rfl
  exact P e g h3 tk' Fg R3 U3
theorem ConE.of0 {φ : Fn} {params : Arguments} {body : List Stmt} {ps : List Str} (H : FnFact φ params body ps []) {n : Nat} {ds : List V} {ρ : List (Option V)} (k : Nat) {rest : List (Str × NameKind)}
    (hns : φ.names = ps.map (fun p => (p, NameKind.local)) ++ rest) (hρ : ρ = ds.map some ++ List.replicate k Option.none) (hlen : ds.length = ps.length)
    (hb : ∀ c, Ex φ c n ρ .none body .raise) : ConE (.ref φ.a) (n + 1) ds :=
  ConE.of H (dd := []) hns (fun _ => trivial) (k := k) (by rw [hρ]; simp) (by simpa using hlen) hb
theorem op_cats {x y : Str} (h : x.length + y.length ≤ 1000) : Op2 (binaryOp .Add) (.str x) (.str y) (.str (x ++ y)) := by
  rintro f c s m news v u Q E hu F N ⟨t, rfl⟩ ⟨t', rfl⟩ P
  exact PyProof.Rows.add_str (fun t2 tk => P _ s.heap _ news F N (fun _ h => h) ⟨_, rfl⟩) (by rw [sizeLine_eq]; omega)
end Mine
end

section
open PySem PySem.W PyProof.Rows PySem.Calls
set_option maxHeartbeats 1000000
namespace Mine
theorem cat_ok {x y : Str} (hx : x.length ≤ 100) (hy : y.length ≤ 100) : x.length + y.length ≤ 1000 := by omega
section
variable {f : Fn} {c : Cx} {n : Nat} {ρ : List (Option V)} {g : G}
theorem Ex.thenTR {t : Expr} {A B r : List Stmt} {pos : Pos} (ht : Tst f c n ρ t true) (h1 : Ex f c n ρ g A .raise) : Ex f c n ρ g (.If t A B pos :: r) .raise :=
  fun s m rest gl Q E ok F N G S P => wpAny_execs_cons (wpAny_If (ht s m _ _ E ok F N S.gl fun h' t' led F' N' s' =>
    h1 _ m rest gl _ E ok F' (fun p hp => N' p (s' p hp)) G S fun e t d h2 t2 m2 r2 F2 N2 s2 ne => P e t d h2 t2 m2 r2 F2 N2 s2 ne))
end
section
variable {a b x : Int} {k w : Nat} {op pl : Str}
theorem alu_raise (hk : Sz k) (h1 : (op == ("add" : Str)) = false) (h2 : (op == ("sub" : Str)) = false) (h3 : (op == ("mul" : Str)) = false) (h4 : (op == ("neg" : Str)) = false) (h5 : (op == ("mov" : Str)) = false)
    (h6 : (([("or" : Str), "and", "xor"] : List Str).any fun y => y == op) = false) (h7 : (([("div" : Str), "mod"] : List Str).any fun y => y == op) = false) (h8 : (([("lsh" : Str), "rsh", "arsh"] : List Str).any fun y => y == op) = false) (hl : op.length ≤ 100) :
    ConE (.ref 134) 5 [.str op, .int a, .int b, .int k] :=
  ConE.of D_alu_worth (dd := [.bool false]) (n := 4) (k := 2) rfl (fun _ => ⟨rfl, trivial⟩) (ρ := [some (.str op), some (.int a), some (.int b), some (.int k), some (.bool false), none, none]) rfl rfl fun c =>
    Ex.assign2 (.cons (Ev.call G_wrap g7 (.cons (Ev.name l1) (.cons (Ev.name l3) .nil)) (con_wrap hk.le)) (.cons (Ev.call G_wrap g7 (.cons (Ev.name l2) (.cons (Ev.name l3) .nil)) (con_wrap hk.le)) .nil)) trivial trivial q6 q5 trivial trivial (fun _ => rfl)
      (Ex.thenF (ts (Ev.name l0) h1) (Ex.thenF (ts (Ev.name l0) h2) (Ex.thenF (ts (Ev.name l0) h3) (Ex.thenF (ts (Ev.name l0) h4) (Ex.thenF (ts (Ev.name l0) h5)
        (Ex.thenF (Tst.sin (Ev.name l0) (Ev.stup (.cons Ev.cstr (.cons Ev.cstr (.cons Ev.cstr .nil))) (by decide)) h6) (Ex.thenF (Tst.sin (Ev.name l0) (Ev.stup (.cons Ev.cstr (.cons Ev.cstr .nil)) (by decide)) h7) (Ex.thenF (Tst.sin (Ev.name l0) (Ev.stup (.cons Ev.cstr (.cons Ev.cstr (.cons Ev.cstr .nil))) (by decide)) h8)
        (Ex.raiseMsg (n := 2) g11 (Ev.bin Ev.cstr (Ev.name l0) (op_cats (cat_ok (by decide +kernel) hl)))))))))))) 
theorem uh_none (h1 : (op == ("gt" : Str)) = false) (h2 : (op == ("ge" : Str)) = false) (h3 : (op == ("lt" : Str)) = false) (h4 : (op == ("le" : Str)) = false) : Con (.ref 169) 1 [.str op, .int a, .int b] .none :=
  Con.of0 F_unsigned_holds 0 (ρ := [some (.str op), some (.int a), some (.int b)]) rfl rfl rfl fun c => Ex.thenF (ts (Ev.name l0) h1) (Ex.thenF (ts (Ev.name l0) h2) (Ex.thenF (ts (Ev.name l0) h3) (Ex.thenF (ts (Ev.name l0) h4) (Ex.ret Ev.cnone trivial))))
theorem holds_raise (hk : Sz k) (h1 : (op == ("eq" : Str)) = false) (h2 : (op == ("ne" : Str)) = false) (h3 : (op == ("set" : Str)) = false) (h4 : (([("sgt" : Str), "sge", "slt", "sle"] : List Str).any fun y => y == op) = false)
    (h5 : (op == ("gt" : Str)) = false) (h6 : (op == ("ge" : Str)) = false) (h7 : (op == ("lt" : Str)) = false) (h8 : (op == ("le" : Str)) = false) (hl : op.length ≤ 100) :
    ConE (.ref 176) 5 [.str op, .int a, .int b, .int k] :=
  ConE.of0 F_holds (n := 4) 3 (ρ := [some (.str op), some (.int a), some (.int b), some (.int k), none, none, none]) rfl rfl rfl fun c =>
    Ex.assign2 (.cons (Ev.call G_wrap g7 (.cons (Ev.name l1) (.cons (Ev.name l3) .nil)) (con_wrap hk.le)) (.cons (Ev.call G_wrap g7 (.cons (Ev.name l2) (.cons (Ev.name l3) .nil)) (con_wrap hk.le)) .nil)) trivial trivial q5 q4 trivial trivial (fun _ => rfl)
      (Ex.thenF (ts (Ev.name l0) h1) (Ex.thenF (ts (Ev.name l0) h2) (Ex.thenF (ts (Ev.name l0) h3) (Ex.thenF (Tst.sin (Ev.name l0) (Ev.stup (.cons Ev.cstr (.cons Ev.cstr (.cons Ev.cstr (.cons Ev.cstr .nil)))) (by decide)) h4)
        (Ex.assign (Ev.call G_unsigned_holds g8 (.cons (Ev.name l0) (.cons (Ev.name l4) (.cons (Ev.name l5) .nil))) (uh_none h5 h6 h7 h8)) trivial q6 trivial
        (Ex.thenTR (Tst.cmp (Ev.name l6) Ev.cnone op_isnone rfl) (Ex.raiseMsg (n := 2) g10 (Ev.bin Ev.cstr (Ev.name l0) (op_cats (cat_ok (by decide +kernel) hl))))))))))
theorem swap_raise_name (hk : Bt k) (h1 : (op == ("le" : Str)) = false) (h2 : (([("be" : Str), "swap"] : List Str).any fun y => y == op) = false) (hl : op.length ≤ 100) : ConE (.ref 148) 3 [.str op, .int x, .int k] :=
  ConE.of0 F_swapped (n := 2) 0 (ρ := [some (.str op), some (.int x), some (.int k)]) rfl rfl rfl fun c =>
    Ex.thenF (Tst.nin (Ev.name l2) (Ev.itup (.cons Ev.cint (.cons Ev.cint (.cons Ev.cint .nil))) (by decide)) (in3 hk)) (Ex.thenF (ts (Ev.name l0) h1) (Ex.thenF (Tst.sin (Ev.name l0) (Ev.stup (.cons Ev.cstr (.cons Ev.cstr .nil)) (by decide)) h2)
      (Ex.raiseMsg (n := 0) g3 (Ev.bin Ev.cstr (Ev.name l0) (op_cats (cat_ok (by decide +kernel) hl))))))
theorem swap_raise_bits {y : Int} (h : (!([16, 32, 64] : List Int).any fun z => z == y) = true) : ConE (.ref 148) 3 [.str op, .int x, .int y] :=
  ConE.of0 F_swapped (n := 2) 0 (ρ := [some (.str op), some (.int x), some (.int y)]) rfl rfl rfl fun c =>
    Ex.thenTR (Tst.nin (Ev.name l2) (Ev.itup (.cons Ev.cint (.cons Ev.cint (.cons Ev.cint .nil))) (by decide)) h) (Ex.raiseMsg (n := 0) g3 Ev.cstr)
theorem atom_raise (hk : Sz (8 * w)) (h1 : (op == ("xchg" : Str)) = false) (h2 : (op == ("cmpxchg" : Str)) = false) {u : Str} (hl : op.length ≤ 100) (hu : Txt.slice op none (some 6) = u) {t : Bool} (h3 : (u == ("fetch_" : Str)) = t)
    (hp : (if t then Txt.slice op (some 6) none else op) = pl) (hm : (([("add" : Str), "or", "and", "xor"] : List Str).any fun y => y == pl) = false) : ConE (.ref 183) 7 [.str op, .int a, .int b, .int x, .int w] :=
  ConE.of0 F_atomic_worth (n := 6) 4 (ρ := [some (.str op), some (.int a), some (.int b), some (.int x), some (.int w), none, none, none, none]) rfl rfl rfl fun c =>
    Ex.assign (ev_w8 l4) trivial q5 trivial
    (Ex.assign2 (.cons (Ev.call G_wrap g9 (.cons (Ev.name l1) (.cons (Ev.name l5) .nil)) (con_wrap hk.le)) (.cons (Ev.call G_wrap g9 (.cons (Ev.name l2) (.cons (Ev.name l5) .nil)) (con_wrap hk.le)) .nil)) trivial trivial q7 q6 trivial trivial (fun _ => rfl)
      (Ex.thenF (ts (Ev.name l0) h1) (Ex.thenF (ts (Ev.name l0) h2) (Ex.assign (d := .str pl) (Ev.ifexp (Tst.seq (Ev.supto1 l0 hl hu) Ev.cstr h3) (fun e => Ev.sfrom1 l0 hl (by rw [e] at hp; exact hp)) (fun e => (Ev.name l0).congr (congrArg V.str (by rw [e] at hp; exact hp)))) trivial q8 trivial
        (Ex.thenF (Tst.sin (Ev.name l8) (Ev.stup (.cons Ev.cstr (.cons Ev.cstr (.cons Ev.cstr (.cons Ev.cstr .nil)))) (by decide)) hm)
          (Ex.raiseMsg (n := 4) g11 (Ev.bin Ev.cstr (Ev.name l0) (op_cats (cat_ok (by decide +kernel) hl)))))))))
end
end Mine
end

section
open PySem PySem.W PyProof.Rows PySem.Calls
set_option maxHeartbeats 1000000
namespace Mine
-- lambdas that raise
section
variable {f : Fn} {c : Cx} {n : Nat} {ρ : List (Option V)}
theorem RaiseTo.sub {s : Shared} {m : Str → Option Value} {n1 n2 : Led} {E : Value → Shared → Prop} (h : RaiseTo f c s m n1 E) (hs : ∀ p ∈ n1, p ∈ n2) (h' : Heap) (tk' : Nat) : RaiseTo f c { s with heap := h', toks := tk' } m n2 E :=
  fun e g₂ h3 tk3 F R U => h e g₂ h3 tk3 F (raised_sub R hs) U
def EvE (f : Fn) (c : Cx) (n : Nat) (ρ : List (Option V)) (e : Expr) : Prop :=
  ∀ (s : Shared) (m : Str → Option Value) (news : Led) (Q E : Value → Shared → Prop), c.Ok f n → Fr c.h₀ c.L s.heap m → News c.h₀ c.L s.heap news → Sees f.names ρ m news → RaiseTo f c s m news E →
    wpAny (model pg c.w) (c.A f) (eval e (c.env f)) Q E s
theorem EvE.call {x : Str} {p pos : Pos} {fa : Addr} {e : Expr} {es : List Expr} {ds : List V} {k : Nat} (hg : GFn x fa) (hk : Kd .globalImplicit f.names x) (ha : EvL f c n ρ (e :: es) ds) (hc : ConE (.ref fa) k ds) (hn : k ≤ n := by decide)
    (he : ∀ env, starEach (e :: es) env = (false, eval e env) :: starEach es env := by intro _; rfl) (hplain : ∀ env, (backTo pos (starEach es env)).any (·.1) = false := by intro _; rfl) :
    EvE f c n ρ (.Call (.Name x p) (e :: es) [] pos) :=
  fun s m news Q E ok F N S P => Call_ (nameX_K F ok.kin (topRead_of ok.top) (hg c.w.params).1
    (callWith_K (h₀ := c.h₀) ok.kin (hg c.w.params).2 (ha pos s m news _ E ok F N S fun vs h' t' n' F' N' s' R => ⟨ok.kin.keeps F'.keep,
      hc f c _ m n' vs Q E (ok.le hn) F' N' R (P.sub s' _ _)⟩) (he _) (hplain _))
    rfl (hk.kindOf c ok.fok) (ok.fok.dbg _ hk.mem))
end
@[reducible] def lamQ : Str := Str.ofString "law.<locals>.<lambda>"
@[reducible] def lamArgs (x : Str) (ap : Pos) : Arguments := { posonlyargs := [], args := [{ arg := x, annotation := none, pos := ap }], vararg := none, kwonlyargs := [], kw_defaults := [], kwarg := none, defaults := [] }
@[reducible] def φ_lam (x callee : Str) (a : Addr) (cd : Value) : Fn := { qual := lamQ, names := [(x, .local), (callee, .globalImplicit)], a := a, cd := cd }
def IsLam (news : Led) (fa : Addr) (x callee : Str) (ap : Pos) (body : Expr) : Prop :=
  ∃ c' pm ctv oc vs t, (fa, kla_obj "<lambda>" lamQ (lamArgs x ap) body (φ_lam x callee 0 .none).scope [] pm c' ctv) ∈ news ∧ (c', oc) ∈ news ∧ oc.data = .fields vs ∧ vs[1]? = some (.str lamQ t)
theorem IsLam.mono {n1 n2 : Led} {fa : Addr} {x callee : Str} {ap : Pos} {body : Expr} (h : IsLam n1 fa x callee ap body) (hs : ∀ p ∈ n1, p ∈ n2) : IsLam n2 fa x callee ap body :=
  let ⟨c', pm, ctv, oc, vs, t, h1, h2, h3, h4⟩ := h; ⟨c', pm, ctv, oc, vs, t, hs _ h1, hs _ h2, h3, h4⟩
def DeedE (n : Nat) (x callee : Str) (ap : Pos) (body : Expr) (d : V) : Prop :=
  ∀ (f : Fn) (c : Cx) (s : Shared) (m : Str → Option Value) (news : Led) (fa : Addr) (v : Value) (Q E : Value → Shared → Prop), c.Ok f n → Fr c.h₀ c.L s.heap m → News c.h₀ c.L s.heap news → IsLam news fa x callee ap body → Rep news v d → RaiseTo f c s m news E →
    wpAny (model pg c.w) (c.A f) (call (.ref fa) [v]) Q E s
theorem DeedE.of {n : Nat} {x callee : Str} {ap : Pos} {body : Expr} {d : V} (hx : x ≠ callee) (h1 : (x == ("__debug__" : Str)) = false) (h2 : (callee == ("__debug__" : Str)) = false)
    (hb : ∀ c a cd, EvE (φ_lam x callee a cd) c n [some d, none] body)
    (hbind : ∀ pm cdv ct v, bindArgs (kla_fn "<lambda>" lamQ (lamArgs x ap) body (φ_lam x callee 0 .none).scope [] pm cdv ct) ⟨[v], []⟩ = pure [(x, v)] := by intro _ _ _ _; rfl) : DeedE (n + 1) x callee ap body d := by
  intro f c s m news fa v Q E ok F N hl R P
  obtain ⟨c', pm, ctv, oc, vs, t, hm, hc, hdd, hv⟩ := hl
  have hnd : ((φ_lam x callee fa (.ref c')).names.map (·.1)).Nodup := by
    show [x, callee].Nodup
    simp [hx]
  refine wpAny_call (kla_code (K := hd.heap_39 c.w.params) (binds := [(x, v)]) ok.below F ok.kin N ok.top rfl rfl rfl hm (codeRec_news N hc hdd hv) (by show c.dp < recursionLimit; have := ok.room; show c.dp < 1000; omega) (hbind _ _ _ _) (fun y hy => ?_) (fun g L' h₁ FG F' N' B' X' T' => ?_) rfl rfl rfl (fun y hy => ?_))
  · rw [List.mem_singleton.mp hy]
    exact lookup_nodup hnd (.head _)
  · have ok' : (c.into f g L').Ok (φ_lam x callee fa (.ref c')) n := ⟨B', X', T', by have := ok.room; show c.dp + 1 + n < 900; omega, by have := ok.units; show c.un + 3 + 8 * n < 9000; omega, hnd, fun y hy => by
      rcases List.mem_cons.mp hy with rfl | hy
      · exact h1
      · rw [List.mem_singleton.mp hy]; exact h2⟩
    refine hb (c.into f g L') fa (.ref c') _ _ news _ _ ok' F' N' (sees_zip (ps := [x]) (vs := [v]) (os := [some d]) (k := 1) hnd rfl rfl ⟨R, trivial⟩ rfl) ?_
    intro e g₂ h' tk' Fr2 R2 U2
    refine leave_onSN B' Fr2 R2 U2 fun h3 R3 _ U3 => ?_
    exact P e g h3 tk' FG R3 U3
  · rcases List.mem_cons.mp hy with rfl | hy
    · exact fun q => NameKind.noConfusion q
    · rw [List.mem_singleton.mp hy]; exact fun q => NameKind.noConfusion q
end Mine
end

section
open PySem PySem.W PyProof.Rows PySem.Calls
set_option maxHeartbeats 1000000
namespace Mine
-- _law_refused
theorem fn_kept {h : Heap} {fa : Addr} {o : Obj} {M : Model} {fd : FuncData} (e : h.get? fa = some o) (hd : o.data = .func fd) : ∃ k, (k = Keeper.frame ∨ k = Keeper.machine ∨ k = Keeper.boundFrame) ∧ Looks M h (keeperOf (.ref fa)) k := by
  obtain ⟨oc, od, dt, sl⟩ := o
  obtain rfl : dt = _ := hd
  exact ⟨.frame, .inl rfl, (Looks.ld (part := none) e).andThen .now⟩
structure RS (c : Cx) (f : Fn) (g₀ : Heap) (L : Addr) (L0 : Led) (fa : Addr) (h g : Heap) (m : Str → Option Value) (news : Led) : Prop where
  fr : Fr g L h m
  nw : News g L h news
  turn : KtsTurn ((c.env f :: c.outer).filterMap (·.frame)) g₀ g
  bel : Below (c.A f) c.base (c.env f :: c.outer) g
  kin : c.K.In g
  top : Top topProg LO c.mean c.mg c.mb g
  dic : KtsDicts ((c.env f :: c.outer).filterMap (·.frame)) g
  sub : ∀ p ∈ L0, p ∈ news
  deed : m (Str.ofString "deed") = some (.ref fa)
theorem k_name : NameKind.local = .local := rfl
theorem refused_try {n : Nat} {x callee : Str} {ap : Pos} {lbody : Expr} {d : V} {f : Fn} {c : Cx} {g₀ : Heap} {L : Addr} {L0 : Led} {fa : Addr} {g : Heap} {m : Str → Option Value} {news : Led} {s : Shared} {v : Value} {Q : Flow → Shared → Prop} {tb : List Stmt} {p1 p2 p3 p4 p5 p6 p7 p8 : Pos}
    (hD : DeedE n x callee ap lbody d) (hroom : c.dp + 1 + n < 900) (hun : c.un + 3 + 8 * n < 9000) (XB : c.K.In c.base) (TB : Top topProg LO c.mean c.mg c.mb c.base) (hlam : IsLam L0 fa x callee ap lbody)
    (S : RS c f g₀ L L0 fa s.heap g m news) (hv : m (Str.ofString "name") = some v) (R : Rep news v d)
    (k : ∀ h' tk' g', RS c f g₀ L L0 fa h' g' m news → Q .next { s with heap := h', toks := tk' }) :
    wpAny (model pg c.w) ((c.into f g L).A φ_law_refused) (exec (.Try (.Expr (.Call (.Name (Str.ofString "deed") p1) [.Name (Str.ofString "name") p2] [] p3) p4 :: tb) [.ExceptHandler (some (.Name (Str.ofString "CodeError") p5)) none [.Pass p6] p7] [] [] p8) ((c.into f g L).env φ_law_refused)) Q (fun _ _ => False) s := by
  have ok : (c.into f g L).Ok φ_law_refused n := ⟨S.bel, S.kin, S.top, hroom, hun, F_law_refused.ok⟩
  have hl := hlam.mono S.sub
  refine wpAny_Try_except (wpAny_execs_cons (wpAny_Expr (Call_ (nameX_L S.fr S.deed ?_ rfl (by rfl) (by decide)) rfl) rfl rfl))
  obtain ⟨c', pm, ctv, oc, vs, t, hm, hc, hdd, hvq⟩ := id hl
  refine callWith_of (P := fun h => h.get? fa = some (kla_obj "<lambda>" lamQ (lamArgs x ap) lbody (φ_lam x callee 0 .none).scope [] pm c' ctv)) rfl (fun h e => fn_kept e rfl) ?_
  refine evalArgs_plain (Calls.spliced_cons (nameX_L S.fr hv ?_ rfl (by rfl) (by decide)))
  refine Calls.spliced_nil ⟨(S.nw _ hm).1, ?_⟩
  refine hD φ_law_refused (c.into f g L) s m news fa v _ _ ok S.fr S.nw hl R ?_
  intro e g₂ h' tk' Fr2 R2 U2
  refine kts_lookSN R2 Fr2 S.bel U2 S.dic fun h4 R4 U4 => ?_
  refine hit_SN0 R4 Fr2 S.bel U4 XB TB S.dic S.turn (test_name (.inl (G_CodeError c.w.params).1) (ex52 c.w.params) rfl (by rfl) (by decide)) fun h5 g5 T5 F5 N5 B5 X5 T5' D5 => ?_
  exact wpAny_execs_cons (wpAny_Pass (wpAny_execs_nil (k h5 tk' g5 ⟨F5, N5, T5, B5, X5, T5', D5, S.sub, S.deed⟩)))
end Mine
end

section
open PySem PySem.W PyProof.Rows PySem.Calls
set_option maxHeartbeats 1000000
namespace Mine
theorem RepL.at {news : Led} : ∀ {vs : List Value} {ds : List V}, RepL news vs ds → ∀ {i : Nat} {v : Value}, vs[i]? = some v → ∃ d ∈ ds, Rep news v d
  | [], [], _, _, _, e => by simp at e
  | u :: us, d :: ds, h, 0, v, e => by
    simp at e; subst e
    exact ⟨d, .head _, h.1⟩
  | u :: us, d :: ds, h, i + 1, v, e => by
    simp at e
    obtain ⟨d', hd', r⟩ := RepL.at h.2 e
    exact ⟨d', .tail _ hd', r⟩
theorem RS.upd {c : Cx} {f : Fn} {g₀ : Heap} {L : Addr} {L0 : Led} {fa : Addr} {h h' g : Heap} {m m' : Str → Option Value} {n1 n2 : Led} (S : RS c f g₀ L L0 fa h g m n1) (F : Fr g L h' m') (N : News g L h' n2) (hs : ∀ p ∈ L0, p ∈ n2) (hd : m' (Str.ofString "deed") = some (.ref fa)) : RS c f g₀ L L0 fa h' g m' n2 :=
  ⟨F, N, S.turn, S.bel, S.kin, S.top, S.dic, hs, hd⟩
theorem refused_ex {n : Nat} {x callee : Str} {ap : Pos} {lbody : Expr} {ds : List V} {f : Fn} {c : Cx} {g₀ : Heap} {L : Addr} {L0 : Led} {fa ln : Addr} {g : Heap} {m : Str → Option Value} {news : Led} {s : Shared} {vs : List Value} {kk : Nat} {Q : Flow → Shared → Prop} {E : Value → Shared → Prop}
    (hD : ∀ d ∈ ds, DeedE n x callee ap lbody d) (hroom : c.dp + 1 + n < 900) (hun : c.un + 3 + 8 * n < 9000) (XB : c.K.In c.base) (TB : Top topProg LO c.mean c.mg c.mb c.base) (hlam : IsLam L0 fa x callee ap lbody)
    (S : RS c f g₀ L L0 fa s.heap g m news) (hnames : m (Str.ofString "names") = some (.ref ln)) (hln : (ln, W.listOf (List.toArray vs) kk) ∈ L0) (R : RepL L0 vs ds)
    (k : ∀ h' tk' g' m' news', RS c f g₀ L L0 fa h' g' m' news' → Q (.ret (.bool true)) { s with heap := h', toks := tk' }) :
    wpAny (model pg c.w) ((c.into f g L).A φ_law_refused) (execs b_law_refused ((c.into f g L).env φ_law_refused)) Q E s := by
  refine wpAny_execs_cons (wpAny_mono (E := fun _ _ => False) (wpAny_For (nameX_L S.fr hnames ?_ rfl (by rfl) (by decide)) (fun _ => rfl)) (fun _ _ x => x) fun _ _ e => e.elim)
  have il : ∀ {h g m news}, RS c f g₀ L L0 fa h g m news → h.IsList ln vs.toArray := fun S => ⟨_, (S.nw _ (S.sub _ hln)).1, rfl, kk, rfl⟩
  refine wpAny_pyIter_list (il S) ?_
  let I := s.heap.objs.size
  refine codeAny_forLoop_any (fun k s' => ∃ h' tk' g' m' news' o i, s' = { s with heap := h', toks := tk' } ∧ RS c f g₀ L L0 fa h' g' m' ((I, o) :: news') ∧ (∀ p ∈ news', p.1 ≠ I) ∧ (∀ p ∈ L0, p ∈ news') ∧ o.cls = .type "list_iterator" ∧ o.data = .fields #[.ref ln, .int (i : Nat) 0] ∧ i ≤ vs.length ∧ k = vs.length + 1 - i) ?_ (vs.length + 1)
    ⟨_, s.toks, g, m, news, _, 0, rfl, S.upd (n2 := (I, { cls := .type "list_iterator", data := .fields #[.ref ln, .int 0 0] }) :: news) (S.fr.push _) (fun p hp => ?_) (fun p hp => .tail _ (S.sub p hp)) S.deed, fun p hp => Nat.ne_of_lt (Heap.lt_size (S.nw p hp).1), S.sub, rfl, rfl, Nat.zero_le _, rfl⟩
  · rintro j s' ⟨h', tk', g', m', news', o, i, rfl, S', hne, hs0, hc, hdd, hi, rfl⟩
    have hit : h'.IsListIter I ln i := ⟨o, (S'.nw _ (.head _)).1, hc, hdd⟩
    by_cases hlt : i < vs.length
    · refine wpAny_pyNext_list_item hit (il S') (x := vs[i]) (by simp [hlt]) fun h2 hit2 hsb => ?_
      refine letGo_listiter hit2 ?_
      obtain ⟨o', ho', hc', hd'⟩ := hit2
      obtain ⟨hI1, hI2⟩ := (S'.nw _ (.head _)).2
      have F2 : Fr g' L h2 m' := S'.fr.change hsb hI1 hI2
      have N2 : News g' L h2 ((I, o') :: news') := fun p hp => by
        rcases List.mem_cons.mp hp with rfl | hp
        · exact ⟨ho', hI1, hI2⟩
        · have P := S'.nw p (.tail _ hp)
          exact ⟨(hsb.2 _ (hne p hp)).trans P.1, P.2⟩
      refine assign_Name (storeX_L (m := m') F2 N2 (fun h3 F3 N3 => ?_) rfl (by rfl))
      obtain ⟨d, hd1, hR⟩ := R.at (i := i) (v := vs[i]) (by simp [hlt])
      refine wpAny_mono (E := fun _ _ => False) (wpAny_execs_cons (refused_try (g := g') (g₀ := g₀) (news := (I, o') :: news') (m := fun y => if y = Str.ofString "name" then some vs[i] else m' y) (hD d hd1) hroom hun XB TB hlam (S'.upd F3 N3 (fun p hp => .tail _ (hs0 p hp)) ((if_neg (by decide)).trans S'.deed)) (if_pos rfl) (hR.mono fun p hp => .tail _ (hs0 p hp)) fun h4 tk4 g4 S4 => ?_)) (fun _ _ x => x) fun _ _ e => e.elim
      refine wpAny_execs_nil ?_
      exact ⟨vs.length + 1 - (i + 1), by omega, h4, tk4, g4, _, news', o', i + 1, rfl, S4, hne, hs0, hc', hd', hlt, rfl⟩
    · have hin : i = vs.length := by omega
      subst hin
      refine wpAny_pyNext_list_end rfl hit (il S') (by simp) fun h2 hsb => wpAny_execs_nil ?_
      obtain ⟨hI1, hI2⟩ := (S'.nw _ (.head _)).2
      have F2 : Fr g' L h2 m' := ⟨S'.fr.ns.extBut hsb hI1.symm, fun b o' e => hsb b o' (fun q => by rw [q, hI2] at e; cases e) (S'.fr.keep b o' e), S'.fr.above⟩
      have N2 : News g' L h2 news' := fun p hp => by
        have P := S'.nw p (.tail _ hp)
        exact ⟨hsb _ _ (hne p hp) P.1, P.2⟩
      refine wpAny_execs_cons (wpAny_Return_some (wpAny_pure ?_))
      exact k h2 tk' g' m' news' (S'.upd F2 N2 hs0 S'.deed)
  · rcases List.mem_cons.mp hp with rfl | hp
    · exact (S.nw.push S.fr { cls := .type "list_iterator", data := .fields #[.ref ln, .int 0 0] }) _ (.head _)
    · exact ⟨Heap.get?_push_of_some _ (S.nw p hp).1, (S.nw p hp).2⟩
end Mine
end

section
open PySem PySem.W PyProof.Rows PySem.Calls
set_option maxHeartbeats 1000000
namespace Mine
theorem call_refused {n : Nat} {x callee : Str} {ap : Pos} {lbody : Expr} {ds : List V} {f : Fn} {c : Cx} {s : Shared} {m : Str → Option Value} {news : Led} {fa ln : Addr} {vs : List Value} {kk : Nat} {Q E : Value → Shared → Prop}
    (hD : ∀ d ∈ ds, DeedE n x callee ap lbody d) (ok : c.Ok f (n + 1)) (hout : c.outer = []) (hcl : c.cl = []) (hbase : c.base = c.h₀) (F : Fr c.h₀ c.L s.heap m) (N : News c.h₀ c.L s.heap news) (hl : IsLam news fa x callee ap lbody)
    (hln : (ln, W.listOf (List.toArray vs) kk) ∈ news) (R : RepL news vs ds)
    (P : ∀ h' tk' news', Fr c.h₀ c.L h' m → News c.h₀ c.L h' news' → (∀ p ∈ news, p ∈ news') → Q (.bool true) { s with heap := h', toks := tk' }) :
    wpAny (model pg c.w) (c.A f) (call (.ref 338) [.ref fa, .ref ln]) Q E s := by
  obtain ⟨w, mean, mg, mb, dp, un, gd, outer, A₀, base, h₀, L, cl⟩ := c
  dsimp only at hout hcl hbase F N P
  subst hout hcl hbase
  obtain ⟨oc, od, name, dV, kV, doc, pm, an, ct, osl, h1, h2, h3⟩ := F_law_refused.fact w.params
  have hmem : ∀ y ∈ [(Str.ofString "deed", Value.ref fa), (Str.ofString "names", Value.ref ln)], φ_law_refused.scope.names.lookup y.1 = some .local := fun y hy => by
    rcases List.mem_cons.mp hy with rfl | hy
    · rfl
    · rw [List.mem_singleton.mp hy]; rfl
  refine wpAny_call (code_defS0 (K := hd.heap_39 w.params) ok.below F ok.kin N ok.top rfl h1 h2 (by show dp < recursionLimit; have := ok.room; show dp < 1000; dsimp only at this; omega) (h3 s [.ref fa, .ref ln] (ok.kin.keeps F.keep) rfl) hmem (fun g L' h₁ Fg F' N' B' X' T' D' => ?_) rfl rfl rfl rfl F_law_refused.cells)
  refine refused_ex (c := ⟨w, mean, mg, mb, dp, un, gd, [], A₀, base, base, L, []⟩) (f := f) (g₀ := g) (L0 := news) (news := news) (g := g) (L := L') (fa := fa) (ln := ln) (m := fun y => [(Str.ofString "deed", Value.ref fa), (Str.ofString "names", Value.ref ln)].reverse.lookup y) hD
    (by have := ok.room; dsimp only at this ⊢; omega) (by have := ok.units; dsimp only at this ⊢; omega) ok.kin ok.top hl ⟨F', N', KtsTurn.refl, B', X', T', D', fun _ h => h, rfl⟩ rfl hln R fun h' tk' g' m' news' S' => ?_
  exact leaveS0_ S'.fr S'.nw S'.turn fun kF kN => P h' tk' news' kF kN S'.sub
end Mine
end

section
open PySem PySem.W PyProof.Rows PySem.Calls
set_option maxHeartbeats 1000000
namespace Mine
-- the deeds that are refused
section
variable {ap p q1 q2 q3 q4 q5 pos : Pos} {k2 k3 k4 k5 : Nat}
theorem deed_alu : ∀ d ∈ ([.str "end", .str "", .str "not", .str "sdiv"] : List V), DeedE 6 (Str.ofString "name") (Str.ofString "alu_worth") ap (.Call (.Name (Str.ofString "alu_worth") p) [.Name (Str.ofString "name") q1, .Constant (.int 1) k2 q2, .Constant (.int 2) k3 q3, .Constant (.int 64) k4 q4] [] pos) d := by
  intro d hd
  have one : ∀ op : Str, (op == ("add" : Str)) = false → (op == ("sub" : Str)) = false → (op == ("mul" : Str)) = false → (op == ("neg" : Str)) = false → (op == ("mov" : Str)) = false → (([("or" : Str), "and", "xor"] : List Str).any fun y => y == op) = false → (([("div" : Str), "mod"] : List Str).any fun y => y == op) = false →
      (([("lsh" : Str), "rsh", "arsh"] : List Str).any fun y => y == op) = false → op.length ≤ 100 → DeedE 6 (Str.ofString "name") (Str.ofString "alu_worth") ap (.Call (.Name (Str.ofString "alu_worth") p) [.Name (Str.ofString "name") q1, .Constant (.int 1) k2 q2, .Constant (.int 2) k3 q3, .Constant (.int 64) k4 q4] [] pos) (.str op) :=
    fun op h1 h2 h3 h4 h5 h6 h7 h8 hl => DeedE.of (by decide) (by decide) (by decide) fun c a cd => EvE.call G_alu_worth g1 (.cons (Ev.name l0) (.cons Ev.cint (.cons Ev.cint (.cons Ev.cint .nil)))) (alu_raise (k := 64) (.inr rfl) h1 h2 h3 h4 h5 h6 h7 h8 hl)
  simp only [List.mem_cons, List.not_mem_nil, or_false] at hd
  rcases hd with rfl | rfl | rfl | rfl
  all_goals exact one _ (by decide) (by decide) (by decide) (by decide) (by decide) (by decide) (by decide) (by decide) (by decide)
theorem deed_holds : ∀ d ∈ ([.str "ja", .str "sset", .str "seq", .str "exit"] : List V), DeedE 6 (Str.ofString "name") (Str.ofString "holds") ap (.Call (.Name (Str.ofString "holds") p) [.Name (Str.ofString "name") q1, .Constant (.int 1) k2 q2, .Constant (.int 2) k3 q3, .Constant (.int 64) k4 q4] [] pos) d := by
  intro d hd
  have one : ∀ op : Str, (op == ("eq" : Str)) = false → (op == ("ne" : Str)) = false → (op == ("set" : Str)) = false → (([("sgt" : Str), "sge", "slt", "sle"] : List Str).any fun y => y == op) = false → (op == ("gt" : Str)) = false → (op == ("ge" : Str)) = false → (op == ("lt" : Str)) = false → (op == ("le" : Str)) = false → op.length ≤ 100 →
      DeedE 6 (Str.ofString "name") (Str.ofString "holds") ap (.Call (.Name (Str.ofString "holds") p) [.Name (Str.ofString "name") q1, .Constant (.int 1) k2 q2, .Constant (.int 2) k3 q3, .Constant (.int 64) k4 q4] [] pos) (.str op) :=
    fun op h1 h2 h3 h4 h5 h6 h7 h8 hl => DeedE.of (by decide) (by decide) (by decide) fun c a cd => EvE.call G_holds g1 (.cons (Ev.name l0) (.cons Ev.cint (.cons Ev.cint (.cons Ev.cint .nil)))) (holds_raise (k := 64) (.inr rfl) h1 h2 h3 h4 h5 h6 h7 h8 hl)
  simp only [List.mem_cons, List.not_mem_nil, or_false] at hd
  rcases hd with rfl | rfl | rfl | rfl
  all_goals exact one _ (by decide) (by decide) (by decide) (by decide) (by decide) (by decide) (by decide) (by decide) (by decide)
theorem deed_swap : ∀ d ∈ ([.str "eb", .str ""] : List V), DeedE 6 (Str.ofString "name") (Str.ofString "swapped") ap (.Call (.Name (Str.ofString "swapped") p) [.Name (Str.ofString "name") q1, .Constant (.int 1) k2 q2, .Constant (.int 16) k3 q3] [] pos) d := by
  intro d hd
  have one : ∀ op : Str, (op == ("le" : Str)) = false → (([("be" : Str), "swap"] : List Str).any fun y => y == op) = false → op.length ≤ 100 →
      DeedE 6 (Str.ofString "name") (Str.ofString "swapped") ap (.Call (.Name (Str.ofString "swapped") p) [.Name (Str.ofString "name") q1, .Constant (.int 1) k2 q2, .Constant (.int 16) k3 q3] [] pos) (.str op) :=
    fun op h1 h2 hl => DeedE.of (by decide) (by decide) (by decide) fun c a cd => EvE.call G_swapped g1 (.cons (Ev.name l0) (.cons Ev.cint (.cons Ev.cint .nil))) (swap_raise_name (k := 16) (.inl rfl) h1 h2 hl)
  simp only [List.mem_cons, List.not_mem_nil, or_false] at hd
  rcases hd with rfl | rfl
  all_goals exact one _ (by decide) (by decide) (by decide)
theorem deed_bits : ∀ d ∈ ([.int 8, .int 24, .int 0] : List V), DeedE 6 (Str.ofString "bits") (Str.ofString "swapped") ap (.Call (.Name (Str.ofString "swapped") p) [.Constant (.str (Str.ofString "le")) k2 q1, .Constant (.int 1) k3 q2, .Name (Str.ofString "bits") q3] [] pos) d := by
  intro d hd
  have one : ∀ y : Int, (!([16, 32, 64] : List Int).any fun z => z == y) = true →
      DeedE 6 (Str.ofString "bits") (Str.ofString "swapped") ap (.Call (.Name (Str.ofString "swapped") p) [.Constant (.str (Str.ofString "le")) k2 q1, .Constant (.int 1) k3 q2, .Name (Str.ofString "bits") q3] [] pos) (.int y) :=
    fun y h => DeedE.of (by decide) (by decide) (by decide) fun c a cd => EvE.call G_swapped g1 (.cons Ev.cstr (.cons Ev.cint (.cons (Ev.name l0) .nil))) (swap_raise_bits h)
  simp only [List.mem_cons, List.not_mem_nil, or_false] at hd
  rcases hd with rfl | rfl | rfl
  all_goals exact one _ (by decide)
theorem deed_atomic : ∀ d ∈ ([.str "sub", .str "fetch_xchg", .str "fetch_"] : List V), DeedE 8 (Str.ofString "name") (Str.ofString "atomic_worth") ap (.Call (.Name (Str.ofString "atomic_worth") p) [.Name (Str.ofString "name") q1, .Constant (.int 1) k2 q2, .Constant (.int 2) k3 q3, .Constant (.int 1) k4 q4, .Constant (.int 8) k5 q5] [] pos) d := by
  intro d hd
  have one : ∀ (op u pl : Str) (t : Bool), (op == ("xchg" : Str)) = false → (op == ("cmpxchg" : Str)) = false → op.length ≤ 100 → Txt.slice op none (some 6) = u → (u == ("fetch_" : Str)) = t → (if t then Txt.slice op (some 6) none else op) = pl → (([("add" : Str), "or", "and", "xor"] : List Str).any fun y => y == pl) = false →
      DeedE 8 (Str.ofString "name") (Str.ofString "atomic_worth") ap (.Call (.Name (Str.ofString "atomic_worth") p) [.Name (Str.ofString "name") q1, .Constant (.int 1) k2 q2, .Constant (.int 2) k3 q3, .Constant (.int 1) k4 q4, .Constant (.int 8) k5 q5] [] pos) (.str op) :=
    fun op u pl t h1 h2 hl hu h3 hp hm => DeedE.of (by decide) (by decide) (by decide) fun c a cd => EvE.call G_atomic_worth g1 (.cons (Ev.name l0) (.cons Ev.cint (.cons Ev.cint (.cons Ev.cint (.cons Ev.cint .nil))))) (atom_raise (w := 8) (.inr rfl) h1 h2 hl hu h3 hp hm)
  simp only [List.mem_cons, List.not_mem_nil, or_false] at hd
  rcases hd with rfl | rfl | rfl
  · exact one "sub" _ "sub" false (by decide) (by decide) (by decide) rfl (by decide +kernel) rfl (by decide)
  · exact one "fetch_xchg" _ "xchg" true (by decide) (by decide) (by decide) rfl (by decide +kernel) (by decide +kernel) (by decide)
  · exact one "fetch_" _ "" true (by decide) (by decide) (by decide) rfl (by decide +kernel) (by decide +kernel) (by decide)
end
end Mine
end

section
open PySem PySem.W PyProof.Rows PySem.Calls
set_option maxHeartbeats 1000000
namespace Mine
-- comprehensions of two clauses
open PyProof.Rows.LCg in
section
variable {f : Fn} {c : Cx} {n : Nat} {sc : Scope} {cl : List (Str × Addr)} {ρ U : List (Option V)} {ρc : List (Str × V)} {m : Str → Option Value} {C D : Addr} {rest : Led} {acc : List Int} {s : Shared} {h : Heap} {tk : Nat}
theorem turn_two (elt t1 i1 t2 i2 : Expr) (scope : Scope) (pos : Pos) (it acc : Value) (env : Env) :
    compTurn (.ListComp elt [⟨t1, i1, [], 0⟩, ⟨t2, i2, [], 0⟩] scope pos) 0 it acc env = (standAt i1.pos >>= fun _ => pyNext it >>= fun r => match r with
      | none => pure (.done .next)
      | some v => letOwnedTupleGo t1 it v >>= fun _ => assign t1 env v >>= fun _ =>
        eval i2 env >>= fun x => standAt i2.pos >>= fun _ => foldedSetIterable i2 env x >>= fun x => holding [x] (pyIter x) >>= fun it2 => runOwn (.compStart (.ListComp elt [⟨t1, i1, [], 0⟩, ⟨t2, i2, [], 0⟩] scope pos) 1 it2 acc env) env >>= fun _ =>
          again (.compLoop (.ListComp elt [⟨t1, i1, [], 0⟩, ⟨t2, i2, [], 0⟩] scope pos) 0 it acc env)) := by rfl
theorem turn_two1 (elt t1 i1 t2 i2 : Expr) (scope : Scope) (pos : Pos) (it acc : Value) (env : Env) :
    compTurn (.ListComp elt [⟨t1, i1, [], 0⟩, ⟨t2, i2, [], 0⟩] scope pos) 1 it acc env = (standAt i2.pos >>= fun _ => pyNext it >>= fun r => match r with
      | none => pure (.done .next)
      | some v => letOwnedTupleGo t2 it v >>= fun _ => assign t2 env v >>= fun _ =>
        (eval elt env >>= fun x => call (.builtin "list.append") [acc, x] >>= fun _ => pure ()) >>= fun _ =>
          again (.compLoop (.ListComp elt [⟨t1, i1, [], 0⟩, ⟨t2, i2, [], 0⟩] scope pos) 1 it acc env)) := by rfl
theorem start_two {elt t1 i1 t2 i2 : Expr} {scope : Scope} {pos : Pos} {it acc : Value} {env : Env} {prog : Program} {w : World} {A : Around} {R : Result → Shared → Prop} {s : Shared}
    (h0 : codeAny (model prog w) A (.compLoop (.ListComp elt [⟨t1, i1, [], 0⟩, ⟨t2, i2, [], 0⟩] scope pos) 1 it acc env) R s)
    (h : wpAny (model prog w) A (pyIter it) (fun it' s' => codeAny (model prog w) A (.compLoop (.ListComp elt [⟨t1, i1, [], 0⟩, ⟨t2, i2, [], 0⟩] scope pos) 1 it' acc env) R s') (notedBy (model prog w) A env fun x s' => R (.error x) s') s) :
    codeAny (model prog w) A (.compStart (.ListComp elt [⟨t1, i1, [], 0⟩, ⟨t2, i2, [], 0⟩] scope pos) 1 it acc env) R s := by
  refine codeAny_of_tree ?_
  show wpAny _ _ ((compStart (.ListComp elt [⟨t1, i1, [], 0⟩, ⟨t2, i2, [], 0⟩] scope pos) 1 it acc env).onRaise (fun x => do noteFrame x env; standAt theWindowsPlace)) _ _ s
  refine wpAny_notedAt ?_
  unfold compStart
  show wpAny _ _ (ask >>= _) _ _ s
  refine wpAny_bind (wpAny_askSetting (wpAny_ite ?_))
  split
  · first
      | exact wpAny_bind (wpAny_pure (wpAny_pure (And.intro rfl h0)))
      | exact wpAny_pure (And.intro rfl h0)
  · first
      | exact wpAny_bind (wpAny_rule (wpAny_bind (wpAny_standAt (wpAny_bind (wpAny_mono h (fun it' s' h' => wpAny_pure (And.intro rfl h')) fun _ _ x => x)))))
      | exact wpAny_bind (wpAny_rule (wpAny_bind (wpAny_mono h (fun it' s' h' => wpAny_pure (And.intro rfl h')) fun _ _ x => x)))
abbrev bodyTwo (f : Fn) (c : Cx) (e i2 : Expr) (env : Env) (D : Addr) : (Shared → Prop) → (Value → Shared → Prop) → Shared → Prop := fun K E s₃ =>
  wpAny (model pg c.w) (c.A f) (eval i2 env) (fun xv s₄ => wpAny (model pg c.w) (c.A f) (pyIter xv) (fun it2 s₅ => codeAny (model pg c.w) (c.A f) (.compStart e 1 it2 (.ref D) env) (fun r s' => match r with | .ok _ => K s' | .error x => cameBackBy (model pg c.w) (c.A f) env E x s') s₅) E s₄) E s₃
theorem htr_two {elt t1 i1 t2 i2 : Expr} {scope : Scope} {pos : Pos} {I : Addr} {env : Env} (hs : ∀ x, foldedSetIterable i2 env x = pure x) (s : Shared) (R : PySem.Fin → Shared → Prop) (E₀ : Value → Shared → Prop)
    (h : wpAny (model pg c.w) (c.A f) (pyNext (.ref I)) (fun r s₁ => match r with
      | none => R (.done .next) s₁
      | some v => wpAny (model pg c.w) (c.A f) (letOwnedTupleGo t1 (.ref I) v) (fun _ s₂ => wpAny (model pg c.w) (c.A f) (assign t1 env v) (fun _ s₃ => bodyTwo f c (.ListComp elt [⟨t1, i1, [], 0⟩, ⟨t2, i2, [], 0⟩] scope pos) i2 env D (fun s₄ => R (.again (.compLoop (.ListComp elt [⟨t1, i1, [], 0⟩, ⟨t2, i2, [], 0⟩] scope pos) 0 (.ref I) (.ref D) env)) s₄) E₀ s₃) E₀ s₂) E₀ s₁) E₀ s) :
    wpAny (model pg c.w) (c.A f) (compTurn (.ListComp elt [⟨t1, i1, [], 0⟩, ⟨t2, i2, [], 0⟩] scope pos) 0 (.ref I) (.ref D) env) R E₀ s := by
  rw [turn_two]
  refine wpAny_bind (wpAny_standAt (wpAny_bind (wpAny_mono h (fun r s₁ h₁ => ?_) fun _ _ h' => h')))
  cases r with
  | none => exact wpAny_pure h₁
  | some v =>
    refine wpAny_bind (wpAny_mono h₁ (fun _ s₂ h₂ => wpAny_bind (wpAny_mono h₂ (fun _ s₃ h₃ => wpAny_bind (wpAny_mono h₃ (fun x s₄ h₄ => ?_) fun _ _ h' => h')) fun _ _ h' => h')) fun _ _ h' => h')
    refine wpAny_bind (wpAny_standAt (wpAny_bind (wpAny_of_eq (hs x) (wpAny_bind (wpAny_holding (wpAny_mono h₄ (fun it2 s₅ h₅ => ?_) fun _ _ h' => h'))))))
    refine wpAny_bind (wpAny_runOwn (h := none) (codeAny_mono h₅ fun r s' hr => ?_))
    cases r with
    | error x => exact hr
    | ok fl => exact wpAny_pure hr
theorem htr_two1 {elt t1 i1 t2 i2 : Expr} {scope : Scope} {pos : Pos} {I : Addr} {env : Env} (s : Shared) (R : PySem.Fin → Shared → Prop) (E₀ : Value → Shared → Prop)
    (h : wpAny (model pg c.w) (c.A f) (pyNext (.ref I)) (fun r s₁ => match r with
      | none => R (.done .next) s₁
      | some v => wpAny (model pg c.w) (c.A f) (letOwnedTupleGo t2 (.ref I) v) (fun _ s₂ => wpAny (model pg c.w) (c.A f) (assign t2 env v) (fun _ s₃ => bodyPlain f c elt env D (fun s₄ => R (.again (.compLoop (.ListComp elt [⟨t1, i1, [], 0⟩, ⟨t2, i2, [], 0⟩] scope pos) 1 (.ref I) (.ref D) env)) s₄) E₀ s₃) E₀ s₂) E₀ s₁) E₀ s) :
    wpAny (model pg c.w) (c.A f) (compTurn (.ListComp elt [⟨t1, i1, [], 0⟩, ⟨t2, i2, [], 0⟩] scope pos) 1 (.ref I) (.ref D) env) R E₀ s := by
  rw [turn_two1]
  refine wpAny_bind (wpAny_standAt (wpAny_bind (wpAny_mono h (fun r s₁ h₁ => ?_) fun _ _ h' => h')))
  cases r with
  | none => exact wpAny_pure h₁
  | some v =>
    exact wpAny_bind (wpAny_mono h₁ (fun _ s₂ h₂ => wpAny_bind (wpAny_mono h₂ (fun _ s₃ h₃ => wpAny_bind (wpAny_bind (wpAny_mono h₃ (fun x s₄ h₄ => wpAny_bind (wpAny_mono h₄ (fun _ s₅ h₅ => wpAny_pure (wpAny_pure h₅)) fun _ _ h' => h')) fun _ _ h' => h'))) fun _ _ h' => h')) fun _ _ h' => h')
end
end Mine
end

section
open PySem PySem.W PyProof.Rows PySem.Calls
set_option maxHeartbeats 1000000
namespace Mine
open PyProof.Rows.LCg in
section
variable {f : Fn} {c : Cx} {n : Nat} {sc : Scope} {cl : List (Str × Addr)} {ρc : List (Str × V)} {m : Str → Option Value} {s : Shared}
def accO (g : Nat → Nat → Int) : Nat → List Int
  | 0 => []
  | i + 1 => accO g i ++ [g i 0, g i 1]
theorem accO_len (g : Nat → Nat → Int) : ∀ i, (accO g i).length = 2 * i
  | 0 => rfl
  | i + 1 => by
    show (accO g i ++ [_, _]).length = _
    rw [List.length_append, accO_len g i]; show 2 * i + 2 = _; omega
/-- the inner clause: two truths -/
theorem comp_inner {elt t1 i1 : Expr} {y : Str} {yp lp p1 p2 : Pos} {k1 k2 : Nat} {b : Nat → Bool} {scope : Scope} {pos : Pos} {U : List (Option V)} {U2 : Nat → List (Option V)} {g : Nat → Int} {acc : List Int} {rest : Led} {C D : Addr} {h₁ : Heap} {tk₁ : Nat} {K : Shared → Prop} {E' : Value → Shared → Prop}
    (ok : c.Ok f n) (co : CompOk f c sc cl scope) (hc : KCells cl ρc rest) (ad : CompAd c C D rest) (a : CompAt c m sc C D rest U acc h₁) (hput : ∀ j, Put sc.names U y (.bool (b j)) (U2 j)) (hless : ∀ j, Less U (U2 j)) (hl : acc.length ≤ 900)
    (he : ∀ j, j < 2 → EvK f c n sc cl (U2 j) ρc elt (.int (g j))) (k : ∀ h' tk', CompAt c m sc C D rest U (acc ++ [g 0, g 1]) h' → K { s with heap := h', toks := tk' }) :
    bodyTwo f c (.ListComp elt [⟨t1, i1, [], 0⟩, ⟨.Name y yp, .List [.Constant (.bool (b 0)) k1 p1, .Constant (.bool (b 1)) k2 p2] lp, [], 0⟩] scope pos) (.List [.Constant (.bool (b 0)) k1 p1, .Constant (.bool (b 1)) k2 p2] lp) (kenv c f sc cl C) D K E' { s with heap := h₁, toks := tk₁ } := by
  obtain ⟨oC, ys, m₂, hoC, S, hi, N, KS⟩ := comp_in ad a hc
  refine List_ ((EvLK.cons (ρ := U) (ρc := ρc) EvK.cbool (EvLK.cons EvK.cbool .nil)) lp { s with heap := h₁, toks := tk₁ } m C _ _ E' ok co.ok a.fr N KS fun vs h2 t2 led F2 N2 s2 R2 => ?_)
  obtain ⟨v1, v2, rfl, R1, R3⟩ := R2.two
  cases R1; cases R3
  refine newList_K F2 N2 (fun l h3 F3 N3 lt => ?_) (by rw [sizeLine_eq]; simp)
  have hm : (l, W.listOf [Value.bool (b 0), Value.bool (b 1)].toArray 0) ∈ (l, W.listOf [Value.bool (b 0), Value.bool (b 1)].toArray 0) :: led := .head _
  have hlist : h3.IsList l [Value.bool (b 0), Value.bool (b 1)].toArray := ⟨_, (N3 _ hm).1, rfl, 0, rfl⟩
  have hlt : l < h3.objs.size := Heap.lt_size (N3 _ hm).1
  have hne : l ≠ h3.objs.size := Nat.ne_of_lt hlt
  refine wpAny_pyIter_list (s := { s with heap := h3, toks := t2 }) hlist ?_
  let I := h3.objs.size
  let rest2 : Led := (l, W.listOf [Value.bool (b 0), Value.bool (b 1)].toArray 0) :: rest
  have hC : (C, oC) ∈ led := s2 _ (.head _)
  have hD : (D, lst ys) ∈ led := s2 _ (.tail _ (.head _))
  have hCl : C < l := lt _ hC
  have hDl : D < l := lt _ hD
  have F4 : Fr c.h₀ c.L (h3.push { cls := .type "list_iterator", data := .fields #[.ref l, .int 0 0] }) m := F3.push _
  have N4 : ∀ p ∈ (l, W.listOf [Value.bool (b 0), Value.bool (b 1)].toArray 0) :: led, (h3.push { cls := .type "list_iterator", data := .fields #[.ref l, .int 0 0] }).get? p.1 = some p.2 := fun p hp => Heap.get?_push_of_some _ (N3 p hp).1
  have ad2 : CompAd c C D rest2 := ⟨fun p hp => (List.mem_cons.mp hp).elim (fun e => by rw [e]; exact Nat.ne_of_gt hCl) (ad.offC p), fun p hp => (List.mem_cons.mp hp).elim (fun e => by rw [e]; exact Nat.ne_of_gt hDl) (ad.offD p), ad.CD, ad.CL, ad.DL, ad.C0, ad.D0⟩
  have at2 : CompAt c m sc C D rest2 U acc (h3.push { cls := .type "list_iterator", data := .fields #[.ref l, .int 0 0] }) := ⟨F4, fun p hp => by
    rcases List.mem_cons.mp hp with rfl | hp
    · exact ⟨N4 _ (.head _), (N3 _ (.head _)).2⟩
    · have hp' := s2 p (.tail _ (.tail _ hp))
      exact ⟨N4 _ (.tail _ hp'), (N3 _ (.tail _ hp')).2⟩, ⟨ys, N4 _ (.tail _ hD), hi⟩, m₂, hoC.ns (N4 _ (.tail _ hC)), S⟩
  have st2 : (h3.push { cls := .type "list_iterator", data := .fields #[.ref l, .int 0 0] }).IsListIter I l 0 ∧ (h3.push { cls := .type "list_iterator", data := .fields #[.ref l, .int 0 0] }).IsList l [Value.bool (b 0), Value.bool (b 1)].toArray := ⟨⟨_, Heap.get?_push_size _ rfl, rfl, rfl⟩, hlist.at fun o e => Heap.get?_push_of_some _ e⟩
  have go : codeAny (model pg c.w) (c.A f) (.compLoop (.ListComp elt [⟨t1, i1, [], 0⟩, ⟨.Name y yp, .List [.Constant (.bool (b 0)) k1 p1, .Constant (.bool (b 1)) k2 p2] lp, [], 0⟩] scope pos) 1 (.ref I) (.ref D) (kenv c f sc cl C))
      (fun r s' => match r with | .ok _ => K s' | .error x => cameBackBy (model pg c.w) (c.A f) (kenv c f sc cl C) E' x s') { s with heap := h3.push { cls := .type "list_iterator", data := .fields #[.ref l, .int 0 0] }, toks := t2 } := by
    refine comp_loop (BodyWp := bodyPlain f c elt (kenv c f sc cl C) D) (fun s R E₀ h => htr_two1 s R E₀ h) (KTurns.ofWalks (Walks.list (prog := pg) (w := c.w) (A := c.A f) rfl I l hne [Value.bool (b 0), Value.bool (b 1)].toArray) fun i v s Q E st q => letGo_listiter st.1 q) ad2 ?_ ?_ ?_ ?_ ?_ (acc := fun j => acc ++ accF g j) st2 (by rw [show acc ++ accF g 0 = acc from List.append_nil _]; exact at2) ?_ ?_
    · intro hI
      have hb' : C = I ∨ C = l := by simpa using hI
      rcases hb' with e | e
      · exact absurd (Nat.lt_trans hCl hlt) (e ▸ Nat.lt_irrefl _)
      · exact absurd hCl (e ▸ Nat.lt_irrefl _)
    · intro hI
      have hb' : D = I ∨ D = l := by simpa using hI
      rcases hb' with e | e
      · exact absurd (Nat.lt_trans hDl hlt) (e ▸ Nat.lt_irrefl _)
      · exact absurd hDl (e ▸ Nat.lt_irrefl _)
    · intro hI
      have hb' : c.L = I ∨ c.L = l := by simpa using hI
      rcases hb' with e | e
      · exact absurd F3.ns.lt (e ▸ Nat.lt_irrefl _)
      · exact (N3 _ hm).2.1 e.symm
    · intro q hq
      rw [List.mem_singleton.mp hq]
      exact next_is_new F3
    · intro p hp hI
      have e : p.1 = I := List.mem_singleton.mp hI
      rcases List.mem_cons.mp hp with rfl | hp
      · exact absurd hlt ((show l = I from e) ▸ Nat.lt_irrefl _)
      · have := Heap.lt_size (N3 p (.tail _ (s2 p (.tail _ (.tail _ hp))))).1
        exact absurd this (e ▸ Nat.lt_irrefl _)
    · intro j v h5 tk5 own hj hP ad5 a5 K5 E5 k5
      have hv : [Value.bool (b 0), Value.bool (b 1)][j]? = some v := by simpa using hP
      have hj2 : j < 2 := by simpa using hj
      have hrep : Rep [] v (.bool (b j)) := by
        match j, hj2, hv with
        | 0, _, hv => exact (show v = Value.bool (b 0) by simpa using hv.symm)
        | 1, _, hv => exact (show v = Value.bool (b 1) by simpa using hv.symm)
      refine comp_assign co.ok ad5 a5 (hput j) hrep fun h6 t6 a6 => ?_
      refine comp_emit ok co.ok ad5 a6 (hc.mono fun p hp => List.mem_append_right _ (.tail _ hp)) (he j hj2) (by rw [List.length_append, accF_len]; omega) fun h7 t7 a7 => k5 h7 t7 ?_
      have e : acc ++ accF g (j + 1) = acc ++ accF g j ++ [g j] := by rw [List.append_assoc]; rfl
      rw [e]
      exact a7.less (hless j)
    · intro h'' tk a9
      refine k h'' tk ⟨a9.fr, fun p hp => a9.nw p (.tail _ hp), ?_, a9.ns⟩
      exact a9.dd
  exact start_two go (wpAny_pyIter_listiter st2.1 go)
theorem comp_list2 {elt iter : Expr} {x y : Str} {xp yp lp p1 p2 : Pos} {k1 k2 : Nat} {b : Nat → Bool} {scope : Scope} {pos : Pos} {ds : List V} {g : Nat → Nat → Int} {U : Nat → List (Option V)} {U2 : Nat → Nat → List (Option V)} {led : Led} {Q E : Value → Shared → Prop}
    (ok : c.Ok f n) (co : CompOk f c sc cl scope)
    (hit : ∀ (Q' E' : Value → Shared → Prop), (∀ ax vs k h' tk' led', Fr c.h₀ c.L h' m → News c.h₀ c.L h' led' → (∀ p ∈ led, p ∈ led') → (ax, W.listOf (List.toArray vs) k) ∈ led' → (vs.length = ds.length) → (∀ (i : Nat) v, vs[i]? = some v → Rep [] v (ds.getD i .none)) → Q' (.ref ax) { s with heap := h', toks := tk' }) →
      wpAny (model pg c.w) (c.A f) (eval iter (c.env f)) Q' E' s)
    (hc : KCells cl ρc led) (hput : ∀ i, Put sc.names (no sc) x (ds.getD i .none) (U i)) (hput2 : ∀ i j, Put sc.names (U i) y (.bool (b j)) (U2 i j)) (hless : ∀ i j, Less (U i) (U2 i j)) (hl : ds.length ≤ 400) (he : ∀ i j, i < ds.length → j < 2 → EvK f c n sc cl (U2 i j) ρc elt (.int (g i j)))
    (P : Post c s m led Q (.li (accO g ds.length))) (hs : ∀ x, foldedSetIterable iter (c.env f) x = pure x) (hs2 : ∀ C x, foldedSetIterable (.List [.Constant (.bool (b 0)) k1 p1, .Constant (.bool (b 1)) k2 p2] lp) (kenv c f sc cl C) x = pure x) :
    wpAny (model pg c.w) (c.A f) (eval (.ListComp elt [⟨.Name x xp, iter, [], 0⟩, ⟨.Name y yp, .List [.Constant (.bool (b 0)) k1 p1, .Constant (.bool (b 1)) k2 p2] lp, [], 0⟩] scope pos) (c.env f)) Q E s := by
  refine comp_eval (m := m) co.clos co.rel co.fn co.names co.cell hs (hit _ _ fun ax vs kk h1 t1 led' F N hsub hm hlen hrep => ?_)
  have hlist : h1.IsList ax vs.toArray := ⟨_, (N _ hm).1, rfl, kk, rfl⟩
  have hlt : ax < h1.objs.size := Heap.lt_size (N _ hm).1
  have hne : ax ≠ h1.objs.size := Nat.ne_of_lt hlt
  refine wpAny_pyIter_list (s := { s with heap := h1, toks := t1 }) hlist ?_
  refine ⟨h1.objs.size, [h1.objs.size, ax], fun h => h.IsListIter h1.objs.size ax 0 ∧ h.IsList ax vs.toArray, led', accO g ds.length, rfl, fun s' Q' E' st q => wpAny_pyIter_listiter st.1 q, fun h h' st hk => ⟨st.1.at fun o e => hk _ (by simp) o e, st.2.at fun o e => hk _ (by simp) o e⟩,
    ⟨⟨_, Heap.get?_push_size _ rfl, rfl, rfl⟩, hlist.at fun o e => Heap.get?_push_of_some _ e⟩, fun b hb => ?_, F.push _, fun p hp => ⟨Heap.get?_push_of_some _ (N p hp).1, (N p hp).2⟩, ?_, ?_⟩
  · have hb' : b = h1.objs.size ∨ b = ax := by simpa using hb
    show b < (h1.push _).objs.size
    rw [Heap.size_push]
    rcases hb' with rfl | rfl
    · exact Nat.lt_succ_self _
    · exact Nat.lt_succ_of_lt hlt
  · intro C D h' t' R ad a0 hC hD st hR
    refine comp_loop (BodyWp := bodyTwo f c (.ListComp elt [⟨.Name x xp, iter, [], 0⟩, ⟨.Name y yp, .List [.Constant (.bool (b 0)) k1 p1, .Constant (.bool (b 1)) k2 p2] lp, [], 0⟩] scope pos) (.List [.Constant (.bool (b 0)) k1 p1, .Constant (.bool (b 1)) k2 p2] lp) (kenv c f sc cl C) D) (fun s R E₀ h => htr_two (hs2 C) s R E₀ h) (KTurns.ofWalks (Walks.list (prog := pg) (w := c.w) (A := c.A f) rfl h1.objs.size ax hne vs.toArray) fun i v s Q E st q => letGo_listiter st.1 q) ad hC hD ?_ ?_ ?_ (acc := accO g) st a0 ?_ ?_
    · intro hI
      have hb' : c.L = h1.objs.size ∨ c.L = ax := by simpa using hI
      rcases hb' with e | e
      · exact absurd F.ns.lt (e ▸ Nat.lt_irrefl _)
      · exact (N _ hm).2.1 e.symm
    · intro b hb
      rw [List.mem_singleton.mp hb]
      exact next_is_new F
    · intro p hp hI
      exact absurd (Heap.lt_size (N p hp).1) ((List.mem_singleton.mp hI) ▸ Nat.lt_irrefl _)
    · intro i v h₁ tk₁ own hi hP ad' a K E' k
      have hv : vs[i]? = some v := by simpa using hP
      have hil : i < ds.length := by rw [← hlen]; simpa using hi
      refine comp_assign co.ok ad' a (hput i) (hrep i v hv) fun h2 t2 a2 => ?_
      exact comp_inner (g := g i) (U2 := U2 i) ok co (hc.mono fun p hp => List.mem_append_right _ (hsub p hp)) ad' a2 (hput2 i) (hless i) (by rw [accO_len]; omega) (fun j hj => he i j hil hj) fun h3 t3 a3 => k h3 t3 a3.toNo
    · intro h'' tk a
      have e : vs.toArray.size = ds.length := by simp [hlen]
      rw [e] at a
      exact hR h'' tk a
  · intro D h' tk ys F' N' hi
    exact P _ h' tk _ F' N' (fun p hp => .tail _ (hsub p hp)) ⟨D, ys, ys.length, rfl, .head _, hi⟩
end
end Mine
end

section
open PySem PySem.W PyProof.Rows PySem.Calls
set_option maxHeartbeats 1000000
namespace Mine
section
variable {f : Fn} {c : Cx} {n : Nat} {ρ : List (Option V)} {ρc : List (Str × V)} {g : G}
def EvLC (f : Fn) (c : Cx) (n : Nat) (ρ : List (Option V)) (ρc : List (Str × V)) (es : List Expr) (ds : List V) : Prop :=
  ∀ (pos : Pos) (s : Shared) (m : Str → Option Value) (news : Led) (Q : List Value → Shared → Prop) (E : Value → Shared → Prop), c.Ok f n → Fr c.h₀ c.L s.heap m → News c.h₀ c.L s.heap news → Sees f.names ρ m news → KCells c.cl ρc news → PostL c s m news Q ds →
    wpAny (model pg c.w) (c.A f) (spliced (backTo pos (starEach es (c.env f)))) Q E s
theorem EvLC.nil : EvLC f c n ρ ρc [] [] := fun pos s m news Q E ok F N S K P => spliced_none (P [] s.heap s.toks news F N (fun _ h => h) trivial)
theorem EvLC.cons {e : Expr} {es : List Expr} {d : V} {ds : List V} (h1 : EvC f c n ρ ρc e d) (h2 : EvLC f c n ρ ρc es ds) (he : ∀ env, starEach (e :: es) env = (false, eval e env) :: starEach es env := by intro _; rfl) : EvLC f c n ρ ρc (e :: es) (d :: ds) :=
  fun pos s m news Q E ok F N S K P => spliced_more (h1 s m news _ E ok F N S K fun v h' t' n' F' N' s' R =>
    h2 pos _ m n' _ E ok F' N' (S.mono s') (K.mono s') fun vs h3 t3 n3 F3 N3 s3 R3 => P (v :: vs) h3 t3 n3 F3 N3 (fun p hp => s3 p (s' p hp)) ⟨R.mono s3, R3⟩) (he _)
theorem ExC.thenFC {l r : Expr} {op : CmpOp} {p0 : Pos} {a b d : V} {A rr : List Stmt} {pos : Pos} {o : Out} (hl : EvC f c n ρ ρc l a) (hr : EvC f c n ρ ρc r b) (ho : Op2 (compareOp op) a b d) (ht : d.truth false) (h1 : ExC f c n ρ ρc .none rr o) (hb : behindInMarks op r = false := by rfl) : ExC f c n ρ ρc g (.If (.Compare l [op] [r] p0) A [] pos :: rr) o :=
  fun s m rest gl Q E ok F N G S K P => wpAny_execs_cons (wpAny_If (wpAny_isTrue_Compare1 (hl s m _ _ E ok F N S.gl K fun v ha ta na Fa Na sa Ra =>
    hr _ m na _ E ok Fa Na (S.gl.mono sa) (K.mono sa) fun u h2 t2 n2 F2 N2 s2 R2 =>
      ho f c _ m n2 v u _ E (by have := ok.units; omega) F2 N2 (Ra.mono s2) R2 fun w h3 t3 n3 F3 N3 s3 R3 => truthy_V ht R3 (by
        have hs : ∀ p ∈ gl ++ rest, p ∈ n3 := fun p hp => s3 p (s2 p (sa p hp))
        exact wpAny_execs_nil (h1 _ m n3 [] _ E ok F3 N3 rfl (S.gl.mono hs) (K.mono hs) (P.sub (fun p hp => hs p (List.mem_append_right _ hp)) _ _)))) hb))
end
abbrev scE1 : Scope := { kind := .function, names := [(Str.ofString ".0", .local), (Str.ofString "op", .local), (Str.ofString "alu_worth", .globalImplicit), (Str.ofString "all_ones", .free), (Str.ofString "least", .free), (Str.ofString "size", .free)], isGenerator := false, isCoroutine := false }
abbrev scE1' : Scope := { kind := .function, names := [(Str.ofString ".0", .local), (Str.ofString "op", .local), (Str.ofString "alu_worth", .globalImplicit), (Str.ofString "all_ones", .cell), (Str.ofString "least", .cell), (Str.ofString "size", .cell)], isGenerator := false, isCoroutine := false }
abbrev scE2 : Scope := { kind := .function, names := [(Str.ofString ".0", .local), (Str.ofString "op", .local), (Str.ofString "way", .local), (Str.ofString "alu_worth", .globalImplicit), (Str.ofString "size", .free)], isGenerator := false, isCoroutine := false }
abbrev scE2' : Scope := { kind := .function, names := [(Str.ofString ".0", .local), (Str.ofString "op", .local), (Str.ofString "way", .local), (Str.ofString "alu_worth", .globalImplicit), (Str.ofString "size", .cell)], isGenerator := false, isCoroutine := false }
abbrev clE (a1 a2 a3 : Addr) : List (Str × Addr) := [(Str.ofString "all_ones", a3), (Str.ofString "least", a2), (Str.ofString "size", a1)]
theorem co_E1 {c : Cx} {a1 a2 a3 : Addr} (h : c.cl = clE a1 a2 a3) : CompOk φ_law_edges_right c scE1' [(Str.ofString "size", a1), (Str.ofString "least", a2), (Str.ofString "all_ones", a3)] scE1 := by
  obtain ⟨w, mean, mg, mb, dp, un, gd, outer, A₀, base, h₀, L, cl⟩ := c
  dsimp only at h
  subst h
  exact ⟨rfl, rfl, rfl, by decide, by decide, ⟨by decide, by decide, rfl⟩⟩
theorem co_E2 {c : Cx} {a1 a2 a3 : Addr} (h : c.cl = clE a1 a2 a3) : CompOk φ_law_edges_right c scE2' [(Str.ofString "size", a1)] scE2 := by
  obtain ⟨w, mean, mg, mb, dp, un, gd, outer, A₀, base, h₀, L, cl⟩ := c
  dsimp only at h
  subst h
  exact ⟨rfl, rfl, rfl, by decide, by decide, ⟨by decide, by decide, rfl⟩⟩
end Mine
end

section
open PySem PySem.W PyProof.Rows PySem.Calls
set_option maxHeartbeats 1000000
namespace Mine
section
variable {k : Nat}
abbrev eL (k : Nat) : Int := 2 ^ ((k : Int) - 1).toNat
abbrev eA (k : Nat) : Int := 2 ^ ((k : Int)).toNat - 1
theorem e_div (hk : Sz k) : aluV "div" (eL k) (eA k) k true % 2 ^ k = eL k := by rcases hk with rfl | rfl <;> decide +kernel
theorem e_mod (hk : Sz k) : aluV "mod" (eL k) (eA k) k true % 2 ^ k = 0 := by rcases hk with rfl | rfl <;> decide +kernel
abbrev eB (k : Nat) : Int := 2 ^ (k : Int).toNat
abbrev eC : Int := 2 ^ (70 : Int).toNat + 5
theorem e_div2 (hk : Sz k) (s : Bool) : aluV "div" eC (eB k) k s % 2 ^ k = 0 := by cases s <;> rcases hk with rfl | rfl <;> decide +kernel
theorem e_mod2 (hk : Sz k) (s : Bool) : aluV "mod" eC (eB k) k s % 2 ^ k = 5 := by cases s <;> rcases hk with rfl | rfl <;> decide +kernel
abbrev ρcE (k : Nat) : List (Str × V) := [(Str.ofString "size", .int (k : Int)), (Str.ofString "least", .int (eL k)), (Str.ofString "all_ones", .int (eA k))]
theorem strs_at {vs : List Value} {l : List Str} (h : StrsAre vs l) {i : Nat} {v : Value} (hv : vs[i]? = some v) : Rep [] v ((l.map V.str).getD i .none) := by
  have hi : i < vs.length := by
    rcases Nat.lt_or_ge i vs.length with q | q
    · exact q
    · rw [List.getElem?_eq_none q] at hv; cases hv
  have hl : i < l.length := by rw [← strs_len h]; exact hi
  obtain ⟨t, ht⟩ := h.get i l[i] (by simp [hl])
  rw [hv] at ht
  have e : (l.map V.str).getD i .none = .str l[i] := by simp [List.getD, hl]
  rw [e]
  exact ⟨t, Option.some.inj ht⟩
/-- a list of written texts, gone through -/
theorem hit_strs {f : Fn} {c : Cx} {n : Nat} {ρ : List (Option V)} {es : List Expr} {l : List Str} {lp : Pos} (h : EvS f c n ρ es l) (hl : l.length ≤ 1000) {s : Shared} {m : Str → Option Value} {led : Led} (ok : c.Ok f n) (F : Fr c.h₀ c.L s.heap m) (N : News c.h₀ c.L s.heap led) (S : Sees f.names ρ m led) (Q' E' : Value → Shared → Prop)
    (q : ∀ ax vs k h' tk' led', Fr c.h₀ c.L h' m → News c.h₀ c.L h' led' → (∀ p ∈ led, p ∈ led') → (ax, W.listOf (List.toArray vs) k) ∈ led' → (vs.length = (l.map V.str).length) → (∀ (i : Nat) v, vs[i]? = some v → Rep [] v ((l.map V.str).getD i .none)) → Q' (.ref ax) { s with heap := h', toks := tk' }) :
    wpAny (model pg c.w) (c.A f) (eval (.List es lp) (c.env f)) Q' E' s :=
  (Ev.slist h hl) s m led Q' E' ok F N S fun v h' tk led' F' N' s' R => by
    obtain ⟨ax, vs, k, rfl, hm, hi⟩ := R
    exact q ax vs k h' tk led' F' N' s' hm (by rw [List.length_map, strs_len hi]) fun i v hv => strs_at hi hv
abbrev dm : List V := ([Str.ofString "div", Str.ofString "mod"] : List Str).map V.str
theorem comp1_ev (hk : Sz k) {c : Cx} {a1 a2 a3 : Addr} (hcl : c.cl = clE a1 a2 a3) {q1 q2 q3 q4 q5 q6 q7 q8 q9 q10 q11 q12 : Pos} {k1 k2 k3 : Nat} : EvC φ_law_edges_right c 5 [none, none, none] (ρcE k)
    (.ListComp (.Call (.Name (Str.ofString "alu_worth") q1) [.Name (Str.ofString "op") q2, .Name (Str.ofString "least") q3, .Name (Str.ofString "all_ones") q4, .Name (Str.ofString "size") q5, .Constant (.bool true) k1 q6] [] q7)
      [⟨.Name (Str.ofString "op") q8, .List [.Constant (.str (Str.ofString "div")) k2 q9, .Constant (.str (Str.ofString "mod")) k3 q10] q11, [], 0⟩] scE1 q12) (.li [eL k, 0]) :=
  fun s m news Q E ok F N S K P => comp_list (m := m) (led := news) (ρc := ρcE k) (ds := dm) (g := fun i => ([eL k, 0] : List Int).getD i 0) (U := fun i => [none, some (dm.getD i .none), none, none, none, none]) ok (co_E1 hcl) (fun Q' E' q => hit_strs (ρ := [none, none, none]) (EvS.c (EvS.c EvS.nil)) (by decide) ok F N S Q' E' q)
    (fun p hp => by
      obtain ⟨a, o, v, h1, h2, h3, h4⟩ := K p hp
      refine ⟨a, o, v, ?_, h2, h3, h4⟩
      rw [hcl] at h1
      simp only [List.mem_cons, List.not_mem_nil, or_false] at hp
      rcases hp with rfl | rfl | rfl <;> exact h1)
    (fun i => Put.tail Put.head) (by decide) (fun i hi => by
      have e1 : (ρcE k) = [(Str.ofString "size", .int (k : Int)), (Str.ofString "least", .int (eL k)), (Str.ofString "all_ones", .int (eA k))] := rfl
      match i, hi with
      | 0, _ => exact (EvK.call G_alu_worth g2 (.cons (EvK.name (d := .str "div") l1) (.cons (EvK.cell g4 (.tail _ (.head _))) (.cons (EvK.cell g3 (.tail _ (.tail _ (.head _)))) (.cons (EvK.cell g5 (.head _)) (.cons EvK.cbool .nil))))) (con_alu hk (by decide))).congr (congrArg V.int (e_div hk))
      | 1, _ => exact (EvK.call G_alu_worth g2 (.cons (EvK.name (d := .str "mod") l1) (.cons (EvK.cell g4 (.tail _ (.head _))) (.cons (EvK.cell g3 (.tail _ (.tail _ (.head _)))) (.cons (EvK.cell g5 (.head _)) (.cons EvK.cbool .nil))))) (con_alu hk (by decide))).congr (congrArg V.int (e_mod hk))) P (fun _ => rfl)
end
end Mine
end

section
open PySem PySem.W PyProof.Rows PySem.Calls
set_option maxHeartbeats 1000000
namespace Mine
section
variable {k : Nat}
theorem comp2_ev (hk : Sz k) {c : Cx} {a1 a2 a3 : Addr} (hcl : c.cl = clE a1 a2 a3) {q1 q2 q3 q4 q5 q6 q7 q8 q9 q10 q11 q12 q13 q14 q15 q16 q17 q18 q19 q20 q21 q22 q23 : Pos} {k1 k2 k3 k4 k5 k6 k7 k8 : Nat} : EvC φ_law_edges_right c 5 [none, none, none] (ρcE k)
    (.ListComp (.Call (.Name (Str.ofString "alu_worth") q1) [.Name (Str.ofString "op") q2, .BinOp (.BinOp (.Constant (.int 2) k1 q3) .Pow (.Constant (.int 70) k2 q4) q5) .Add (.Constant (.int 5) k3 q6) q7, .BinOp (.Constant (.int 2) k4 q8) .Pow (.Name (Str.ofString "size") q9) q10, .Name (Str.ofString "size") q11, .Name (Str.ofString "way") q12] [] q13)
      [⟨.Name (Str.ofString "op") q14, .List [.Constant (.str (Str.ofString "div")) k5 q15, .Constant (.str (Str.ofString "mod")) k6 q16] q17, [], 0⟩, ⟨.Name (Str.ofString "way") q18, .List [.Constant (.bool false) k7 q19, .Constant (.bool true) k8 q20] q21, [], 0⟩] scE2 q22) (.li [0, 0, 5, 5]) :=
  fun s m news Q E ok F N S K P => comp_list2 (m := m) (led := news) (b := fun j => j == 1) (ρc := [(Str.ofString "size", .int (k : Int))]) (ds := dm) (g := fun i _ => ([0, 5] : List Int).getD i 0) (U := fun i => [none, some (dm.getD i .none), none, none, none]) (U2 := fun i j => [none, some (dm.getD i .none), some (.bool (j == 1)), none, none]) ok (co_E2 hcl) (fun Q' E' q => hit_strs (ρ := [none, none, none]) (EvS.c (EvS.c EvS.nil)) (by decide) ok F N S Q' E' q)
    (fun p hp => by
      obtain ⟨a, o, v, h1, h2, h3, h4⟩ := K p (by rw [List.mem_singleton.mp hp]; exact .head _)
      refine ⟨a, o, v, ?_, h2, h3, h4⟩
      rw [hcl] at h1
      rw [List.mem_singleton.mp hp] at h1 ⊢
      exact h1)
    (fun i => Put.tail Put.head) (fun i j => Put.tail (Put.tail Put.head)) (fun i j => .keep (.keep (.drop (.keep (.keep .nil))))) (by decide) (fun i j hi hj => by
      have hp : ((k : Int)).toNat = k := Int.toNat_natCast k
      have hle := hk.le
      match i, hi with
      | 0, _ => exact (EvK.call G_alu_worth g3 (.cons (EvK.name (d := .str "div") l1) (.cons (EvK.bin (EvK.bin EvK.cint EvK.cint (op_pow (by decide) (by decide) (by decide))) EvK.cint op_add) (.cons (EvK.bin EvK.cint (EvK.cell g4 (.head _)) (op_pow (by omega) (by omega) (by decide))) (.cons (EvK.cell g4 (.head _)) (.cons (EvK.name l2) .nil))))) (con_alu hk (by decide))).congr (congrArg V.int (e_div2 hk _))
      | 1, _ => exact (EvK.call G_alu_worth g3 (.cons (EvK.name (d := .str "mod") l1) (.cons (EvK.bin (EvK.bin EvK.cint EvK.cint (op_pow (by decide) (by decide) (by decide))) EvK.cint op_add) (.cons (EvK.bin EvK.cint (EvK.cell g4 (.head _)) (op_pow (by omega) (by omega) (by decide))) (.cons (EvK.cell g4 (.head _)) (.cons (EvK.name l2) .nil))))) (con_alu hk (by decide))).congr (congrArg V.int (e_mod2 hk _))) P (fun _ => rfl) (fun _ _ => rfl)
theorem edges_tail (hk : Sz k) {c : Cx} {a1 a2 a3 : Addr} (hcl : c.cl = clE a1 a2 a3) : ExC φ_law_edges_right c 5 [none, none, none] (ρcE k) .none b_law_edges_right.tail (.ret (.bool true) .none) :=
  ExC.thenFC (comp1_ev hk hcl) (EvC.pairL (EvC.cell g1 (.tail _ (.head _))) (EvC.of Ev.cint)) op_nel (by simp [V.truth]) (ExC.retN ((EvC.cmp (comp2_ev (q23 := default) hk hcl) (EvC.of (Ev.ilist (is := [0, 0, 5, 5]) (.cons Ev.cint (.cons Ev.cint (.cons Ev.cint (.cons Ev.cint .nil)))) (by decide))) op_eql).congr (congrArg V.bool (by simp))))
theorem edges_ex (hk : Sz k) {c : Cx} {a1 a2 a3 : Addr} (hcl : c.cl = clE a1 a2 a3) (ok : c.Ok φ_law_edges_right 5) {s : Shared} {m : Str → Option Value} {o1 o2 o3 : Obj} {v1 : Value} {rest : Led} {Q : Flow → Shared → Prop} {E : Value → Shared → Prop}
    (F : Fr c.h₀ c.L s.heap m) (N : News c.h₀ c.L s.heap ((a1, o1) :: (a2, o2) :: (a3, o3) :: rest)) (h12 : a1 ≠ a2) (h13 : a1 ≠ a3) (h23 : a2 ≠ a3) (d1 : o1.data = .cell (some v1)) (r1 : Rep [] v1 (.int (k : Int))) (d2 : o2.data = .cell none) (d3 : o3.data = .cell none)
    (P : ∀ h' tk' m' led', Fr c.h₀ c.L h' m' → News c.h₀ c.L h' led' → (∀ p ∈ rest, p.1 ≠ a1 → p.1 ≠ a2 → p.1 ≠ a3 → p ∈ led') → Q (.ret (.bool true)) { s with heap := h', toks := tk' }) :
    wpAny (model pg c.w) (c.A φ_law_edges_right) (execs b_law_edges_right (c.env φ_law_edges_right)) Q E s := by
  have S0 : Sees φ_law_edges_right.names [none, none, none] m ((a1, o1) :: (a2, o2) :: (a3, o3) :: rest) := fun x d l => absurd l (Look.none (k := 3))
  have K0 : KCells c.cl [(Str.ofString "size", .int (k : Int))] ((a1, o1) :: (a2, o2) :: (a3, o3) :: rest) := fun p hp => by
    rw [List.mem_singleton.mp hp, hcl]
    exact ⟨a1, o1, v1, rfl, .head _, d1, r1.mono fun _ h => nomatch h⟩
  have hsz : EvC φ_law_edges_right c 5 [none, none, none] [(Str.ofString "size", .int (k : Int))] (.Name (Str.ofString "size") default) (.int (k : Int)) := EvC.cell g0 (.head _)
  have hle := hk.le
  have hpos := hk.pos
  refine wpAny_execs_cons (Assign_Tuple (Tuple_ ((EvLC.cons (ρ := [none, none, none]) (d := .int (eL k)) (EvC.bin (EvC.of Ev.cint) (EvC.bin (EvC.cell g0 (.head _)) (EvC.of Ev.cint) op_sub) (op_pow (by omega) (by omega) (by decide)))
    (EvLC.cons (d := .int (eA k)) (EvC.bin (EvC.bin (EvC.of Ev.cint) (EvC.cell g0 (.head _)) (op_pow (by omega) (by omega) (by decide))) (EvC.of Ev.cint) op_sub) .nil)) _ s m _ _ E ok F N S0 K0 fun vs h' t' led F' N' s' R => ?_)) rfl rfl)
  match vs, R with
  | [u1, u2], ⟨R1, R2, _⟩ =>
    obtain ⟨t1, rfl⟩ := R1
    obtain ⟨t2, rfl⟩ := R2
    refine newTuple_N F' N' (fun h2 F2 N2 => ?_) (by rw [sizeLine_eq]; simp)
    refine unpackN_ F2 N2 (News.isTup N2 (.head _)) rfl rfl rfl fun h3 F3 N3 => ?_
    let fl : Led := led.filter fun p => decide (p.1 ≠ a1 ∧ p.1 ≠ a2 ∧ p.1 ≠ a3)
    have hfl : ∀ p ∈ fl, p.1 ≠ a1 ∧ p.1 ≠ a2 ∧ p.1 ≠ a3 := fun p hp => by simpa using (List.mem_filter.mp hp).2
    have N4 : News c.h₀ c.L h3 ((a1, o1) :: (a2, o2) :: (a3, o3) :: fl) := fun p hp => by
      refine N3 p (.tail _ ?_)
      rcases List.mem_cons.mp hp with rfl | hp
      · exact s' _ (.head _)
      · rcases List.mem_cons.mp hp with rfl | hp
        · exact s' _ (.tail _ (.head _))
        · rcases List.mem_cons.mp hp with rfl | hp
          · exact s' _ (.tail _ (.tail _ (.head _)))
          · exact (List.mem_filter.mp hp).1
    refine assignInOrder_cons (assign_Name (storeX_C F3 N4 (by rw [hcl]; rfl) (.tail h12 (.head fun p hp => by
      rcases List.mem_cons.mp hp with rfl | hp
      · exact h23.symm
      · exact (hfl p hp).2.1)) d2 (fun h5 o2' F5 N5 hd2 => ?_) rfl rfl))
    refine assignInOrder_cons (assign_Name (storeX_C F5 N5 (by rw [hcl]; rfl) (.tail h13 (.tail h23 (.head fun p hp => (hfl p hp).2.2))) d3 (fun h6 o3' F6 N6 hd3 => ?_) rfl rfl))
    refine assignInOrder_nil ?_
    refine edges_tail hk hcl _ m ((a1, o1) :: (a2, o2') :: (a3, o3') :: fl) [] Q E ok F6 N6 rfl (fun x d l => absurd l (Look.none (k := 3))) (fun p hp => ?_) ?_
    · rw [hcl]
      simp only [List.mem_cons, List.not_mem_nil, or_false] at hp
      rcases hp with rfl | rfl | rfl
      · exact ⟨a1, o1, v1, rfl, .head _, d1, r1.mono fun _ h => nomatch h⟩
      · exact ⟨a2, o2', _, rfl, .tail _ (.head _), hd2, _, rfl⟩
      · exact ⟨a3, o3', _, rfl, .tail _ (.tail _ (.head _)), hd3, _, rfl⟩
    · intro v h7 tk7 m7 r7 gl7 F7 N7 G7 s7 R7
      cases G7
      cases R7
      exact P h7 tk7 m7 r7 F7 N7 fun p hp n1 n2 n3 => s7 p (.tail _ (.tail _ (.tail _ (List.mem_filter.mpr ⟨s' p (.tail _ (.tail _ (.tail _ hp))), by simpa using ⟨n1, n2, n3⟩⟩))))
theorem con_edges (hk : Sz k) : Con (.ref 343) 6 [.int (k : Int)] (.bool true) := by
  intro f c st m news vs Q E ok F N R P
  have hl : vs.length = 1 := R.length
  obtain ⟨v, rfl, R1⟩ := R.one
  refine enterC F_law_edges_right ok F N hl (by decide) (by decide) fun g L' h₁ tk cells ok' F' N' Y lt E' => ?_
  obtain ⟨o3, o2, o1, rfl, e3, e2, e1⟩ := CellsAre.three (n₁ := Str.ofString "all_ones") (n₂ := Str.ofString "least") (n₃ := Str.ofString "size") (c₁ := L' + 1 + 2) (c₂ := L' + 1 + 1) (c₃ := L' + 1) Y
  obtain ⟨t, rfl⟩ := R1
  refine edges_ex (c := c.intoC f φ_law_edges_right g L') (a1 := L' + 1) (a2 := L' + 1 + 1) (a3 := L' + 1 + 2) (o1 := o1) (o2 := o2) (o3 := o3) (v1 := .int (k : Int) t) (rest := news) hk rfl ok' F' (fun p hp => ?_) (by simp) (by simp) (by simp) e1 ⟨t, rfl⟩ e2 e3 fun h' tk' m' led' F2 N2 s2 => ?_
  · refine N' p ?_
    simp only [List.mem_cons, List.mem_append, List.not_mem_nil, or_false] at hp ⊢
    rcases hp with h | h | h | h <;> simp [h]
  · exact ⟨h', tk', m', led', rfl, F2, N2, fun kF kN => P (.bool true) h' tk' led' kF kN (fun p hp => by
      have := lt p hp
      have h1 : p.1 ≠ L' + 1 := fun e => by rw [e] at this; exact absurd this (Nat.not_lt.mpr (Nat.le_succ _))
      have h2 : p.1 ≠ L' + 1 + 1 := fun e => by rw [e] at this; exact absurd this (Nat.not_lt.mpr (Nat.le_add_right L' 2))
      have h3 : p.1 ≠ L' + 1 + 2 := fun e => by rw [e] at this; exact absurd this (Nat.not_lt.mpr (Nat.le_add_right L' 3))
      exact s2 p hp h1 h2 h3) rfl⟩
end
end Mine
end

section
open PySem PySem.W PyProof.Rows PySem.Calls
set_option maxHeartbeats 1000000
namespace Mine
-- the law's end: the refusals and the edges
inductive IsTab : List Pos → List Value → Prop
  | nil : IsTab [] []
  | cons {p : Pos} {r : List Pos} {v : Value} {vs : List Value} : IsTab r vs → IsTab (p :: r) (rawInt p.line :: rawInt p.col :: v :: vs)
theorem IsTab.ok {ls : List Pos} {vs : List Value} (h : IsTab ls vs) : TriplesOk vs := by
  induction h with
  | nil => exact trivial
  | cons _ ih => exact ih
theorem IsTab.none {ls : List Pos} {vs : List Value} {pos : Pos} (h : IsTab ls vs) (hn : (ls.all fun q => !((q.line : Int) == pos.line && (q.col : Int) == pos.col)) = true) : codeAmong pos vs = none := by
  induction h with
  | nil => rfl
  | @cons p r v vs _ ih =>
    simp only [List.all_cons, Bool.and_eq_true] at hn
    unfold codeAmong rawInt
    simp only
    rw [if_neg (fun q => by rw [q] at hn; exact absurd hn.1 (by decide))]
    exact ih hn.2
theorem IsTab.snoc {ls : List Pos} {vs : List Value} {pos : Pos} {c : Value} (h : IsTab ls vs) : IsTab (ls ++ [pos]) (vs ++ [rawInt pos.line, rawInt pos.col, c]) := by
  induction h with
  | nil => exact .cons .nil
  | cons _ ih => exact .cons ih
@[reducible] def φ_law (a : Addr) : Fn := { qual := Str.ofString "law", names := [(Str.ofString "script", .local), (Str.ofString "pen", .local), (Str.ofString "turn", .local), (Str.ofString "one", .local), (Str.ofString "other", .local), (Str.ofString "list", .globalImplicit), (Str.ofString "range", .globalImplicit), (Str.ofString "_law_draw", .globalImplicit), (Str.ofString "_law_number", .globalImplicit), (Str.ofString "_law_deed_right", .globalImplicit), (Str.ofString "_law_condition_right", .globalImplicit), (Str.ofString "_law_moves_right", .globalImplicit), (Str.ofString "_law_atomic_right", .globalImplicit), (Str.ofString "_law_refused", .globalImplicit), (Str.ofString "_law_edges_right", .globalImplicit)], a := a, cd := .ref 349 }
noncomputable def b_law : List Stmt := bodyOf 47
theorem φ_law_ok (a : Addr) : (φ_law a).Ok := ⟨by show ((φ_law 0).names.map (·.1)).Nodup; decide +kernel, by show ∀ x ∈ (φ_law 0).names, _; decide +kernel⟩
structure LawC (c : Cx) : Prop where
  out : c.outer = []
  cl : c.cl = []
  base : c.base = c.h₀
  code : CodeHd c.h₀ 349 345
section
variable {a : Addr} {c : Cx} {n : Nat} {ls ls' ls'' : List Pos}
def TstR (a : Addr) (c : Cx) (n : Nat) (ls ls' : List Pos) (e : Expr) (b : Bool) : Prop :=
  ∀ (s : Shared) (m : Str → Option Value) (rest : Led) (ps : Array Value) (Q : Bool → Shared → Prop) (E : Value → Shared → Prop), c.Ok (φ_law a) n → LawC c → Fr c.h₀ c.L s.heap m → News c.h₀ c.L s.heap ((345, tabObj ps) :: rest) → IsTab ls ps.toList → (∀ p ∈ rest, p.1 ≠ 345) →
    (∀ h' tk' rest' ps', Fr c.h₀ c.L h' m → News c.h₀ c.L h' ((345, tabObj ps') :: rest') → IsTab ls' ps'.toList → (∀ p ∈ rest', p.1 ≠ 345) → Q b { s with heap := h', toks := tk' }) →
    wpAny (model pg c.w) (c.A (φ_law a)) (PySem.isTrue e (c.env (φ_law a)) (eval e (c.env (φ_law a)))) Q E s
theorem TstR.not {e : Expr} {pos : Pos} {b : Bool} (h : TstR a c n ls ls' e b) : TstR a c n ls ls' (.UnaryOp .Not e pos) (!b) :=
  fun s m rest ps Q E ok lc F N T hr P => isTrue_not (h s m rest ps _ E ok lc F N T hr P)
theorem TstR.or2 {x y : Expr} {pos : Pos} (h1 : TstR a c n ls ls' x false) (h2 : TstR a c n ls' ls'' y false) : TstR a c n ls ls'' (.BoolOp .Or [x, y] pos) false :=
  fun s m rest ps Q E ok lc F N T hr P => isTrue_or (h1 s m rest ps _ E ok lc F N T hr fun h' t' r' ps' F' N' T' hr' =>
    isTrue_or (h2 _ m r' ps' _ E ok lc F' N' T' hr' fun h3 t3 r3 ps3 F3 N3 T3 hr3 => isTrue_or_nil (P h3 t3 r3 ps3 F3 N3 T3 hr3)))
theorem lam_qual (a : Addr) (c : Cx) : (c.env (φ_law a)).qual ++ "<lambda>" = lamQ := by
  show (Str.ofString "law" ++ ".<locals>." : Str) ++ "<lambda>" = Str.ofString "law.<locals>.<lambda>"
  decide +kernel
theorem TstR.call {n₂ : Nat} {x callee : Str} {ap p lpos lp cpos : Pos} {lbody : Expr} {es : List Expr} {ds : List V} {dl : V} (hD : ∀ d ∈ ds, DeedE n₂ x callee ap lbody d) (hn : n₂ + 1 ≤ n)
    (hnew : (ls.all fun q => !((q.line : Int) == lpos.line && (q.col : Int) == lpos.col)) = true) (hlist : ∀ c, Ev (φ_law a) c n [] (.List es lp) dl)
    (hdl : ∀ led v, Rep led v dl → ∃ ln vs k, v = .ref ln ∧ (ln, W.listOf (List.toArray vs) k) ∈ led ∧ RepL led vs ds)
    (hdef : ∀ env, defaultsOf (lamArgs x ap) env = ([], []) := by intro _; rfl) (hcl : ∀ c : Cx, c.cl = [] → closureFor (φ_lam x callee 0 .none).scope (c.env (φ_law a)) = pure [] := by
      intro c h
      obtain ⟨w, mean, mg, mb, dp, un, gd, outer, A₀, base, h₀, L, cl⟩ := c
      dsimp only at h
      subst h
      rfl)
    (he : ∀ env, starEach [.Lambda (lamArgs x ap) lbody (φ_lam x callee 0 .none).scope lpos, .List es lp] env = (false, eval (.Lambda (lamArgs x ap) lbody (φ_lam x callee 0 .none).scope lpos) env) :: starEach [.List es lp] env := by intro _; rfl) :
    TstR a c n ls (ls ++ [lpos]) (.Call (.Name (Str.ofString "_law_refused") p) [.Lambda (lamArgs x ap) lbody (φ_lam x callee 0 .none).scope lpos, .List es lp] [] cpos) true :=
  fun s m rest ps Q E ok lc F N T hr P => by
    refine isTrue_plain ?_ rfl
    refine Call_ (nameX_K F ok.kin (topRead_of ok.top) (G_law_refused c.w.params).1
      (callWith_K (h₀ := c.h₀) ok.kin (G_law_refused c.w.params).2 (spliced_more (kla_eval (hdef _) ?_) (he _)) (he _) rfl)
      rfl rfl (by decide))
    rw [lam_qual]
    refine kla_nest F N ok.top lc.code rfl (.head hr) T.ok (T.none hnew) (hcl c lc.cl) fun fa c' oc vs t ctv h' tk F' N' hd1 hd2 l1 l2 => ?_
    refine spliced_more ((hlist c) _ m _ _ E ok F' N' (fun y d l => by cases l) fun v h2 t2 led F2 N2 s2 R2 => spliced_none ⟨ok.kin.keeps F2.keep, ?_⟩) rfl
    obtain ⟨ln, ws, kk, rfl, hln, hRL⟩ := hdl led v R2
    have hlam : IsLam led fa x callee ap lbody := ⟨c', _, ctv, oc, vs, t, s2 _ (.head _), s2 _ (.tail _ (.head _)), hd1, hd2⟩
    refine call_refused hD (ok.le hn) lc.out lc.cl lc.base F2 N2 hlam hln hRL fun h3 tk3 news' F3 N3 s3 => ?_
    refine wpAny_truthy_bool ?_
    have hm : (345, tabObj (ps ++ #[rawInt lpos.line, rawInt lpos.col, .ref c'])) ∈ news' := s3 _ (s2 _ (.tail _ (.tail _ (.head _))))
    refine P h3 tk3 (news'.filter fun p => decide (p.1 ≠ 345)) (ps ++ #[rawInt lpos.line, rawInt lpos.col, .ref c']) F3 (fun p hp => ?_) (by simpa using T.snoc (pos := lpos) (c := .ref c')) fun p hp => by simpa using (List.mem_filter.mp hp).2
    rcases List.mem_cons.mp hp with rfl | hp
    · exact N3 _ hm
    · exact N3 _ (List.mem_filter.mp hp).1
def ExR (a : Addr) (c : Cx) (n : Nat) (ls : List Pos) (b : List Stmt) : Prop :=
  ∀ (s : Shared) (m : Str → Option Value) (rest : Led) (ps : Array Value) (Q : Flow → Shared → Prop) (E : Value → Shared → Prop), c.Ok (φ_law a) n → LawC c → Fr c.h₀ c.L s.heap m → News c.h₀ c.L s.heap ((345, tabObj ps) :: rest) → IsTab ls ps.toList → (∀ p ∈ rest, p.1 ≠ 345) →
    (∀ h' tk' m' led', Fr c.h₀ c.L h' m' → News c.h₀ c.L h' led' → (∃ ps', (345, tabObj ps') ∈ led') → Q (.ret (.bool true)) { s with heap := h', toks := tk' }) →
    wpAny (model pg c.w) (c.A (φ_law a)) (execs b (c.env (φ_law a))) Q E s
theorem ExR.if' {t : Expr} {A r : List Stmt} {pos : Pos} (ht : TstR a c n ls ls' t false) (h : ExR a c n ls' r) : ExR a c n ls (.If t A [] pos :: r) :=
  fun s m rest ps Q E ok lc F N T hr P => wpAny_execs_cons (wpAny_If (ht s m rest ps _ E ok lc F N T hr fun h' t' r' ps' F' N' T' hr' =>
    wpAny_execs_nil (h _ m r' ps' Q E ok lc F' N' T' hr' P)))
theorem ExR.ret {e : Expr} {r : List Stmt} {pos : Pos} (h : Ev (φ_law a) c n [] e (.bool true)) : ExR a c n ls (.Return (some e) pos :: r) :=
  fun s m rest ps Q E ok lc F N T hr P => wpAny_execs_cons (wpAny_Return_some (h s m _ _ E ok F N (fun y d l => by cases l) fun v h' t' led F' N' s' R => by
    cases R
    exact P h' t' m led F' N' ⟨ps, s' _ (.head _)⟩))
end
theorem dl_strs {l : List Str} (led : Led) (v : Value) (h : Rep led v (.ls l)) : ∃ ln vs k, v = .ref ln ∧ (ln, W.listOf (List.toArray vs) k) ∈ led ∧ RepL led vs (l.map V.str) := by
  obtain ⟨ln, vs, k, rfl, hm, hi⟩ := h
  refine ⟨ln, vs, k, rfl, hm, ?_⟩
  clear hm
  induction hi with
  | nil => trivial
  | cons x t _ ih => exact ⟨⟨t, rfl⟩, ih⟩
theorem dl_ints {l : List Int} (led : Led) (v : Value) (h : Rep led v (.li l)) : ∃ ln vs k, v = .ref ln ∧ (ln, W.listOf (List.toArray vs) k) ∈ led ∧ RepL led vs (l.map V.int) := by
  obtain ⟨ln, vs, k, rfl, hm, hi⟩ := h
  refine ⟨ln, vs, k, rfl, hm, ?_⟩
  clear hm
  induction hi with
  | nil => trivial
  | cons x t _ ih => exact ⟨⟨t, rfl⟩, ih⟩
end Mine
end

section
open PySem PySem.W PyProof.Rows PySem.Calls
set_option maxHeartbeats 1000000
namespace Mine
theorem law_tail (a : Addr) (c : Cx) : ExR a c 12 [] (b_law.drop 2) :=
  ExR.if' (TstR.not (TstR.call deed_alu (by decide) (by decide) (fun c => Ev.slist (EvS.c (EvS.c (EvS.c (EvS.c EvS.nil)))) (by decide)) dl_strs))
  (ExR.if' (TstR.not (TstR.call deed_holds (by decide) (by decide) (fun c => Ev.slist (EvS.c (EvS.c (EvS.c (EvS.c EvS.nil)))) (by decide)) dl_strs))
  (ExR.if' (TstR.or2 (TstR.not (TstR.call deed_swap (by decide) (by decide) (fun c => Ev.slist (EvS.c (EvS.c EvS.nil)) (by decide)) dl_strs)) (TstR.not (TstR.call deed_bits (by decide) (by decide) (fun c => Ev.ilist (.cons Ev.cint (.cons Ev.cint (.cons Ev.cint .nil))) (by decide)) dl_ints)))
  (ExR.if' (TstR.not (TstR.call deed_atomic (by decide) (by decide) (fun c => Ev.slist (EvS.c (EvS.c (EvS.c EvS.nil))) (by decide)) dl_strs))
  (ExR.ret (Ev.and_cons (Ev.call G_law_edges_right g14 (.cons Ev.cint .nil) (con_edges (k := 64) (.inr rfl))) fun _ => Ev.bool_one (Ev.call G_law_edges_right g14 (.cons Ev.cint .nil) (con_edges (k := 32) (.inl rfl))))))))
end Mine
end

section
open PySem PySem.W PyProof.Rows PySem.Calls
set_option maxHeartbeats 1000000
namespace Mine
section
variable {f : Fn} {c : Cx} {n : Nat} {ρ ρ' : List (Option V)} {P : Addr} {ns : List Int} {k k1 k2 k' j M : Nat} {S S' T : Nat → List (Option V)} {D : V → Prop}
def TstM (f : Fn) (c : Cx) (n : Nat) (ρ : List (Option V)) (P : Addr) (ns : List Int) (k k' : Nat) (e : Expr) (b : Bool) : Prop :=
  ∀ (s : Shared) (m : Str → Option Value) (rest gl : Led) (Q : Bool → Shared → Prop) (E : Value → Shared → Prop), c.Ok f n → Fr c.h₀ c.L s.heap m → News c.h₀ c.L s.heap (gl ++ rest) → GOk (.pen P ns k) m rest gl → Sees f.names ρ m rest →
    (∀ h' tk' rest' gl', Fr c.h₀ c.L h' m → News c.h₀ c.L h' (gl' ++ rest') → GOk (.pen P ns k') m rest' gl' → (∀ p ∈ rest, p ∈ rest') → Q b { s with heap := h', toks := tk' }) →
    wpAny (model pg c.w) (c.A f) (PySem.isTrue e (c.env f) (eval e (c.env f))) Q E s
theorem TstM.ofM {e : Expr} (h : EvM f c n ρ P ns k k' e isT) (he : ∀ env whole, PySem.isTrue e env whole = (do let v ← whole; standAt e.pos; holding [v] (truthy v)) := by intro _ _; rfl) : TstM f c n ρ P ns k k' e true :=
  fun s m rest gl Q E ok F N G S0 PP => isTrue_plain (h s m rest gl _ E ok F N G S0 fun d v h' tk' rest' gl' q F' N' G' s' R => by
    obtain rfl : d = .bool true := q
    cases R
    exact wpAny_truthy_bool (PP h' tk' rest' gl' F' N' G' s')) (he _ _)
theorem TstM.not {e : Expr} {pos : Pos} {b : Bool} (h : TstM f c n ρ P ns k k' e b) : TstM f c n ρ P ns k k' (.UnaryOp .Not e pos) (!b) :=
  fun s m rest gl Q E ok F N G S0 PP => isTrue_not (h s m rest gl _ E ok F N G S0 PP)
theorem TstM.or2 {x y : Expr} {pos : Pos} (h1 : TstM f c n ρ P ns k k1 x false) (h2 : TstM f c n ρ P ns k1 k' y false) : TstM f c n ρ P ns k k' (.BoolOp .Or [x, y] pos) false :=
  fun s m rest gl Q E ok F N G S0 PP => isTrue_or (h1 s m rest gl _ E ok F N G S0 fun h' tk' r' gl' F' N' G' s' =>
    isTrue_or (h2 _ m r' gl' _ E ok F' N' G' (S0.mono s') fun h3 t3 r3 gl3 F3 N3 G3 s3 => isTrue_or_nil (PP h3 t3 r3 gl3 F3 N3 G3 fun p hp => s3 p (s' p hp))))
theorem Ex.ifM {t : Expr} {A r : List Stmt} {pos : Pos} {o : Out} (ht : TstM f c n ρ P ns k k' t false) (h1 : Ex f c n ρ (.pen P ns k') r o) : Ex f c n ρ (.pen P ns k) (.If t A [] pos :: r) o :=
  fun s m rest gl Q E ok F N G S0 PP => wpAny_execs_cons (wpAny_If (ht s m rest gl _ E ok F N G S0 fun h' tk' r' gl' F' N' G' s' =>
    wpAny_execs_nil (h1 _ m r' gl' Q E ok F' N' G' (S0.mono s') (PP.sub s' _ _))))
theorem Ex.nilPen (hk : k ≤ k') : Ex f c n ρ (.pen P ns k) [] (.next ρ (.pen P ns k')) := fun s m rest gl Q E ok F N G S0 PP => wpAny_execs_nil (PP s.heap s.toks m rest gl F N (G.pen_le hk) (fun _ h => h) S0)

theorem For_rangeM {x : Str} {xp rp cp pos : Pos} {e : Expr} {body : List Stmt} {s : Shared} {m : Str → Option Value} {rest gl : Led} {Q : Flow → Shared → Prop} {E : Value → Shared → Prop} (hk : Kd .globalImplicit f.names (Str.ofString "range"))
    (h : EvM f c n (S 0) P ns k k1 e (fun d => ∃ i : Nat, d = .int (i : Int) ∧ i ≤ M)) (hM : M ≤ 1000) (hput : ∀ i, Put f.names (S i) x (.int i) (S' i)) (hpl : ∀ i, plainS (S i) = true)
    (hb : ∀ i, i < M → Ex f c n (S' i) (.pen P ns (k1 + j * i)) body (.next (T i) (.pen P ns (k1 + j * (i + 1))))) (hT : ∀ i, Less (S (i + 1)) (T i))
    (ok : c.Ok f n) (F : Fr c.h₀ c.L s.heap m) (N0 : News c.h₀ c.L s.heap (gl ++ rest)) (G : GOk (.pen P ns k) m rest gl) (S0 : Sees f.names (S 0) m rest)
    (done : ∀ N h' tk m' rest' gl', N ≤ M → Fr c.h₀ c.L h' m' → News c.h₀ c.L h' (gl' ++ rest') → GOk (.pen P ns (k1 + j * N)) m' rest' gl' → (∀ p ∈ rest, p ∈ rest') → Sees f.names (S N) m' rest' → Q .next { s with heap := h', toks := tk })
    (he : ∀ env, starEach [e] env = (false, eval e env) :: starEach [] env := by intro _; rfl) :
    wpAny (model pg c.w) (c.A f) (exec (.For (.Name x xp) (.Call (.Name (Str.ofString "range") rp) [e] [] cp) body [] pos) (c.env f)) Q E s :=
  wpAny_mono (For_turns (h₀ := c.h₀) (E := fun _ _ => False) F (Call_ (nameX_B F ok.kin (topRead_of ok.top) (B_range.1 c.w.params) B_range.2.1 B_range.2.2
    (PyProof.Rows.callWith_type1 (spliced_more (h s m rest gl _ _ ok F N0 G S0 fun d v h1 t1 rest1 gl1 hd F1 N2 G2 s2 R1 => spliced_none (by
    obtain ⟨N, rfl, hN⟩ := hd
    obtain ⟨t, rfl⟩ := R1
    refine call_range_1 ?_
    have sz : Builtin.Range.rangeSize 0 (N : Int) 1 = N := by rw [rangeSize_one]; split <;> omega
    refine wpAny_pyIter_range (IsRange.new _ _ _ _ _ _ _) (small_one (by decide) (by decide) (by omega) (by omega)) ?_
    rw [sz]
    have up : ∀ b o, h1.get? b = some o → ((h1.push { cls := .type "range", data := .fields #[.int 0 t1, .int N t, .int 1 (t1 + 1)] }).push { cls := .type "range_iterator", data := .fields #[rawInt 0, rawInt N, rawInt 1] }).get? b = some o := fun b o e => Heap.get?_push_of_some _ (Heap.get?_push_of_some _ e)
    refine loop_core (s := s) (m := m) (rest := rest1) (gl := gl1) (S := S) (gs := fun i => .pen P ns (k1 + j * i)) (k := N) (KTurns.ofWalks (Walks.range (prog := pg) (w := c.w) (A := c.A f) rfl _ 0 1 N) fun i v s Q E st q => wpAny_pure q) (h1.objs.size + 1) ?_ ?_ (fun p hp => Nat.lt_succ_of_lt (Heap.lt_size (N2 p hp).1)) (Nat.lt_succ_of_lt F1.ns.lt) ?_
      (by show IsRangeIter _ _ (0 + ((0 : Nat) : Int) * 1) ((N : Int) - ((0 : Nat) : Int)) 1; rw [show (0 : Int) + ((0 : Nat) : Int) * 1 = 0 by decide, show (N : Int) - ((0 : Nat) : Int) = N by omega]; exact Heap.get?_push_size _ rfl) (F1.keeps up) (fun p hp => ⟨up _ _ (N2 p hp).1, (N2 p hp).2⟩) G2 (S0.mono s2) hpl (fun _ => rfl) ?_ ?_
    · intro b hb
      exact .inl (by rw [List.mem_singleton.mp hb, Heap.size_push]; exact Nat.le_refl _)
    · intro b hb
      rw [List.mem_singleton.mp hb, Heap.size_push]; exact Nat.le_refl _
    · rintro i h st b hb o' ho
      rw [List.mem_singleton.mp hb] at ho
      have st' : IsRangeIter h _ _ _ _ := st
      rw [st'] at ho
      cases ho
      show Value.type "range_iterator" ≠ Value.type "list"
      decide
    · intro i v m₁ rest₁ gl₁ h₁ tk₁ hi' hP F' N' G' hs' S1 Q' E' PP
      obtain ⟨t', rfl⟩ := hP
      have ei : (0 : Int) + (i : Int) * 1 = i := by omega
      rw [ei]
      refine assign_Name (storeX_L F' N' (fun h3 F3 N3 => ?_) rfl ((hput i).kd.kindOf c ok.fok))
      exact (hb i (by omega)).weak (hT i) _ _ rest₁ gl₁ Q' E' ok F3 N3 (G'.set (g := .pen P ns (k1 + j * i)) trivial) (S1.put ok.fok.nd (hput i) ⟨t', rfl⟩) (PP.sub (fun _ h => h) _ _)
    · intro h' tk m' rest' gl' F' N' G' hs' S1
      exact done N h' tk m' rest' gl' hN F' N' G' (fun p hp => hs' p (s2 p hp)) S1)) (he _)) (he _) rfl) rfl (hk.kindOf c ok.fok) (ok.fok.dbg _ hk.mem))) (fun _ => rfl) PassesOwn.never) (fun _ _ q => q) fun _ _ q => q.elim
end
end Mine
end

section
open PySem PySem.W PyProof.Rows PySem.Calls
set_option maxHeartbeats 1000000
namespace Mine
section
variable {a : Addr} {c : Cx} {n : Nat} {ρ : List (Option V)}
theorem Ev.sliceAt {f : Fn} {pos sp px : Pos} {xn : Str} {ax : Addr} {vs : List Value} {l : List Int} {lo hi : Option Expr} {a b : Option Int} (hx : Look f.names ρ xn (.obj (.ref ax))) (hA : c.h₀.IsList ax vs.toArray) (ii : IntsAre vs l) (h1 : EvP f c n ρ lo a) (h2 : EvP f c n ρ hi b) (hl : l.length ≤ 1000) :
    Ev f c n ρ (.Subscript (.Name xn px) (.Slice lo hi none sp) pos) (.li (pickNums l a b none)) :=
  fun s m news Q E ok F N S P => Subscript_ ((Ev.name hx) s m news _ E ok F N S fun v h1' t1 n1 F1 N1 s1 R1 =>
    wpAny_Slice (h1.use ok F1 N1 (S.mono s1) fun u h2' t2 n2 F2 N2 s2 p1 => h2.use ok F2 N2 (S.mono fun p hp => s2 p (s1 p hp)) fun w h3 t3 n3 F3 N3 s3 p2 =>
      wpAny_pure (by
        cases R1
        exact slice_list3 F3 N3 (hA.at fun o e => F3.keep _ o e) p1 p2 .none (by simp) (fun h4 F4 N4 => P _ h4 t3 _ F4 N4 (fun p hp => .tail _ (s3 p (s2 p (s1 p hp)))) ⟨_, (slicePick vs.toArray a b none).toList, 0, rfl, by simp [W.listOf], ii.pick a b none⟩)
          (by rfl) (by intro _; rfl) (by rw [sizeLine_eq]; have := ii.length; simp; omega))))
theorem pick24 (l : List Int) : (pickNums l none (some 24) none).length ≤ 24 := by
  by_cases h : 24 ≤ l.length
  · have e : pickNums l none (some (24 : Int)) none = l.take 24 := pick_to (b := 24) h
    rw [e, List.length_take]; omega
  · have e : pickNums l none (some (24 : Int)) none = l.take l.length := by
      have e : sliceBounds none (some (24 : Int)) none l.length = (((0 : Nat) : Int), (l.length : Int), 1) := by
        unfold sliceBounds
        simp only [Option.getD_none]
        have h2 : ¬ ((24 : Int) < 0) := by omega
        simp only [h2, if_false, show (1 : Int) > 0 by decide, if_true]
        rw [show min (24 : Int) l.length = l.length by omega, show max (0 : Int) l.length = l.length by omega]
        rfl
      unfold pickNums
      rw [e]
      exact (congrArg _ (sr_up (Nat.zero_le _))).trans (fm_range l 0 _)
    rw [e, List.length_take]; omega
theorem law_run {s : Shared} {m : Str → Option Value} {ax : Addr} {vs : List Value} {l : List Int} {Q : Flow → Shared → Prop} {E : Value → Shared → Prop} (ok : c.Ok (φ_law a) 12) (lc : LawC c) (F : Fr c.h₀ c.L s.heap m) (N : News c.h₀ c.L s.heap [(345, tabObj #[])])
    (hm : m (Str.ofString "script") = some (.ref ax)) (hA : c.h₀.IsList ax vs.toArray) (ii : IntsAre vs l) (hl : l.length ≤ 63)
    (P : ∀ h' tk' m' led', Fr c.h₀ c.L h' m' → News c.h₀ c.L h' led' → (∃ ps', (345, tabObj ps') ∈ led') → Q (.ret (.bool true)) { s with heap := h', toks := tk' }) :
    wpAny (model pg c.w) (c.A (φ_law a)) (execs b_law (c.env (φ_law a))) Q E s := by
  have S0 : Sees (φ_law a).names [some (.obj (.ref ax)), none, none, none, none] m [(345, tabObj #[])] := fun x d q => by
    cases q with
    | head => exact ⟨_, hm, rfl⟩
    | tail q => exact absurd q (Look.none (k := 4))
  have h24 := pick24 l
  refine wpAny_execs_cons (wpAny_Assign_Name (List_ ((EvL.cons (f := φ_law a) (n := 12) (Ev.callT B_list g5 (.cons (Ev.sliceAt (a := none) (b := some 24) l0 hA ii .no (.yes Ev.cint) (by omega)) .nil) (con_list (by omega))) (.cons Ev.cint (.cons Ev.cint .nil))) _ s m _ _ E ok F N S0 fun ws h1 t1 led F1 N1 s1 R1 => ?_)) rfl)
  match ws, R1 with
  | [v1, v2, v3], ⟨R1, R2, R3, _⟩ =>
    obtain ⟨la, us, ln, rfl, hla, hia⟩ := R1
    obtain ⟨ta, rfl⟩ := R2
    obtain ⟨tb, rfl⟩ := R3
    refine newList_K F1 N1 (fun Pa h2 F2 N2 lt => ?_) (by rw [sizeLine_eq]; simp)
    refine storeX_L F2 N2 (fun h3 F3 N3 => ?_) rfl rfl
    have G : GOk (.pen Pa (pickNums l none (some 24) none) 0) (fun y => if y = Str.ofString "pen" then some (.ref Pa) else m y) led [(Pa, penObj la 0 0 ta tb 0)] := ⟨0, 0, Int.le_refl _, Int.le_refl _, Int.le_refl _, la, us, ln, ta, tb, 0, rfl, hla, hia, fun p hp => Nat.ne_of_lt (lt p hp)⟩
    have S1 : Sees (φ_law a).names [some (.obj (.ref ax)), some (.obj (.ref Pa)), none, none, none] (fun y => if y = Str.ofString "pen" then some (.ref Pa) else m y) led := (S0.mono s1).put ok.fok.nd q1 rfl
    refine wpAny_execs_cons (For_rangeM (M := 3) (k := 0) (k1 := 1) (j := 21) (P := Pa) (ns := pickNums l none (some 24) none) (S := fun _ => [some (.obj (.ref ax)), some (.obj (.ref Pa)), none, none, none]) (S' := fun i => [some (.obj (.ref ax)), some (.obj (.ref Pa)), some (.int (i : Int)), none, none]) (T := fun _ => [some (.obj (.ref ax)), some (.obj (.ref Pa)), none, none, none]) g6
      (EvM.bin (EvM.of Ev.cint) (m_draw g7 l1 Ev.cint (by decide) (by decide) (by decide) h24) fun x y hx hy => ?_) (by decide) (fun i => q2) (fun _ => rfl) (fun i hi => ?_) (fun _ => Less.refl) ok F3 N3 G S1 fun K h' tk m' rest' gl' hK F' N' G' s' S' => ?_)
    · obtain ⟨i, rfl, h0, h1⟩ := hy
      subst hx
      exact ⟨_, op_add, (1 + i).toNat, by congr 1; omega, by omega⟩
    · exact Ex.assign2M (T := fun d2 => [some (.obj (.ref ax)), some (.obj (.ref Pa)), some (.int (i : Int)), none, some d2]) (U := fun d1 d2 => [some (.obj (.ref ax)), some (.obj (.ref Pa)), some (.int (i : Int)), some d1, some d2]) (D1 := isI) (D2 := isI)
        (EvM.call G_law_number g8 l1 .nil con_number (by omega) h24) (EvM.call G_law_number g8 l1 .nil con_number (by omega) h24) (fun d2 => q4) (fun d1 d2 => q3) (fun _ => rfl) fun d1 d2 h1 h2 => by
          obtain ⟨x, rfl⟩ := h1
          obtain ⟨y, rfl⟩ := h2
          exact Ex.ifM (TstM.or2 (TstM.not (TstM.ofM (EvM.call G_law_deed_right g9 l1 (.cons (EvG.of (Ev.name l3) trivial) (.cons (EvG.of (Ev.name l4) trivial) .nil)) con_deed (by omega) h24))) (TstM.not (TstM.ofM (EvM.call G_law_condition_right g10 l1 (.cons (EvG.of (Ev.name l3) trivial) (.cons (EvG.of (Ev.name l4) trivial) .nil)) con_condition (by omega) h24))))
            (Ex.ifM (TstM.or2 (TstM.not (TstM.ofM (EvM.call G_law_moves_right g11 l1 (.cons (EvG.of (Ev.name l3) trivial) .nil) con_moves (by omega) h24))) (TstM.not (TstM.ofM (EvM.call G_law_atomic_right g12 l1 (.cons (EvG.of (Ev.name l3) trivial) (.cons (EvG.of (Ev.name l4) trivial) .nil)) con_atomicr (by omega) h24))))
              ((Ex.nilPen (by omega)).weak (.keep (.keep (.drop (.drop (.drop .nil)))))))
    · have ht : (345, tabObj #[]) ∈ rest' := s' _ (s1 _ (.head _))
      refine law_tail a c _ m' ((gl' ++ rest').filter fun p => decide (p.1 ≠ 345)) #[] Q E ok lc F' (fun p hp => ?_) .nil (fun p hp => by simpa using (List.mem_filter.mp hp).2) P
      rcases List.mem_cons.mp hp with rfl | hp
      · exact N' _ (List.mem_append_right _ ht)
      · exact N' _ (List.mem_filter.mp hp).1
end
end Mine
end

open PySem PySem.W PyProof.Rows PySem.Calls
set_option maxHeartbeats 8000000 in
theorem PySem.Challenge.cw_np0318_01_holds : PySem.Challenge.rw_np0318_01.Holds := by
  exact Mine.hd (by
  k_go0
  rename_i w s₀ s₁ mg mb Gr Yy fa o pm doc kV ho hgens X V T0 B TE TW hcd0 ls hsx hlay0 hL1 hr0 hl2 w4 w3 ax vs w0 hL ra w1 r0 hI hr hc1 hc0 hD h1 X' T' K' F' N' l0
  refine Mine.law_run (a := fa) (c := ⟨w, ExcName.means s₀.heap, mg, mb, callerA.depth + 1, callerA.units + 3, callerA.guards, [], callerA, ghostOf s₁.heap [(349, 345)], ghostOf s₁.heap [(349, 345)], s₁.heap.objs.size, []⟩) (ax := ax) (vs := vs) (l := ls) ⟨K', X', T', by show callerA.depth + 1 + 12 < 900; decide +kernel, by show callerA.units + 3 + 8 * 12 < 9000; decide +kernel, Mine.φ_law_ok fa⟩ ⟨rfl, rfl, rfl, codeHd⟩ F' N' rfl lifted hI (by omega) ?_
  rintro h' tk' m' led' F2 N2 ⟨ps, hps⟩
  refine ⟨goodW_bool F2 hgens (fun _ => rfl) ?_, GrownAt.of N2 hps, trivial⟩
  exact postW_of rfl (w_eq_bool (k := true) (l := true) (w_res rfl) w_lit) rfl)
