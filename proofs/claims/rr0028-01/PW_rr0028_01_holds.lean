import PyProof.Rows.All
import Wide.All
import OpenK.AllK
import Wide.FinOn
import Lean
import PySem.Challenge.RW_rr0028_01
open PySem PySem.W PyProof.Rows
set_option Elab.async false
set_option maxRecDepth 100000
namespace Mine

/-- the boot's heap as a tree -/
noncomputable def bootTree (P : Params) : BT := ((boot_heap P).objs.toList.foldl (fun (x : BT × Nat) o => (x.1.ins x.2 o, x.2 + 1)) (BT.nil, 0)).1

theorem bootTree_abs (P : Params) : absHeap (bootTree P) 11 {} = boot_heap P := by kernel_rfl

theorem through_of_endAt {t : Thread} : through t = (endAt 0 t).isSome := by
  obtain ⟨cur, code, pos, stack⟩ := t
  cases stack with
  | nil =>
    cases cur with
    | pure x => cases x <;> rfl
    | _ => rfl
  | cons a l => rfl

theorem topRun_of_segRun {tb : String → Option Builtin} {p : Program} {w : World} {n₀ : Nat} {ann : Option Value} :
    ∀ (n : Nat) (s : Shared) (t : Thread) (r : Flow × Shared × Code × Pos), segRun tb p w n₀ ann 0 n s t = some r → topRun tb p w n₀ ann n s t = some r.2.1 := by
  intro n
  induction n with
  | zero => intro s t r h; cases h
  | succ n ih =>
    intro s t r h
    unfold segRun at h
    unfold topRun
    have hth := through_of_endAt (t := t)
    cases he : endAt 0 t with
    | some f =>
      rw [he] at h hth
      rw [hth]
      cases h
      rfl
    | none =>
      rw [he] at h hth
      rw [hth]
      dsimp only [Option.isSome] at h ⊢
      cases hk : stepOk n₀ ann t with
      | false => rw [hk] at h; cases h
      | true =>
        rw [hk] at h
        dsimp only at h ⊢
        cases hs : step (denote tb) p w s t with
        | halt o s' => rw [hs] at h; cases h
        | go s' t' => rw [hs] at h; exact ih s' t' r h

/-- an object of the tree -/
noncomputable def getT (s : SharedT) (a : Addr) : Option Obj := match Nat.blt a s.n with
  | true => alive ((s.tree.get a).getD default)
  | false => none
theorem getT_abs (s : SharedT) (a : Addr) : s.abs.heap.get? a = getT s a := by
  show (absHeap s.tree s.n s.life).get? a = _
  unfold getT Heap.get?
  rw [absHeap_at]
  by_cases h : a < s.n
  · rw [if_pos h, show Nat.blt a s.n = true from Nat.ble_eq_true_of_le h]
    generalize (s.tree.get a).getD default = o
    obtain ⟨c, d, dt, sl⟩ := o
    cases dt <;> rfl
  · have q : Nat.blt a s.n = false := by
      cases q : Nat.blt a s.n with
      | false => rfl
      | true => exact absurd (Nat.le_of_ble_eq_true q) h
    rw [if_neg h, q]
theorem obs_abs {K : Params → Frag} {as : List Addr} {e : ∀ P, as = (K P).map (·.1)} (s : SharedT) : (kHook K as e).obs s.abs = as.map (getT s) :=
  List.map_congr_left fun a _ => getT_abs s a

/-- what is asked of the state behind the top -/
noncomputable def asks (p q : Program) (loose : List Str) (Xt : Shared → Bool) {α : Type} (y : α) (w : World) (s : Shared) :=
  ((staticsOk (importedModules p.main.body) (boot_heap w.params) s.heap && namesBound p s.heap && gensDone s && laidKept (boot_heap w.params) s.heap),
    PySem.W.Fast.tw4187177175401517315 q loose (importedModules p.main.body) Xt true s, y)

theorem left_of_run {p q : Program} {loose : List Str} {Xt : Shared → Bool} {α : Type} {Yf : Shared → α} {YT : SharedT → α} {Ya : World → α} {N M : Nat} {ann : Option Value} (hY : ∀ s : SharedT, Yf s.abs = YT s)
    (e : opening p = plainProg p.main.scope.names) (hN : Nat.ble 600 N = true) (f : ∀ s, fenceModules? p s = some s)
    (size : ∀ w : World, ((boot_heap w.params).isNs mainGlobals, (boot_heap w.params).nsMap mainGlobals "__annotations__") = (true, ann))
    (le : Nat.ble M N = true)
    (run : ∀ w : World, (fun os => (PySem.W.Fast.tw10110043849684766642 PySem.W.Fast.tw14364793385576792824 p w 11 ann 0 M ⟨bootTree w.params, 11, {}, #[], boot_drawn, boot_toks, os⟩ (topStub p)).map fun r => asks p q loose Xt (YT r.2.1) w r.2.1.abs)
      = fun _ => some (true, openGood q loose, Ya w)) : LeftO p q loose Xt Yf Ya N := by
  unfold asks at run
  rw [← PySem.W.Fast.te10110043849684766642, ← PySem.W.Fast.te14364793385576792824, ← PySem.W.Fast.te4187177175401517315] at run
  intro w
  obtain ⟨⟨h, gs, d, k, os⟩, e1, e2⟩ := Option.map_eq_some_iff.mp (boot_open e hN f w)
  simp only [Prod.mk.injEq] at e2
  obtain ⟨rfl, rfl, rfl, rfl⟩ := e2
  obtain ⟨r, r1, r2⟩ := Option.map_eq_some_iff.mp (congrFun (run w) os)
  obtain ⟨fl, s, c, q'⟩ := r
  have r3 := topRun_of_segRun _ _ _ _ (segRun_of r1)
  have r4 := topRun_mono (N - M) _ _ _ _ r3
  rw [show M + (N - M) = N from by have := Nat.le_of_ble_eq_true le; omega] at r4
  simp only [Prod.mk.injEq] at r2
  obtain ⟨a1, a2, a3⟩ := r2
  have z := size w
  simp only [Prod.mk.injEq] at z
  have hb : (SharedT.abs ⟨bootTree w.params, 11, {}, #[], boot_drawn, boot_toks, os⟩) = ⟨boot_heap w.params, #[], boot_drawn, boot_toks, os⟩ := by
    unfold SharedT.abs
    rw [bootTree_abs]
  rw [hb] at r4
  unfold openEnds
  rw [e1]
  have t : topFrom treeTable p w N ⟨boot_heap w.params, #[], boot_drawn, boot_toks, os⟩ = some s.abs := by
    unfold topFrom
    have g : ((boot_heap w.params).isNs mainGlobals && (#[] : Array GenState).size == 0) = true := by rw [z.1]; rfl
    dsimp only at r4 ⊢
    rw [g]
    dsimp only
    rw [z.2, show (boot_heap w.params).objs.size = 11 from rfl, r4]
    dsimp only [Option.bind]
    rw [a1]
  show (topFrom treeTable p w N _).map _ = _
  rw [t]
  exact congrArg some (Prod.ext a2 ((hY s).trans a3))
def q : Program := view PySem.Challenge.pw_rr0028_01 [45]
def loose : List Str := PySem.Challenge.pw_rr0028_01.boundNames.filter fun n => n != "law"
theorem said : PySem.Challenge.rw_rr0028_01.wellSaid = true := by
  unfold OpenLaw.wellSaid OpenRow.wellSaid OpenRow.partSaid looksOpen
  repeat' with_reducible refine look_both ?_ ?_
  all_goals (try rw [PySem.W.Fast.te8326940854005059898]); (try rw [PySem.W.Fast.te8377067652309620493]); (try rw [PySem.W.Fast.te17119622794617984870]); (try rw [PySem.W.Fast.te18344453789297297638]); (try rw [PySem.W.Fast.te13343964577679436407]); (try rw [PySem.W.Fast.te17868728402115742887]); decide +kernel
set_option hygiene false in
local macro_rules | `(tactic| o_law) => `(tactic| refine holds_law Mine.said fun said => ?_)
set_option hygiene false in
local macro_rules | `(tactic| o_head $H) => `(tactic| (
  refine holds_open (q := Mine.q) (loose := Mine.loose) (Xt := fun s => xlAt Mine.q [] s && recOk [] s) (XP := XL Mine.q []) (Yf := Hook.obs $H) (Ya := Hook.val $H) (YP := Hook.says $H) (N := 8000) ?_ (Hook.of $H) (Hook.keeps $H) (fun s e => xl_of s (Bool.and_eq_true_iff.mp e).1) XL.keeps (by rfl) (by rfl) (by rfl) (fun s e => recFacts_of (Bool.and_eq_true_iff.mp e).2) (by rfl) (by first | assumption | decide +kernel) (by decide +kernel) ⟨rfl, rfl, rfl, rfl, rfl, by decide +kernel⟩ ?hw ?hc
  · refine left_of_run (M := 4000) (ann := some (.ref 6)) (fun s => obs_abs s) rfl rfl (fun _ => rfl) (fun w => by kernel_rfl) rfl ?_
    intro w
    kernel_rfl))
set_option maxHeartbeats 8000000 in
open_top hd for PySem.Challenge.rw_rr0028_01
end Mine
open PySem.Calls
set_option maxHeartbeats 4000000
namespace Mine

abbrev pw : Program := PySem.Challenge.pw_rr0028_01


/-- the heap that the call owns -/
abbrev Hp := Addr → Option Obj
def Hp.put (H : Hp) (a : Addr) (o : Obj) : Hp := fun b => if b = a then some o else H b
theorem Hp.put_self (H : Hp) (a : Addr) (o : Obj) : H.put a o a = some o := if_pos rfl
theorem Hp.put_ne (H : Hp) {a b : Addr} (o : Obj) (h : b ≠ a) : H.put a o b = H b := if_neg h

structure St where
  m : Str → Option Value
  H : Hp

structure Ctx where
  w : World
  A : Around
  L : Addr
  qn : Str
  sc : Scope
  fa : Addr
  cd : Value
  g : Array GenState
  os : OsState
  lev : Nat
  cl : List (Str × Addr) := []
  G : Heap → Prop := fun _ => True

abbrev Ctx.env (C : Ctx) : Env := envX C.qn C.sc C.L C.fa C.cd C.cl

structure Ctx.Ok (C : Ctx) : Prop where
  hh : C.A.handled = none
  dep : C.A.depth ≤ 310 + 2 * C.lev
  un : C.A.units ≤ 10 + 8 * C.lev
  fn : C.sc.kind = .function

structure OkH (C : Ctx) (h₀ : Heap) : Prop where
  X : (Mine.hd.heap_1 C.w.params).In h₀
  low : ∃ (A₀ : Around) (base : Heap) (outer : List Env) (p : Program) (loose : List Str) (mean : ExcName → Option Value) (mg mb : Str → Option Value),
    Below A₀ base outer h₀ ∧ Top p loose mean mg mb h₀ ∧ C.A.frames = some (C.env :: outer)
  gh : C.G h₀

structure Holds (C : Ctx) (h₀ : Heap) (Z : Hp) (st : St) (s : Shared) : Prop where
  F : Fr h₀ C.L s.heap st.m
  N : ∀ a o, st.H a = some o → s.heap.get? a = some o ∧ a ≠ C.L ∧ h₀.get? a = none
  Z : ∀ a o, Z a = some o → s.heap.get? a = some o ∧ a ≠ C.L ∧ h₀.get? a = none ∧ st.H a = none
  g : s.gens = C.g
  os : s.os = C.os

section
variable {C : Ctx} {h₀ : Heap} {Z : Hp} {st : St} {s : Shared}

theorem Holds.tk (h : Holds C h₀ Z st s) (t : Nat) : Holds C h₀ Z st { s with toks := t } := ⟨h.F, h.N, h.Z, h.g, h.os⟩
theorem Holds.lt (h : Holds C h₀ Z st s) {a : Addr} {o : Obj} (ha : st.H a = some o) : a < s.heap.objs.size := Heap.lt_size (h.N a o ha).1
theorem Holds.new (h : Holds C h₀ Z st s) : st.H s.heap.objs.size = none := by
  cases q : st.H s.heap.objs.size with
  | none => rfl
  | some o => exact absurd (h.lt q) (Nat.lt_irrefl _)
theorem Holds.newZ (h : Holds C h₀ Z st s) : Z s.heap.objs.size = none := by
  cases q : Z s.heap.objs.size with
  | none => rfl
  | some o => exact absurd (Heap.lt_size (h.Z _ o q).1) (Nat.lt_irrefl _)
theorem Holds.neL (h : Holds C h₀ Z st s) : s.heap.objs.size ≠ C.L := Nat.ne_of_gt h.F.ns.lt
theorem Holds.new0 (h : Holds C h₀ Z st s) : h₀.get? s.heap.objs.size = none := by
  cases q : h₀.get? s.heap.objs.size with
  | none => rfl
  | some o => exact absurd (Heap.lt_size (h.F.keep _ o q)) (Nat.lt_irrefl _)

/-- a new object -/
theorem Holds.push (h : Holds C h₀ Z st s) (o : Obj) (hf : o.isFreed = false := by with_unfolding_all rfl) :
    Holds C h₀ Z ⟨st.m, st.H.put s.heap.objs.size o⟩ { s with heap := s.heap.push o } := by
  refine ⟨h.F.push o, fun a o' e => ?_, fun a o' e => ?_, h.g, h.os⟩
  · by_cases q : a = s.heap.objs.size
    · subst q
      rw [show (⟨st.m, st.H.put s.heap.objs.size o⟩ : St).H s.heap.objs.size = some o from Hp.put_self ..] at e
      cases e
      exact ⟨Heap.get?_push_size _ hf, h.neL, h.new0⟩
    · rw [show (⟨st.m, st.H.put s.heap.objs.size o⟩ : St).H a = st.H a from Hp.put_ne _ _ q] at e
      have z := h.N a o' e
      exact ⟨Heap.get?_push_of_some _ z.1, z.2⟩
  · have z := h.Z a o' e
    refine ⟨Heap.get?_push_of_some _ z.1, z.2.1, z.2.2.1, ?_⟩
    have : a ≠ s.heap.objs.size := fun q => by rw [q, h.newZ] at e; cases e
    exact (Hp.put_ne _ _ this).trans z.2.2.2

/-- an owned object is changed -/
theorem Holds.upd {h' : Heap} {a : Addr} {o o' : Obj} (h : Holds C h₀ Z st s) (ha : st.H a = some o) (hs : Heap.SameBut a s.heap h') (ho : h'.get? a = some o') :
    Holds C h₀ Z ⟨st.m, st.H.put a o'⟩ { s with heap := h' } := by
  have A := h.N a o ha
  refine ⟨⟨h.F.ns.sameBut hs (Ne.symm A.2.1), fun b x e => ?_, h.F.above⟩, fun b x e => ?_, fun b x e => ?_, h.g, h.os⟩
  · have : b ≠ a := fun q => by have := A.2.2; rw [← q, e] at this; cases this
    exact (hs.2 b this).trans (h.F.keep b x e)
  · by_cases q : b = a
    · subst q
      rw [show (⟨st.m, st.H.put b o'⟩ : St).H b = some o' from Hp.put_self ..] at e
      cases e
      exact ⟨ho, A.2⟩
    · rw [show (⟨st.m, st.H.put a o'⟩ : St).H b = st.H b from Hp.put_ne _ _ q] at e
      have z := h.N b x e
      exact ⟨(hs.2 b q).trans z.1, z.2⟩
  · have z := h.Z b x e
    have : b ≠ a := fun q => by have := z.2.2.2; rw [q, ha] at this; cases this
    exact ⟨(hs.2 b this).trans z.1, z.2.1, z.2.2.1, (Hp.put_ne _ _ this).trans z.2.2.2⟩

/-- a local name is bound -/
theorem Holds.bindL {h' : Heap} {x : Str} {v : Value} (h : Holds C h₀ Z st s) (hn : h'.Ns C.L fun y => if y = x then some v else st.m y) (hs : Heap.SameBut C.L s.heap h') :
    Holds C h₀ Z ⟨fun y => if y = x then some v else st.m y, st.H⟩ { s with heap := h' } :=
  ⟨h.F.set hn hs, fun a o e => ⟨(hs.2 a (h.N a o e).2.1).trans (h.N a o e).1, (h.N a o e).2⟩, fun a o e => ⟨(hs.2 a (h.Z a o e).2.1).trans (h.Z a o e).1, (h.Z a o e).2⟩, h.g, h.os⟩

/-- the heap grows by what nobody names -/
theorem Holds.more {h' : Heap} (h : Holds C h₀ Z st s) (hk : ∀ a o, s.heap.get? a = some o → h'.get? a = some o) : Holds C h₀ Z st { s with heap := h' } :=
  ⟨⟨let ⟨oL, a1, a2, hL, a3⟩ := h.F.ns; ⟨oL, a1, a2, hk _ _ hL, a3⟩, fun b o e => hk _ _ (h.F.keep b o e), h.F.above⟩,
    fun a o e => ⟨hk _ _ (h.N a o e).1, (h.N a o e).2⟩, fun a o e => ⟨hk _ _ (h.Z a o e).1, (h.Z a o e).2⟩, h.g, h.os⟩
end

def wpC {α : Type} (C : Ctx) (t : Sem α) (Q : α → St → Prop) (st : St) : Prop :=
  ∀ h₀ Z s, OkH C h₀ → Holds C h₀ Z st s → wpAny (model pw C.w) C.A t (fun a s' => ∃ st', Holds C h₀ Z st' s' ∧ Q a st') (fun _ _ => False) s

section
variable {α β : Type} {C : Ctx} {st : St}

theorem wpC.pure {a : α} {Q : α → St → Prop} (h : Q a st) : wpC C (pure a) Q st := fun _ _ _ _ hs => wpAny_pure ⟨st, hs, h⟩
theorem wpC.mono {t : Sem α} {Q Q' : α → St → Prop} (h : wpC C t Q st) (k : ∀ a st', Q a st' → Q' a st') : wpC C t Q' st :=
  fun h₀ Z s o hs => wpAny_mono (h h₀ Z s o hs) (fun a _ ⟨st', x, y⟩ => ⟨st', x, k a st' y⟩) fun _ _ x => x
theorem wpC.bind {t : Sem α} {f : α → Sem β} {Q : β → St → Prop} (h : wpC C t (fun a st' => wpC C (f a) Q st') st) : wpC C (t >>= f) Q st :=
  fun h₀ Z s o hs => wpAny_bind (wpAny_mono (h h₀ Z s o hs) (fun _ s' ⟨_, x, y⟩ => y h₀ Z s' o x) fun _ _ x => x)

/-- within a rule: what the rule asks behind a part of it -/
theorem wpC.go {t : Sem α} {Q : α → St → Prop} {R : α → Shared → Prop} {E : Value → Shared → Prop} {h₀ : Heap} {Z : Hp} {s : Shared} (h : wpC C t Q st) (o : OkH C h₀) (hs : Holds C h₀ Z st s)
    (k : ∀ a s' st', Holds C h₀ Z st' s' → Q a st' → R a s') : wpAny (model pw C.w) C.A t R E s :=
  wpAny_mono (h h₀ Z s o hs) (fun a s' ⟨st', x, y⟩ => k a s' st' x y) fun _ _ x => x.elim

/-- what is asked behind a statement: the rest, or the end that it brought -/
def Seq (C : Ctx) (rest : List Stmt) (Q : Flow → St → Prop) : Flow → St → Prop
  | .next, st => wpC C (execs rest C.env) Q st
  | f, st => Q f st
theorem seq_next {rest : List Stmt} {Q : Flow → St → Prop} (h : wpC C (execs rest C.env) Q st) : Seq C rest Q .next st := h
theorem seq_ret {rest : List Stmt} {Q : Flow → St → Prop} {v : Value} (h : Q (.ret v) st) : Seq C rest Q (.ret v) st := h
theorem seq_cont {rest : List Stmt} {Q : Flow → St → Prop} (h : Q .cont st) : Seq C rest Q .cont st := h
theorem lk {sc : Scope} {x : Str} {k : Option NameKind} (h : C.sc = sc) (e : sc.names.lookup x = k) : C.sc.names.lookup x = k := h ▸ e

-- statements
theorem c_nil {Q : Flow → St → Prop} (h : Q .next st) : wpC C (execs [] C.env) Q st := fun _ _ _ _ hs => wpAny_execs_nil ⟨st, hs, h⟩
theorem c_cons {x : Stmt} {rest : List Stmt} {Q : Flow → St → Prop} (h : wpC C (exec x C.env) (Seq C rest Q) st) : wpC C (execs (x :: rest) C.env) Q st :=
  fun h₀ Z _ o hs => wpAny_execs_cons (h.go o hs fun f s' st' hs' q => by
    cases f with
    | next => exact q h₀ Z s' o hs'
    | _ => exact ⟨st', hs', q⟩)
theorem c_Assign_Name {x : Str} {px pos : Pos} {e : Expr} {Q : Flow → St → Prop} (hl : C.sc.names.lookup x = some .local)
    (h : wpC C (eval e C.env) (fun v st' => Q .next ⟨fun y => if y = x then some v else st'.m y, st'.H⟩) st) (ok : C.Ok)
    (hs : swapsWith e (some (.Name x px)) pos.line C.env = Pure.pure false := by with_unfolding_all rfl) : wpC C (exec (.Assign [.Name x px] e pos) C.env) Q st :=
  fun _ _ _ o hh => wpAny_Assign_Name (h.go o hh fun v s' st' hs' q => wpAny_storeName_local hl hs'.F.ns (fun h' hn hsb => ⟨_, (hs'.bindL hn hsb).tk _, q⟩)
    (by show (C.sc.kind == .class || (C.sc.kind == .module && C.L != mainGlobals)) = false; rw [ok.fn]; rfl)) hs
theorem c_store {x : Str} {v : Value} {Q : Unit → St → Prop} (hl : C.sc.names.lookup x = some .local) (ok : C.Ok) (h : Q () ⟨fun y => if y = x then some v else st.m y, st.H⟩) : wpC C (storeName C.env x v) Q st :=
  fun _ _ _ _ hs' => wpAny_storeName_local hl hs'.F.ns (fun h' hn hsb => ⟨_, (hs'.bindL hn hsb).tk _, h⟩)
    (by show (C.sc.kind == .class || (C.sc.kind == .module && C.L != mainGlobals)) = false; rw [ok.fn]; rfl)
theorem c_Return {e : Expr} {pos : Pos} {Q : Flow → St → Prop} (h : wpC C (eval e C.env) (fun v st' => Q (.ret v) st') st) : wpC C (exec (.Return (some e) pos) C.env) Q st :=
  fun _ _ _ o hs => wpAny_Return_some (h _ _ _ o hs)
theorem c_Return0 {pos : Pos} {Q : Flow → St → Prop} (h : Q (.ret .none) st) : wpC C (exec (.Return none pos) C.env) Q st := fun _ _ _ _ hs => wpAny_Return_none ⟨st, hs, h⟩
theorem c_Expr {e : Expr} {pos : Pos} {Q : Flow → St → Prop} (h : wpC C (eval e C.env) (fun v st' => v = .none ∧ Q .next st') st)
    (hs : swapsWith e none pos.line C.env = Pure.pure false := by with_unfolding_all rfl) (hi : interactive C.env = false := by with_unfolding_all rfl) : wpC C (exec (.Expr e pos) C.env) Q st :=
  fun _ _ _ o hh => wpAny_Expr (h.go o hh fun v s' st' hs' q => by obtain ⟨rfl, q⟩ := q; exact ⟨st', hs', q⟩) hi hs
theorem c_If {test : Expr} {body orelse : List Stmt} {pos : Pos} {Q : Flow → St → Prop}
    (h : wpC C (isTrue test C.env (eval test C.env)) (fun b st' => (b = true → wpC C (execs body C.env) Q st') ∧ (b = false → wpC C (execs orelse C.env) Q st')) st) : wpC C (exec (.If test body orelse pos) C.env) Q st :=
  fun h₀ Z _ o hs => wpAny_If (h.go o hs fun b s' st' hs' q => by
    cases b with
    | true => exact q.1 rfl h₀ Z s' o hs'
    | false => exact q.2 rfl h₀ Z s' o hs')
theorem c_Continue {pos : Pos} {Q : Flow → St → Prop} (h : Q .cont st) : wpC C (exec (.Continue pos) C.env) Q st := fun _ _ _ _ hs => wpAny_Continue ⟨st, hs, h⟩
def WhileEnd (I : Nat → St → Prop) (Q : Flow → St → Prop) (n : Nat) : Flow → St → Prop
  | .next, st | .cont, st => ∃ k, k < n ∧ I k st
  | .brk, st => Q .next st
  | .ret v, st => Q (.ret v) st
theorem c_While {test : Expr} {body : List Stmt} {pos : Pos} {Q : Flow → St → Prop} (I : Nat → St → Prop)
    (turn : ∀ n st', I n st' → wpC C (isTrue test C.env (eval test C.env)) (fun b st₂ => (b = true → wpC C (execs body C.env) (WhileEnd I Q n) st₂) ∧ (b = false → Q .next st₂)) st')
    (n : Nat) (h : I n st) : wpC C (exec (.While test body [] pos) C.env) Q st :=
  fun h₀ Z s o hs => wpAny_While (codeAny_whileLoop (fun n s => ∃ st', Holds C h₀ Z st' s ∧ I n st') (fun n s ⟨st', hs', hI⟩ => by
    refine (turn n st' hI).go o hs' fun b s₂ st₂ hs₂ q => ?_
    cases b with
    | true =>
      refine (q.1 rfl).go o hs₂ fun f s₃ st₃ hs₃ q₃ => ?_
      cases f with
      | next => obtain ⟨k, hk, hI'⟩ := q₃; exact ⟨k, hk, st₃, hs₃, hI'⟩
      | cont => obtain ⟨k, hk, hI'⟩ := q₃; exact ⟨k, hk, st₃, hs₃, hI'⟩
      | brk => exact ⟨st₃, hs₃, q₃⟩
      | ret v => exact ⟨st₃, hs₃, q₃⟩
    | false =>
      exact wpAny_execs_nil ⟨st₂, hs₂, q.2 rfl⟩) n ⟨st, hs, h⟩)

-- expressions
theorem c_int {i : Int} {k : Nat} {pos : Pos} {Q : Value → St → Prop} (h : ∀ t, Q (.int i t) st) : wpC C (eval (.Constant (.int i) k pos) C.env) Q st := fun _ _ _ _ hs => wpAny_Constant_int ⟨st, hs.tk _, h _⟩
theorem c_str {x : Str} {k : Nat} {pos : Pos} {Q : Value → St → Prop} (h : ∀ t, Q (.str x t) st) : wpC C (eval (.Constant (.str x) k pos) C.env) Q st := fun _ _ _ _ hs => wpAny_Constant_str ⟨st, hs.tk _, h _⟩
theorem c_bool {b : Bool} {k : Nat} {pos : Pos} {Q : Value → St → Prop} (h : Q (.bool b) st) : wpC C (eval (.Constant (.bool b) k pos) C.env) Q st := fun _ _ _ _ hs => wpAny_Constant_bool ⟨st, hs, h⟩
theorem c_none {k : Nat} {pos : Pos} {Q : Value → St → Prop} (h : Q .none st) : wpC C (eval (.Constant .none k pos) C.env) Q st := fun _ _ _ _ hs => wpAny_Constant_none ⟨st, hs, h⟩
theorem c_local {x : Str} {pos : Pos} {v : Value} {Q : Value → St → Prop} (ok : C.Ok) (hl : C.sc.names.lookup x = some .local) (hv : st.m x = some v) (h : Q v st) (hd : (x == ("__debug__" : Str)) = false := by decide) :
    wpC C (eval (.Name x pos) C.env) Q st := fun _ _ _ _ hs => wpAny_Name (wpAny_loadName_local ok.fn hl hs.F.ns hv ⟨st, hs, h⟩) hd
theorem c_glob {x : Str} {pos : Pos} {v : Value} {Q : Value → St → Prop} (ok : C.Ok) (hl : C.sc.names.lookup x = some .globalImplicit) (hv : nsIn (Mine.hd.heap_1 C.w.params) mainGlobals x = some (some v)) (h : Q v st) (hd : (x == ("__debug__" : Str)) = false := by decide) :
    wpC C (eval (.Name x pos) C.env) Q st := fun _ _ _ o hs => by
  obtain ⟨A₀, base, outer, p, loose, mean, mg, mb, B, T, _⟩ := o.low
  exact Calls.Name_function_global (env := C.env) ok.fn hl (Calls.loadGlobal_global (env := C.env) ((topRead_of T).g.keeps hs.F.keep) (mg_of o.X (topRead_of T).g hv) ⟨st, hs, h⟩) hd
theorem c_builtin {x : Str} {pos : Pos} {v : Value} {Q : Value → St → Prop} (ok : C.Ok) (hl : C.sc.names.lookup x = some .globalImplicit) (hv : nsIn (Mine.hd.heap_1 C.w.params) mainGlobals x = some none) (hb : bootBuiltins x = some v) (h : Q v st) (hn : x ≠ "__name__" := by decide) (hd : (x == ("__debug__" : Str)) = false := by decide) :
    wpC C (eval (.Name x pos) C.env) Q st := fun _ _ _ o hs => by
  obtain ⟨A₀, base, outer, p, loose, mean, mg, mb, B, T, _⟩ := o.low
  exact Calls.Name_function_global (env := C.env) ok.fn hl (Calls.loadGlobal_builtin (env := C.env) ((topRead_of T).g.keeps hs.F.keep) (mg_none_of o.X (topRead_of T).g hv) ((topRead_of T).b.keeps hs.F.keep) (((topRead_of T).builtins x hn).trans hb) ⟨st, hs, h⟩) hd
theorem c_BinOp {l r : Expr} {op : Operator} {pos : Pos} {Q : Value → St → Prop} (h : wpC C (eval l C.env) (fun a st₁ => wpC C (eval r C.env) (fun b st₂ => wpC C (binaryOp op a b) Q st₂) st₁) st) : wpC C (eval (.BinOp l op r pos) C.env) Q st :=
  fun h₀ Z _ o hs => wpAny_BinOp (h.go o hs fun _ _ _ hs₁ q => q.go o hs₁ fun _ s₂ _ hs₂ q => q h₀ Z s₂ o hs₂)
theorem c_Compare {l r : Expr} {op : CmpOp} {pos : Pos} {Q : Value → St → Prop} (h : wpC C (eval l C.env) (fun a st₁ => wpC C (eval r C.env) (fun b st₂ => wpC C (compareOp op a b) Q st₂) st₁) st)
    (hm : behindInMarks op r = false := by with_unfolding_all rfl) : wpC C (eval (.Compare l [op] [r] pos) C.env) Q st :=
  fun h₀ Z _ o hs => wpAny_Compare1 (h.go o hs fun _ _ _ hs₁ q => q.go o hs₁ fun _ s₂ _ hs₂ q => q h₀ Z s₂ o hs₂) hm
theorem c_isCompare {l r : Expr} {op : CmpOp} {pos : Pos} {whole : Sem Value} {Q : Bool → St → Prop} (h : wpC C (eval l C.env) (fun a st₁ => wpC C (eval r C.env) (fun b st₂ => wpC C (compareOp op a b) (fun c st₃ => wpC C (truthy c) Q st₃) st₂) st₁) st)
    (hm : behindInMarks op r = false := by with_unfolding_all rfl) : wpC C (isTrue (.Compare l [op] [r] pos) C.env whole) Q st :=
  fun h₀ Z _ o hs => wpAny_isTrue_Compare1 (h.go o hs fun _ _ _ hs₁ q => q.go o hs₁ fun _ _ _ hs₂ q => q.go o hs₂ fun _ s₃ _ hs₃ q => q h₀ Z s₃ o hs₃) hm
theorem c_isNot {x : Expr} {pos : Pos} {whole : Sem Value} {Q : Bool → St → Prop} (h : wpC C (isTrue x C.env (eval x C.env)) (fun b st' => Q (!b) st') st) : wpC C (isTrue (.UnaryOp .Not x pos) C.env whole) Q st :=
  fun _ _ _ o hs => wpAny_isTrue_Not (h.go o hs fun _ _ st' hs' q => ⟨st', hs', q⟩)
theorem c_isValue {e : Expr} {whole : Sem Value} {Q : Bool → St → Prop} (h : wpC C whole (fun v st' => wpC C (truthy v) Q st') st)
    (he : isTrue e C.env whole = (do let v ← whole; standAt e.pos; holding [v] (truthy v)) := by with_unfolding_all rfl) : wpC C (isTrue e C.env whole) Q st :=
  fun h₀ Z _ o hs => wpAny_isTrue_value (h.go o hs fun _ s' _ hs' q => q h₀ Z s' o hs') he
theorem c_isAnd {values : List Expr} {pos : Pos} {whole : Sem Value} {Q : Bool → St → Prop} (h : wpC C (allTrue .And values C.env) Q st) : wpC C (isTrue (.BoolOp .And values pos) C.env whole) Q st := fun _ _ _ o hs => wpAny_isTrue_BoolOp (h _ _ _ o hs)
theorem c_isOr {values : List Expr} {pos : Pos} {whole : Sem Value} {Q : Bool → St → Prop} (h : wpC C (allTrue .Or values C.env) Q st) : wpC C (isTrue (.BoolOp .Or values pos) C.env whole) Q st := fun _ _ _ o hs => wpAny_isTrue_BoolOp (h _ _ _ o hs)
theorem c_And_nil {Q : Bool → St → Prop} (h : Q true st) : wpC C (allTrue .And [] C.env) Q st := fun _ _ _ _ hs => wpAny_allTrue_And_nil ⟨st, hs, h⟩
theorem c_Or_nil {Q : Bool → St → Prop} (h : Q false st) : wpC C (allTrue .Or [] C.env) Q st := fun _ _ _ _ hs => wpAny_allTrue_Or_nil ⟨st, hs, h⟩
theorem c_And_cons {x : Expr} {rest : List Expr} {Q : Bool → St → Prop} (h : wpC C (isTrue x C.env (eval x C.env)) (fun b st' => (b = true → wpC C (allTrue .And rest C.env) Q st') ∧ (b = false → Q false st')) st) : wpC C (allTrue .And (x :: rest) C.env) Q st :=
  fun h₀ Z _ o hs => wpAny_allTrue_And_cons (h.go o hs fun b s' st' hs' q => by
    cases b with
    | true => exact q.1 rfl h₀ Z s' o hs'
    | false => exact ⟨st', hs', q.2 rfl⟩)
theorem c_Or_cons {x : Expr} {rest : List Expr} {Q : Bool → St → Prop} (h : wpC C (isTrue x C.env (eval x C.env)) (fun b st' => (b = true → Q true st') ∧ (b = false → wpC C (allTrue .Or rest C.env) Q st')) st) : wpC C (allTrue .Or (x :: rest) C.env) Q st :=
  fun h₀ Z _ o hs => wpAny_allTrue_Or_cons (h.go o hs fun b s' st' hs' q => by
    cases b with
    | true => exact ⟨st', hs', q.1 rfl⟩
    | false => exact q.2 rfl h₀ Z s' o hs')
theorem c_Or2 {x y : Expr} {pos : Pos} {Q : Value → St → Prop} (h : wpC C (eval x C.env) (fun v st₁ => wpC C (truthy v) (fun t st₂ => (t = true → Q v st₂) ∧ (t = false → wpC C (eval y C.env) Q st₂)) st₁) st) : wpC C (eval (.BoolOp .Or [x, y] pos) C.env) Q st :=
  fun h₀ Z _ o hs => wpAny_Or2 (h.go o hs fun v _ _ hs₁ q => q.go o hs₁ fun t s₂ st₂ hs₂ q => by
    cases t with
    | true => exact ⟨st₂, hs₂, q.1 rfl⟩
    | false => exact q.2 rfl h₀ Z s₂ o hs₂)
theorem c_IfExp {test body orelse : Expr} {pos : Pos} {Q : Value → St → Prop} (h : wpC C (isTrue test C.env (eval test C.env)) (fun b st' => (b = true → wpC C (eval body C.env) Q st') ∧ (b = false → wpC C (eval orelse C.env) Q st')) st) : wpC C (eval (.IfExp test body orelse pos) C.env) Q st :=
  fun h₀ Z _ o hs => wpAny_IfExp (h.go o hs fun b s' st' hs' q => by
    cases b with
    | true => exact q.1 rfl h₀ Z s' o hs'
    | false => exact q.2 rfl h₀ Z s' o hs')
theorem c_truthy {b : Bool} {Q : Bool → St → Prop} (h : Q b st) : wpC C (truthy (.bool b)) Q st := fun _ _ _ _ hs => wpAny_truthy_bool ⟨st, hs, h⟩
theorem c_Unary {op : UnaryOp} {x : Expr} {pos : Pos} {Q : Value → St → Prop} (h : wpC C (eval x C.env) (fun v st' => wpC C (unaryOp op v) Q st') st) : wpC C (eval (.UnaryOp op x pos) C.env) Q st :=
  fun h₀ Z _ o hs => wpAny_UnaryOp (h.go o hs fun _ s' _ hs' q => q h₀ Z s' o hs')

theorem c_args_nil {pos : Pos} {Q : List Value → St → Prop} (h : Q [] st) : wpC C (spliced (backTo pos (starEach [] C.env))) Q st := fun _ _ _ _ hs => args_nil ⟨st, hs, h⟩
theorem c_args_cons {e : Expr} {rest : List Expr} {pos : Pos} {Q : List Value → St → Prop}
    (h : wpC C (eval e C.env) (fun v st₁ => wpC C (spliced (backTo pos (starEach rest C.env))) (fun vs st₂ => Q (v :: vs) st₂) st₁) st)
    (he : starEach (e :: rest) C.env = (false, eval e C.env) :: starEach rest C.env := by with_unfolding_all rfl) : wpC C (spliced (backTo pos (starEach (e :: rest) C.env))) Q st :=
  fun h₀ Z _ o hs => args_cons (h.go o hs fun _ s' _ hs' q => q h₀ Z s' o hs') he
theorem c_Call {func : Expr} {args : List Expr} {pos : Pos} {Q : Value → St → Prop} (h : wpC C (eval func C.env) (fun f st₁ => wpC C (callWith pos f [] (backTo pos (starEach args C.env)) []) Q st₁) st)
    (he : eval (.Call func args [] pos) C.env = (do callWith pos (← eval func C.env) [] (backTo pos (starEach args C.env)) (backToKw pos (keywordEach [] C.env))) := by with_unfolding_all rfl) : wpC C (eval (.Call func args [] pos) C.env) Q st :=
  fun h₀ Z _ o hs => Call_ (h.go o hs fun _ s' _ hs' q => q h₀ Z s' o hs') he
theorem c_Method {e : Expr} {name : Str} {apos pos : Pos} {args : List Expr} {pl : Sem Bool} {Q : Value → St → Prop}
    (h : wpC C (eval e C.env) (fun ov st₁ => wpC C (getMethod ov name pl) (fun fx st₂ => wpC C (callWith pos fx.1 fx.2 (backTo pos (starEach args C.env)) []) Q st₂) st₁) st)
    (he : eval (.Call (.Attribute e name apos) args [] pos) C.env = (do
      let ov ← eval e C.env
      standAt apos.atName
      let (f, first) ← holding [ov] (getMethod ov name pl)
      callWith pos f first (backTo pos (starEach args C.env)) []) := by with_unfolding_all rfl) : wpC C (eval (.Call (.Attribute e name apos) args [] pos) C.env) Q st :=
  fun h₀ Z _ o hs => MethodCall_ (h.go o hs fun _ _ _ hs₁ q => q.go o hs₁ fun _ s₂ _ hs₂ q => q h₀ Z s₂ o hs₂) he
theorem c_with {pos : Pos} {f : Value} {first : List Value} {e : Expr} {rest : List Expr} {Q : Value → St → Prop} (hk : keepIn (Mine.hd.heap_1 C.w.params) f = true)
    (h : wpC C (spliced (backTo pos (starEach (e :: rest) C.env))) (fun vs st' => wpC C (call f (first ++ vs)) Q st') st)
    (he : starEach (e :: rest) C.env = (false, eval e C.env) :: starEach rest C.env := by with_unfolding_all rfl) (hplain : (backTo pos (starEach rest C.env)).any (·.1) = false := by with_unfolding_all rfl) :
    wpC C (callWith pos f first (backTo pos (starEach (e :: rest) C.env)) []) Q st :=
  fun h₀ Z _ o hs => callWith_K o.X hk (h.go o hs fun _ s' _ hs' q => ⟨o.X.keeps hs'.F.keep, q h₀ Z s' o hs'⟩) he hplain
theorem c_with0 {pos : Pos} {f : Value} {first : List Value} {Q : Value → St → Prop} (hk : keepIn (Mine.hd.heap_1 C.w.params) f = true) (h : wpC C (call f (first ++ [])) Q st) : wpC C (callWith pos f first (backTo pos (starEach [] C.env)) []) Q st :=
  fun h₀ Z s o hs => callWith_K0 (o.X.keeps hs.F.keep) hk (h h₀ Z s o hs)
theorem c_withB {pos : Pos} {id : String} {first : List Value} {e : Expr} {rest : List Expr} {Q : Value → St → Prop}
    (h : wpC C (spliced (backTo pos (starEach (e :: rest) C.env))) (fun vs st' => wpC C (call (.builtin id) (first ++ vs)) Q st') st)
    (he : starEach (e :: rest) C.env = (false, eval e C.env) :: starEach rest C.env := by with_unfolding_all rfl) (hplain : (backTo pos (starEach rest C.env)).any (·.1) = false := by with_unfolding_all rfl) :
    wpC C (callWith pos (.builtin id) first (backTo pos (starEach (e :: rest) C.env)) []) Q st :=
  fun h₀ Z _ o hs => callWith_method1 (h.go o hs fun _ s' _ hs' q => q h₀ Z s' o hs') he hplain
theorem c_withB0 {pos : Pos} {id : String} {first : List Value} {Q : Value → St → Prop} (h : wpC C (call (.builtin id) first) Q st) : wpC C (callWith pos (.builtin id) first (backTo pos (starEach [] C.env)) []) Q st :=
  fun _ _ _ o hs => callWith_method0 (h _ _ _ o hs)
theorem c_withT {pos : Pos} {T : String} {e : Expr} {rest : List Expr} {Q : Value → St → Prop}
    (h : wpC C (spliced (backTo pos (starEach (e :: rest) C.env))) (fun vs st' => wpC C (call (.type T) vs) Q st') st)
    (he : starEach (e :: rest) C.env = (false, eval e C.env) :: starEach rest C.env := by with_unfolding_all rfl) (hplain : (backTo pos (starEach rest C.env)).any (·.1) = false := by with_unfolding_all rfl) :
    wpC C (callWith pos (.type T) [] (backTo pos (starEach (e :: rest) C.env)) []) Q st :=
  fun h₀ Z _ o hs => callWith_type1 (h.go o hs fun _ s' _ hs' q => q h₀ Z s' o hs') he hplain
theorem c_withT0 {pos : Pos} {T : String} {Q : Value → St → Prop} (h : wpC C (call (.type T) []) Q st) : wpC C (callWith pos (.type T) [] (backTo pos (starEach [] C.env)) []) Q st :=
  fun _ _ _ o hs => callWith_type0 (h _ _ _ o hs)
theorem c_Attr {e : Expr} {attr : Str} {pos : Pos} {Q : Value → St → Prop} (h : wpC C (eval e C.env) (fun ov st' => wpC C (getAttr ov attr true) Q st') st)
    (he : eval (.Attribute e attr pos) C.env = (do
      let o ← eval e C.env
      standAt pos.atName
      let r ← holding [o] (getAttr o attr true)
      letTemporaryGo e o r
      Pure.pure r) := by with_unfolding_all rfl) : wpC C (eval (.Attribute e attr pos) C.env) Q st :=
  fun h₀ Z _ o hs => Attribute_any_ (h.go o hs fun _ s' _ hs' q => q h₀ Z s' o hs') he
theorem c_Sub {e i : Expr} {pos : Pos} {Q : Value → St → Prop} (h : wpC C (eval e C.env) (fun ov st₁ => wpC C (eval i C.env) (fun iv st₂ => wpC C (subscriptTail e i ov iv) Q st₂) st₁) st) : wpC C (eval (.Subscript e i pos) C.env) Q st :=
  fun h₀ Z _ o hs => Subscript_ (h.go o hs fun _ _ _ hs₁ q => q.go o hs₁ fun _ s₂ _ hs₂ q => q h₀ Z s₂ o hs₂)
theorem c_Tuple {elts : List Expr} {k : Nat} {pos : Pos} {Q : Value → St → Prop} (h : wpC C (spliced (backTo pos (starEach elts C.env))) (fun vs st' => wpC C (newTuple vs) Q st') st) : wpC C (eval (.Tuple elts k pos) C.env) Q st :=
  fun h₀ Z _ o hs => Tuple_ (h.go o hs fun _ s' _ hs' q => q h₀ Z s' o hs')
theorem c_List {elts : List Expr} {pos : Pos} {Q : Value → St → Prop} (h : wpC C (spliced (backTo pos (starEach elts C.env))) (fun vs st' => wpC C (newList vs) Q st') st) : wpC C (eval (.List elts pos) C.env) Q st :=
  fun h₀ Z _ o hs => List_ (h.go o hs fun _ s' _ hs' q => q h₀ Z s' o hs')

theorem c_AssignSub {e i value : Expr} {pos' pos : Pos} {Q : Flow → St → Prop}
    (h : wpC C (eval value C.env) (fun v st₁ => wpC C (eval e C.env) (fun ov st₂ => wpC C (eval i C.env) (fun iv st₃ => wpC C (setItem ov iv v) (fun _ st₄ => Q .next st₄) st₃) st₂) st₁) st)
    (hsw : swapsWith value (some (.Subscript e i pos')) pos.line C.env = Pure.pure false := by with_unfolding_all rfl) : wpC C (exec (.Assign [.Subscript e i pos'] value pos) C.env) Q st :=
  fun h₀ Z _ o hs => wpAny_Assign_Subscript (h.go o hs fun _ _ _ hs₁ q => q.go o hs₁ fun _ _ _ hs₂ q => q.go o hs₂ fun _ s₃ _ hs₃ q => q h₀ Z s₃ o hs₃) hsw
theorem c_AssignAttr {e value : Expr} {attr : Str} {pos' pos : Pos} {Q : Flow → St → Prop}
    (h : wpC C (eval value C.env) (fun v st₁ => wpC C (eval e C.env) (fun ov st₂ => wpC C (setAttr ov attr v) (fun _ st₃ => Q .next st₃) st₂) st₁) st)
    (hsw : swapsWith value (some (.Attribute e attr pos')) pos.line C.env = Pure.pure false := by with_unfolding_all rfl) : wpC C (exec (.Assign [.Attribute e attr pos'] value pos) C.env) Q st :=
  fun h₀ Z _ o hs => plainObj_wpAny_Assign_Attribute (h.go o hs fun _ _ _ hs₁ q => q.go o hs₁ fun _ s₂ _ hs₂ q => q h₀ Z s₂ o hs₂) hsw
theorem c_AugSub {e i value : Expr} {op : Operator} {pos' pos : Pos} {Q : Flow → St → Prop}
    (h : wpC C (eval e C.env) (fun ov st₁ => wpC C (eval i C.env) (fun iv st₂ => wpC C (getItem ov iv) (fun old st₃ => wpC C (eval value C.env) (fun v st₄ => wpC C (inplaceOp op old v) (fun new st₅ => wpC C (setItem ov iv new) (fun _ st₆ => Q .next st₆) st₅) st₄) st₃) st₂) st₁) st)
    (ha : ∀ ov iv new, augStore i ov iv new = (do holding [new, ov, iv] (setItem ov iv new); release [new, ov, iv] []; Pure.pure .next) := by intro _ _ _; rfl) : wpC C (exec (.AugAssign (.Subscript e i pos') op value pos) C.env) Q st :=
  fun h₀ Z _ o hs => wpAny_AugAssign_Subscript_any (h.go o hs fun _ _ _ hs₁ q => q.go o hs₁ fun _ _ _ hs₂ q => q.go o hs₂ fun _ _ _ hs₃ q => q.go o hs₃ fun _ _ _ hs₄ q => q.go o hs₄ fun _ s₅ _ hs₅ q => q h₀ Z s₅ o hs₅) ha
theorem c_AugName {x : Str} {px pos : Pos} {value : Expr} {op : Operator} {old : Value} {Q : Flow → St → Prop} (ok : C.Ok) (hl : C.sc.names.lookup x = some .local) (hv : st.m x = some old)
    (h : wpC C (eval value C.env) (fun v st₁ => wpC C (inplaceOp op old v) (fun new st₂ => Q .next ⟨fun y => if y = x then some new else st₂.m y, st₂.H⟩) st₁) st) : wpC C (exec (.AugAssign (.Name x px) op value pos) C.env) Q st :=
  fun h₀ Z s o hs => wpAny_AugAssign_Name (wpAny_loadName_local ok.fn hl hs.F.ns hv (h.go o hs fun _ _ _ hs₁ q => q.go o hs₁ fun _ s₂ st₂ hs₂ q => c_store hl ok (Q := fun _ st => Q .next st) q h₀ Z s₂ o hs₂))
end

/-- the owned heap as a ledger -/
def ledger (H Z : Hp) (n : Nat) : List (Addr × Obj) := (List.range n).filterMap fun a => ((H a).or (Z a)).map fun o => (a, o)
theorem mem_ledger {H Z : Hp} {n : Nat} {p : Addr × Obj} : p ∈ ledger H Z n ↔ p.1 < n ∧ (H p.1).or (Z p.1) = some p.2 := by
  unfold ledger
  rw [List.mem_filterMap]
  constructor
  · rintro ⟨a, ha, e⟩
    obtain ⟨o, ho, rfl⟩ := Option.map_eq_some_iff.mp e
    exact ⟨List.mem_range.mp ha, ho⟩
  · rintro ⟨h1, h2⟩
    exact ⟨p.1, List.mem_range.mpr h1, by rw [h2]; rfl⟩

section
variable {C : Ctx} {h₀ : Heap} {Z : Hp} {st : St} {s : Shared}
theorem Holds.news (h : Holds C h₀ Z st s) : News h₀ C.L s.heap (ledger st.H Z s.heap.objs.size) := fun p hp => by
  obtain ⟨_, e⟩ := mem_ledger.mp hp
  cases q : st.H p.1 with
  | some o => rw [q] at e; cases e; exact h.N _ _ q
  | none => rw [q] at e; exact ⟨(h.Z _ _ e).1, (h.Z _ _ e).2.1, (h.Z _ _ e).2.2.1⟩
theorem Holds.mem (h : Holds C h₀ Z st s) {a : Addr} {o : Obj} (e : st.H a = some o) : (a, o) ∈ ledger st.H Z s.heap.objs.size :=
  mem_ledger.mpr ⟨h.lt e, by rw [e]; rfl⟩
theorem Holds.memZ (h : Holds C h₀ Z st s) {a : Addr} {o : Obj} (e : Z a = some o) : (a, o) ∈ ledger st.H Z s.heap.objs.size :=
  mem_ledger.mpr ⟨Heap.lt_size (h.Z a o e).1, by rw [(h.Z a o e).2.2.2, e]; rfl⟩
end

section
variable {C : Ctx} {st : St}

/-- a call by its code -/
def codeC (C : Ctx) (f : Value) (args : List Value) (Q : Value → St → Prop) (st : St) : Prop :=
  ∀ h₀ Z s, OkH C h₀ → Holds C h₀ Z st s → codeAny (model pw C.w) C.A (.call f ⟨args, []⟩) (fun r s' => match r with | .ok (.ret v) => ∃ st', Holds C h₀ Z st' s' ∧ Q v st' | _ => False) s
theorem c_call {f : Value} {args : List Value} {Q : Value → St → Prop} (h : codeC C f args Q st) : wpC C (call f args) Q st := fun h₀ Z s o hs =>
  wpAny_call (codeAny_mono (h h₀ Z s o hs) fun r s' z => by
    rcases r with e | (v | _ | _ | _)
    all_goals first | exact z.elim | exact z)
theorem codeC.mono {f : Value} {args : List Value} {Q Q' : Value → St → Prop} (h : codeC C f args Q st) (k : ∀ v st', Q v st' → Q' v st') : codeC C f args Q' st := fun h₀ Z s o hs =>
  codeAny_mono (h h₀ Z s o hs) fun r s' z => by
    rcases r with e | (v | _ | _ | _)
    all_goals first | exact z.elim | exact let ⟨st', a, b⟩ := z; ⟨st', a, k _ _ b⟩

/-- what a def hands back -/
def Back (m : Str → Option Value) (Q : Value → St → Prop) : Flow → St → Prop := fun fl st' => Q (match fl with | .ret v => v | _ => .none) ⟨m, st'.H⟩
theorem back_ret {m : Str → Option Value} {Q : Value → St → Prop} {v : Value} {st' : St} (h : Q v ⟨m, st'.H⟩) : Back m Q (.ret v) st' := h
theorem back_next {m : Str → Option Value} {Q : Value → St → Prop} {st' : St} (h : Q .none ⟨m, st'.H⟩) : Back m Q .next st' := h
/-- a call of a def of the text's own -/
theorem c_def {Q : Value → St → Prop} {name qual : Str} {params : Arguments} {body : List Stmt} {scope : Scope} {dV kV doc pm cdv ct oc : Value} {an od : Option Addr} {osl : Array (Option Value)} {f : Addr} {args : List Value} {binds : List (Str × Value)}
    (ok : C.Ok) (ho : (Mine.hd.heap_1 C.w.params).lookup f = some ⟨oc, od, .func (fnOf name qual params body scope dV kV doc pm an cdv ct), osl⟩) (hcd : codeIn (Mine.hd.heap_1 C.w.params) cdv qual = true)
    (hbind : ∀ s : Shared, (Mine.hd.heap_1 C.w.params).In s.heap → BindsTo s (fnOf name qual params body scope dV kV doc pm an cdv ct) ⟨args, []⟩ binds) (hloc : ∀ y ∈ binds, scope.names.lookup y.1 = some .local) (hlev : C.lev ≤ 30)
    (hco : scope.isCoroutine = false) (hgen : scope.isGenerator = false) (hk : scope.kind = .function) (hcell : ∀ x ∈ scope.names, x.2 ≠ .cell)
    (h : ∀ C' : Ctx, C'.Ok → C'.w = C.w → C'.sc = scope → C'.lev = C.lev + 1 → wpC C' (execs body C'.env) (Back st.m Q) ⟨fun y => binds.reverse.lookup y, st.H⟩) :
    codeC C (.ref f) args Q st := fun h₀ Z s o hs => by
  obtain ⟨A₀, base, outer, p, loose, mean, mg, mb, B, T, hA⟩ := o.low
  have room : C.A.depth < recursionLimit := by have := ok.dep; show _ < 1000; omega
  refine (code_def B hs.F o.X hs.news T hA rfl ok.fn ho hcd room (hbind s (o.X.keeps hs.F.keep)) hloc (fun g L' h₁ FG F' N' B' X' T' => ?_) hco hgen hk hcell)
  let C' : Ctx := { w := C.w, A := C.A.deeper (envOf qual scope L' f cdv), L := L', qn := qual, sc := scope, fa := f, cd := cdv, g := C.g, os := C.os, lev := C.lev + 1 }
  have ok' : C'.Ok := ⟨ok.hh, by have := ok.dep; show C.A.depth + 1 ≤ 310 + 2 * (C.lev + 1); omega, by have := ok.un; show C.A.units + 3 ≤ 10 + 8 * (C.lev + 1); omega, hk⟩
  have oh : OkH C' g := ⟨X', ⟨C.A, base, C.env :: outer, p, loose, mean, mg, mb, B', T', by show (C.A.frames.map (envOf qual scope L' f cdv :: ·)) = _; rw [hA]; rfl⟩, trivial⟩
  have hh : Holds C' g Z ⟨fun y => binds.reverse.lookup y, st.H⟩ { s with heap := h₁, toks := s.toks + binds.length } :=
    ⟨F', fun a o e => N' _ (hs.mem e), fun a o e => ⟨(N' _ (hs.memZ e)).1, (N' _ (hs.memZ e)).2.1, (N' _ (hs.memZ e)).2.2, (hs.Z a o e).2.2.2⟩, hs.g, hs.os⟩
  refine wpAny_mono (h C' ok' rfl rfl rfl g Z _ oh hh) (fun fl s' ⟨st', hs', q⟩ => ?_) fun _ _ x => x.elim
  refine leaveK_ hs'.F hs'.news fun F₂ N₂ => ?_
  refine ⟨⟨st.m, st'.H⟩, ⟨F₂, fun a o e => N₂ _ (hs'.mem e), fun a o e => ⟨(N₂ _ (hs'.memZ e)).1, (N₂ _ (hs'.memZ e)).2.1, (N₂ _ (hs'.memZ e)).2.2, (hs'.Z a o e).2.2.2⟩, hs'.g, hs'.os⟩, q⟩

-- objects
abbrev tupO (vs : List Value) : Obj := { cls := .type "tuple", data := .seq vs.toArray }
abbrev lstO (vs : List Value) (n : Nat) : Obj := { cls := .type "list", data := .seq vs.toArray n }

theorem c_newTuple {vs : List Value} {Q : Value → St → Prop} (hsz : vs.length ≤ sizeLine) (h : ∀ a, st.H a = none → Q (.ref a) ⟨st.m, st.H.put a (tupO vs)⟩) : wpC C (newTuple vs) Q st :=
  fun _ _ s _ hs => wpAny_newObj_type (T := "tuple") (data := .seq vs.toArray) ⟨_, hs.push _, h _ hs.new⟩ (by show vs.toArray.size ≤ sizeLine; rw [List.size_toArray]; exact hsz)
theorem c_newList {vs : List Value} {Q : Value → St → Prop} (hsz : vs.length ≤ sizeLine) (h : ∀ a, st.H a = none → Q (.ref a) ⟨st.m, st.H.put a (lstO vs 0)⟩) : wpC C (newList vs) Q st :=
  fun _ _ s _ hs => wpAny_newObj_type (T := "list") (data := .seq vs.toArray) ⟨_, hs.push _, h _ hs.new⟩ (by show vs.toArray.size ≤ sizeLine; rw [List.size_toArray]; exact hsz)

theorem c_len {l : Addr} {vs : List Value} {n : Nat} {Q : Value → St → Prop} (hl : st.H l = some (lstO vs n)) (hsz : vs.length ≤ sizeLine) (h : ∀ t, Q (.int vs.length t) st) : wpC C (call (.builtin "len") [.ref l]) Q st :=
  fun _ _ s _ hs => len_list (items := vs.toArray) ⟨_, (hs.N _ _ hl).1, rfl, _, rfl⟩ (by rw [List.size_toArray]; have := sizeLine_eq; omega) ⟨st, hs.tk _, by rw [List.size_toArray]; exact h _⟩
theorem c_item {e i : Expr} {l : Addr} {vs : List Value} {n : Nat} {k : Int} {u : Tok} {x : Value} {Q : Value → St → Prop} (hl : st.H l = some (lstO vs n)) (h0 : 0 ≤ k) (hf : k < 2 ^ 63) (hx : vs[k.toNat]? = some x) (h : Q x st)
    (hs' : subscripted i false (.ref l) (.int k u) = operate [.ref l, .int k u] (getItem (.ref l) (.int k u)) := by with_unfolding_all rfl) :
    wpC C (subscriptTail e i (.ref l) (.int k u)) Q st := fun _ _ s _ hs => tail_any (T := "list") ⟨_, (hs.N _ _ hl).1, rfl⟩ slot_list_getitem.lookup (wpAny_getItem_list (items := vs.toArray) ⟨_, (hs.N _ _ hl).1, rfl, _, rfl⟩ h0 hf (by simpa using hx) ⟨st, hs, h⟩) hs'
theorem c_itemT {e i : Expr} {l : Addr} {vs : List Value} {k : Int} {u : Tok} {j : Nat} {x : Value} {Q : Value → St → Prop} (hl : st.H l = some (tupO vs)) (hlo : -(2 ^ 63) ≤ k) (hf : k < 2 ^ 63) (hj : seqIndex? k vs.length = some j) (hx : vs[j]? = some x) (h : Q x st)
    (hs' : subscripted i false (.ref l) (.int k u) = operate [.ref l, .int k u] (getItem (.ref l) (.int k u)) := by with_unfolding_all rfl) :
    wpC C (subscriptTail e i (.ref l) (.int k u)) Q st := fun _ _ s _ hs => tail_any (T := "tuple") ⟨_, (hs.N _ _ hl).1, rfl⟩ slot_tuple_getitem.lookup (PyProof.Rows.getItem_tuple (items := vs.toArray) ⟨_, (hs.N _ _ hl).1, rfl, _, rfl⟩ hlo hf (by simpa using hj) (by simpa using hx) ⟨st, hs, h⟩) hs'
theorem c_getItem {l : Addr} {vs : List Value} {n : Nat} {k : Int} {u : Tok} {x : Value} {Q : Value → St → Prop} (hl : st.H l = some (lstO vs n)) (h0 : 0 ≤ k) (hf : k < 2 ^ 63) (hx : vs[k.toNat]? = some x) (h : Q x st) :
    wpC C (getItem (.ref l) (.int k u)) Q st := fun _ _ s _ hs => wpAny_getItem_list (items := vs.toArray) ⟨_, (hs.N _ _ hl).1, rfl, _, rfl⟩ h0 hf (by simpa using hx) ⟨st, hs, h⟩
theorem c_setItem {l : Addr} {vs : List Value} {n : Nat} {k : Int} {u : Tok} {v : Value} {Q : Unit → St → Prop} (hl : st.H l = some (lstO vs n)) (h0 : 0 ≤ k) (hf : k < 2 ^ 63) (hk : k.toNat < vs.length) (h : Q () ⟨st.m, st.H.put l (lstO (vs.set k.toNat v) n)⟩) :
    wpC C (setItem (.ref l) (.int k u) v) Q st := fun _ _ s _ hs => ki_setAt (items := vs.toArray) (n := n) (hs.N _ _ hl).1 h0 hf (by rw [List.size_toArray]; omega) ⟨_, hs.upd hl (Heap.SameBut.update ..) (by
      have q := PySem.IsL.update (hs.N _ _ hl).1 (fun x => x.setIfInBounds k.toNat v)
      have e : vs.toArray.setIfInBounds k.toNat v = (vs.set k.toNat v).toArray := by apply Array.toList_inj.mp; simp
      rw [e, if_pos (by simp)] at q
      exact q), h⟩
theorem c_method {name : Str} {id : String} {pl : Sem Bool} {l : Addr} {vs : List Value} {n : Nat} {Q : Value × List Value → St → Prop} (slot : Slot "list" name id) (hty : typeOf (.builtin id) = Pure.pure (.type "method_descriptor")) (hl : st.H l = some (lstO vs n))
    (h : Q (.builtin id, [.ref l]) st) : wpC C (getMethod (.ref l) name pl) Q st :=
  fun _ _ s _ hs => getMethod_builtin ⟨_, (hs.N _ _ hl).1, rfl⟩ PySem.F.plainAttrs_list slot hty (fun a e => by cases e; exact ⟨_, (hs.N _ _ hl).1, rfl⟩) ⟨st, hs, h⟩
theorem c_append {l : Addr} {vs : List Value} {n : Nat} {x : Value} {Q : Value → St → Prop} (hl : st.H l = some (lstO vs n)) (hsz : vs.length ≤ sizeLine) (h : Q .none ⟨st.m, st.H.put l (lstO (vs ++ [x]) (n + 1))⟩) : wpC C (call (.builtin "list.append") [.ref l, x]) Q st :=
  fun _ _ s _ hs => append_at (hsz := by rw [List.size_toArray]; exact hsz) (hs.N _ _ hl).1 fun h' hsb ho => ⟨_, hs.upd hl hsb (by rw [ho]; simp), h⟩
theorem c_pop {l : Addr} {vs : List Value} {n : Nat} {y : Value} {Q : Value → St → Prop} (hl : st.H l = some (lstO (vs ++ [y]) n)) (hsz : vs.length + 1 ≤ sizeLine) (h : Q y ⟨st.m, st.H.put l (lstO vs (n + 1))⟩) : wpC C (call (.builtin "list.pop") [.ref l]) Q st :=
  fun _ _ s _ hs => by
    have hz : (vs ++ [y]).toArray.size ≤ sizeLine := by rw [List.size_toArray, List.length_append]; exact hsz
    have hk : (vs ++ [y]).toArray.size - 1 = vs.length := by rw [List.size_toArray, List.length_append]; rfl
    have hy : (vs ++ [y]).toArray[(vs ++ [y]).toArray.size - 1]? = some y := by rw [hk]; simp
    refine call_meets PySem.F.slot_list_pop ⟨_, (hs.N _ _ hl).1, rfl⟩ PySem.F.entry_list_pop (PySem.F.args_list_pop_1 _) (PySem.MeetsSeq.list_pop_last l _ n y hy hz) ⟨(hs.N _ _ hl).1, _, hs.upd hl (Heap.SameBut.update ..) ?_, h⟩
    have q := PySem.IsL.update (hs.N _ _ hl).1 (fun x => x.eraseIdxIfInBounds ((vs ++ [y]).toArray.size - 1))
    have e : (vs ++ [y]).toArray.eraseIdxIfInBounds ((vs ++ [y]).toArray.size - 1) = vs.toArray := by rw [hk, kl_erase, List.append_nil]
    have ne : ¬ (vs.toArray.size == (vs ++ [y]).toArray.size) = true := by simp
    rw [e, if_neg ne] at q
    exact q

-- ints
theorem c_add {a b : Int} {t u : Tok} {Q : Value → St → Prop} (h : ∀ t, Q (.int (a + b) t) st) : wpC C (binaryOp .Add (.int a t) (.int b u)) Q st := fun _ _ _ _ hs => add_int ⟨st, hs.tk _, h _⟩
theorem c_iadd {a b : Int} {t u : Tok} {Q : Value → St → Prop} (h : ∀ t, Q (.int (a + b) t) st) : wpC C (inplaceOp .Add (.int a t) (.int b u)) Q st := fun _ _ _ _ hs => iadd_int ⟨st, hs.tk _, h _⟩
theorem c_sub {a b : Int} {t u : Tok} {Q : Value → St → Prop} (h : ∀ t, Q (.int (a - b) t) st) : wpC C (binaryOp .Sub (.int a t) (.int b u)) Q st := fun _ _ _ _ hs => sub_int ⟨st, hs.tk _, h _⟩
theorem c_mul {a b : Int} {t u : Tok} {Q : Value → St → Prop} (hm : IntMulOk a b) (h : ∀ t, Q (.int (a * b) t) st) : wpC C (binaryOp .Mult (.int a t) (.int b u)) Q st := fun _ _ _ _ hs => mul_int ⟨st, hs.tk _, h _⟩ hm
theorem c_mod {a b : Int} {t u : Tok} {Q : Value → St → Prop} (hb : b ≠ 0) (h : ∀ t, Q (.int (a.fmod b) t) st) : wpC C (binaryOp .Mod (.int a t) (.int b u)) Q st := fun _ _ _ _ hs => mod_int' hb ⟨st, hs.tk _, h _⟩
theorem c_ifloordiv {a b : Int} {t u : Tok} {Q : Value → St → Prop} (hb : b ≠ 0) (hl : b.natAbs.log2 < 9000) (h : ∀ t, Q (.int (a.fdiv b) t) st) : wpC C (inplaceOp .FloorDiv (.int a t) (.int b u)) Q st := fun _ _ _ _ hs => ifloordiv_int hb ⟨st, hs.tk _, h _⟩ (.inl (PyProof.noPylong_of_log2 hl))
theorem c_eq {a b : Int} {t u : Tok} {Q : Value → St → Prop} (h : Q (.bool (a == b)) st) : wpC C (compareOp .Eq (.int a t) (.int b u)) Q st := fun _ _ _ _ hs => eq_int ⟨st, hs, h⟩
theorem c_ne {a b : Int} {t u : Tok} {Q : Value → St → Prop} (h : Q (.bool (a != b)) st) : wpC C (compareOp .NotEq (.int a t) (.int b u)) Q st := fun _ _ _ _ hs => ne_int ⟨st, hs, h⟩
theorem c_lt {a b : Int} {t u : Tok} {Q : Value → St → Prop} (h : Q (.bool (decide (a < b))) st) : wpC C (compareOp .Lt (.int a t) (.int b u)) Q st := fun _ _ _ _ hs => lt_int ⟨st, hs, h⟩
theorem c_gt {a b : Int} {t u : Tok} {Q : Value → St → Prop} (h : Q (.bool (decide (b < a))) st) : wpC C (compareOp .Gt (.int a t) (.int b u)) Q st := fun _ _ _ _ hs => gt_int ⟨st, hs, h⟩
theorem c_ge {a b : Int} {t u : Tok} {Q : Value → St → Prop} (h : Q (.bool (decide (b ≤ a))) st) : wpC C (compareOp .GtE (.int a t) (.int b u)) Q st := fun _ _ _ _ hs => ge_int ⟨st, hs, h⟩
theorem c_neg {a : Int} {t : Tok} {Q : Value → St → Prop} (h : ∀ t, Q (.int (-a) t) st) : wpC C (unaryOp .USub (.int a t)) Q st := fun _ _ _ _ hs => neg_int ⟨st, hs.tk _, h _⟩
theorem c_abs {a : Int} {t : Tok} {Q : Value → St → Prop} (h : ∀ t, Q (.int (if a < 0 then -a else a) t) st) : wpC C (call (.builtin "abs") [.int a t]) Q st := fun _ _ _ _ hs => call_abs_int fun _ _ => ⟨st, hs.tk _, h _⟩
theorem c_int1 {a : Int} {t : Tok} {Q : Value → St → Prop} (h : Q (.int a t) st) : wpC C (call (.type "int") [.int a t]) Q st := fun _ _ _ _ hs => call_int_int ⟨st, hs, h⟩
theorem c_neBool {a b : Bool} {Q : Value → St → Prop} (h : Q (.bool (a != b)) st) : wpC C (compareOp .NotEq (.bool a) (.bool b)) Q st := fun _ _ _ _ hs => ne_bool ⟨st, hs, h⟩

-- equality of whatever the library knows to compare
theorem c_eqAt {a b : Value} {k : Bool} {Q : Value → St → Prop} (hr : ∀ h₀ Z s, OkH C h₀ → Holds C h₀ Z st s → PySem.SeqAt.RcAt C.A s a b k) (h : Q (.bool k) st) : wpC C (compareOp .Eq a b) Q st :=
  fun h₀ Z s o hs => hr h₀ Z s o hs pw C.w _ _ ⟨st, hs, h⟩
end

theorem filterMap_same {f f' : Addr → Option (Addr × Obj)} : ∀ r : List Addr, (∀ x ∈ r, f' x = f x) → r.filterMap f' = r.filterMap f
  | [], _ => rfl
  | a :: r, h => by
    have ih := filterMap_same r fun x hx => h x (.tail _ hx)
    rw [List.filterMap_cons, List.filterMap_cons, h a (.head _), ih]
theorem upd_filterMap {d : Addr} {o o' : Obj} {f f' : Addr → Option (Addr × Obj)} (hd : f d = some (d, o)) (hd' : f' d = some (d, o')) (hne : ∀ a, a ≠ d → f' a = f a) (hk : ∀ a p, f a = some p → p.1 = a) :
    ∀ l : List Addr, l.Nodup → d ∈ l → Upd d o o' (l.filterMap f) (l.filterMap f') := by
  intro l
  induction l with
  | nil => intro _ h; cases h
  | cons a r ih =>
    intro nd hm
    obtain ⟨n1, n2⟩ := List.nodup_cons.mp nd
    by_cases e : a = d
    · subst e
      rw [List.filterMap_cons_some hd, List.filterMap_cons_some hd']
      have : r.filterMap f' = r.filterMap f := filterMap_same r fun x hx => hne x fun q => n1 (q ▸ hx)
      rw [this]
      refine Upd.head fun p hp => ?_
      obtain ⟨x, hx, hxp⟩ := List.mem_filterMap.mp hp
      rw [hk x p hxp]
      exact fun q => n1 (q ▸ hx)
    · have hm' : d ∈ r := (List.mem_cons.mp hm).resolve_left fun q => e q.symm
      cases q : f a with
      | none => rw [List.filterMap_cons_none q, List.filterMap_cons_none ((hne a e).trans q)]; exact ih n2 hm'
      | some p =>
        rw [List.filterMap_cons_some q, List.filterMap_cons_some ((hne a e).trans q)]
        exact Upd.tail (by rw [hk a p q]; exact e) (ih n2 hm')
theorem ledger_upd {H Z : Hp} {n : Nat} {d : Addr} {o o' : Obj} (hd : H d = some o) (hn : d < n) : Upd d o o' (ledger H Z n) (ledger (H.put d o') Z n) := by
  unfold ledger
  refine upd_filterMap (by rw [hd]; rfl) (by rw [Hp.put_self]; rfl) (fun a h => by rw [Hp.put_ne _ _ h]) (fun a p h => ?_) _ List.nodup_range (List.mem_range.mpr hn)
  obtain ⟨_, _, rfl⟩ := Option.map_eq_some_iff.mp h
  rfl

section
variable {C : Ctx} {h₀ : Heap} {Z : Hp} {st : St} {s : Shared}
theorem Holds.ofNews {h' : Heap} {m' : Str → Option Value} {H' : Hp} {news : List (Addr × Obj)} (h : Holds C h₀ Z st s) (F : Fr h₀ C.L h' m') (N : News h₀ C.L h' news) (hH : ∀ a o, H' a = some o → (a, o) ∈ news)
    (hZ : ∀ a o, Z a = some o → (a, o) ∈ news ∧ H' a = none) : Holds C h₀ Z ⟨m', H'⟩ { s with heap := h' } :=
  ⟨F, fun a o e => N _ (hH a o e), fun a o e => ⟨(N _ (hZ a o e).1).1, (N _ (hZ a o e).1).2.1, (N _ (hZ a o e).1).2.2, (hZ a o e).2⟩, h.g, h.os⟩
theorem Holds.ofPut {h' : Heap} {m' : Str → Option Value} {d : Addr} {o o' : Obj} (h : Holds C h₀ Z st s) (hd : st.H d = some o) (F : Fr h₀ C.L h' m') (N : News h₀ C.L h' (ledger (st.H.put d o') Z s.heap.objs.size)) :
    Holds C h₀ Z ⟨m', st.H.put d o'⟩ { s with heap := h' } := by
  refine h.ofNews F N (fun a x e => mem_ledger.mpr ⟨?_, by rw [e]; rfl⟩) fun a x e => ?_
  · by_cases q : a = d
    · subst q; exact h.lt hd
    · rw [Hp.put_ne _ _ q] at e; exact h.lt e
  · have z := h.Z a x e
    have ne : a ≠ d := fun q => by have := z.2.2.2; rw [q, hd] at this; cases this
    have e' : st.H.put d o' a = none := (Hp.put_ne _ _ ne).trans z.2.2.2
    exact ⟨mem_ledger.mpr ⟨Heap.lt_size z.1, by rw [e', e]; rfl⟩, e'⟩
theorem Holds.inst {x K dx : Addr} {es : List DictEntry} {n : Nat} (h : Holds C h₀ Z st s) (hx : st.H x = some (instObj K dx)) (hd : st.H dx = some (dictOf es n)) : InstAt s.heap x (instObj K dx) K (some (dictOf es n)) :=
  ⟨(h.N _ _ hx).1, rfl, rfl, (h.N _ _ hd).1⟩
end

section
variable {C : Ctx} {st : St}
theorem c_getAttr {x K dx : Addr} {es : List DictEntry} {n : Nat} {name : Str} {attr : Option Value} {v : Value} {expr : Bool} {Q : Value → St → Prop} (hx : st.H x = some (instObj K dx)) (hd : st.H dx = some (dictOf es n))
    (hg : plainGet (Mine.hd.heap_1 C.w.params) K name = true) (hh : hasDictIn (Mine.hd.heap_1 C.w.params) K = true) (ha : findIn (Mine.hd.heap_1 C.w.params) (.ref K) name = some attr) (hn : noGet (Mine.hd.heap_1 C.w.params) attr = true)
    (hl : getL name es = some (some v)) (hv : handedIn v = true) (h : Q v st) : wpC C (getAttr (.ref x) name expr) Q st :=
  fun _ _ _ o hs => get_own hs.F o.X (hs.inst hx hd) hg hh ha hn hl hv ⟨st, hs.tk _, h⟩
theorem c_getMeth {x K dx f : Addr} {es : List DictEntry} {n : Nat} {name : Str} {pl : Sem Bool} {Q : Value × List Value → St → Prop} (hx : st.H x = some (instObj K dx)) (hd : st.H dx = some (dictOf es n))
    (hg : plainGet (Mine.hd.heap_1 C.w.params) K name = true) (hf : findIn (Mine.hd.heap_1 C.w.params) (.ref K) name = some (some (.ref f))) (ht : isFn (Mine.hd.heap_1 C.w.params) (.ref f) = true)
    (hl : getL name es = some none) (h : Q (.ref f, [.ref x]) st) : wpC C (getMethod (.ref x) name pl) Q st :=
  fun _ _ _ o hs => method_inst hs.F o.X (hs.inst hx hd) hg hf ht hl ⟨st, hs, h⟩
theorem c_setAttr {x K dx : Addr} {es : List DictEntry} {n : Nat} {name : Str} {v : Value} {Q : Unit → St → Prop} (hx : st.H x = some (instObj K dx)) (hd : st.H dx = some (dictOf es n))
    (hs : findIn (Mine.hd.heap_1 C.w.params) (.ref K) "__setattr__" = some (some (.builtin "object.__setattr__"))) (hp : plainOver (Mine.hd.heap_1 C.w.params) K = true) (ht : takerIn (Mine.hd.heap_1 C.w.params) K name = some none)
    (hh : hasDictIn (Mine.hd.heap_1 C.w.params) K = true) (hl : (getL name es).isSome = true) (hz : ∀ hsh k, (putL name hsh k v es).length ≤ 1000)
    (h : ∀ hsh t, Q () ⟨st.m, st.H.put dx (dictOf (putL name hsh (.str name t) v es) (putN name es n))⟩) : wpC C (setAttr (.ref x) name v) Q st :=
  fun _ _ s o hs' => set_dict hs'.F o.X hs'.news (hs'.inst hx hd) rfl hs hp ht hh hl rfl (ledger_upd hd (hs'.lt hd)) (hz _ _) fun h' F' N' => ⟨_, (hs'.ofPut hd F' N').tk _, h _ _⟩

/-- an object of an own class is made -/
theorem c_make {K fI : Addr} {pos : List Value} {Q : Value → St → Prop} (hm : makesIn (Mine.hd.heap_1 C.w.params) K = true) (hi : findIn (Mine.hd.heap_1 C.w.params) (.ref K) "__init__" = some (some (.ref fI))) (hf : isFn (Mine.hd.heap_1 C.w.params) (.ref fI) = true) (ok : C.Ok)
    (h : ∀ (C' : Ctx) x dx, C'.Ok → C'.w = C.w → C'.lev = C.lev + 1 → st.H x = none → st.H dx = none → x ≠ dx →
      codeC C' (.ref fI) (.ref x :: pos) (fun v st' => v = .none ∧ Q (.ref x) st') ⟨st.m, (st.H.put dx (dictOf [] 0)).put x (instObj K dx)⟩) : wpC C (call (.ref K) pos) Q st :=
  fun h₀ Z s o hs => call_cls hs.F o.X hs.news hm hi hf fun x dx h' F' N' hlt hne => by
    have hdx := N' (dx, dictOf [] 0) (.tail _ (.head _))
    have hx := N' (x, instObj K dx) (.head _)
    have nx : st.H x = none := by
      cases q : st.H x with
      | none => rfl
      | some o => have := hlt _ (hs.mem q); exact absurd this (Nat.not_lt.mpr (Nat.le_of_lt hne))
    have nd : st.H dx = none := by
      cases q : st.H dx with
      | none => rfl
      | some o => exact absurd (hlt _ (hs.mem q)) (Nat.lt_irrefl _)
    let C' : Ctx := { C with A := C.A.under (.builtin "type.__call__" ⟨.ref K :: pos, []⟩), lev := C.lev + 1 }
    have ok' : C'.Ok := by
      refine ⟨ok.hh, ?_, ?_, ok.fn⟩
      · have := ok.dep
        show (C.A.under (.builtin "type.__call__" ⟨.ref K :: pos, []⟩)).depth ≤ _
        rw [depth_under_make]
        show C.A.depth + 1 ≤ 310 + 2 * (C.lev + 1)
        omega
      · have := ok.un
        show C.A.units + 1 ≤ 10 + 8 * (C.lev + 1)
        omega
    have oh : OkH C' h₀ := by
      obtain ⟨A₀, base, outer, p, loose, mean, mg, mb, B, T, hA⟩ := o.low
      exact ⟨o.X, ⟨A₀, base, outer, p, loose, mean, mg, mb, B, T, hA⟩, o.gh⟩
    have hh : Holds C' h₀ Z ⟨st.m, (st.H.put dx (dictOf [] 0)).put x (instObj K dx)⟩ { s with heap := h' } := by
      refine Holds.ofNews (C := C') (st := st) ⟨hs.F, hs.N, hs.Z, hs.g, hs.os⟩ F' N' (fun a o' e => ?_) fun a o' e => ?_
      · by_cases q : a = x
        · subst q; rw [Hp.put_self] at e; cases e; exact .head _
        · rw [Hp.put_ne _ _ q] at e
          by_cases q : a = dx
          · subst q; rw [Hp.put_self] at e; cases e; exact .tail _ (.head _)
          · rw [Hp.put_ne _ _ q] at e; exact .tail _ (.tail _ (hs.mem e))
      · have z := hlt _ (hs.memZ e)
        exact ⟨.tail _ (.tail _ (hs.memZ e)), by rw [Hp.put_ne _ _ (fun q => by rw [q] at z; exact absurd z (Nat.not_lt.mpr (Nat.le_of_lt hne))), Hp.put_ne _ _ (fun q => by rw [q] at z; exact absurd z (Nat.lt_irrefl _))]; exact (hs.Z a o' e).2.2.2⟩
    refine codeAny_mono (h C' x dx ok' rfl rfl nx nd (fun q => by rw [q] at hne; exact Nat.lt_irrefl _ hne) h₀ Z _ oh hh) fun r s' z => ?_
    rcases r with e | (v | _ | _ | _)
    all_goals first | exact z.elim | skip
    obtain ⟨st', hs', hv, q⟩ := z
    exact ⟨hv, st', ⟨hs'.F, hs'.N, hs'.Z, hs'.g, hs'.os⟩, q⟩

-- sets of ints
abbrev SetO (w : World) (o : Obj) (S : Int → Bool) (n : Nat) : Prop := o.SetObjOf (intKind pw w) S n
theorem c_newSet {Q : Value → St → Prop} (h : ∀ a o, st.H a = none → SetO C.w o (fun _ => false) 0 → Q (.ref a) ⟨st.m, st.H.put a o⟩) : wpC C (call (.type "set") []) Q st :=
  fun _ _ s _ hs => call_set_0 fun led => ⟨_, hs.push _, h _ _ hs.new (setObjOf_fresh led)⟩
theorem c_inSet {a : Addr} {o : Obj} {S : Int → Bool} {n : Nat} {k : Int} {t : Tok} {Q : Value → St → Prop} (ha : st.H a = some o) (hS : SetO C.w o S n) (hb : n < scanBound) (h : Q (.bool (S k)) st) : wpC C (compareOp .In (.int k t) (.ref a)) Q st :=
  fun _ _ s _ hs => wpAny_inSet_of (knd := intKind pw C.w) (intKind_is _ _ _ _) rfl (hS.setOf (hs.N _ _ ha).1 hb) ⟨st, hs.tk _, h⟩
theorem c_setMethod {a : Addr} {o : Obj} {S : Int → Bool} {n : Nat} {pl : Sem Bool} {Q : Value × List Value → St → Prop} (ha : st.H a = some o) (hS : SetO C.w o S n) (hb : n < scanBound) (h : Q (.builtin "set.add", [.ref a]) st) : wpC C (getMethod (.ref a) "add" pl) Q st :=
  fun _ _ s _ hs => getMethod_set_add (knd := intKind pw C.w) (hS.setOf (hs.N _ _ ha).1 hb) ⟨st, hs, h⟩
theorem c_setAdd {a : Addr} {o : Obj} {S : Int → Bool} {n : Nat} {k : Int} {t : Tok} {Q : Value → St → Prop} (ha : st.H a = some o) (hS : SetO C.w o S n) (hb : n + 1 < scanBound)
    (h : ∀ o', SetO C.w o' (fun k' => S k' || decide (k' = k)) (if S k then n else n + 1) → Q .none ⟨st.m, st.H.put a o'⟩) : wpC C (call (.builtin "set.add") [.ref a, .int k t]) Q st :=
  fun _ _ s _ hs => call_set_add (knd := intKind pw C.w) (intKind_is _ _ _ _) rfl (hS.setOf (hs.N _ _ ha).1 (Nat.lt_of_succ_lt hb)) hb fun h' hsb hS' => by
    obtain ⟨o', ho', hS'⟩ := hS'.objOf
    exact ⟨_, (hs.upd ha hsb ho').tk _, h o' hS'⟩

-- names bound out of a tuple
theorem c_assignN {x : Str} {pos : Pos} {v : Value} {Q : Unit → St → Prop} (hl : C.sc.names.lookup x = some .local) (ok : C.Ok) (h : Q () ⟨fun y => if y = x then some v else st.m y, st.H⟩) : wpC C (assign (.Name x pos) C.env v) Q st :=
  fun _ _ _ o hs => PyProof.Rows.assign_Name (c_store hl ok h _ _ _ o hs)
theorem c_assignT2 {x y : Str} {px py pos : Pos} {k : Nat} {t : Addr} {a b : Value} {Q : Unit → St → Prop} (hx : C.sc.names.lookup x = some .local) (hy : C.sc.names.lookup y = some .local) (ok : C.Ok) (ht : st.H t = some (tupO [a, b]))
    (h : Q () ⟨fun z => if z = y then some b else if z = x then some a else st.m z, st.H⟩) : wpC C (assign (.Tuple [.Name x px, .Name y py] k pos) C.env (.ref t)) Q st :=
  fun h₀ Z s o hs => by
    refine assign_Tuple_tuple (items := #[a, b]) ok.hh ⟨_, (hs.N _ _ ht).1, rfl, _, rfl⟩ rfl rfl fun h' he => ?_
    have hs' : Holds C h₀ Z st { s with heap := h' } := hs.more fun c o' e => he c o' (Nat.ne_of_lt (Heap.lt_size e)) e
    refine assignInOrder_cons ?_
    show wpAny (model pw C.w) C.A (assign (.Name x px) C.env a) _ _ _
    refine (c_assignN hx ok (Q := fun _ st' => st' = ⟨fun z => if z = x then some a else st.m z, st.H⟩) rfl).go o hs' fun _ s₁ st₁ hs₁ q => ?_
    subst q
    refine assignInOrder_cons ?_
    show wpAny (model pw C.w) C.A (assign (.Name y py) C.env b) _ _ _
    refine (c_assignN hy ok (Q := fun _ st' => st' = ⟨fun z => if z = y then some b else if z = x then some a else st.m z, st.H⟩) rfl).go o hs₁ fun _ s₂ st₂ hs₂ q => ?_
    subst q
    exact assignInOrder_nil ⟨_, hs₂, h⟩

-- loops over a list, a range, a tuple
def SrcLoop (C : Ctx) (x : Value) (target : Expr) (body : List Stmt) (Q : Flow → St → Prop) (st : St) : Prop :=
  ∀ h₀ Z s, OkH C h₀ → Holds C h₀ Z st s → wpAny (model pw C.w) C.A (pyIter x) (fun it s₂ => codeAny (model pw C.w) C.A (.forLoop target it body [] C.env)
    (fun r s' => match r with | .ok f => ∃ st', Holds C h₀ Z st' s' ∧ Q f st' | .error e => cameBackBy (model pw C.w) C.A C.env (fun _ _ => False) e s') s₂) (fun _ _ => False) s
theorem c_For {target iter : Expr} {body : List Stmt} {pos : Pos} {Q : Flow → St → Prop} (h : wpC C (eval iter C.env) (fun x st' => SrcLoop C x target body Q st') st)
    (hs : ∀ x, foldedSetIterable iter C.env x = Pure.pure x := by intro _; rfl) : wpC C (exec (.For target iter body [] pos) C.env) Q st :=
  fun h₀ Z _ o hs' => wpAny_For (h.go o hs' fun _ s' _ hs₁ q => q h₀ Z s' o hs₁) hs

/-- one turn's end -/
def TurnEnd (J : Nat → St → Prop) (Q : Flow → St → Prop) (i : Nat) (f : Flow) (st : St) : Prop := match f with
  | .next | .cont => J (i + 1) st
  | .brk => Q .next st
  | .ret v => Q (.ret v) st
theorem turn_next {J : Nat → St → Prop} {Q : Flow → St → Prop} {i : Nat} {st : St} (h : J (i + 1) st) : TurnEnd J Q i .next st := h
theorem turn_cont {J : Nat → St → Prop} {Q : Flow → St → Prop} {i : Nat} {st : St} (h : J (i + 1) st) : TurnEnd J Q i .cont st := h
theorem turn_ret {J : Nat → St → Prop} {Q : Flow → St → Prop} {i : Nat} {v : Value} {st : St} (h : Q (.ret v) st) : TurnEnd J Q i (.ret v) st := h

theorem Holds.frz {h₀ : Heap} {Z : Hp} {s : Shared} {it : Addr} {o : Obj} (h : Holds C h₀ Z st s) (hi : s.heap.get? it = some o) (nL : it ≠ C.L) (n0 : h₀.get? it = none) (nH : st.H it = none) : Holds C h₀ (Z.put it o) st s :=
  ⟨h.F, h.N, fun a o' e => by
    by_cases q : a = it
    · subst q; rw [Hp.put_self] at e; cases e; exact ⟨hi, nL, n0, nH⟩
    · rw [Hp.put_ne _ _ q] at e; exact h.Z a o' e, h.g, h.os⟩
theorem Holds.thaw {h₀ : Heap} {Z : Hp} {s : Shared} {it : Addr} {o : Obj} (h : Holds C h₀ (Z.put it o) st s) (hz : Z it = none) : Holds C h₀ Z st s :=
  ⟨h.F, h.N, fun a o' e => h.Z a o' (by rw [Hp.put_ne _ _ (fun q => by rw [q, hz] at e; cases e)]; exact e), h.g, h.os⟩
/-- a frozen thing is changed by the machine -/
theorem Holds.turn {h₀ : Heap} {Z : Hp} {s : Shared} {h' : Heap} {it : Addr} {o : Obj} (h : Holds C h₀ (Z.put it o) st s) (hs : Heap.SameBut it s.heap h') (hz : Z it = none) : Holds C h₀ Z st { s with heap := h' } := by
  have z := h.Z it o (Hp.put_self ..)
  have h2 := h.thaw hz
  exact ⟨⟨h2.F.ns.sameBut hs (Ne.symm z.2.1), fun b x e => (hs.2 b fun q => by have := z.2.2.1; rw [← q, e] at this; cases this).trans (h2.F.keep b x e), h2.F.above⟩,
    fun a x e => ⟨(hs.2 a fun q => by have := z.2.2.2; rw [← q, e] at this; cases this).trans (h2.N a x e).1, (h2.N a x e).2⟩,
    fun a x e => ⟨(hs.2 a fun q => by rw [q, hz] at e; cases e).trans (h2.Z a x e).1, (h2.Z a x e).2⟩, h2.g, h2.os⟩
theorem Holds.last {h₀ : Heap} {Z : Hp} {s : Shared} {h' : Heap} {it : Addr} {o : Obj} (h : Holds C h₀ (Z.put it o) st s) (hs : Heap.ExtBut it s.heap h') (hz : Z it = none) : Holds C h₀ Z st { s with heap := h' } := by
  have z := h.Z it o (Hp.put_self ..)
  have h2 := h.thaw hz
  obtain ⟨oL, a1, a2, hL, a3⟩ := h2.F.ns
  exact ⟨⟨⟨oL, a1, a2, hs _ _ (Ne.symm z.2.1) hL, a3⟩, fun b x e => hs _ _ (fun q => by have := z.2.2.1; rw [← q, e] at this; cases this) (h2.F.keep b x e), h2.F.above⟩,
    fun a x e => ⟨hs _ _ (fun q => by have := z.2.2.2; rw [← q, e] at this; cases this) (h2.N a x e).1, (h2.N a x e).2⟩,
    fun a x e => ⟨hs _ _ (fun q => by rw [q, hz] at e; cases e) (h2.Z a x e).1, (h2.Z a x e).2⟩, h2.g, h2.os⟩

/-- the loop over an iterator whose thing at place i is itO i -/
theorem forGen {h₀ : Heap} {Z : Hp} {s : Shared} {it : Addr} {target : Expr} {body : List Stmt} {Q : Flow → St → Prop} (itO : Nat → Obj → Prop) (N : Nat) (V : Nat → Value → Prop) (J : Nat → St → Prop) (ok : C.Ok) (o : OkH C h₀)
    (nL : it ≠ C.L) (n0 : h₀.get? it = none) (hz : Z it = none)
    (item : ∀ i st s oi, i < N → J i st → itO i oi → Holds C h₀ (Z.put it oi) st s → ∀ (R : Option Value → Shared → Prop) (E : Value → Shared → Prop), (∀ h' tk v oi', Heap.SameBut it s.heap h' → h'.get? it = some oi' → itO (i + 1) oi' → V i v → R (some v) { s with heap := h', toks := tk }) → wpAny (model pw C.w) C.A (pyNext (.ref it)) R E s)
    (stop : ∀ st s oi, J N st → itO N oi → Holds C h₀ (Z.put it oi) st s → ∀ (R : Option Value → Shared → Prop) (E : Value → Shared → Prop), (∀ h', Heap.ExtBut it s.heap h' → R none { s with heap := h' }) → wpAny (model pw C.w) C.A (pyNext (.ref it)) R E s)
    (turn : ∀ i v st, i < N → J i st → V i v → wpC C (assign target C.env v) (fun _ st₂ => wpC C (execs body C.env) (TurnEnd J Q i) st₂) st) (fin : ∀ st, J N st → Q .next st)
    {oi : Obj} (hi : itO 0 oi) (hs : Holds C h₀ (Z.put it oi) st s) (hJ : J 0 st) (ht : ∀ i oi v s (R : Unit → Shared → Prop) (E : Value → Shared → Prop), itO (i + 1) oi → V i v → s.heap.get? it = some oi → R () s → wpAny (model pw C.w) C.A (letOwnedTupleGo target (.ref it) v) R E s) :
    codeAny (model pw C.w) C.A (.forLoop target (.ref it) body [] C.env)
      (fun r s' => match r with | .ok f => ∃ st', Holds C h₀ Z st' s' ∧ Q f st' | .error e => cameBackBy (model pw C.w) C.A C.env (fun _ _ => False) e s') s := by
  refine codeAny_forLoop_any (fun n s => ∃ i st oi, n = N - i ∧ i ≤ N ∧ J i st ∧ itO i oi ∧ Holds C h₀ (Z.put it oi) st s) (fun n s ⟨i, st, oi, hn, hle, hJ, hoi, hs⟩ => ?_) N ⟨0, st, oi, rfl, Nat.zero_le _, hJ, hi, hs⟩
  by_cases hlt : i < N
  · refine item i st s oi hlt hJ hoi hs _ _ fun h' tk v oi' hsb ho' hoi' hv => ?_
    have hs' : Holds C h₀ Z st { s with heap := h', toks := tk } := (hs.turn hsb hz).tk _
    have z := hs.Z it oi (Hp.put_self ..)
    refine ht i oi' v _ _ _ hoi' hv ho' ?_
    refine (turn i v st hlt hJ hv).go o (hs'.frz ho' z.2.1 z.2.2.1 z.2.2.2) fun _ s₂ st₂ hs₂ q => ?_
    refine q.go o hs₂ fun f s₃ st₃ hs₃ q₃ => ?_
    cases f with
    | next => exact ⟨N - (i + 1), by omega, i + 1, st₃, oi', rfl, hlt, q₃, hoi', hs₃⟩
    | cont => exact ⟨N - (i + 1), by omega, i + 1, st₃, oi', rfl, hlt, q₃, hoi', hs₃⟩
    | brk => exact ⟨st₃, hs₃.thaw hz, q₃⟩
    | ret v => exact ⟨st₃, hs₃.thaw hz, q₃⟩
  · obtain rfl : i = N := by omega
    exact stop st s oi hJ hoi hs _ _ fun h' he => wpAny_execs_nil ⟨st, hs.last he hz, fin st hJ⟩
end

abbrev rngO (a b c : Int) (t u v : Tok) : Obj := { cls := .type "range", data := .fields #[.int a t, .int b u, .int c v] }
abbrev rngI (x left step : Int) : Obj := { cls := .type "range_iterator", data := .fields #[rawInt x, rawInt left, rawInt step] }
theorem size_up (n : Nat) : Builtin.Range.rangeSize 0 n 1 = n := by rw [rangeSize_one]; split <;> omega
theorem size_down (n : Nat) : Builtin.Range.rangeSize ((n : Int) - 1) (-1) (-1) = n := by
  unfold Builtin.Range.rangeSize
  rw [if_neg (by decide), show -(-1 : Int) = 1 from rfl, Int.ediv_one]
  split <;> omega
theorem small_up {n : Nat} (h : n ≤ 1000) : Builtin.Range.small 0 n 1 = true := small_one (by omega) (by omega) (by omega) (by omega)
theorem small_down {n : Nat} (h : n ≤ 1000) : Builtin.Range.small ((n : Int) - 1) (-1) (-1) = true := by
  unfold Builtin.Range.small
  rw [size_down]
  simp only [Builtin.Range.rangeFitsLong, Bool.and_eq_true, Bool.or_eq_true, decide_eq_true_eq, beq_iff_eq]
  rw [if_neg (by decide)]
  simp only [Bool.and_eq_true, decide_eq_true_eq]
  omega

section
variable {C : Ctx} {st : St}
theorem c_range1 {n : Int} {t : Tok} {Q : Value → St → Prop} (h : ∀ a u v, st.H a = none → Q (.ref a) ⟨st.m, st.H.put a (rngO 0 n 1 u t v)⟩) : wpC C (call (.type "range") [.int n t]) Q st :=
  fun _ _ _ _ hs => PySem.call_range_1 ⟨_, (hs.push _).tk _, h _ _ _ hs.new⟩
theorem c_range3 {a b : Int} {t u v : Tok} {Q : Value → St → Prop} (h : ∀ l, st.H l = none → Q (.ref l) ⟨st.m, st.H.put l (rngO a b (-1) t u v)⟩) : wpC C (call (.type "range") [.int a t, .int b u, .int (-1) v]) Q st :=
  fun _ _ _ _ hs => PySem.call_range_3 (by decide) ⟨_, (hs.push _), h _ hs.new⟩ (.inl (PyProof.noPylong_of_log2 (by decide +kernel)))

theorem src_range {r : Addr} {a b c : Int} {t u v : Tok} {n : Nat} {target : Expr} {body : List Stmt} {Q : Flow → St → Prop} (J : Nat → St → Prop) (ok : C.Ok) (hr : st.H r = some (rngO a b c t u v)) (hsm : Builtin.Range.small a b c = true) (hn : Builtin.Range.rangeSize a b c = n)
    (h0 : J 0 st) (turn : ∀ i st, i < n → J i st → ∀ t, wpC C (assign target C.env (.int (a + i * c) t)) (fun _ st₂ => wpC C (execs body C.env) (TurnEnd J Q i) st₂) st) (fin : ∀ st, J n st → Q .next st)
    (ht : ∀ it v, letOwnedTupleGo target it v = Pure.pure () := by intro _ _; rfl) : SrcLoop C (.ref r) target body Q st := fun h₀ Z s o hs => by
  refine wpAny_pyIter_range (hs.N _ _ hr).1 hsm ?_
  have hs' : Holds C h₀ Z st { s with heap := s.heap.push (rngI a n c) } := hs.more fun _ _ e => Heap.get?_push_of_some _ e
  rw [hn]
  refine forGen (fun i oi => oi = rngI (a + i * c) ((n : Int) - i) c) n (fun i v => ∃ t, v = .int (a + i * c) t) J ok o hs.neL hs.new0 hs.newZ ?_ ?_ (fun i v st hi hJ hv => by obtain ⟨t, rfl⟩ := hv; exact turn i st hi hJ t) fin rfl
    (hs'.frz (by rw [show ((n : Int) - (0 : Nat)) = n from by omega, show a + ((0 : Nat) : Int) * c = a from by rw [Int.natCast_zero, Int.zero_mul, Int.add_zero]]; exact Heap.get?_push_size _ rfl) hs.neL hs.new0 hs.new) h0 (fun _ _ _ _ _ _ _ _ _ q => by rw [ht]; exact wpAny_pure q)
  · intro i st s oi hi hJ hoi hs R E k
    subst hoi
    refine wpAny_pyNext_range_item (hs.Z _ _ (Hp.put_self ..)).1 (by omega) fun h' hit hsb => k h' _ _ _ hsb hit ?_ ⟨_, rfl⟩
    have e1 : a + (i : Int) * c + c = a + ((i + 1 : Nat) : Int) * c := by rw [Int.natCast_succ, Int.add_mul, Int.one_mul, Int.add_assoc]
    have e2 : (n : Int) - (i : Int) - 1 = (n : Int) - ((i + 1 : Nat) : Int) := by omega
    rw [e1, e2]
  · intro st s oi hJ hoi hs R E k
    subst hoi
    exact wpAny_pyNext_range_end ok.hh (hs.Z _ _ (Hp.put_self ..)).1 (by omega) fun h' he => k h' he

theorem src_list {l : Addr} {vs : List Value} {n : Nat} {target : Expr} {body : List Stmt} {Q : Flow → St → Prop} (J : Nat → St → Prop) (ok : C.Ok) (hl : st.H l = some (lstO vs n)) (hk : ∀ i st, J i st → st.H l = some (lstO vs n))
    (h0 : J 0 st) (turn : ∀ i st v, vs[i]? = some v → J i st → wpC C (assign target C.env v) (fun _ st₂ => wpC C (execs body C.env) (TurnEnd J Q i) st₂) st) (fin : ∀ st, J vs.length st → Q .next st)
    (ht : (∀ it v, letOwnedTupleGo target it v = Pure.pure ()) ∨ ∃ elts x pos, target = .Tuple elts x pos ∧ ∀ v ∈ vs, ∃ T, v = .ref T) : SrcLoop C (.ref l) target body Q st := fun h₀ Z s o hs => by
  refine wpAny_pyIter_list ⟨_, (hs.N _ _ hl).1, rfl, _, rfl⟩ ?_
  have hs' : Holds C h₀ Z st { s with heap := s.heap.push { cls := .type "list_iterator", data := .fields #[.ref l, .int 0 0] } } := hs.more fun _ _ e => Heap.get?_push_of_some _ e
  refine forGen (fun i oi => oi.cls = .type "list_iterator" ∧ oi.data = .fields #[.ref l, .int i 0]) vs.length (fun i v => vs[i]? = some v) J ok o hs.neL hs.new0 hs.newZ ?_ ?_ (fun i v st hi hJ hv => turn i st v hv hJ) fin ⟨rfl, rfl⟩
    (hs'.frz (Heap.get?_push_size _ rfl) hs.neL hs.new0 hs.new) h0 (fun i oi v s R E hoi hv hit q => ?_)
  · intro i st s oi hi hJ hoi hs R E k
    have hit : s.heap.IsListIter _ l i := ⟨_, (hs.Z _ _ (Hp.put_self ..)).1, hoi.1, hoi.2⟩
    have hx : vs.toArray[i]? = some vs[i] := by simp [hi]
    refine wpAny_pyNext_list_item hit ⟨_, (hs.N _ _ (hk i st hJ)).1, rfl, _, rfl⟩ hx fun h' hit' hsb => ?_
    obtain ⟨o', ho', hc', hd'⟩ := hit'
    exact k h' _ _ _ hsb ho' ⟨hc', hd'⟩ (by simp [hi])
  · intro st s oi hJ hoi hs R E k
    have hit : s.heap.IsListIter _ l vs.length := ⟨_, (hs.Z _ _ (Hp.put_self ..)).1, hoi.1, hoi.2⟩
    exact wpAny_pyNext_list_end ok.hh hit ⟨_, (hs.N _ _ (hk _ st hJ)).1, rfl, _, rfl⟩ (by simp) fun h' he => k h' he
  · rcases ht with ht | ⟨elts, x, pos, rfl, hr⟩
    · rw [ht]; exact wpAny_pure q
    · obtain ⟨T, rfl⟩ := hr v (List.mem_of_getElem? hv)
      exact PySem.wpAny_letOwnedTupleGo_listiter ⟨oi, hit, hoi.1, hoi.2⟩ q

theorem src_tuple {l : Addr} {vs : List Value} {target : Expr} {body : List Stmt} {Q : Flow → St → Prop} (J : Nat → St → Prop) (ok : C.Ok) (hl : st.H l = some (tupO vs)) (hk : ∀ i st, J i st → st.H l = some (tupO vs))
    (h0 : J 0 st) (turn : ∀ i st v, vs[i]? = some v → J i st → wpC C (assign target C.env v) (fun _ st₂ => wpC C (execs body C.env) (TurnEnd J Q i) st₂) st) (fin : ∀ st, J vs.length st → Q .next st)
    (ht : ∀ it v, letOwnedTupleGo target it v = Pure.pure () := by intro _ _; rfl) : SrcLoop C (.ref l) target body Q st := fun h₀ Z s o hs => by
  refine wpAny_pyIter_tuple (items := vs.toArray) ⟨_, (hs.N _ _ hl).1, rfl, _, rfl⟩ ?_
  have hs' : Holds C h₀ Z st { s with heap := s.heap.push { cls := .type "tuple_iterator", data := .fields #[.ref l, .int 0 0] } } := hs.more fun _ _ e => Heap.get?_push_of_some _ e
  refine forGen (fun i oi => oi.cls = .type "tuple_iterator" ∧ oi.data = .fields #[.ref l, .int i 0]) vs.length (fun i v => vs[i]? = some v) J ok o hs.neL hs.new0 hs.newZ ?_ ?_ (fun i v st hi hJ hv => turn i st v hv hJ) fin ⟨rfl, rfl⟩
    (hs'.frz (Heap.get?_push_size _ rfl) hs.neL hs.new0 hs.new) h0 (fun _ _ _ _ _ _ _ _ _ q => by rw [ht]; exact wpAny_pure q)
  · intro i st s oi hi hJ hoi hs R E k
    have hit : s.heap.IsTupleIter _ l i := ⟨_, (hs.Z _ _ (Hp.put_self ..)).1, hoi.1, hoi.2⟩
    have hx : vs.toArray[i]? = some vs[i] := by simp [hi]
    refine wpAny_pyNext_tuple_item hit ⟨_, (hs.N _ _ (hk i st hJ)).1, rfl, _, rfl⟩ hx fun h' hit' hsb => ?_
    obtain ⟨o', ho', hc', hd'⟩ := hit'
    exact k h' _ _ _ hsb ho' ⟨hc', hd'⟩ (by simp [hi])
  · intro st s oi hJ hoi hs R E k
    have hit : s.heap.IsTupleIter _ l vs.length := ⟨_, (hs.Z _ _ (Hp.put_self ..)).1, hoi.1, hoi.2⟩
    exact wpAny_pyNext_tuple_end ok.hh hit ⟨_, (hs.N _ _ (hk _ st hJ)).1, rfl, _, rfl⟩ (by simp) fun h' he => k h' he
end
example : (fun (_ : Params → Frag) (_ : OpenLaw) => True) Mine.hd.heap_1 PySem.Challenge.rw_rr0028_01 := by k_fill; trivial
set_option hygiene false in
local macro_rules | `(tactic| walk_at "look") => `(tactic| first
  | with_reducible assumption
  | with_reducible exact look_eq
  | ((with_reducible refine' look_ne ?ne ?_); (case ne => decide); walk_at "look")
  | exact rfl)
set_option hygiene false in
local macro_rules | `(tactic| walk_at "enter") => `(tactic| (
  (case ho => k_is); (case hcd => k_is); (case hbind => exact fun _ _ => BindsTo.of_eq rfl); (case hloc => exact locs rfl); (case hlev => omega); (case hco => rfl); (case hgen => rfl); (case hk => rfl); (case hcell => decide);
  clear ok; intro C ok hw hsc hl))
set_option hygiene false in
local macro_rules | `(tactic| walk_at "fact") => `(tactic| first
  | with_reducible assumption
  | with_reducible exact Hp.put_self _ _ _
  | ((with_reducible refine' put_keep ?pk ?pn); (case pn => with_reducible assumption); (case pk => walk_at "fact"))
  | ((with_reducible refine' put_other ?pk ?pn); (case pn => first | with_reducible assumption | (refine Ne.symm ?_; with_reducible assumption)); (case pk => walk_at "fact")))
set_option hygiene false in
local macro_rules | `(tactic| walk_at "rep") => `(tactic| first
  | with_reducible assumption
  | ((with_reducible refine' Rep.put ?pk ?pn); (case pn => with_reducible assumption); (case pk => walk_at "rep")))
set_option hygiene false in
local macro_rules | `(tactic| walk_at "cell") => `(tactic| first
  | with_reducible assumption
  | ((with_reducible refine' IsCell.put ?pk ?pn); (case pn => with_reducible assumption); (case pk => walk_at "cell")))
set_option hygiene false in
local macro_rules | `(tactic| walk_at "c") => `(tactic| first
  | with_reducible refine c_nil ?_
  | with_reducible refine c_cons ?_
  | with_reducible refine seq_next ?_
  | with_reducible refine seq_ret ?_
  | with_reducible refine seq_cont ?_
  | with_reducible refine back_ret ?_
  | with_reducible refine back_next ?_
  | with_reducible refine turn_next ?_
  | with_reducible refine turn_cont ?_
  | with_reducible refine turn_ret ?_
  | with_reducible refine c_Assign_Name (lk hsc (by with_unfolding_all rfl)) ?_ ok
  | with_reducible refine c_Return ?_
  | with_reducible refine c_ExprK ok ?_
  | with_reducible refine c_If ?_
  | with_reducible refine c_Continue ?_
  | with_reducible refine c_AssignSub ?_
  | with_reducible refine c_AssignAttr ?_
  | with_reducible refine c_AugSub ?_
  | ((with_reducible refine c_int ?_); intro _)
  | ((with_reducible refine c_str ?_); intro _)
  | with_reducible refine c_bool ?_
  | with_reducible refine c_none ?_
  | ((with_reducible refine' c_local ok (lk hsc ?hl) ?hv ?_); (case hl => with_unfolding_all rfl); (case hv => walk_at "look"))
  | ((with_reducible refine' c_glob ok (lk hsc ?hl) ?hv ?_); (case hl => with_unfolding_all rfl); (case hv => k_is))
  | ((with_reducible refine' c_builtin ok (lk hsc ?hl) ?hv ?hb ?_); (case hl => with_unfolding_all rfl); (case hv => k_is); (case hb => boot_fast))
  | with_reducible refine c_BinOp ?_
  | with_reducible refine c_isCompare ?_
  | with_reducible refine c_Compare ?_
  | with_reducible refine c_isNot ?_
  | with_reducible refine c_isAnd ?_
  | with_reducible refine c_isOr ?_
  | with_reducible refine c_And_cons ?_
  | with_reducible refine c_And_nil ?_
  | with_reducible refine c_Or_cons ?_
  | with_reducible refine c_Or_nil ?_
  | with_reducible refine c_Or2 ?_
  | with_reducible refine c_IfExp ?_
  | with_reducible refine c_truthy ?_
  | with_reducible refine c_Unary ?_
  | with_reducible refine c_args_nil ?_
  | with_reducible refine c_args_cons ?_
  | with_reducible refine c_Method ?_
  | with_reducible refine c_Call ?_
  | with_reducible refine c_Attr ?_
  | with_reducible refine c_Sub ?_
  | with_reducible refine c_Tuple ?_
  | with_reducible refine c_List ?_
  | ((with_reducible refine' c_with ?hk ?_); (case hk => k_is))
  | ((with_reducible refine' c_with0 ?hk ?_); (case hk => k_is))
  | with_reducible refine c_withB ?_
  | with_reducible refine c_withB0 ?_
  | with_reducible refine c_withT ?_
  | with_reducible refine c_withT0 ?_
  | with_reducible refine c_eq ?_
  | with_reducible refine c_ne ?_
  | with_reducible refine c_lt ?_
  | with_reducible refine c_gt ?_
  | with_reducible refine c_ge ?_
  | ((with_reducible refine c_add ?_); intro _)
  | ((with_reducible refine c_sub ?_); intro _)
  | ((with_reducible refine c_iadd ?_); intro _)
  | ((with_reducible refine c_neg ?_); intro _)
  | ((with_reducible refine' c_sHeap ?hS ?_); (case hS => walk_at "rep"))
  | ((with_reducible refine' c_sMax ?hS ?_); (case hS => walk_at "rep"); intro _)
  | ((with_reducible refine' c_sSym ?hS ?_); (case hS => walk_at "rep"))
  | ((with_reducible refine' c_syFun ?hS ?_); (case hS => walk_at "rep"))
  | ((with_reducible refine' c_sMeth ?hS ?h1 ?h2 ?h3 ?h4 ?_); (case hS => walk_at "rep"); (case h1 => k_is); (case h2 => k_is); (case h3 => k_is); (case h4 => decide))
  | ((with_reducible refine' c_syMeth ?hS ?h1 ?h2 ?h3 ?h4 ?_); (case hS => walk_at "rep"); (case h1 => k_is); (case h2 => k_is); (case h3 => k_is); (case h4 => decide))
  | ((with_reducible refine' c_getMeth ?hx ?hd ?hg ?hf ?ht ?hl ?_); (case hx => walk_at "fact"); (case hd => walk_at "fact"); (case hg => k_is); (case hf => k_is); (case ht => k_is); (case hl => first | with_reducible assumption | with_unfolding_all rfl))
  | ((with_reducible refine' c_cell0 ?hv ?_); (case hv => walk_at "cell"); intro _)
  | ((with_reducible refine' c_cell1 ?hv ?_); (case hv => walk_at "cell"); intro _)
  | ((with_reducible refine' c_method PySem.F.slot_list_append PySem.F.type_list_append ?hl ?_); (case hl => walk_at "fact"))
  | ((with_reducible refine' c_method PySem.F.slot_list_pop PySem.F.type_list_pop ?hl ?_); (case hl => walk_at "fact"))
  | with_reducible refine c_Return0 ?_
  | ((with_reducible refine' c_For ?h ?hs); (case hs => intro _; rfl))
  | ((with_reducible refine' c_setAttr ?hx ?hd ?hs ?hp ?ht ?hh ?hl ?hz ?_); (case hx => walk_at "fact"); (case hd => walk_at "fact"); (case hs => k_is); (case hp => k_is); (case ht => k_is); (case hh => k_is); (case hl => with_unfolding_all rfl); (case hz => intro _ _; exact Nat.le_of_ble_eq_true (by with_unfolding_all rfl)); intro _ _)
  | ((with_reducible refine' c_getAttr ?hx ?hd ?hg ?hh ?ha ?hn ?hl ?hv ?_); (case hx => walk_at "fact"); (case hd => walk_at "fact"); (case hl => first | with_reducible assumption | with_unfolding_all rfl); (case hg => k_is); (case hh => k_is); (case ha => k_is); (case hn => k_is); (case hv => exact rfl))
  | ((with_reducible refine' c_itemT ?hl ?h1 ?h2 ?h3 ?h4 ?_); (case hl => walk_at "fact"); (case h1 => decide); (case h2 => decide); (case h3 => exact rfl); (case h4 => exact rfl))
  | ((with_reducible refine' c_isValue ?h ?hs); (case hs => with_unfolding_all rfl)))
set_option hygiene false in
local macro_rules | `(tactic| walk_at "C") => `(tactic| first
  | walk_at "c"
  | with_reducible refine br_true ?_
  | with_reducible refine br_false ?_)
-- a local's value
theorem look_ne {m : Str → Option Value} {x y : Str} {v : Value} {H : Hp} {r : Option Value} (hne : y ≠ x) (h : m y = r) : (⟨fun z => if z = x then some v else m z, H⟩ : St).m y = r := (if_neg hne).trans h
theorem look_eq {m : Str → Option Value} {x : Str} {v : Value} {H : Hp} : (⟨fun z => if z = x then some v else m z, H⟩ : St).m x = some v := if_pos rfl

abbrev Cell := Int × Int
def IsCell (H : Hp) (v : Value) (c : Cell) : Prop := ∃ a t u, v = .ref a ∧ H a = some (tupO [.int c.1 t, .int c.2 u])
def CellsAre (H : Hp) (vs : List Value) (cs : List Cell) : Prop := vs.length = cs.length ∧ ∀ (i : Nat) (v : Value) (c : Cell), vs[i]? = some v → cs[i]? = some c → IsCell H v c

/-- where the store's parts lie -/
structure StoA where
  st : Addr
  sd : Addr
  hl : Addr
  sl : Addr
  tr : Addr
  sy : Addr
  yd : Addr
  fl : Addr

def storeNames : List Str := ["symbols", "max_heap", "heap", "stack", "trail", "hb", "bb"]
def symNames : List Str := ["texts", "atom_numbers", "functors", "functor_numbers"]
structure Rep (a : StoA) (H : Hp) (cs : List Cell) (fs : List Cell) : Prop where
  inst : H a.st = some (instObj 380 a.sd)
  dict : ∃ es n t u v, H a.sd = some (dictOf es n) ∧ getL "heap" es = some (some (.ref a.hl)) ∧ getL "stack" es = some (some (.ref a.sl)) ∧ getL "trail" es = some (some (.ref a.tr)) ∧ getL "symbols" es = some (some (.ref a.sy)) ∧
    getL "max_heap" es = some (some (.int 100000 t)) ∧ getL "hb" es = some (some (.int 0 u)) ∧ getL "bb" es = some (some (.int 0 v)) ∧ ∀ x, x ∉ storeNames → getL x es = some none
  heap : ∃ vs n, H a.hl = some (lstO vs n) ∧ CellsAre H vs cs
  syi : H a.sy = some (instObj 154 a.yd)
  syd : ∃ es n, H a.yd = some (dictOf es n) ∧ getL "functors" es = some (some (.ref a.fl)) ∧ ∀ x, x ∉ symNames → getL x es = some none
  fun_ : ∃ vs n, H a.fl = some (lstO vs n) ∧ CellsAre H vs fs
  ne : a.hl ≠ a.fl

/-- all but the list at l stays -/
def LeBut (l : Addr) (H H' : Hp) : Prop := ∀ x o, H x = some o → x ≠ l → H' x = some o
def Le (H H' : Hp) : Prop := ∀ x o, H x = some o → H' x = some o
theorem Le.refl (H : Hp) : Le H H := fun _ _ e => e
theorem Le.trans {H H' H'' : Hp} (x : Le H H') (y : Le H' H'') : Le H H'' := fun a o e => y a o (x a o e)
theorem Le.but {l : Addr} {H H' : Hp} (x : Le H H') : LeBut l H H' := fun a o e _ => x a o e
theorem LeBut.trans {l : Addr} {H H' H'' : Hp} (x : LeBut l H H') (y : LeBut l H' H'') : LeBut l H H'' := fun a o e n => y a o (x a o e n) n
theorem le_put {H : Hp} {a : Addr} {o : Obj} (h : H a = none) : Le H (H.put a o) := fun x o' e => by
  have : x ≠ a := fun q => by rw [q, h] at e; cases e
  rw [Hp.put_ne _ _ this]; exact e
theorem leBut_put {H : Hp} {a : Addr} {o : Obj} : LeBut a H (H.put a o) := fun x o' e n => by rw [Hp.put_ne _ _ n]; exact e
theorem IsCell.mono {H H' : Hp} {v : Value} {c : Cell} (h : IsCell H v c) (k : Le H H') : IsCell H' v c := let ⟨a, t, u, e, x⟩ := h; ⟨a, t, u, e, k _ _ x⟩
theorem IsCell.but {H H' : Hp} {v : Value} {c : Cell} {l : Addr} {vs : List Value} {n : Nat} (h : IsCell H v c) (hl : H l = some (lstO vs n)) (k : LeBut l H H') : IsCell H' v c :=
  let ⟨a, t, u, e, x⟩ := h
  ⟨a, t, u, e, k _ _ x fun q => by rw [q, hl] at x; injection x with x; injection x with x; injection x with x; exact absurd x (by decide)⟩
theorem CellsAre.but {H H' : Hp} {vs : List Value} {cs : List Cell} {l : Addr} {us : List Value} {n : Nat} (h : CellsAre H vs cs) (hl : H l = some (lstO us n)) (k : LeBut l H H') : CellsAre H' vs cs :=
  ⟨h.1, fun i v c a b => (h.2 i v c a b).but hl k⟩
theorem CellsAre.mono {H H' : Hp} {vs : List Value} {cs : List Cell} (h : CellsAre H vs cs) (k : Le H H') : CellsAre H' vs cs := ⟨h.1, fun i v c a b => (h.2 i v c a b).mono k⟩
theorem CellsAre.at {H : Hp} {vs : List Value} {cs : List Cell} (h : CellsAre H vs cs) {i : Nat} {c : Cell} (e : cs[i]? = some c) : ∃ v, vs[i]? = some v ∧ IsCell H v c := by
  have hi : i < cs.length := (List.getElem?_eq_some_iff.mp e).1
  exact ⟨vs[i]'(by rw [h.1]; exact hi), by simp, h.2 i _ c (by simp) e⟩
theorem CellsAre.set {H : Hp} {vs : List Value} {cs : List Cell} (h : CellsAre H vs cs) {i : Nat} {v : Value} {c : Cell} (hv : IsCell H v c) : CellsAre H (vs.set i v) (cs.set i c) := by
  refine ⟨by rw [List.length_set, List.length_set, h.1], fun j w d a b => ?_⟩
  rw [List.getElem?_set] at a b
  by_cases q : i = j
  · subst q
    rw [if_pos rfl] at a b
    have := h.1
    split at a <;> split at b <;> first | omega | (cases a; cases b; exact hv) | cases b
  · rw [if_neg q] at a b
    exact h.2 j w d a b
theorem lst_ne_inst {vs : List Value} {n : Nat} {K dx : Addr} : lstO vs n ≠ instObj K dx := fun e => by injection e with e; cases e
theorem lst_ne_dict {vs : List Value} {n : Nat} {es : List DictEntry} {k : Nat} : lstO vs n ≠ dictOf es k := fun e => by injection e with e; injection e with e; exact absurd e (by decide)
theorem ne_of_obj {H : Hp} {a b : Addr} {o o' : Obj} (ha : H a = some o) (hb : H b = some o') (h : o ≠ o') : b ≠ a := fun q => by rw [q, ha] at hb; exact h (Option.some.inj hb)
theorem Rep.but {a : StoA} {H H' : Hp} {cs cs' fs : List Cell} {vs : List Value} {n : Nat} (R : Rep a H cs fs) (k : LeBut a.hl H H') (h : H' a.hl = some (lstO vs n)) (hc : CellsAre H' vs cs') : Rep a H' cs' fs := by
  obtain ⟨us, n', hh, _⟩ := R.heap
  obtain ⟨es, m, t, u, v, hd, r⟩ := R.dict
  obtain ⟨ys, m', hy, r'⟩ := R.syd
  obtain ⟨ws, q, hf, hfc⟩ := R.fun_
  exact ⟨k _ _ R.inst (ne_of_obj hh R.inst lst_ne_inst), ⟨es, m, t, u, v, k _ _ hd (ne_of_obj hh hd lst_ne_dict), r⟩, ⟨vs, n, h, hc⟩, k _ _ R.syi (ne_of_obj hh R.syi lst_ne_inst), ⟨ys, m', k _ _ hy (ne_of_obj hh hy lst_ne_dict), r'⟩,
    ⟨ws, q, k _ _ hf (Ne.symm R.ne), hfc.but hh k⟩, R.ne⟩
theorem Rep.mono {a : StoA} {H H' : Hp} {cs fs : List Cell} (R : Rep a H cs fs) (k : Le H H') : Rep a H' cs fs := by
  obtain ⟨us, n', hh, hc⟩ := R.heap
  exact R.but k.but (k _ _ hh) (hc.mono k)

/-- a reference leads to a place of the heap, downwards -/
def CellOk (cs : List Cell) (c : Cell) : Prop := c.1 ≠ 1 ∧ (c.1 = 0 → 0 ≤ c.2 ∧ c.2 < cs.length)
structure Wf (cs : List Cell) : Prop where
  ok : ∀ c ∈ cs, CellOk cs c
  down : ∀ (i : Nat) (c : Cell), cs[i]? = some c → c.1 = 0 → c.2 ≤ i
  len : cs.length ≤ 40

def derefN (cs : List Cell) : Nat → Cell → Cell
  | 0, c => c
  | n + 1, c => if c.1 = 0 then (match cs[c.2.toNat]? with
    | some d => if d = c then c else derefN cs n d
    | none => c) else c
def deref (cs : List Cell) (c : Cell) : Cell := derefN cs (c.2.toNat + 1) c


theorem derefN_big {cs : List Cell} (W : Wf cs) : ∀ (n m : Nat) (c : Cell), CellOk cs c → c.2.toNat < n → c.2.toNat < m → derefN cs n c = derefN cs m c := by
  intro n
  induction n with
  | zero => intro m c _ h; omega
  | succ n ih =>
    intro m c hc hn hm
    obtain ⟨m, rfl⟩ : ∃ k, m = k + 1 := ⟨m - 1, by omega⟩
    unfold derefN
    by_cases h0 : c.1 = 0
    · rw [if_pos h0, if_pos h0]
      cases hd : cs[c.2.toNat]? with
      | none => rfl
      | some d =>
        dsimp only
        by_cases e : d = c
        · rw [if_pos e, if_pos e]
        · rw [if_neg e, if_neg e]
          by_cases d0 : d.1 = 0
          · have h1 := W.down _ _ hd d0
            have h2 := hc.2 h0
            have hdo := W.ok d (List.mem_of_getElem? hd)
            have h3 := hdo.2 d0
            have : d.2 ≠ c.2 := fun q => e (Prod.ext (d0.trans h0.symm) q)
            exact ih m d hdo (by omega) (by omega)
          · have z : ∀ k, derefN cs k d = d := fun k => by
              cases k with
              | zero => rfl
              | succ k => unfold derefN; rw [if_neg d0]
            rw [z, z]
    · rw [if_neg h0, if_neg h0]
theorem deref_val {cs : List Cell} {c : Cell} (h : c.1 ≠ 0) : deref cs c = c := by unfold deref derefN; rw [if_neg h]
theorem deref_self {cs : List Cell} {c : Cell} (h : cs[c.2.toNat]? = some c) : deref cs c = c := by
  unfold deref derefN
  by_cases h0 : c.1 = 0
  · rw [if_pos h0, h]; dsimp only; rw [if_pos rfl]
  · rw [if_neg h0]
theorem deref_step {cs : List Cell} {c d : Cell} (W : Wf cs) (hc : CellOk cs c) (h0 : c.1 = 0) (h : cs[c.2.toNat]? = some d) (hne : d ≠ c) : deref cs c = deref cs d := by
  have hdo := W.ok d (List.mem_of_getElem? h)
  have e : deref cs c = derefN cs c.2.toNat d := by
    show (if c.1 = 0 then _ else _) = _
    rw [if_pos h0, h]; dsimp only; rw [if_neg hne]
  rw [e]
  clear e
  by_cases d0 : d.1 = 0
  · have h1 := W.down _ _ h d0
    have h2 := hc.2 h0
    have h3 := hdo.2 d0
    have : d.2 ≠ c.2 := fun q => hne (Prod.ext (d0.trans h0.symm) q)
    exact derefN_big W _ _ d hdo (by omega) (by omega)
  · rw [deref_val d0]
    cases c.2.toNat with
    | zero => rfl
    | succ k => unfold derefN; rw [if_neg d0]

section
variable {C : Ctx} {st : St}
theorem units_ok (ok : C.Ok) (hl : C.lev ≤ 31) : C.A.units < cLine := by have := ok.un; show _ < 9900; omega
theorem rc_cell {h₀ : Heap} {Z : Hp} {s : Shared} (ok : C.Ok) (hl : C.lev ≤ 31) (hs : Holds C h₀ Z st s) {a b : Addr} {c d : Cell} (ha : IsCell st.H (.ref a) c) (hb : IsCell st.H (.ref b) d) : PySem.SeqAt.RcAt C.A s (.ref a) (.ref b) (decide (c = d)) := by
  obtain ⟨a', t, u, e, ha⟩ := ha
  cases e
  obtain ⟨b', t', u', e, hb⟩ := hb
  cases e
  have k := PySem.SeqAt.RcAt.tuples (A := C.A) (s := s) (items := #[.int c.1 t, .int c.2 u]) (items2 := #[.int d.1 t', .int d.2 u']) (e := fun j => if j = 0 then c.1 == d.1 else c.2 == d.2) ⟨_, (hs.N _ _ ha).1, rfl, _, rfl⟩ ⟨_, (hs.N _ _ hb).1, rfl, _, rfl⟩ (units_ok ok hl) (fun j h1 h2 => by
    match j, h1 with
    | 0, _ => exact PySem.SeqAt.EqAt.int_int _ _ _ _
    | 1, _ => exact PySem.SeqAt.EqAt.int_int _ _ _ _)
  have e : ((List.range (min (#[Value.int c.1 t, .int c.2 u]).size (#[Value.int d.1 t', .int d.2 u']).size)).all (fun j => if j = 0 then c.1 == d.1 else c.2 == d.2) && (#[Value.int c.1 t, .int c.2 u]).size == (#[Value.int d.1 t', .int d.2 u']).size) = decide (c = d) := by
    show ((List.range 2).all _ && true) = _
    rw [Bool.and_true, Bool.eq_iff_iff]
    simp only [List.all_eq_true, List.mem_range, decide_eq_true_eq, Prod.ext_iff]
    constructor
    · intro h
      have h0 := h 0 (by omega)
      have h1 := h 1 (by omega)
      simpa using And.intro h0 h1
    · rintro ⟨h0, h1⟩ j _
      split <;> simp [h0, h1]
  rw [e] at k
  exact k
theorem c_eqCell {v w : Value} {c d : Cell} {Q : Value → St → Prop} (ok : C.Ok) (hl : C.lev ≤ 31) (ha : IsCell st.H v c) (hb : IsCell st.H w d) (h : Q (.bool (decide (c = d))) st) : wpC C (compareOp .Eq v w) Q st := by
  obtain ⟨a, t, u, rfl, ha'⟩ := id ha
  obtain ⟨b, t', u', rfl, hb'⟩ := id hb
  exact c_eqAt (fun _ _ _ _ hs => rc_cell ok hl hs ha hb) h
end

theorem s_deref {C : Ctx} {st : St} (ok : C.Ok) (hlev : C.lev ≤ 25) {a : StoA} {cs : List Cell} {v : Value} {c : Cell} {Q : Value → St → Prop} {fs : List Cell} (S : Rep a st.H cs fs) (W : Wf cs) (hv : IsCell st.H v c) (hc : CellOk cs c) (h : ∀ r, IsCell st.H r (deref cs c) → Q r st) :
    codeC C (.ref 229) [.ref a.st, v] Q st := by
  obtain ⟨hst, ⟨es, n, t1, t2, t3, hsd, hheap, hstack, htrail, hsym, hmax, hhb, hbb, hno⟩, ⟨vs, k, hhl, hcs⟩, -, -, -, -⟩ := S
  refine' c_def (f := 229) (binds := [("self", .ref a.st), ("cell", v)]) ok ?ho ?hcd ?hbind ?hloc ?hlev ?hco ?hgen ?hk ?hcell ?_
  walk_at "enter"
  walk_at "c"
  refine c_While (fun n st' => st'.H = st.H ∧ st'.m "self" = some (.ref a.st) ∧ ∃ v' c', st'.m "cell" = some v' ∧ IsCell st.H v' c' ∧ CellOk cs c' ∧ deref cs c' = deref cs c ∧ n = (if c'.1 = 0 then c'.2.toNat + 1 else 0)) ?_ _ ⟨rfl, rfl, v, c, rfl, hv, hc, rfl, rfl⟩
  rintro n ⟨m', H'⟩ ⟨rfl, hself, v', c', hcell, hv', hc', hd, rfl⟩
  obtain ⟨ca, ct, cu, rfl, hca⟩ := id hv'
  dsimp only at hself hcell
  refine c_isValue ?_
  walk_at "c"
  walk_at "c"
  refine ⟨fun _ => ?_, fun h => nomatch h⟩
  repeat walk_at "c"
  refine ⟨fun h0 => ?_, fun h0 => ?_⟩
  · have h0 : c'.1 = 0 := by simpa using h0
    obtain ⟨h1, h2⟩ := hc'.2 h0
    obtain ⟨d, hd'⟩ : ∃ d, cs[c'.2.toNat]? = some d := ⟨cs[c'.2.toNat], by simp⟩
    obtain ⟨w, hw'⟩ : ∃ w, vs[c'.2.toNat]? = some w := ⟨vs[c'.2.toNat]'(by rw [hcs.1]; omega), by simp [hcs.1]⟩
    have hwc := hcs.2 _ _ _ hw' hd'
    repeat walk_at "c"
    refine c_item hhl h1 (by have := W.len; omega) hw' ?_
    repeat walk_at "c"
    refine c_eqCell ok (by omega) hwc hv' ?_
    repeat walk_at "c"
    refine ⟨fun e => ?_, fun e => ?_⟩
    · have e : d = c' := by simpa using e
      repeat walk_at "c"
      refine h _ ?_
      rw [← hd, deref_self (e ▸ hd')]
      exact hv'
    · have e : d ≠ c' := by simpa using e
      repeat walk_at "c"
      have h3 := deref_step W hc' h0 hd' e
      refine ⟨_, ?_, rfl, hself, w, d, rfl, hwc, W.ok _ (List.mem_of_getElem? hd'), by rw [← h3, hd], rfl⟩
      rw [if_pos h0]
      split
      · rename_i d0
        have h4 := W.down _ _ hd' d0
        have h5 := (W.ok _ (List.mem_of_getElem? hd')).2 d0
        have : d.2 ≠ c'.2 := fun q => e (Prod.ext (d0.trans h0.symm) q)
        omega
      · omega
  · have h0 : c'.1 ≠ 0 := by simpa using h0
    repeat walk_at "c"
    refine ⟨fun h1 => absurd (by simpa using h1) hc'.1, fun _ => ?_⟩
    repeat walk_at "c"
    refine h _ ?_
    rw [← hd, deref_val h0]
    exact hv'

section
variable {C : Ctx} {st : St} {a : StoA} {cs fs : List Cell}

theorem s_is_unbound (ok : C.Ok) (hlev : C.lev ≤ 25) {v : Value} {c : Cell} {Q : Value → St → Prop} (S : Rep a st.H cs fs) (W : Wf cs) (hv : IsCell st.H v c) (hc : CellOk cs c) (h : Q (.bool (decide (c.1 = 0 ∧ cs[c.2.toNat]? = some c))) st) :
    codeC C (.ref 236) [.ref a.st, v] Q st := by
  obtain ⟨hst, ⟨es, n, t1, t2, t3, hsd, hheap, hstack, htrail, hsym, hmax, hhb, hbb, hno⟩, ⟨vs, k, hhl, hcs⟩, -, -, -, -⟩ := S
  refine' c_def (f := 236) (binds := [("self", .ref a.st), ("cell", v)]) ok ?ho ?hcd ?hbind ?hloc ?hlev ?hco ?hgen ?hk ?hcell ?_
  walk_at "enter"
  obtain ⟨ca, ct, cu, rfl, hca⟩ := id hv
  repeat walk_at "c"
  refine ⟨fun h0 => ?_, fun h0 => ?_⟩
  · have h0 : c.1 = 0 := by simpa using h0
    obtain ⟨h1, h2⟩ := hc.2 h0
    obtain ⟨d, hd'⟩ : ∃ d, cs[c.2.toNat]? = some d := ⟨cs[c.2.toNat], by simp⟩
    obtain ⟨w, hw', hwc⟩ := hcs.at hd'
    repeat walk_at "c"
    refine c_item hhl h1 (by have := W.len; omega) hw' ?_
    repeat walk_at "c"
    refine c_eqCell ok (by omega) hwc hv ?_
    repeat walk_at "c"
    have e : decide (c.1 = 0 ∧ cs[c.2.toNat]? = some c) = decide (d = c) := by rw [hd']; simp [h0]
    rw [e] at h
    exact h
  · have h0 : c.1 ≠ 0 := by simpa using h0
    repeat walk_at "c"
    refine ⟨fun h1 => absurd (by simpa using h1) hc.1, fun _ => ?_⟩
    repeat walk_at "c"
    have e : decide (c.1 = 0 ∧ cs[c.2.toNat]? = some c) = false := by simp [h0]
    rw [e] at h
    exact h

theorem s_bind (ok : C.Ok) (hlev : C.lev ≤ 25) {v w : Value} {c d : Cell} {Q : Value → St → Prop} (S : Rep a st.H cs fs) (W : Wf cs) (hv : IsCell st.H v c) (hwd : IsCell st.H w d) (hc : CellOk cs c) (h0 : c.1 = 0)
    (h : ∀ H', LeBut a.hl st.H H' → Rep a H' (cs.set c.2.toNat d) fs → Q .none ⟨st.m, H'⟩) :
    codeC C (.ref 243) [.ref a.st, v, w] Q st := by
  obtain ⟨hst, ⟨es, n, t1, t2, t3, hsd, hheap, hstack, htrail, hsym, hmax, hhb, hbb, hno⟩, ⟨vs, k, hhl, hcs⟩, -, -, -, -⟩ := id S
  refine' c_def (f := 243) (binds := [("self", .ref a.st), ("cell", v), ("value", w)]) ok ?ho ?hcd ?hbind ?hloc ?hlev ?hco ?hgen ?hk ?hcell ?_
  walk_at "enter"
  obtain ⟨ca, ct, cu, rfl, hca⟩ := id hv
  obtain ⟨h1, h2⟩ := hc.2 h0
  have hst' := ne_of_obj hhl hst lst_ne_inst
  have hsd' := ne_of_obj hhl hsd lst_ne_dict
  repeat walk_at "c"
  refine ⟨fun _ => ?_, fun e => absurd h0 (by simpa using e)⟩
  repeat walk_at "c"
  refine c_setItem hhl h1 (by have := W.len; omega) (by rw [hcs.1]; omega) ?_
  have hput : LeBut a.hl st.H (st.H.put a.hl (lstO (vs.set c.2.toNat w) k)) := leBut_put
  have hst2 := hput _ _ hst hst'
  have hsd2 := hput _ _ hsd hsd'
  repeat walk_at "c"
  refine ⟨fun e => absurd (of_decide_eq_true e) (by omega), fun _ => ?_⟩
  repeat walk_at "c"
  exact h _ hput (S.but hput (Hp.put_self ..) ((hcs.but hhl hput).set (hwd.but hhl hput)))
end

theorem put_keep {H : Hp} {a x : Addr} {o o' : Obj} (h : H x = some o') (n : H a = none) : (H.put a o) x = some o' := le_put n _ _ h
theorem put_other {H : Hp} {a x : Addr} {o o' : Obj} (h : H x = some o') (n : x ≠ a) : (H.put a o) x = some o' := by rw [Hp.put_ne _ _ n]; exact h
theorem Rep.put {a : StoA} {H : Hp} {cs fs : List Cell} {x : Addr} {o : Obj} (R : Rep a H cs fs) (n : H x = none) : Rep a (H.put x o) cs fs := R.mono (le_put n)
theorem IsCell.put {H : Hp} {v : Value} {c : Cell} {x : Addr} {o : Obj} (h : IsCell H v c) (n : H x = none) : IsCell (H.put x o) v c := h.mono (le_put n)
theorem ne_new {H : Hp} {a b : Addr} {o : Obj} (ha : H a = some o) (hb : H b = none) : a ≠ b := fun q => by rw [q, hb] at ha; cases ha

/-- an object that is no tuple, no list of the store, no dict and no own object: it may change -/
theorem Rep.set {a : StoA} {H H' : Hp} {cs fs : List Cell} {x : Addr} {o : Obj} (R : Rep a H cs fs) (hx : H x = some o) (hc : o.cls = .type "set") (k : LeBut x H H') : Rep a H' cs fs := by
  have nn : ∀ y o', H y = some o' → o'.cls ≠ .type "set" → y ≠ x := fun y o' e n q => by rw [q, hx] at e; cases e; exact n hc
  have cc : ∀ v c, IsCell H v c → IsCell H' v c := fun v c ⟨d, t, u, e, z⟩ => ⟨d, t, u, e, k _ _ z (nn _ _ z (fun q => by injection q with q; exact absurd q (by decide)))⟩
  obtain ⟨us, n', hh, h1⟩ := R.heap
  obtain ⟨es, m, t, u, v, hd, r⟩ := R.dict
  obtain ⟨ys, m', hy, r'⟩ := R.syd
  obtain ⟨ws, q, hf, hfc⟩ := R.fun_
  exact ⟨k _ _ R.inst (nn _ _ R.inst (fun q => by cases q)), ⟨es, m, t, u, v, k _ _ hd (nn _ _ hd (fun q => by injection q with q; exact absurd q (by decide))), r⟩,
    ⟨us, n', k _ _ hh (nn _ _ hh (fun q => by injection q with q; exact absurd q (by decide))), h1.1, fun i v c a b => cc _ _ (h1.2 i v c a b)⟩, k _ _ R.syi (nn _ _ R.syi (fun q => by cases q)),
    ⟨ys, m', k _ _ hy (nn _ _ hy (fun q => by injection q with q; exact absurd q (by decide))), r'⟩,
    ⟨ws, q, k _ _ hf (nn _ _ hf (fun q => by injection q with q; exact absurd q (by decide))), hfc.1, fun i v c a b => cc _ _ (hfc.2 i v c a b)⟩, R.ne⟩
/-- a list that is not the store's may change -/
theorem Rep.list {a : StoA} {H H' : Hp} {cs fs : List Cell} {x : Addr} {vs : List Value} {k₀ : Nat} (R : Rep a H cs fs) (hx : H x = some (lstO vs k₀)) (n1 : x ≠ a.hl) (n2 : x ≠ a.fl) (k : LeBut x H H') : Rep a H' cs fs := by
  obtain ⟨us, n', hh, h1⟩ := R.heap
  obtain ⟨es, m, t, u, v, hd, r⟩ := R.dict
  obtain ⟨ys, m', hy, r'⟩ := R.syd
  obtain ⟨ws, q, hf, hfc⟩ := R.fun_
  exact ⟨k _ _ R.inst (ne_of_obj hx R.inst lst_ne_inst), ⟨es, m, t, u, v, k _ _ hd (ne_of_obj hx hd lst_ne_dict), r⟩, ⟨us, n', k _ _ hh (Ne.symm n1), h1.but hx k⟩, k _ _ R.syi (ne_of_obj hx R.syi lst_ne_inst), ⟨ys, m', k _ _ hy (ne_of_obj hx hy lst_ne_dict), r'⟩,
    ⟨ws, q, k _ _ hf (Ne.symm n2), hfc.but hx k⟩, R.ne⟩
theorem LeBut.put {l x : Addr} {o : Obj} {H H' : Hp} (k : LeBut l H H') (n : H x = none) : LeBut l H (H'.put x o) := fun y o' e ne => by
  rw [Hp.put_ne _ _ (ne_new e n)]; exact k y o' e ne
theorem LeBut.refl (l : Addr) (H : Hp) : LeBut l H H := fun _ _ e _ => e
theorem LeBut.thenLe {l : Addr} {H H' H'' : Hp} (x : LeBut l H H') (y : Le H' H'') : LeBut l H H'' := fun a o e n => y a o (x a o e n)
theorem Le.put {x : Addr} {o : Obj} {H H' : Hp} (k : Le H H') (n : H x = none) : Le H (H'.put x o) := fun y o' e => by
  rw [Hp.put_ne _ _ (ne_new e n)]; exact k y o' e

section
variable {C : Ctx} {st : St} {a : StoA} {cs fs : List Cell}

theorem c_sHeap {expr : Bool} {Q : Value → St → Prop} (S : Rep a st.H cs fs) (h : Q (.ref a.hl) st) : wpC C (getAttr (.ref a.st) "heap" expr) Q st := by
  obtain ⟨hst, ⟨es, n, t1, t2, t3, hsd, hheap, hstack, htrail, hsym, hmax, hhb, hbb, hno⟩, -, -, -, -, -⟩ := S
  exact c_getAttr hst hsd (by k_is) (by k_is) (by k_is) (by k_is) hheap rfl h
theorem c_sSym {expr : Bool} {Q : Value → St → Prop} (S : Rep a st.H cs fs) (h : Q (.ref a.sy) st) : wpC C (getAttr (.ref a.st) "symbols" expr) Q st := by
  obtain ⟨hst, ⟨es, n, t1, t2, t3, hsd, hheap, hstack, htrail, hsym, hmax, hhb, hbb, hno⟩, -, -, -, -, -⟩ := S
  exact c_getAttr hst hsd (by k_is) (by k_is) (by k_is) (by k_is) hsym rfl h
theorem c_syFun {expr : Bool} {Q : Value → St → Prop} (S : Rep a st.H cs fs) (h : Q (.ref a.fl) st) : wpC C (getAttr (.ref a.sy) "functors" expr) Q st := by
  obtain ⟨-, -, -, hsy, ⟨es, n, hyd, hfl, hno⟩, -, -⟩ := S
  exact c_getAttr hsy hyd (by k_is) (by k_is) (by k_is) (by k_is) hfl rfl h
theorem c_sMeth {f : Addr} {name : Str} {pl : Sem Bool} {Q : Value × List Value → St → Prop} (S : Rep a st.H cs fs)
    (hg : plainGet (Mine.hd.heap_1 C.w.params) 380 name = true) (hf : findIn (Mine.hd.heap_1 C.w.params) (.ref 380) name = some (some (.ref f))) (ht : isFn (Mine.hd.heap_1 C.w.params) (.ref f) = true) (hn : name ∉ storeNames)
    (h : Q (.ref f, [.ref a.st]) st) : wpC C (getMethod (.ref a.st) name pl) Q st := by
  obtain ⟨hst, ⟨es, n, t1, t2, t3, hsd, hheap, hstack, htrail, hsym, hmax, hhb, hbb, hno⟩, -, -, -, -, -⟩ := S
  exact c_getMeth hst hsd hg hf ht (hno _ hn) h
theorem c_syMeth {f : Addr} {name : Str} {pl : Sem Bool} {Q : Value × List Value → St → Prop} (S : Rep a st.H cs fs)
    (hg : plainGet (Mine.hd.heap_1 C.w.params) 154 name = true) (hf : findIn (Mine.hd.heap_1 C.w.params) (.ref 154) name = some (some (.ref f))) (ht : isFn (Mine.hd.heap_1 C.w.params) (.ref f) = true) (hn : name ∉ symNames)
    (h : Q (.ref f, [.ref a.sy]) st) : wpC C (getMethod (.ref a.sy) name pl) Q st := by
  obtain ⟨-, -, -, hsy, ⟨es, n, hyd, hfl, hno⟩, -, -⟩ := S
  exact c_getMeth hsy hyd hg hf ht (hno _ hn) h
theorem c_cell0 {e i : Expr} {v : Value} {c : Cell} {u : Tok} {Q : Value → St → Prop} (hv : IsCell st.H v c) (h : ∀ t, Q (.int c.1 t) st) (hs : ∀ (o : Addr) (j : Int) (z : Tok), subscripted i false (.ref o) (.int j z) = operate [.ref o, .int j z] (getItem (.ref o) (.int j z)) := by intro _ _ _; with_unfolding_all rfl) : wpC C (subscriptTail e i v (.int 0 u)) Q st := by
  obtain ⟨d, t, t', rfl, hd⟩ := hv
  exact c_itemT (j := 0) hd (by decide) (by decide) rfl rfl (h _) (hs _ _ _)
theorem c_cell1 {e i : Expr} {v : Value} {c : Cell} {u : Tok} {Q : Value → St → Prop} (hv : IsCell st.H v c) (h : ∀ t, Q (.int c.2 t) st) (hs : ∀ (o : Addr) (j : Int) (z : Tok), subscripted i false (.ref o) (.int j z) = operate [.ref o, .int j z] (getItem (.ref o) (.int j z)) := by intro _ _ _; with_unfolding_all rfl) : wpC C (subscriptTail e i v (.int 1 u)) Q st := by
  obtain ⟨d, t, t', rfl, hd⟩ := hv
  exact c_itemT (j := 1) hd (by decide) (by decide) rfl rfl (h _) (hs _ _ _)
theorem c_hItem {e i : Expr} {k : Int} {u : Tok} {c : Cell} {Q : Value → St → Prop} (S : Rep a st.H cs fs) (h0 : 0 ≤ k) (hk : k < 1000) (hx : cs[k.toNat]? = some c) (h : ∀ v, IsCell st.H v c → Q v st) (hs : ∀ (o : Addr) (j : Int) (z : Tok), subscripted i false (.ref o) (.int j z) = operate [.ref o, .int j z] (getItem (.ref o) (.int j z)) := by intro _ _ _; with_unfolding_all rfl) : wpC C (subscriptTail e i (.ref a.hl) (.int k u)) Q st := by
  obtain ⟨vs, n, hh, hc⟩ := S.heap
  obtain ⟨w, hw, hwc⟩ := hc.at hx
  exact c_item hh h0 (by omega) hw (h _ hwc) (hs _ _ _)
theorem c_fItem {e i : Expr} {k : Int} {u : Tok} {c : Cell} {Q : Value → St → Prop} (S : Rep a st.H cs fs) (h0 : 0 ≤ k) (hk : k < 1000) (hx : fs[k.toNat]? = some c) (h : ∀ v, IsCell st.H v c → Q v st) (hs : ∀ (o : Addr) (j : Int) (z : Tok), subscripted i false (.ref o) (.int j z) = operate [.ref o, .int j z] (getItem (.ref o) (.int j z)) := by intro _ _ _; with_unfolding_all rfl) : wpC C (subscriptTail e i (.ref a.fl) (.int k u)) Q st := by
  obtain ⟨vs, n, hh, hc⟩ := S.fun_
  obtain ⟨w, hw, hwc⟩ := hc.at hx
  exact c_item hh h0 (by omega) hw (h _ hwc) (hs _ _ _)

theorem s_is_compound (ok : C.Ok) (hlev : C.lev ≤ 29) {v x : Value} {c : Cell} {Q : Value → St → Prop} (hv : IsCell st.H v c) (h : Q (.bool (decide (c.1 = 2) || decide (c.1 = 3))) st) :
    codeC C (.ref 285) [x, v] Q st := by
  refine' c_def (f := 285) (binds := [("self", x), ("cell", v)]) ok ?ho ?hcd ?hbind ?hloc ?hlev ?hco ?hgen ?hk ?hcell ?_
  walk_at "enter"
  repeat walk_at "c"
  refine ⟨fun e => ?_, fun e => ?_⟩
  · repeat walk_at "c"
    rw [show c.1 = 2 by simpa using e] at h ⊢
    exact h
  · repeat walk_at "c"
    have e : c.1 ≠ 2 := by simpa using e
    have : (decide (c.1 = 2) || decide (c.1 = 3)) = (c.1 == 3) := by simp [e]; rfl
    rw [this] at h; exact h
theorem s_base (ok : C.Ok) (hlev : C.lev ≤ 29) {v x : Value} {c : Cell} {Q : Value → St → Prop} (hv : IsCell st.H v c) (h : ∀ t, Q (.int (if c.1 = 3 then c.2 else c.2 + 1) t) st) :
    codeC C (.ref 306) [x, v] Q st := by
  refine' c_def (f := 306) (binds := [("self", x), ("cell", v)]) ok ?ho ?hcd ?hbind ?hloc ?hlev ?hco ?hgen ?hk ?hcell ?_
  walk_at "enter"
  repeat walk_at "c"
  refine ⟨fun e => ?_, fun e => ?_⟩
  · have e : c.1 = 3 := by simpa using e
    repeat walk_at "c"
    have := h ‹_›
    rw [if_pos e] at this; exact this
  · have e : c.1 ≠ 3 := by simpa using e
    repeat walk_at "c"
    have := h ‹_›
    rw [if_neg e] at this; exact this
theorem s_is_variable (ok : C.Ok) (hlev : C.lev ≤ 29) {v : Value} {c : Cell} {Q : Value → St → Prop} (hv : IsCell st.H v c) (h1 : c.1 ≠ 1) (h : Q (.bool (decide (c.1 = 0))) st) :
    codeC C (.ref 438) [v] Q st := by
  refine' c_def (f := 438) (binds := [("cell", v)]) ok ?ho ?hcd ?hbind ?hloc ?hlev ?hco ?hgen ?hk ?hcell ?_
  walk_at "enter"
  repeat walk_at "c"
  refine ⟨fun e => ?_, fun e => ?_⟩
  · repeat walk_at "c"
    rw [show c.1 = 0 by simpa using e] at h ⊢
    exact h
  · repeat walk_at "c"
    have e : c.1 ≠ 0 := by simpa using e
    have : decide (c.1 = 0) = (c.1 == 1) := by simp [e, h1]
    rw [this] at h; exact h
end

theorem c_ExprK {C : Ctx} {st : St} {e : Expr} {pos : Pos} {Q : Flow → St → Prop} (ok : C.Ok) (h : wpC C (eval e C.env) (fun v st' => v = .none ∧ Q .next st') st)
    (hs : swapsWith e none pos.line C.env = Pure.pure false := by with_unfolding_all rfl) : wpC C (exec (.Expr e pos) C.env) Q st :=
  c_Expr h hs (by show (C.sc.kind == .module && _) = false; rw [ok.fn]; rfl)
/-- n is the width of the compound c -/
def Wid (cs fs : List Cell) (c : Cell) (n : Nat) : Prop := 0 ≤ c.2 ∧ ((c.1 = 3 ∧ n = 2) ∨ (c.1 = 2 ∧ ∃ f k, cs[c.2.toNat]? = some (6, f) ∧ 0 ≤ f ∧ f < 1000 ∧ fs[f.toNat]? = some (k, (n : Int))))
/-- the argument j of the compound c -/
def argAt (cs : List Cell) (c : Cell) (j : Nat) : Cell := (cs[(if c.1 = 3 then c.2 else c.2 + 1).toNat + j]?).getD (0, 0)
def IsPair (H : Hp) (v : Value) (p : Cell × Cell) : Prop := ∃ d x y, v = .ref d ∧ H d = some (tupO [x, y]) ∧ IsCell H x p.1 ∧ IsCell H y p.2
inductive StackIs (H : Hp) : List Value → List (Cell × Cell) → Prop
  | nil : StackIs H [] []
  | snoc {ws v wk p} : StackIs H ws wk → IsPair H v p → StackIs H (ws ++ [v]) (p :: wk)
theorem IsPair.mono {H H' : Hp} {v p} (h : IsPair H v p) (k : Le H H') : IsPair H' v p := let ⟨d, x, y, e, z, a, b⟩ := h; ⟨d, x, y, e, k _ _ z, a.mono k, b.mono k⟩
theorem IsPair.but {H H' : Hp} {v : Value} {p} {l : Addr} {vs : List Value} {n : Nat} (h : IsPair H v p) (hl : H l = some (lstO vs n)) (k : LeBut l H H') : IsPair H' v p :=
  let ⟨d, x, y, e, z, a, b⟩ := h
  ⟨d, x, y, e, k _ _ z fun q => by rw [q, hl] at z; injection z with z; injection z with z; injection z with z; exact absurd z (by decide), a.but hl k, b.but hl k⟩
theorem StackIs.mono {H H' : Hp} {ws wk} (h : StackIs H ws wk) (k : Le H H') : StackIs H' ws wk := by
  induction h with
  | nil => exact .nil
  | snoc _ p ih => exact .snoc ih (p.mono k)
theorem StackIs.but {H H' : Hp} {ws wk} {l : Addr} {vs : List Value} {n : Nat} (h : StackIs H ws wk) (hl : H l = some (lstO vs n)) (k : LeBut l H H') : StackIs H' ws wk := by
  induction h with
  | nil => exact .nil
  | snoc _ p ih => exact .snoc ih (p.but hl k)
theorem StackIs.len {H : Hp} {ws wk} (h : StackIs H ws wk) : ws.length = wk.length := by
  induction h with
  | nil => rfl
  | snoc _ p ih => simp [ih]

section
variable {C : Ctx} {st : St} {a : StoA} {cs fs : List Cell}
theorem s_arity (ok : C.Ok) (hlev : C.lev ≤ 29) {f : Int} {u : Tok} {d : Cell} {Q : Value → St → Prop} (S : Rep a st.H cs fs) (h0 : 0 ≤ f) (h1 : f < 1000) (hf : fs[f.toNat]? = some d) (h : ∀ t, Q (.int d.2 t) st) :
    codeC C (.ref 123) [.ref a.sy, .int f u] Q st := by
  refine' c_def (f := 123) (binds := [("self", .ref a.sy), ("functor", .int f u)]) ok ?ho ?hcd ?hbind ?hloc ?hlev ?hco ?hgen ?hk ?hcell ?_
  walk_at "enter"
  repeat walk_at "c"
  refine c_fItem (by walk_at "rep") h0 h1 hf fun v hv => ?_
  repeat walk_at "c"
  exact h _
theorem s_width (ok : C.Ok) (hlev : C.lev ≤ 28) {v : Value} {c : Cell} {n : Nat} {Q : Value → St → Prop} (S : Rep a st.H cs fs) (hlen : cs.length ≤ 40) (hv : IsCell st.H v c) (hc : Wid cs fs c n) (h : ∀ t, Q (.int n t) st) :
    codeC C (.ref 299) [.ref a.st, v] Q st := by
  refine' c_def (f := 299) (binds := [("self", .ref a.st), ("cell", v)]) ok ?ho ?hcd ?hbind ?hloc ?hlev ?hco ?hgen ?hk ?hcell ?_
  walk_at "enter"
  repeat walk_at "c"
  obtain ⟨h0, ⟨h3, rfl⟩ | ⟨h2, f, k, hf, hf0, hf1, hn⟩⟩ := hc
  · refine ⟨fun _ => ?_, fun e => absurd h3 (by simpa using e)⟩
    repeat walk_at "c"
    exact h _
  · refine ⟨fun e => absurd (by simpa using e) (by omega : ¬ c.1 = 3), fun _ => ?_⟩
    repeat walk_at "c"
    refine ⟨fun _ => ?_, fun e => absurd h2 (by simpa using e)⟩
    repeat walk_at "c"
    have := (List.getElem?_eq_some_iff.mp hf).1
    refine c_hItem (by walk_at "rep") h0 (by omega) hf fun w hw => ?_
    repeat walk_at "c"
    refine c_call (s_arity ok (by omega) (by walk_at "rep") hf0 hf1 hn fun t => ?_)
    repeat walk_at "c"
    exact h _
theorem s_same_shape (ok : C.Ok) (hlev : C.lev ≤ 28) {v w : Value} {c d : Cell} {Q : Value → St → Prop} (S : Rep a st.H cs fs) (hlen : cs.length ≤ 40) (hv : IsCell st.H v c) (hwd : IsCell st.H w d) (h1 : c.1 = 2 → 0 ≤ c.2 ∧ c.2 < cs.length) (h2 : d.1 = 2 → 0 ≤ d.2 ∧ d.2 < cs.length)
    (hcc : c.1 = 2 ∨ c.1 = 3) (h : Q (.bool (decide (c.1 = d.1 ∧ (c.1 = 3 ∨ cs[c.2.toNat]? = cs[d.2.toNat]?)))) st) :
    codeC C (.ref 431) [.ref a.st, v, w] Q st := by
  refine' c_def (f := 431) (binds := [("store", .ref a.st), ("left", v), ("right", w)]) ok ?ho ?hcd ?hbind ?hloc ?hlev ?hco ?hgen ?hk ?hcell ?_
  walk_at "enter"
  repeat walk_at "c"
  refine ⟨fun e => ?_, fun e => ?_⟩
  · have e : c.1 ≠ d.1 := by simpa using e
    repeat walk_at "c"
    rw [decide_eq_false (fun q => e q.1)] at h; exact h
  · have e : c.1 = d.1 := by simpa using e
    repeat walk_at "c"
    refine ⟨fun e3 => ?_, fun e3 => ?_⟩
    · have e3 : c.1 = 3 := by simpa using e3
      repeat walk_at "c"
      rw [decide_eq_true ⟨e, .inl e3⟩] at h; exact h
    · have e3 : c.1 ≠ 3 := by simpa using e3
      obtain ⟨a0, a1⟩ := h1 (by omega)
      obtain ⟨b0, b1⟩ := h2 (by omega)
      repeat walk_at "c"
      obtain ⟨x, hx⟩ : ∃ x, cs[c.2.toNat]? = some x := ⟨cs[c.2.toNat], by simp⟩
      obtain ⟨y, hy⟩ : ∃ y, cs[d.2.toNat]? = some y := ⟨cs[d.2.toNat], by simp⟩
      refine c_hItem (by walk_at "rep") a0 (by omega) hx fun x' hx' => ?_
      repeat walk_at "c"
      refine c_hItem (by walk_at "rep") b0 (by omega) hy fun y' hy' => ?_
      repeat walk_at "c"
      refine c_eqCell ok (by omega) hx' hy' ?_
      repeat walk_at "c"
      have : decide (c.1 = d.1 ∧ (c.1 = 3 ∨ cs[c.2.toNat]? = cs[d.2.toNat]?)) = decide (x = y) := by rw [hx, hy]; exact decide_eq_decide.mpr ⟨fun q => Option.some.inj (q.2.resolve_left e3), fun q => ⟨e, .inr (congrArg some q)⟩⟩
      rw [this] at h; exact h
theorem s_bind_pair (ok : C.Ok) (hlev : C.lev ≤ 24) {v w : Value} {c d : Cell} {Q : Value → St → Prop} (S : Rep a st.H cs fs) (W : Wf cs) (hv : IsCell st.H v c) (hwd : IsCell st.H w d) (hc : CellOk cs c) (hd : CellOk cs d) (hc0 : c.1 = 0) (hd0 : d.1 = 0) (hne : c ≠ d)
    (h : ∀ H', LeBut a.hl st.H H' → Rep a H' (if c.2 < d.2 then cs.set d.2.toNat c else cs.set c.2.toNat d) fs → Q .none ⟨st.m, H'⟩) :
    codeC C (.ref 250) [.ref a.st, v, w] Q st := by
  refine' c_def (f := 250) (binds := [("self", .ref a.st), ("c1", v), ("c2", w)]) ok ?ho ?hcd ?hbind ?hloc ?hlev ?hco ?hgen ?hk ?hcell ?_
  walk_at "enter"
  repeat walk_at "c"
  refine c_eqCell ok (by omega) hv hwd ?_
  repeat walk_at "c"
  refine ⟨fun e => absurd (of_decide_eq_true e) hne, fun _ => ?_⟩
  repeat walk_at "c"
  refine ⟨fun _ => ?_, fun e => absurd (hc0.trans hd0.symm) (by simpa using e)⟩
  repeat walk_at "c"
  refine ⟨fun e => ?_, fun e => ?_⟩
  · have e : c.2 < d.2 := by simpa using e
    rw [if_pos e] at h
    repeat walk_at "c"
    refine c_call (s_bind ok (by omega) (by walk_at "rep") W hwd hv hd hd0 fun H' k S' => ?_)
    refine ⟨rfl, ?_⟩
    repeat walk_at "c"
    exact h _ k S'
  · have e : ¬ c.2 < d.2 := by simpa using e
    rw [if_neg e] at h
    repeat walk_at "c"
    refine c_call (s_bind ok (by omega) (by walk_at "rep") W hv hwd hc hc0 fun H' k S' => ?_)
    refine ⟨rfl, ?_⟩
    repeat walk_at "c"
    exact h _ k S'
theorem s_bind_checked (ok : C.Ok) (hlev : C.lev ≤ 24) {v w : Value} {c d : Cell} {Q : Value → St → Prop} (S : Rep a st.H cs fs) (W : Wf cs) (hv : IsCell st.H v c) (hwd : IsCell st.H w d) (hc : CellOk cs c) (hc0 : c.1 = 0)
    (h : ∀ H', LeBut a.hl st.H H' → Rep a H' (cs.set c.2.toNat d) fs → Q (.bool true) ⟨st.m, H'⟩) :
    codeC C (.ref 452) [.ref a.st, v, w, .bool false] Q st := by
  refine' c_def (f := 452) (binds := [("store", .ref a.st), ("variable", v), ("value", w), ("occurs", .bool false)]) ok ?ho ?hcd ?hbind ?hloc ?hlev ?hco ?hgen ?hk ?hcell ?_
  walk_at "enter"
  repeat walk_at "c"
  refine ⟨fun e => absurd e (by decide), fun _ => ?_⟩
  repeat walk_at "c"
  refine ⟨fun e => absurd e (by decide), fun _ => ?_⟩
  repeat walk_at "c"
  refine c_call (s_bind ok (by omega) (by walk_at "rep") W hv hwd hc hc0 fun H' k S' => ?_)
  refine ⟨rfl, ?_⟩
  repeat walk_at "c"
  exact h _ k S'
end

section
variable {C : Ctx} {st : St} {a : StoA} {cs fs : List Cell}
theorem s_functor_of (ok : C.Ok) (hlev : C.lev ≤ 28) {v : Value} {c : Cell} {Q : Value → St → Prop} (S : Rep a st.H cs fs) (hlen : cs.length ≤ 40) (hv : IsCell st.H v c) {f : Int} (hc : (c.1 = 3 ∧ f = 0) ∨ (c.1 = 2 ∧ 0 ≤ c.2 ∧ cs[c.2.toNat]? = some (6, f))) (h : ∀ t, Q (.int f t) st) :
    codeC C (.ref 292) [.ref a.st, v] Q st := by
  refine' c_def (f := 292) (binds := [("self", .ref a.st), ("cell", v)]) ok ?ho ?hcd ?hbind ?hloc ?hlev ?hco ?hgen ?hk ?hcell ?_
  walk_at "enter"
  repeat walk_at "c"
  rcases hc with ⟨h3, rfl⟩ | ⟨h2, h0, hf⟩
  · refine ⟨fun e => absurd h3 (by have := of_decide_eq_true e; omega), fun _ => ?_⟩
    repeat walk_at "c"
    refine ⟨fun _ => ?_, fun e => absurd h3 (by simpa using e)⟩
    repeat walk_at "c"
    exact h _
  · refine ⟨fun _ => ?_, fun e => absurd h2 (by simpa using e)⟩
    repeat walk_at "c"
    have := (List.getElem?_eq_some_iff.mp hf).1
    refine c_hItem (by walk_at "rep") h0 (by omega) hf fun w hw => ?_
    repeat walk_at "c"
    exact h _
theorem s_rank (ok : C.Ok) (hlev : C.lev ≤ 29) {v : Value} {c : Cell} {Q : Value → St → Prop} (hv : IsCell st.H v c) (hc : c.1 = 2 ∨ c.1 = 3) (h : ∀ t, Q (.int 3 t) st) :
    codeC C (.ref 466) [v] Q st := by
  refine' c_def (f := 466) (binds := [("cell", v)]) ok ?ho ?hcd ?hbind ?hloc ?hlev ?hco ?hgen ?hk ?hcell ?_
  walk_at "enter"
  repeat walk_at "c"
  refine ⟨fun e => absurd (of_decide_eq_true e) (by omega), fun _ => ?_⟩
  repeat walk_at "c"
  refine ⟨fun e => absurd (of_decide_eq_true e) (by omega), fun _ => ?_⟩
  repeat walk_at "c"
  refine ⟨fun _ => ?_, fun e => ?_⟩
  · repeat walk_at "c"
    refine ⟨fun _ => ?_, fun e => absurd e (by decide)⟩
    repeat walk_at "c"
    exact h _
  · repeat walk_at "c"
    refine ⟨fun _ => ?_, fun e' => ?_⟩
    · repeat walk_at "c"
      refine ⟨fun _ => ?_, fun e => absurd e (by decide)⟩
      repeat walk_at "c"
      exact h _
    · have e : c.1 ≠ 2 := by simpa using e
      have e' : c.1 ≠ 3 := by simpa using e'
      omega
theorem s_order (ok : C.Ok) (hlev : C.lev ≤ 29) {x y : Int} {t u : Tok} {Q : Value → St → Prop} (hxy : x = y) (h : ∀ t, Q (.int 0 t) st) :
    codeC C (.ref 473) [.int x t, .int y u] Q st := by
  refine' c_def (f := 473) (binds := [("left", .int x t), ("right", .int y u)]) ok ?ho ?hcd ?hbind ?hloc ?hlev ?hco ?hgen ?hk ?hcell ?_
  walk_at "enter"
  repeat walk_at "c"
  refine ⟨fun e => absurd (of_decide_eq_true e) (by omega), fun _ => ?_⟩
  repeat walk_at "c"
  refine ⟨fun e => absurd (of_decide_eq_true e) (by omega), fun _ => ?_⟩
  repeat walk_at "c"
  exact h _
theorem s_compare_shapes (ok : C.Ok) (hlev : C.lev ≤ 27) {v w : Value} {c d : Cell} {Q : Value → St → Prop} (S : Rep a st.H cs fs) (hlen : cs.length ≤ 40) (hv : IsCell st.H v c) (hwd : IsCell st.H w d) {f : Int}
    (hc : (c.1 = 3 ∧ f = 0) ∨ (c.1 = 2 ∧ 0 ≤ c.2 ∧ cs[c.2.toNat]? = some (6, f))) (hd : (d.1 = 3 ∧ f = 0) ∨ (d.1 = 2 ∧ 0 ≤ d.2 ∧ cs[d.2.toNat]? = some (6, f))) (h : ∀ t, Q (.int 0 t) st) :
    codeC C (.ref 480) [.ref a.st, v, w] Q st := by
  refine' c_def (f := 480) (binds := [("store", .ref a.st), ("left", v), ("right", w)]) ok ?ho ?hcd ?hbind ?hloc ?hlev ?hco ?hgen ?hk ?hcell ?_
  walk_at "enter"
  repeat walk_at "c"
  refine c_call (s_functor_of ok (by omega) (by walk_at "rep") hlen hv hc fun t => ?_)
  repeat walk_at "c"
  refine c_call (s_functor_of ok (by omega) (by walk_at "rep") hlen hwd hd fun t => ?_)
  repeat walk_at "c"
  refine ⟨fun _ => ?_, fun e => by simp at e⟩
  repeat walk_at "c"
  exact h _
theorem s_compare_tops (ok : C.Ok) (hlev : C.lev ≤ 26) {v w : Value} {c d : Cell} {Q : Value → St → Prop} (S : Rep a st.H cs fs) (hlen : cs.length ≤ 40) (hv : IsCell st.H v c) (hwd : IsCell st.H w d) {f : Int}
    (hc : (c.1 = 3 ∧ f = 0) ∨ (c.1 = 2 ∧ 0 ≤ c.2 ∧ cs[c.2.toNat]? = some (6, f))) (hd : (d.1 = 3 ∧ f = 0) ∨ (d.1 = 2 ∧ 0 ≤ d.2 ∧ cs[d.2.toNat]? = some (6, f))) (h : ∀ t, Q (.int 0 t) st) :
    codeC C (.ref 487) [.ref a.st, v, w] Q st := by
  refine' c_def (f := 487) (binds := [("store", .ref a.st), ("left", v), ("right", w)]) ok ?ho ?hcd ?hbind ?hloc ?hlev ?hco ?hgen ?hk ?hcell ?_
  walk_at "enter"
  repeat walk_at "c"
  refine c_call (s_rank ok (by omega) hv (by omega) fun t => ?_)
  repeat walk_at "c"
  refine c_call (s_rank ok (by omega) hwd (by omega) fun t => ?_)
  repeat walk_at "c"
  refine c_call (s_order ok (by omega) rfl fun t => ?_)
  repeat walk_at "c"
  refine ⟨fun e => absurd e (by decide), fun _ => ?_⟩
  repeat walk_at "c"
  refine ⟨fun e => absurd e (by decide), fun _ => ?_⟩
  repeat walk_at "c"
  refine ⟨fun e => absurd e (by decide), fun _ => ?_⟩
  repeat walk_at "c"
  refine ⟨fun e => absurd e (by decide), fun _ => ?_⟩
  repeat walk_at "c"
  refine c_call (s_compare_shapes ok (by omega) (by walk_at "rep") hlen hv hwd hc hd fun t => ?_)
  repeat walk_at "c"
  exact h _

theorem Le.new {H H' : Hp} {x : Addr} (k : Le H H') (h : H' x = none) : H x = none := by
  cases q : H x with
  | none => rfl
  | some o => rw [k _ _ q] at h; cases h
/-- a PairSet: its set lies at so -/
def PSAt (w : World) (H : Hp) (ps so : Addr) (span : Int) (S : Int → Bool) (n : Nat) : Prop :=
  ∃ pd es k t o, H ps = some (instObj 406 pd) ∧ H pd = some (dictOf es k) ∧ getL "span" es = some (some (.int span t)) ∧ getL "met" es = some (some (.ref so)) ∧ getL "add" es = some none ∧ H so = some o ∧ SetO w o S n
theorem PSAt.mono {w : World} {H H' : Hp} {ps so : Addr} {span : Int} {S : Int → Bool} {n : Nat} (h : PSAt w H ps so span S n) (k : Le H H') : PSAt w H' ps so span S n :=
  let ⟨pd, es, m, t, o, h1, h2, h3, h4, h5, h6, h7⟩ := h
  ⟨pd, es, m, t, o, k _ _ h1, k _ _ h2, h3, h4, h5, k _ _ h6, h7⟩
theorem PSAt.but {w : World} {H H' : Hp} {ps so l : Addr} {span : Int} {S : Int → Bool} {n : Nat} {vs : List Value} {m : Nat} (h : PSAt w H ps so span S n) (hl : H l = some (lstO vs m)) (k : LeBut l H H') : PSAt w H' ps so span S n :=
  let ⟨pd, es, m, t, o, h1, h2, h3, h4, h5, h6, h7⟩ := h
  ⟨pd, es, m, t, o, k _ _ h1 (ne_of_obj hl h1 lst_ne_inst), k _ _ h2 (ne_of_obj hl h2 lst_ne_dict), h3, h4, h5, k _ _ h6 (fun q => by rw [q, hl] at h6; cases h6; have z := h7.1.1; injection z with z; exact absurd z (by decide)), h7⟩
theorem s_PairSet (ok : C.Ok) (hlev : C.lev ≤ 28) {Q : Value → St → Prop} (S : Rep a st.H cs fs) (hlen : cs.length ≤ 40)
    (h : ∀ H' ps so, Le st.H H' → st.H ps = none → st.H so = none → PSAt C.w H' ps so (cs.length + 1) (fun _ => false) 0 → Q (.ref ps) ⟨st.m, H'⟩) :
    wpC C (call (.ref 406) [.ref a.st]) Q st := by
  refine c_make (fI := 396) (by k_is) (by k_is) (by k_is) ok fun C1 x dx ok1 hw1 hl1 nx nd hne => ?_
  refine' c_def (f := 396) (binds := [("self", .ref x), ("store", .ref a.st)]) ok1 ?ho ?hcd ?hbind ?hloc ?hlev ?hco ?hgen ?hk ?hcell ?_
  walk_at "enter"
  have hx : ((st.H.put dx (dictOf [] 0)).put x (instObj 406 dx)) x = some (instObj 406 dx) := Hp.put_self ..
  have hd : ((st.H.put dx (dictOf [] 0)).put x (instObj 406 dx)) dx = some (dictOf [] 0) := by walk_at "fact"
  have nx2 : (st.H.put dx (dictOf [] 0)) x = none := by rw [Hp.put_ne _ _ hne]; exact nx
  repeat walk_at "c"
  obtain ⟨vs, n, hh, hc⟩ := S.heap
  refine c_len (by walk_at "fact") (by have := hc.1; have := sizeLine_eq; omega) fun t => ?_
  repeat walk_at "c"
  refine c_newSet fun so o hso hS => ?_
  have hsd : dx ≠ so := ne_new (by walk_at "fact") hso
  have k1 : Le st.H ((st.H.put dx (dictOf [] 0)).put x (instObj 406 dx)) := (le_put nd).put nx
  repeat walk_at "c"
  refine' ⟨rfl, h _ x so ?_ nx ?_ ⟨dx, _, _, _, o, by walk_at "fact", by walk_at "fact", by rw [← hc.1]; with_unfolding_all rfl, by with_unfolding_all rfl, by with_unfolding_all rfl, by walk_at "fact", by rw [← hw1, ← hw]; exact hS⟩⟩
  · exact ((k1.put nd).put (Le.new (k1.put nd) hso)).put nd
  · exact Le.new (k1.put nd) hso

theorem s_add (ok : C.Ok) (hlev : C.lev ≤ 28) {Q : Value → St → Prop} {v w : Value} {c d : Cell} (hv : IsCell st.H v c) (hwd : IsCell st.H w d) {ps so : Addr} {span : Int} {S : Int → Bool} {n : Nat}
    (hP : PSAt C.w st.H ps so span S n) (hs : 0 ≤ span ∧ span ≤ 1000) (hn : n < 4000)
    (h : ∀ H', LeBut so st.H H' → PSAt C.w H' ps so span (fun k => S k || decide (k = c.2 * span + d.2)) (n + 1) → S (c.2 * span + d.2) = false → Q (.bool true) ⟨st.m, H'⟩)
    (h' : S (c.2 * span + d.2) = true → Q (.bool false) st) :
    codeC C (.ref 403) [.ref ps, v, w] Q st := by
  obtain ⟨pd, es, k, t, o, h1, h2, h3, h4, h5, h6, h7⟩ := hP
  refine' c_def (f := 403) (binds := [("self", .ref ps), ("left", v), ("right", w)]) ok ?ho ?hcd ?hbind ?hloc ?hlev ?hco ?hgen ?hk ?hcell ?_
  walk_at "enter"
  rw [← hw] at h7
  repeat walk_at "c"
  refine c_mul (.of_right (PySem.intBits_le_64 (by omega) (by omega))) fun _ => ?_
  repeat walk_at "c"
  have hsb : (4096 : Nat) = scanBound := rfl
  refine c_inSet h6 h7 (by omega) ?_
  repeat walk_at "c"
  refine ⟨fun e => ?_, fun e => ?_⟩
  · repeat walk_at "c"
    exact h' e
  · repeat walk_at "c"
    refine c_setMethod (by walk_at "fact") h7 (by omega) ?_
    repeat walk_at "c"
    refine c_setAdd (by walk_at "fact") h7 (by omega) fun o' ho' => ?_
    refine ⟨rfl, ?_⟩
    repeat walk_at "c"
    rw [if_neg (by rw [e]; decide)] at ho'
    have n1 : ps ≠ so := fun q => by rw [q, h6] at h1; cases h1; have z := h7.1.1; cases z
    have n2 : pd ≠ so := fun q => by rw [q, h6] at h2; cases h2; have z := h7.1.1; injection z with z; exact absurd z (by decide)
    exact h _ leBut_put ⟨pd, es, k, t, o', put_other h1 n1, put_other h2 n2, h3, h4, h5, Hp.put_self .., hw ▸ ho'⟩ e
end

def pairsFrom (cs : List Cell) (l r : Cell) (n i : Nat) : List (Cell × Cell) := ((List.range n).drop (n - i)).map fun j => (argAt cs l j, argAt cs r j)
def pairsOf (cs : List Cell) (l r : Cell) (n : Nat) : List (Cell × Cell) := (List.range n).map fun j => (argAt cs l j, argAt cs r j)
theorem pairsFrom_0 (cs : List Cell) (l r : Cell) (n : Nat) : pairsFrom cs l r n 0 = [] := by unfold pairsFrom; simp
theorem pairsFrom_n (cs : List Cell) (l r : Cell) (n : Nat) : pairsFrom cs l r n n = pairsOf cs l r n := by unfold pairsFrom pairsOf; simp
theorem pairsFrom_s (cs : List Cell) (l r : Cell) (n i : Nat) (h : i < n) : pairsFrom cs l r n (i + 1) = (argAt cs l (n - 1 - i), argAt cs r (n - 1 - i)) :: pairsFrom cs l r n i := by
  unfold pairsFrom
  have e : n - (i + 1) = n - 1 - i := by omega
  rw [e, List.drop_eq_getElem_cons (by simp; omega), List.map_cons]
  have e2 : n - 1 - i + 1 = n - i := by omega
  rw [e2]
  simp
/-- the arguments of the compound lie in the heap -/
def ArgsIn (cs : List Cell) (c : Cell) (n : Nat) : Prop := ∀ j < n, (if c.1 = 3 then c.2 else c.2 + 1).toNat + j < cs.length
theorem argAt_eq {cs : List Cell} {c : Cell} {n j : Nat} (h : ArgsIn cs c n) (hj : j < n) : cs[(if c.1 = 3 then c.2 else c.2 + 1).toNat + j]? = some (argAt cs c j) := by
  have := h j hj
  unfold argAt
  rw [List.getElem?_eq_getElem this]
  rfl

section
variable {C : Ctx} {st : St} {a : StoA} {cs fs : List Cell}
theorem s_push_pairs (ok : C.Ok) (hlev : C.lev ≤ 27) {v w : Value} {c d : Cell} {n : Nat} {wl : Addr} {ws : List Value} {k₀ : Nat} {wk : List (Cell × Cell)} {Q : Value → St → Prop} (S : Rep a st.H cs fs) (hlen : cs.length ≤ 40) (hv : IsCell st.H v c) (hwd : IsCell st.H w d)
    (hc : Wid cs fs c n) (hc2 : ArgsIn cs c n) (hd : 0 ≤ d.2) (hd2 : ArgsIn cs d n) (hw0 : st.H wl = some (lstO ws k₀)) (hs : StackIs st.H ws wk) (n1 : wl ≠ a.hl) (n2 : wl ≠ a.fl) (hsz : wk.length ≤ 10000) (hn : n ≤ 100)
    (h : ∀ H' ws' k', LeBut wl st.H H' → H' wl = some (lstO ws' k') → StackIs H' ws' (pairsOf cs c d n ++ wk) → Q .none ⟨st.m, H'⟩) :
    codeC C (.ref 424) [.ref a.st, v, w, .ref wl] Q st := by
  refine' c_def (f := 424) (binds := [("store", .ref a.st), ("left", v), ("right", w), ("work", .ref wl)]) ok ?ho ?hcd ?hbind ?hloc ?hlev ?hco ?hgen ?hk ?hcell ?_
  walk_at "enter"
  repeat walk_at "c"
  refine c_call (s_base ok (by omega) hv fun t => ?_)
  repeat walk_at "c"
  refine c_call (s_base ok (by omega) hwd fun t => ?_)
  repeat walk_at "c"
  refine c_call (s_width ok (by omega) (by walk_at "rep") hlen hv hc fun t => ?_)
  repeat walk_at "c"
  refine c_range3 fun rl hrl => ?_
  refine src_range (n := n) (fun i st' => LeBut wl st.H st'.H ∧ st'.m "store" = some (.ref a.st) ∧ (∃ t, st'.m "left_place" = some (.int (if c.1 = 3 then c.2 else c.2 + 1) t)) ∧ (∃ t, st'.m "right_place" = some (.int (if d.1 = 3 then d.2 else d.2 + 1) t)) ∧ st'.m "work" = some (.ref wl) ∧ ∃ ws' k', st'.H wl = some (lstO ws' k') ∧ StackIs st'.H ws' (pairsFrom cs c d n i ++ wk)) ok (Hp.put_self ..) (small_down (by omega)) (size_down n)
    ⟨(LeBut.refl _ _).put hrl, rfl, ⟨_, rfl⟩, ⟨_, rfl⟩, rfl, ws, k₀, by walk_at "fact", by rw [pairsFrom_0]; exact hs.mono (le_put hrl)⟩ ?_ ?_
  · rintro i ⟨m', H'⟩ hi ⟨hle, hm1, ⟨t1, hm2⟩, ⟨t2, hm3⟩, hm4, ws', k', hw1, hs1⟩ t
    dsimp only at hle hm1 hm2 hm3 hm4 hw1 hs1
    have S1 : Rep a H' cs fs := S.list hw0 n1 n2 hle
    have hj : n - 1 - i < n := by omega
    have ec := argAt_eq hc2 hj
    have ed := argAt_eq hd2 hj
    have lc := hc2 _ hj
    have ld := hd2 _ hj
    have hc0 := hc.1
    have bc : 0 ≤ (if c.1 = 3 then c.2 else c.2 + 1) := by split <;> omega
    have bd : 0 ≤ (if d.1 = 3 then d.2 else d.2 + 1) := by split <;> omega
    generalize (if c.1 = 3 then c.2 else c.2 + 1) = kc at *
    generalize (if d.1 = 3 then d.2 else d.2 + 1) = kd at *
    refine c_assignN (lk hsc rfl) ok ?_
    repeat walk_at "c"
    refine c_hItem (c := argAt cs c (n - 1 - i)) S1 (by omega) (by omega) (by rw [show (kc + ((n : Int) - 1 + (i : Int) * -1)).toNat = kc.toNat + (n - 1 - i) by omega]; exact ec) fun x hx => ?_
    repeat walk_at "c"
    refine c_hItem (c := argAt cs d (n - 1 - i)) S1 (by omega) (by omega) (by rw [show (kd + ((n : Int) - 1 + (i : Int) * -1)).toNat = kd.toNat + (n - 1 - i) by omega]; exact ed) fun y hy => ?_
    repeat walk_at "c"
    refine c_newTuple (by rw [sizeLine_eq]; simp) fun p hp => ?_
    repeat walk_at "c"
    have hwn : wl ≠ p := ne_new hw1 hp
    have hln := hs1.len
    have := sizeLine_eq
    have hpl : (pairsFrom cs c d n i).length ≤ n := by unfold pairsFrom; rw [List.length_map, List.length_drop, List.length_range]; omega
    rw [List.length_append] at hln
    refine c_append (by walk_at "fact") (by omega) ?_
    refine ⟨rfl, ?_⟩
    repeat walk_at "c"
    refine ⟨?_, hm1, ⟨_, hm2⟩, ⟨_, hm3⟩, hm4, _, _, Hp.put_self .., ?_⟩
    · refine fun z o e ne => ?_
      have := hle z o e ne
      dsimp only
      rw [Hp.put_ne _ _ ne, Hp.put_ne _ _ (ne_new this hp)]
      exact this
    · have b1 : LeBut wl (Hp.put H' p (tupO ([] ++ [x, y]))) (((Hp.put H' p (tupO ([] ++ [x, y]))).put wl (lstO (ws' ++ [.ref p]) (k' + 1)))) := leBut_put
      rw [pairsFrom_s _ _ _ _ _ hi, List.cons_append]
      exact (StackIs.snoc (hs1.mono (le_put hp)) ⟨p, x, y, rfl, Hp.put_self .., hx.put hp, hy.put hp⟩).but (put_keep hw1 hp) b1
  · rintro ⟨m', H'⟩ ⟨hle, hm1, ⟨t1, hm2⟩, ⟨t2, hm3⟩, hm4, ws', k', hw1, hs1⟩
    rw [pairsFrom_n] at hs1
    repeat walk_at "c"
    exact h _ _ _ hle hw1 hs1
end

-- the graph of the cells
def bas (c : Cell) : Nat := (if c.1 = 3 then c.2 else c.2 + 1).toNat
def wid (cs fs : List Cell) (c : Cell) : Nat := if c.1 = 3 then 2 else match cs[c.2.toNat]? with
  | some h => (match fs[h.2.toNat]? with
    | some r => r.2.toNat
    | none => 0)
  | none => 0
def Shape (cs : List Cell) (c d : Cell) : Prop := c.1 = d.1 ∧ (c.1 = 3 ∨ cs[c.2.toNat]? = cs[d.2.toNat]?)
structure Gr (cs fs : List Cell) (T : Cell → Prop) : Prop where
  wf : Wf cs
  tag : ∀ x, T x → x.1 = 0 ∨ x.1 = 2 ∨ x.1 = 3 ∨ x.1 = 4 ∨ x.1 = 5
  var : ∀ x, T x → x.1 = 0 → 0 ≤ x.2 ∧ cs[x.2.toNat]? = some x
  cmp : ∀ x, T x → x.1 = 2 ∨ x.1 = 3 → wid cs fs x ≤ 2 ∧ Wid cs fs x (wid cs fs x) ∧ ∀ j < wid cs fs x, bas x + j < cs.length ∧ T (argAt cs x j) ∧ argAt cs x j ≠ (0, ((bas x + j : Nat) : Int))
  home : ∀ (i : Nat), cs[i]? = some (0, (i : Int)) → T (0, (i : Int))
structure Now (c0 : List Cell) (T : Cell → Prop) (cs : List Cell) : Prop where
  len : cs.length = c0.length
  same : ∀ (i : Nat) (c : Cell), c0[i]? = some c → c ≠ (0, (i : Int)) → cs[i]? = some c
  home : ∀ (i : Nat) (d : Cell), c0[i]? = some (0, (i : Int)) → cs[i]? = some d → T d ∧ (d.1 = 0 → d.2 ≤ i)

theorem pair_eta {x : Cell} (h : x.1 = 0) (h2 : 0 ≤ x.2) : x = (0, ((x.2.toNat : Nat) : Int)) := Prod.ext h (by show x.2 = _; omega)
section
variable {c0 fs cs : List Cell} {T : Cell → Prop}
theorem Gr.self (G : Gr c0 fs T) : Now c0 T c0 := ⟨rfl, fun _ _ h _ => h, fun i d h h' => by
  rw [h] at h'; cases h'
  exact ⟨G.home i h, fun _ => Int.le_refl _⟩⟩
theorem Now.wf (N : Now c0 T cs) (G : Gr c0 fs T) : Wf cs := by
  have key : ∀ (i : Nat) (c : Cell), cs[i]? = some c → (∃ d, c0[i]? = some d ∧ d ≠ (0, (i : Int)) ∧ d = c) ∨ (c0[i]? = some (0, (i : Int)) ∧ T c ∧ (c.1 = 0 → c.2 ≤ i)) := fun i c h => by
    have hi := (List.getElem?_eq_some_iff.mp h).1
    rw [N.len] at hi
    have hd : c0[i]? = some c0[i] := by simp [hi]
    by_cases e : c0[i] = (0, (i : Int))
    · rw [e] at hd
      exact .inr ⟨hd, N.home i c hd h⟩
    · have := N.same i _ hd e
      rw [h] at this
      exact .inl ⟨_, hd, e, (Option.some.inj this).symm⟩
  refine ⟨fun c hc => ?_, fun i c h h0 => ?_, by rw [N.len]; exact G.wf.len⟩
  · obtain ⟨i, hi⟩ := List.getElem?_of_mem hc
    rcases key i c hi with ⟨d, hd, -, rfl⟩ | ⟨-, ht, -⟩
    · have := G.wf.ok d (List.mem_of_getElem? hd)
      unfold CellOk at this ⊢
      rw [N.len]; exact this
    · have := G.tag c ht
      refine ⟨by omega, fun q => ?_⟩
      obtain ⟨a, b⟩ := G.var c ht q
      have := (List.getElem?_eq_some_iff.mp b).1
      rw [N.len]; omega
  · rcases key i c h with ⟨d, hd, -, rfl⟩ | ⟨-, -, ht⟩
    · exact G.wf.down i d hd h0
    · exact ht h0
theorem Gr.ok (G : Gr c0 fs T) (N : Now c0 T cs) {c : Cell} (h : T c) : CellOk cs c := by
  have := G.tag c h
  refine ⟨by omega, fun q => ?_⟩
  obtain ⟨a, b⟩ := G.var c h q
  have := (List.getElem?_eq_some_iff.mp b).1
  rw [N.len]; omega
/-- a dereferenced cell -/
def Fin (cs : List Cell) (c : Cell) : Prop := c.1 = 0 → cs[c.2.toNat]? = some c
theorem deref_ind (G : Gr c0 fs T) (N : Now c0 T cs) {P : Cell → Cell → Prop} (base : ∀ c, T c → Fin cs c → P c c)
    (step : ∀ c d, T c → T d → c.1 = 0 → cs[c.2.toNat]? = some d → d ≠ c → (d.1 = 0 → d.2 < c.2) → deref cs c = deref cs d → P d (deref cs d) → P c (deref cs c)) : ∀ c, T c → P c (deref cs c) := by
  have W := N.wf G
  have : ∀ (n : Nat) (c : Cell), T c → c.2.toNat < n → P c (deref cs c) := by
    intro n
    induction n with
    | zero => intro c _ h; omega
    | succ n ih =>
      intro c hc hn
      by_cases h0 : c.1 = 0
      · obtain ⟨a, b⟩ := G.var c hc h0
        have hok := G.ok N hc
        have hr := hok.2 h0
        obtain ⟨d, hd⟩ : ∃ d, cs[c.2.toNat]? = some d := ⟨cs[c.2.toNat], by simp⟩
        by_cases e : d = c
        · subst e
          rw [deref_self hd]
          exact base d hc fun _ => hd
        · have hh := N.home c.2.toNat d (by rw [b]; exact congrArg some (pair_eta h0 a)) hd
          have hst := deref_step W hok h0 hd e
          have hlt : d.1 = 0 → d.2 < c.2 := fun q => by
            have := hh.2 q
            have : d.2 ≠ c.2 := fun z => e (Prod.ext (q.trans h0.symm) z)
            omega
          refine step c d hc hh.1 h0 hd e hlt hst ?_
          by_cases q : d.1 = 0
          · have := hlt q
            have := (G.var d hh.1 q).1
            exact ih d hh.1 (by omega)
          · rw [deref_val q]
            exact base d hh.1 fun z => absurd z q
      · rw [deref_val h0]
        exact base c hc fun z => absurd z h0
  exact fun c hc => this _ c hc (Nat.lt_succ_self _)
theorem deref_T (G : Gr c0 fs T) (N : Now c0 T cs) {c : Cell} (h : T c) : T (deref cs c) := deref_ind G N (P := fun _ d => T d) (fun _ h _ => h) (fun c d _ _ _ _ _ _ e h => by rw [e]; exact h) c h
theorem deref_fin (G : Gr c0 fs T) (N : Now c0 T cs) {c : Cell} (h : T c) : Fin cs (deref cs c) := deref_ind G N (P := fun _ d => Fin cs d) (fun _ _ h => h) (fun c d _ _ _ _ _ _ e h => by rw [e]; exact h) c h
theorem deref_of_fin {c : Cell} (h : Fin cs c) : deref cs c = c := by
  by_cases h0 : c.1 = 0
  · exact deref_self (h h0)
  · exact deref_val h0
/-- a variable is bound -/
theorem Now.bind (G : Gr c0 fs T) (N : Now c0 T cs) {c d : Cell} (hc : T c) (h0 : c.1 = 0) (hd : T d) (hlt : d.1 = 0 → d.2 < c.2) : Now c0 T (cs.set c.2.toNat d) := by
  obtain ⟨a, b⟩ := G.var c hc h0
  refine ⟨by rw [List.length_set]; exact N.len, fun i x hx hne => ?_, fun i x hx hx' => ?_⟩
  · rw [List.getElem?_set_ne (fun q => by rw [q, hx] at b; cases b; exact hne (q ▸ pair_eta h0 a))]
    exact N.same i x hx hne
  · by_cases q : c.2.toNat = i
    · rw [List.getElem?_set] at hx'
      rw [if_pos q] at hx'
      split at hx'
      · cases hx'
        exact ⟨hd, fun z => by have := hlt z; omega⟩
      · cases hx'
    · rw [List.getElem?_set_ne q] at hx'
      exact N.home i x hx hx'
theorem deref_bind (G : Gr c0 fs T) (N : Now c0 T cs) {r d : Cell} (hr : T r) (h0 : r.1 = 0) (hf : Fin cs r) (hd : T d) (hdf : Fin cs d) (hne : d ≠ r) (hlt : d.1 = 0 → d.2 < r.2) {c : Cell} (hc : T c) :
    deref (cs.set r.2.toNat d) c = if deref cs c = r then d else deref cs c := by
  have N' := N.bind G hr h0 hd hlt
  have W' := N'.wf G
  have fin' : ∀ x, T x → Fin cs x → x ≠ r → Fin (cs.set r.2.toNat d) x := fun x hx hfx hxr q => by
    have hx0 := (G.var x hx q).1
    have hr0 := (G.var r hr h0).1
    rw [List.getElem?_set_ne (fun z => hxr (Prod.ext (q.trans h0.symm) (by omega)))]
    exact hfx q
  refine deref_ind G N (P := fun c e => deref (cs.set r.2.toNat d) c = if e = r then d else e) (fun c hc hfc => ?_) (fun c e hc he c0' hce hne' hlt' hst ih => ?_) c hc
  · by_cases q : c = r
    · rw [if_pos q, q]
      have hlen := (List.getElem?_eq_some_iff.mp (hf h0)).1
      have e1 : (cs.set r.2.toNat d)[r.2.toNat]? = some d := by rw [List.getElem?_set]; simp [hlen]
      rw [deref_step W' (G.ok N' hr) h0 e1 hne]
      exact deref_of_fin (fin' d hd hdf hne)
    · rw [if_neg q]
      exact deref_of_fin (fin' c hc hfc q)
  · rw [hst, ← ih]
    have hr0 := (G.var r hr h0).1
    have hc0 := (G.var c hc c0').1
    have hcr : c ≠ r := fun q => by subst q; rw [hf h0] at hce; exact hne' (Option.some.inj hce).symm
    have e1 : (cs.set r.2.toNat d)[c.2.toNat]? = some e := by
      rw [List.getElem?_set_ne (fun z => hcr (Prod.ext (c0'.trans h0.symm) (by omega)))]
      exact hce
    exact deref_step W' (G.ok N' hc) c0' e1 hne'
/-- what lies where no variable is at home stays -/
theorem Now.argAt (G : Gr c0 fs T) (N : Now c0 T cs) {c : Cell} (hc : T c) (h : c.1 = 2 ∨ c.1 = 3) {j : Nat} (hj : j < wid c0 fs c) : argAt cs c j = argAt c0 c j := by
  obtain ⟨-, -, h3⟩ := G.cmp c hc h
  obtain ⟨a, -, b⟩ := h3 j hj
  have e : c0[bas c + j]? = some (Mine.argAt c0 c j) := by unfold Mine.argAt; show _ = some ((c0[bas c + j]?).getD _); rw [List.getElem?_eq_getElem a]; rfl
  have := N.same _ _ e b
  unfold Mine.argAt at this ⊢
  show (cs[bas c + j]?).getD _ = _
  rw [this]; rfl
theorem Now.head (G : Gr c0 fs T) (N : Now c0 T cs) {c : Cell} (hc : T c) (h : c.1 = 2) : cs[c.2.toNat]? = c0[c.2.toNat]? := by
  obtain ⟨-, ⟨-, ⟨h3, -⟩ | ⟨-, f, k, hf, -⟩⟩, -⟩ := G.cmp c hc (.inl h)
  · omega
  · rw [hf]; exact N.same _ _ hf fun q => by injection q with q; omega
theorem Now.Wid (G : Gr c0 fs T) (N : Now c0 T cs) {c : Cell} (hc : T c) (h : c.1 = 2 ∨ c.1 = 3) : Wid cs fs c (wid c0 fs c) := by
  obtain ⟨-, ⟨h0, h1⟩, -⟩ := G.cmp c hc h
  refine ⟨h0, h1.imp id ?_⟩
  rintro ⟨h2, f, k, hf, r⟩
  exact ⟨h2, f, k, by rw [N.head G hc h2]; exact hf, r⟩
theorem Now.ArgsIn (G : Gr c0 fs T) (N : Now c0 T cs) {c : Cell} (hc : T c) (h : c.1 = 2 ∨ c.1 = 3) : ArgsIn cs c (wid c0 fs c) := fun j hj => by
  obtain ⟨-, -, h3⟩ := G.cmp c hc h
  rw [N.len]
  exact (h3 j hj).1
theorem Shape.wid {c d : Cell} (h : Shape cs c d) : wid cs fs c = wid cs fs d := by
  unfold Mine.wid
  obtain ⟨h1, h2⟩ := h
  rw [← h1]
  rcases h2 with h2 | h2
  · rw [if_pos h2, if_pos h2]
  · rw [h2]
theorem Now.Shape (G : Gr c0 fs T) (N : Now c0 T cs) {c d : Cell} (hc : T c) (hd : T d) (h : c.1 = 2 ∨ c.1 = 3) : Shape cs c d ↔ Shape c0 c d := by
  unfold Mine.Shape
  rcases h with h | h
  · constructor
    · rintro ⟨a, b⟩
      refine ⟨a, b.imp id fun b => ?_⟩
      rw [← N.head G hc h, ← N.head G hd (by omega)]; exact b
    · rintro ⟨a, b⟩
      refine ⟨a, b.imp id fun b => ?_⟩
      rw [N.head G hc h, N.head G hd (by omega)]; exact b
  · exact ⟨fun z => ⟨z.1, .inl h⟩, fun z => ⟨z.1, .inl h⟩⟩
theorem Now.pairsOf (G : Gr c0 fs T) (N : Now c0 T cs) {c d : Cell} (hc : T c) (hd : T d) (h : c.1 = 2 ∨ c.1 = 3) (hs : Mine.Shape c0 c d) : pairsOf cs c d (wid c0 fs c) = pairsOf c0 c d (wid c0 fs c) := by
  unfold Mine.pairsOf
  refine List.map_congr_left fun j hj => ?_
  have hj := List.mem_range.mp hj
  rw [N.argAt G hc h hj, N.argAt G hd (by have := hs.1; omega) (by rw [← hs.wid]; exact hj)]
end

structure US where
  cs : List Cell
  wk : List (Cell × Cell)
  met : Int → Bool
  n : Nat
def num (span : Int) (l r : Cell) : Int := l.2 * span + r.2
def US.add (u : US) (k : Int) : Int → Bool := fun j => u.met j || decide (j = k)
/-- what unify's loop keeps -/
structure UInv (c0 fs : List Cell) (T : Cell → Prop) (span : Int) (I : Nat → US → Prop) (End : Bool → List Cell → Prop) : Prop where
  good : ∀ m u, I m u → Now c0 T u.cs ∧ (∀ p ∈ u.wk, T p.1 ∧ T p.2) ∧ u.wk.length ≤ 9000 ∧ u.n < 4000
  fin : ∀ m u, I m u → u.wk = [] → End true u.cs
  eq : ∀ m u l r wk, I m u → u.wk = (l, r) :: wk → deref u.cs l = deref u.cs r → ∃ m' < m, I m' { u with wk := wk }
  bindL : ∀ m u l r wk, I m u → u.wk = (l, r) :: wk → deref u.cs l ≠ deref u.cs r → (deref u.cs l).1 = 0 → ((deref u.cs r).1 = 0 → (deref u.cs r).2 < (deref u.cs l).2) → ∃ m' < m, I m' { u with cs := u.cs.set (deref u.cs l).2.toNat (deref u.cs r), wk := wk }
  bindR : ∀ m u l r wk, I m u → u.wk = (l, r) :: wk → deref u.cs l ≠ deref u.cs r → (deref u.cs r).1 = 0 → ((deref u.cs l).1 = 0 → (deref u.cs l).2 < (deref u.cs r).2) → ∃ m' < m, I m' { u with cs := u.cs.set (deref u.cs r).2.toNat (deref u.cs l), wk := wk }
  met : ∀ m u l r wk, I m u → u.wk = (l, r) :: wk → deref u.cs l ≠ deref u.cs r → ((deref u.cs l).1 = 2 ∨ (deref u.cs l).1 = 3) → Shape c0 (deref u.cs l) (deref u.cs r) → u.met (num span (deref u.cs l) (deref u.cs r)) = true → ∃ m' < m, I m' { u with wk := wk }
  push : ∀ m u l r wk, I m u → u.wk = (l, r) :: wk → deref u.cs l ≠ deref u.cs r → ((deref u.cs l).1 = 2 ∨ (deref u.cs l).1 = 3) → Shape c0 (deref u.cs l) (deref u.cs r) → u.met (num span (deref u.cs l) (deref u.cs r)) = false →
    ∃ m' < m, I m' { cs := u.cs, wk := pairsOf c0 (deref u.cs l) (deref u.cs r) (wid c0 fs (deref u.cs l)) ++ wk, met := u.add (num span (deref u.cs l) (deref u.cs r)), n := u.n + 1 }
  fail : ∀ m u l r wk, I m u → u.wk = (l, r) :: wk → deref u.cs l ≠ deref u.cs r → (deref u.cs l).1 ≠ 0 → (deref u.cs r).1 ≠ 0 → ¬ (((deref u.cs l).1 = 2 ∨ (deref u.cs l).1 = 3) ∧ Shape c0 (deref u.cs l) (deref u.cs r)) → End false u.cs

theorem LeBut.transNew {l x : Addr} {H H' H'' : Hp} (k : LeBut l H H') (k' : LeBut x H' H'') (n : H x = none) : LeBut l H H'' := fun y o e ne => k' y o (k y o e ne) (ne_new e n)
theorem IsCell.keep {H H' : Hp} {v : Value} {c : Cell} {x : Addr} {o : Obj} (h : IsCell H v c) (hx : H x = some o) (hc : o.cls ≠ .type "tuple") (k : LeBut x H H') : IsCell H' v c :=
  let ⟨a, t, u, e, z⟩ := h
  ⟨a, t, u, e, k _ _ z fun q => by rw [q, hx] at z; cases z; exact hc rfl⟩
theorem IsPair.keep {H H' : Hp} {v : Value} {p : Cell × Cell} {x : Addr} {o : Obj} (h : IsPair H v p) (hx : H x = some o) (hc : o.cls ≠ .type "tuple") (k : LeBut x H H') : IsPair H' v p :=
  let ⟨d, y, z, e, q, a, b⟩ := h
  ⟨d, y, z, e, k _ _ q fun w => by rw [w, hx] at q; cases q; exact hc rfl, a.keep hx hc k, b.keep hx hc k⟩
theorem StackIs.keep {H H' : Hp} {ws wk} {x : Addr} {o : Obj} (h : StackIs H ws wk) (hx : H x = some o) (hc : o.cls ≠ .type "tuple") (k : LeBut x H H') : StackIs H' ws wk := by
  induction h with
  | nil => exact .nil
  | snoc _ p ih => exact .snoc ih (p.keep hx hc k)
theorem c_AssignTup {C : Ctx} {st : St} {elts : List Expr} {k : Nat} {tpos : Pos} {value : Expr} {pos : Pos} {Q : Flow → St → Prop} (h : wpC C (eval value C.env) (fun v st₁ => wpC C (assign (.Tuple elts k tpos) C.env v) (fun _ => Q .next) st₁) st)
    (hs : swapsWithSole [.Tuple elts k tpos] value pos.line C.env = Pure.pure false := by with_unfolding_all rfl)
    (hw : swappedStores [.Tuple elts k tpos] value C.env = Pure.pure none := by with_unfolding_all rfl) : wpC C (exec (.Assign [.Tuple elts k tpos] value pos) C.env) Q st :=
  fun h₀ Z _ o hh => Assign_Tuple (h.go o hh fun v s' st' hs' q => q h₀ Z s' o hs') hs hw

theorem c_assignP {C : Ctx} {st : St} {x y : Str} {px py pos : Pos} {k : Nat} {t : Addr} {a b : Value} {Q : Unit → St → Prop} (hx : C.sc.names.lookup x = some .local) (hy : C.sc.names.lookup y = some .local) (ok : C.Ok) (ht : st.H t = some (tupO [a, b]))
    (h : Q () ⟨fun z => if z = y then some b else (⟨fun z => if z = x then some a else st.m z, st.H⟩ : St).m z, st.H⟩) : wpC C (assign (.Tuple [.Name x px, .Name y py] k pos) C.env (.ref t)) Q st := c_assignT2 hx hy ok ht h

section
variable {C : Ctx} {st : St} {a : StoA} {c0 cs fs : List Cell} {T : Cell → Prop}
theorem s_unify (ok : C.Ok) (hlev : C.lev ≤ 20) {v w : Value} {c d : Cell} {Q : Value → St → Prop} (S : Rep a st.H cs fs) (G : Gr c0 fs T) (hv : IsCell st.H v c) (hwd : IsCell st.H w d) {I : Nat → US → Prop} {End : Bool → List Cell → Prop}
    (U : UInv c0 fs T (c0.length + 1) I End) (hN : Now c0 T cs) {m0 : Nat} (h0 : I m0 ⟨cs, [(c, d)], fun _ => false, 0⟩)
    (h : ∀ b H' cs', LeBut a.hl st.H H' → Rep a H' cs' fs → End b cs' → Now c0 T cs' → Q (.bool b) ⟨st.m, H'⟩) :
    codeC C (.ref 445) [.ref a.st, v, w, .bool false] Q st := by
  refine' c_def (f := 445) (binds := [("store", .ref a.st), ("c1", v), ("c2", w), ("occurs", .bool false)]) ok ?ho ?hcd ?hbind ?hloc ?hlev ?hco ?hgen ?hk ?hcell ?_
  walk_at "enter"
  have hclen : c0.length ≤ 40 := G.wf.len
  repeat walk_at "c"
  refine s_PairSet ok (by omega) (by walk_at "rep") (by rw [hN.len]; exact hclen) fun H1 ps so k1 nps nso hP => ?_
  repeat walk_at "c"
  refine c_newTuple (by rw [sizeLine_eq]; simp) fun p hp => ?_
  repeat walk_at "c"
  refine c_newList (by rw [sizeLine_eq]; simp) fun wl hwl => ?_
  repeat walk_at "c"
  have nwl : st.H wl = none := Le.new (k1.trans (le_put hp)) hwl
  have n1 : wl ≠ a.hl := by
    obtain ⟨_, _, e, _⟩ := S.heap
    exact Ne.symm (ne_new e nwl)
  have n2 : wl ≠ a.fl := by
    obtain ⟨_, _, e, _⟩ := S.fun_
    exact Ne.symm (ne_new e nwl)
  obtain ⟨K, hK⟩ : ∃ K : Nat → St → Prop, ∀ n st', K n st' ↔ (LeBut a.hl st.H st'.H ∧ st'.m "store" = some (.ref a.st) ∧ st'.m "met" = some (.ref ps) ∧ st'.m "work" = some (.ref wl) ∧ st'.m "occurs" = some (.bool false) ∧
    ∃ u ws k, I n u ∧ Rep a st'.H u.cs fs ∧ st'.H wl = some (lstO ws k) ∧ StackIs st'.H ws u.wk ∧ PSAt C.w st'.H ps so (c0.length + 1) u.met u.n) := ⟨_, fun _ _ => Iff.rfl⟩
  refine c_While K ?_ m0 ((hK _ _).mpr ?_)
  · rintro n ⟨m', H'⟩ hj
    obtain ⟨hle, hm1, hm2, hm3, hm4, ⟨cs', wk, met, num⟩, ws, k, hI, R, hw1, hs1, hP1⟩ := (hK _ _).mp hj
    clear hj
    dsimp only at hle hm1 hm2 hm3 hm4 R hw1 hs1 hP1
    obtain ⟨N, hT, hsz, hnum⟩ := U.good _ _ hI
    dsimp only at N hT hsz hnum
    have hln := hs1.len
    have := sizeLine_eq
    repeat walk_at "c"
    refine c_len hw1 (by omega) fun t => ?_
    repeat walk_at "c"
    refine ⟨fun e => ?_, fun e => ?_⟩
    · cases hs1 with
      | nil => exact absurd (of_decide_eq_true e) (by simp)
      | @snoc ws v wk p hs1 hp1 =>
      obtain ⟨l, r⟩ := p
      obtain ⟨pa, px, py, rfl, hpa, hx, hy⟩ := hp1
      obtain ⟨hTl, hTr⟩ := hT _ (.head _)
      dsimp only at hx hy hTl hTr
      have hws := hs1.len
      rw [List.length_cons] at hsz
      have kw : LeBut wl H' (H'.put wl (lstO ws (k + 1))) := leBut_put
      have hpa' : (H'.put wl (lstO ws (k + 1))) pa = some (tupO [px, py]) := kw _ _ hpa (fun q => by rw [q, hw1] at hpa; injection hpa with z; injection z with z; injection z with z; exact absurd z (by decide))
      have R2 : Rep a (H'.put wl (lstO ws (k + 1))) cs' fs := R.list hw1 n1 n2 kw
      have hs2 : StackIs (H'.put wl (lstO ws (k + 1))) ws wk := hs1.but hw1 kw
      have hx2 := hx.but hw1 kw
      have hy2 := hy.but hw1 kw
      have hP2 := hP1.but hw1 kw
      have hle2 : LeBut a.hl st.H (H'.put wl (lstO ws (k + 1))) := hle.put nwl
      have hw2 : (H'.put wl (lstO ws (k + 1))) wl = some (lstO ws (k + 1)) := Hp.put_self ..
      have W := N.wf G
      repeat walk_at "c"
      refine c_AssignTup ?_
      repeat walk_at "c"
      refine c_pop hw1 (by omega) ?_
      generalize H'.put wl (lstO ws (k + 1)) = H2 at *
      refine c_assignP (lk hsc rfl) (lk hsc rfl) ok hpa' ?_
      repeat walk_at "c"
      refine c_call (s_deref ok (by omega) (by exact R2) W (by exact hx2) (G.ok N hTl) fun lv hlv => ?_)
      repeat walk_at "c"
      refine c_call (s_deref ok (by omega) (by exact R2) W (by exact hy2) (G.ok N hTr) fun rv hrv => ?_)
      repeat walk_at "c"
      have hTL := deref_T G N hTl
      have hTR := deref_T G N hTr
      have hFL := deref_fin G N hTl
      have hFR := deref_fin G N hTr
      have ueq := U.eq _ _ l r wk hI rfl
      have ubl := U.bindL _ _ l r wk hI rfl
      have ubr := U.bindR _ _ l r wk hI rfl
      have ume := U.met _ _ l r wk hI rfl
      have upu := U.push _ _ l r wk hI rfl
      have ufa := U.fail _ _ l r wk hI rfl
      dsimp only at ueq ubl ubr ume upu ufa
      generalize deref cs' l = L at *
      generalize deref cs' r = R at *
      refine c_eqCell ok (by omega) hlv hrv ?_
      repeat walk_at "c"
      refine ⟨fun e => ?_, fun e => ?_⟩
      · obtain ⟨m2, hm2', hI'⟩ := ueq (of_decide_eq_true e)
        repeat walk_at "c"
        exact ⟨m2, hm2', (hK _ _).mpr ⟨hle2, hm1, hm2, hm3, hm4, _, ws, k + 1, hI', R2, hw2, hs2, hP2⟩⟩
      · have hne : L ≠ R := of_decide_eq_false e
        have hLt := G.tag L hTL
        have hRt := G.tag R hTR
        obtain ⟨ua, _, hua, _⟩ := R2.heap
        have hkeep : ∀ H3 u', LeBut a.hl H2 H3 → Rep a H3 u'.cs fs → (∃ m' < n, I m' u') → u'.wk = wk → u'.met = met → u'.n = num → ∃ m' < n, LeBut a.hl st.H H3 ∧ ∃ u ws k, I m' u ∧ Rep a H3 u.cs fs ∧ H3 wl = some (lstO ws k) ∧ StackIs H3 ws u.wk ∧ PSAt C.w H3 ps so (c0.length + 1) u.met u.n := fun H3 u' k3 R3 ⟨m2, hm2', hI'⟩ e1 e2 e3 =>
          ⟨m2, hm2', hle2.trans k3, u', ws, k + 1, hI', R3, k3 _ _ hw2 n1, e1 ▸ hs2.but hua k3, e2 ▸ e3 ▸ hP2.but hua k3⟩
        repeat walk_at "c"
        refine c_call (s_is_variable ok (by omega) hlv (by omega) ?_)
        repeat walk_at "c"
        refine ⟨fun e => ?_, fun e => ?_⟩
        · have hL0 : L.1 = 0 := of_decide_eq_true e
          repeat walk_at "c"
          refine c_call (s_is_variable ok (by omega) hrv (by omega) ?_)
          repeat walk_at "c"
          refine ⟨fun e => ?_, fun e => ?_⟩
          · have hR0 : R.1 = 0 := of_decide_eq_true e
            repeat walk_at "c"
            refine c_call (s_bind_pair ok (by omega) (by exact R2) W (by exact hlv) (by exact hrv) (G.ok N hTL) (G.ok N hTR) hL0 hR0 hne fun H3 k3 R3 => ?_)
            refine ⟨rfl, ?_⟩
            repeat walk_at "c"
            have h20 : L.2 ≠ R.2 := fun q => hne (Prod.ext (hL0.trans hR0.symm) q)
            by_cases hlr : L.2 < R.2
            · rw [if_pos hlr] at R3
              obtain ⟨m2, q1, q2, q3⟩ := hkeep H3 _ k3 R3 (ubr hne hR0 fun _ => hlr) rfl rfl rfl
              exact ⟨m2, q1, (hK _ _).mpr ⟨q2, hm1, hm2, hm3, hm4, q3⟩⟩
            · rw [if_neg hlr] at R3
              obtain ⟨m2, q1, q2, q3⟩ := hkeep H3 _ k3 R3 (ubl hne hL0 fun _ => by omega) rfl rfl rfl
              exact ⟨m2, q1, (hK _ _).mpr ⟨q2, hm1, hm2, hm3, hm4, q3⟩⟩
          · have hR0 : R.1 ≠ 0 := of_decide_eq_false e
            repeat walk_at "c"
            refine c_call (s_bind_checked ok (by omega) (by exact R2) W (by exact hlv) (by exact hrv) (G.ok N hTL) hL0 fun H3 k3 R3 => ?_)
            repeat walk_at "c"
            refine ⟨fun e => absurd e (by decide), fun _ => ?_⟩
            repeat walk_at "c"
            obtain ⟨m2, q1, q2, q3⟩ := hkeep H3 _ k3 R3 (ubl hne hL0 fun q => absurd q hR0) rfl rfl rfl
            exact ⟨m2, q1, (hK _ _).mpr ⟨q2, hm1, hm2, hm3, hm4, q3⟩⟩
        · have hL0 : L.1 ≠ 0 := of_decide_eq_false e
          repeat walk_at "c"
          refine c_call (s_is_variable ok (by omega) hrv (by omega) ?_)
          repeat walk_at "c"
          refine ⟨fun e => ?_, fun e => ?_⟩
          · have hR0 : R.1 = 0 := of_decide_eq_true e
            repeat walk_at "c"
            refine c_call (s_bind_checked ok (by omega) (by exact R2) W (by exact hrv) (by exact hlv) (G.ok N hTR) hR0 fun H3 k3 R3 => ?_)
            repeat walk_at "c"
            refine ⟨fun e => absurd e (by decide), fun _ => ?_⟩
            repeat walk_at "c"
            obtain ⟨m2, q1, q2, q3⟩ := hkeep H3 _ k3 R3 (ubr hne hR0 fun q => absurd q hL0) rfl rfl rfl
            exact ⟨m2, q1, (hK _ _).mpr ⟨q2, hm1, hm2, hm3, hm4, q3⟩⟩
          · have hR0 : R.1 ≠ 0 := of_decide_eq_false e
            repeat walk_at "c"
            refine c_call (s_is_compound ok (by omega) hlv ?_)
            repeat walk_at "c"
            refine ⟨fun e => ?_, fun e => ?_⟩
            · have hLc : L.1 = 2 ∨ L.1 = 3 := by simpa using e
              obtain ⟨-, ⟨hL2, -⟩, -⟩ := G.cmp L hTL hLc
              have hcl : ∀ x : Cell, T x → x.1 = 2 → 0 ≤ x.2 ∧ x.2 < cs'.length := fun x hx h2 => by
                obtain ⟨-, ⟨h3, ⟨h4, -⟩ | ⟨-, f, k, hf, -⟩⟩, -⟩ := G.cmp x hx (.inl h2)
                · exact absurd h2 (by omega)
                · have := (List.getElem?_eq_some_iff.mp hf).1
                  have hl := N.len
                  exact ⟨h3, by omega⟩
              repeat walk_at "c"
              refine c_call (s_same_shape ok (by omega) (by exact R2) W.len (by exact hlv) (by exact hrv) (hcl L hTL) (hcl R hTR) hLc ?_)
              repeat walk_at "c"
              refine ⟨fun e => ?_, fun e => ?_⟩
              · have e : L.1 = R.1 ∧ (L.1 = 3 ∨ cs'[L.2.toNat]? = cs'[R.2.toNat]?) := of_decide_eq_true e
                have hsh : Shape c0 L R := (N.Shape G hTL hTR hLc).mp e
                have hRc : R.1 = 2 ∨ R.1 = 3 := by have := hsh.1; omega
                obtain ⟨-, ⟨hR2, -⟩, -⟩ := G.cmp R hTR hRc
                obtain ⟨pd, es, kk, pt, po, p1, p2, p3, p4, p5, p6, p7⟩ := id hP2
                repeat walk_at "c"
                refine ⟨fun _ => ?_, fun e => absurd e (by decide)⟩
                repeat walk_at "c"
                refine c_call (s_add ok (by omega) (by exact hlv) (by exact hrv) hP2 (by omega) hnum (fun H3 k3 hP3 hf => ?_) fun ht => ?_)
                · repeat walk_at "c"
                  refine ⟨fun _ => ?_, fun e => absurd e (by decide)⟩
                  have hcls : po.cls = .type "set" := p7.1.1
                  have hncls : po.cls ≠ .type "tuple" := by rw [hcls]; intro q; injection q with q; exact absurd q (by decide)
                  have R3 := R2.set p6 hcls k3
                  have hlv3 := hlv.keep p6 hncls k3
                  have hrv3 := hrv.keep p6 hncls k3
                  have hs3 := hs2.keep p6 hncls k3
                  have hw3 : H3 wl = some (lstO ws (k + 1)) := k3 _ _ hw2 (fun q => by rw [q, p6] at hw2; cases hw2; injection hcls with q; exact absurd q (by decide))
                  have hle3 := hle2.transNew k3 nso
                  repeat walk_at "c"
                  refine c_call (s_push_pairs (n := wid c0 fs L) (k₀ := k + 1) ok (by omega) (by exact R3) W.len (by exact hlv3) (by exact hrv3) (N.Wid G hTL hLc) (N.ArgsIn G hTL hLc) hR2 (by rw [hsh.wid]; exact N.ArgsIn G hTR hRc) hw3 (by exact hs3) n1 n2 (by omega) (by have := (G.cmp L hTL hLc).1; omega) fun H4 ws4 k4 kk4 hw4 hs4 => ?_)
                  refine ⟨rfl, ?_⟩
                  repeat walk_at "c"
                  rw [N.pairsOf G hTL hTR hLc hsh] at hs4
                  obtain ⟨m2, hm2', hI'⟩ := upu hne hLc hsh hf
                  exact ⟨m2, hm2', (hK _ _).mpr ⟨hle3.transNew kk4 nwl, hm1, hm2, hm3, hm4, _, ws4, k4, hI', R3.list hw3 n1 n2 kk4, hw4, hs4, hP3.but hw3 kk4⟩⟩
                · repeat walk_at "c"
                  refine ⟨fun e => absurd e (by decide), fun _ => ?_⟩
                  repeat walk_at "c"
                  obtain ⟨m2, hm2', hI'⟩ := ume hne hLc hsh ht
                  exact ⟨m2, hm2', (hK _ _).mpr ⟨hle2, hm1, hm2, hm3, hm4, _, ws, k + 1, hI', R2, hw2, hs2, hP2⟩⟩
              · have e : ¬ (L.1 = R.1 ∧ (L.1 = 3 ∨ cs'[L.2.toNat]? = cs'[R.2.toNat]?)) := of_decide_eq_false e
                have hsh : ¬ Shape c0 L R := fun q => e ((N.Shape G hTL hTR hLc).mpr q)
                repeat walk_at "c"
                refine ⟨fun e => absurd e (by decide), fun _ => ?_⟩
                repeat walk_at "c"
                exact h false H2 cs' hle2 R2 (ufa hne hL0 hR0 fun q => hsh q.2) N
            · have hLc : ¬ (L.1 = 2 ∨ L.1 = 3) := by simpa using e
              repeat walk_at "c"
              refine ⟨fun e => absurd e (by decide), fun _ => ?_⟩
              repeat walk_at "c"
              exact h false H2 cs' hle2 R2 (ufa hne hL0 hR0 fun q => hLc q.1) N
    · cases hs1 with
      | snoc _ _ => simp at e
      | nil =>
      repeat walk_at "c"
      exact h true H' cs' hle R (U.fin _ _ hI rfl) N
  · refine ⟨((k1.trans (le_put hp)).trans (le_put hwl)).but, by walk_at "look", by walk_at "look", by walk_at "look", by walk_at "look", _, _, _, h0, ?_, Hp.put_self .., ?_, ?_⟩
    · exact S.mono ((k1.trans (le_put hp)).trans (le_put hwl))
    · exact StackIs.snoc .nil ⟨p, v, w, rfl, by walk_at "fact", hv.mono ((k1.trans (le_put hp)).trans (le_put hwl)), hwd.mono ((k1.trans (le_put hp)).trans (le_put hwl))⟩
    · rw [← hN.len]
      exact hP.mono ((le_put hp).trans (le_put hwl))
end

/-- what compare's loop keeps, where both sides are one term -/
structure CInv (c0 fs : List Cell) (T : Cell → Prop) (span : Int) (cs : List Cell) (I : Nat → US → Prop) : Prop where
  good : ∀ m u, I m u → u.cs = cs ∧ (∀ p ∈ u.wk, T p.1 ∧ T p.2) ∧ u.wk.length ≤ 9000 ∧ u.n < 4000
  eq : ∀ m u l r wk, I m u → u.wk = (l, r) :: wk → deref cs l = deref cs r → ∃ m' < m, I m' { u with wk := wk }
  cmp : ∀ m u l r wk, I m u → u.wk = (l, r) :: wk → deref cs l ≠ deref cs r → ((deref cs l).1 = 2 ∨ (deref cs l).1 = 3) ∧ Shape c0 (deref cs l) (deref cs r)
  met : ∀ m u l r wk, I m u → u.wk = (l, r) :: wk → deref cs l ≠ deref cs r → u.met (num span (deref cs l) (deref cs r)) = true → ∃ m' < m, I m' { u with wk := wk }
  push : ∀ m u l r wk, I m u → u.wk = (l, r) :: wk → deref cs l ≠ deref cs r → u.met (num span (deref cs l) (deref cs r)) = false →
    ∃ m' < m, I m' { cs := u.cs, wk := pairsOf c0 (deref cs l) (deref cs r) (wid c0 fs (deref cs l)) ++ wk, met := u.add (num span (deref cs l) (deref cs r)), n := u.n + 1 }
theorem br_true {P Q : Prop} (h : P) : (true = true → P) ∧ (true = false → Q) := ⟨fun _ => h, fun e => absurd e (by decide)⟩
theorem br_false {P Q : Prop} (h : Q) : (false = true → P) ∧ (false = false → Q) := ⟨fun e => absurd e (by decide), fun _ => h⟩

section
variable {C : Ctx} {st : St} {a : StoA} {c0 cs fs : List Cell} {T : Cell → Prop}
theorem s_compare (ok : C.Ok) (hlev : C.lev ≤ 20) {v w : Value} {c d : Cell} {Q : Value → St → Prop} (S : Rep a st.H cs fs) (G : Gr c0 fs T) (hv : IsCell st.H v c) (hwd : IsCell st.H w d) {I : Nat → US → Prop}
    (U : CInv c0 fs T (c0.length + 1) cs I) (N : Now c0 T cs) {m0 : Nat} (h0 : I m0 ⟨cs, [(c, d)], fun _ => false, 0⟩)
    (h : ∀ H' t, Le st.H H' → Q (.int 0 t) ⟨st.m, H'⟩) :
    codeC C (.ref 494) [.ref a.st, v, w] Q st := by
  refine' c_def (f := 494) (binds := [("store", .ref a.st), ("c1", v), ("c2", w)]) ok ?ho ?hcd ?hbind ?hloc ?hlev ?hco ?hgen ?hk ?hcell ?_
  walk_at "enter"
  have hclen : c0.length ≤ 40 := G.wf.len
  have W := N.wf G
  repeat walk_at "c"
  refine s_PairSet ok (by omega) (by walk_at "rep") (by rw [N.len]; exact hclen) fun H1 ps so k1 nps nso hP => ?_
  repeat walk_at "c"
  refine c_newTuple (by rw [sizeLine_eq]; simp) fun p hp => ?_
  repeat walk_at "c"
  refine c_newList (by rw [sizeLine_eq]; simp) fun wl hwl => ?_
  repeat walk_at "c"
  have nwl : st.H wl = none := Le.new (k1.trans (le_put hp)) hwl
  have n1 : wl ≠ a.hl := by
    obtain ⟨_, _, e, _⟩ := S.heap
    exact Ne.symm (ne_new e nwl)
  have n2 : wl ≠ a.fl := by
    obtain ⟨_, _, e, _⟩ := S.fun_
    exact Ne.symm (ne_new e nwl)
  obtain ⟨K, hK⟩ : ∃ K : Nat → St → Prop, ∀ n st', K n st' ↔ (Le st.H st'.H ∧ st'.m "store" = some (.ref a.st) ∧ st'.m "met" = some (.ref ps) ∧ st'.m "work" = some (.ref wl) ∧
    ∃ u ws k, I n u ∧ st'.H wl = some (lstO ws k) ∧ StackIs st'.H ws u.wk ∧ PSAt C.w st'.H ps so (c0.length + 1) u.met u.n) := ⟨_, fun _ _ => Iff.rfl⟩
  refine c_While K ?_ m0 ((hK _ _).mpr ?_)
  · rintro n ⟨m', H'⟩ hj
    obtain ⟨hle, hm1, hm2, hm3, ⟨cs', wk, met, num⟩, ws, k, hI, hw1, hs1, hP1⟩ := (hK _ _).mp hj
    clear hj
    dsimp only at hle hm1 hm2 hm3 hw1 hs1 hP1
    obtain ⟨hcs, hT, hsz, hnum⟩ := U.good _ _ hI
    dsimp only at hcs hT hsz hnum
    have hln := hs1.len
    have := sizeLine_eq
    repeat walk_at "c"
    refine c_len hw1 (by omega) fun t => ?_
    repeat walk_at "c"
    refine ⟨fun e => ?_, fun e => ?_⟩
    · cases hs1 with
      | nil => exact absurd (of_decide_eq_true e) (by simp)
      | @snoc ws v wk p hs1 hp1 =>
      obtain ⟨l, r⟩ := p
      obtain ⟨pa, px, py, rfl, hpa, hx, hy⟩ := hp1
      obtain ⟨hTl, hTr⟩ := hT _ (.head _)
      dsimp only at hx hy hTl hTr
      have hws := hs1.len
      rw [List.length_cons] at hsz
      have kw : LeBut wl H' (H'.put wl (lstO ws (k + 1))) := leBut_put
      have hpa' : (H'.put wl (lstO ws (k + 1))) pa = some (tupO [px, py]) := kw _ _ hpa (fun q => by rw [q, hw1] at hpa; injection hpa with z; injection z with z; injection z with z; exact absurd z (by decide))
      have hs2 : StackIs (H'.put wl (lstO ws (k + 1))) ws wk := hs1.but hw1 kw
      have hx2 := hx.but hw1 kw
      have hy2 := hy.but hw1 kw
      have hP2 := hP1.but hw1 kw
      have hle2 : Le st.H (H'.put wl (lstO ws (k + 1))) := hle.put nwl
      have hw2 : (H'.put wl (lstO ws (k + 1))) wl = some (lstO ws (k + 1)) := Hp.put_self ..
      have R2 := S.mono hle2
      repeat walk_at "c"
      refine c_AssignTup ?_
      repeat walk_at "c"
      refine c_pop hw1 (by omega) ?_
      generalize H'.put wl (lstO ws (k + 1)) = H2 at *
      refine c_assignP (lk hsc rfl) (lk hsc rfl) ok hpa' ?_
      repeat walk_at "c"
      refine c_call (s_deref ok (by omega) (by exact R2) W (by exact hx2) (G.ok N hTl) fun lv hlv => ?_)
      repeat walk_at "c"
      refine c_call (s_deref ok (by omega) (by exact R2) W (by exact hy2) (G.ok N hTr) fun rv hrv => ?_)
      repeat walk_at "c"
      have hTL := deref_T G N hTl
      have hTR := deref_T G N hTr
      have ueq := U.eq _ _ l r wk hI rfl
      have ume := U.met _ _ l r wk hI rfl
      have upu := U.push _ _ l r wk hI rfl
      have ucm := U.cmp _ _ l r wk hI rfl
      dsimp only at ueq ume upu ucm
      generalize deref cs l = L at *
      generalize deref cs r = R at *
      refine c_eqCell ok (by omega) hlv hrv ?_
      repeat walk_at "c"
      refine ⟨fun e => ?_, fun e => ?_⟩
      · obtain ⟨m2, hm2', hI'⟩ := ueq (of_decide_eq_true e)
        repeat walk_at "c"
        exact ⟨m2, hm2', (hK _ _).mpr ⟨hle2, hm1, hm2, hm3, _, ws, k + 1, hI', hw2, hs2, hP2⟩⟩
      · have hne : L ≠ R := of_decide_eq_false e
        obtain ⟨hLc, hsh⟩ := ucm hne
        have hRc : R.1 = 2 ∨ R.1 = 3 := by have := hsh.1; omega
        obtain ⟨-, ⟨hL2, hLw⟩, -⟩ := G.cmp L hTL hLc
        obtain ⟨-, ⟨hR2, hRw⟩, -⟩ := G.cmp R hTR hRc
        obtain ⟨f, hfL, hfR⟩ : ∃ f : Int, ((L.1 = 3 ∧ f = 0) ∨ (L.1 = 2 ∧ 0 ≤ L.2 ∧ cs[L.2.toNat]? = some (6, f))) ∧ ((R.1 = 3 ∧ f = 0) ∨ (R.1 = 2 ∧ 0 ≤ R.2 ∧ cs[R.2.toNat]? = some (6, f))) := by
          rcases hLw with ⟨h3, -⟩ | ⟨h2, f, k, hf, -⟩
          · exact ⟨0, .inl ⟨h3, rfl⟩, .inl ⟨by have := hsh.1; omega, rfl⟩⟩
          · have hf' := hf
            rw [← N.head G hTL h2] at hf
            refine ⟨f, .inr ⟨h2, hL2, hf⟩, .inr ⟨by have := hsh.1; omega, hR2, ?_⟩⟩
            rw [N.head G hTR (by have := hsh.1; omega), ← (hsh.2.resolve_left (by omega)), hf']
        repeat walk_at "c"
        refine c_call (s_compare_tops ok (by omega) (by exact R2) W.len (by exact hlv) (by exact hrv) hfL hfR fun t => ?_)
        repeat walk_at "c"
        refine ⟨fun e => absurd e (by decide), fun _ => ?_⟩
        repeat walk_at "c"
        refine c_call (s_is_compound ok (by omega) hlv ?_)
        repeat walk_at "c"
        refine ⟨fun _ => ?_, fun e => absurd hLc (by simpa using e)⟩
        obtain ⟨pd, es, kk, pt, po, p1, p2, p3, p4, p5, p6, p7⟩ := id hP2
        repeat walk_at "c"
        refine c_call (s_add ok (by omega) (by exact hlv) (by exact hrv) hP2 (by omega) hnum (fun H3 k3 hP3 hf => ?_) fun ht => ?_)
        · repeat walk_at "C"
          have hcls : po.cls = .type "set" := p7.1.1
          have hncls : po.cls ≠ .type "tuple" := by rw [hcls]; intro q; injection q with q; exact absurd q (by decide)
          have R3 := R2.set p6 hcls k3
          have hlv3 := hlv.keep p6 hncls k3
          have hrv3 := hrv.keep p6 hncls k3
          have hs3 := hs2.keep p6 hncls k3
          have hw3 : H3 wl = some (lstO ws (k + 1)) := k3 _ _ hw2 (fun q => by rw [q, p6] at hw2; cases hw2; injection hcls with q; exact absurd q (by decide))
          have hle3 : Le st.H H3 := fun y o e => k3 y o (hle2 y o e) (ne_new e nso)
          refine c_call (s_push_pairs (n := wid c0 fs L) (k₀ := k + 1) ok (by omega) (by exact R3) W.len (by exact hlv3) (by exact hrv3) (N.Wid G hTL hLc) (N.ArgsIn G hTL hLc) hR2 (by rw [hsh.wid]; exact N.ArgsIn G hTR hRc) hw3 (by exact hs3) n1 n2 (by omega) (by have := (G.cmp L hTL hLc).1; omega) fun H4 ws4 k4 kk4 hw4 hs4 => ?_)
          refine ⟨rfl, ?_⟩
          repeat walk_at "c"
          rw [N.pairsOf G hTL hTR hLc hsh] at hs4
          obtain ⟨m2, hm2', hI'⟩ := upu hne hf
          exact ⟨m2, hm2', (hK _ _).mpr ⟨fun y o e => kk4 y o (hle3 y o e) (ne_new e nwl), hm1, hm2, hm3, _, ws4, k4, hI', hw4, hs4, hP3.but hw3 kk4⟩⟩
        · repeat walk_at "C"
          obtain ⟨m2, hm2', hI'⟩ := ume hne ht
          exact ⟨m2, hm2', (hK _ _).mpr ⟨hle2, hm1, hm2, hm3, _, ws, k + 1, hI', hw2, hs2, hP2⟩⟩
    · cases hs1 with
      | snoc _ _ => simp at e
      | nil =>
      repeat walk_at "c"
      exact h H' _ hle
  · refine ⟨((k1.trans (le_put hp)).trans (le_put hwl)), by walk_at "look", by walk_at "look", by walk_at "look", _, _, _, h0, Hp.put_self .., ?_, ?_⟩
    · exact StackIs.snoc .nil ⟨p, v, w, rfl, by walk_at "fact", hv.mono ((k1.trans (le_put hp)).trans (le_put hwl)), hwd.mono ((k1.trans (le_put hp)).trans (le_put hwl))⟩
    · rw [← N.len]
      exact hP.mono ((le_put hp).trans (le_put hwl))
theorem s_identical (ok : C.Ok) (hlev : C.lev ≤ 19) {v w : Value} {c d : Cell} {Q : Value → St → Prop} (S : Rep a st.H cs fs) (G : Gr c0 fs T) (hv : IsCell st.H v c) (hwd : IsCell st.H w d) {I : Nat → US → Prop}
    (U : CInv c0 fs T (c0.length + 1) cs I) (N : Now c0 T cs) {m0 : Nat} (h0 : I m0 ⟨cs, [(c, d)], fun _ => false, 0⟩)
    (h : ∀ H', Le st.H H' → Q (.bool true) ⟨st.m, H'⟩) :
    codeC C (.ref 501) [.ref a.st, v, w] Q st := by
  refine' c_def (f := 501) (binds := [("store", .ref a.st), ("c1", v), ("c2", w)]) ok ?ho ?hcd ?hbind ?hloc ?hlev ?hco ?hgen ?hk ?hcell ?_
  walk_at "enter"
  repeat walk_at "c"
  refine c_call (s_compare ok (by omega) (by exact S) G (by exact hv) (by exact hwd) U N h0 fun H' t k => ?_)
  repeat walk_at "c"
  exact h H' k
end

-- dicts
abbrev SD (w : World) (o : Obj) (kvs : List (Str × Value)) : Prop := o.IsDictOf (PySem.strKind pw w) kvs
abbrev ID (w : World) (o : Obj) (kvs : List (Int × Value)) : Prop := o.IsDictOf (PySem.intKind pw w) kvs
/-- a dict whose keys are tuples of ints -/
def TD (w : World) (H : Hp) (o : Obj) (xs : List (List Int × Addr × Value)) : Prop :=
  o.ExactDict ∧ ∃ es ep, o.data = .dict es ep ∧ es.toList = xs.map (entryOfKey (tupleKind (intKind pw w))) ∧ (xs.map (·.1)).Nodup ∧ ∀ x ∈ xs, ∃ ok, H x.2.1 = some ok ∧ TupKeyObj (intKind pw w) x.1 ok
theorem td_empty {w : World} {H : Hp} {o : Obj} (h : SD w o []) : TD w H o [] := by
  obtain ⟨es, ep, hc, hdat, _, hp, _⟩ := h
  exact ⟨hc, es, ep, hdat, List.length_eq_zero_iff.mp hp.length, List.nodup_nil, fun _ h => by simp at h⟩
theorem key_pair (w : World) (x y : Int) (t u : Tok) : TupKeyObj (intKind pw w) [x, y] (tupO [.int x t, .int y u]) := .made (.cons (intKind_is _ _ _ _) (.cons (intKind_is _ _ _ _) .nil))
theorem key_keep {w : World} {H H' : Hp} {x : Addr} {o : Obj} (hx : H x = some o) (hc : o.cls ≠ .type "tuple") (k : LeBut x H H') {y : Addr} {ks : List Int} (h : ∃ ok, H y = some ok ∧ TupKeyObj (intKind pw w) ks ok) : ∃ ok, H' y = some ok ∧ TupKeyObj (intKind pw w) ks ok :=
  let ⟨ok, e, t⟩ := h
  ⟨ok, k _ _ e fun q => by rw [q, hx] at e; cases e; exact hc t.1, t⟩
theorem TD.keep {w : World} {H H' : Hp} {x : Addr} {o o' : Obj} {xs} (h : TD w H o xs) (hx : H x = some o') (hc : o'.cls ≠ .type "tuple") (k : LeBut x H H') : TD w H' o xs :=
  let ⟨a, es, ep, b, c, d, e⟩ := h
  ⟨a, es, ep, b, c, d, fun y hy => key_keep hx hc k (e y hy)⟩
theorem TD.mono {w : World} {H H' : Hp} {o : Obj} {xs} (h : TD w H o xs) (k : Le H H') : TD w H' o xs :=
  let ⟨a, es, ep, b, c, d, e⟩ := h
  ⟨a, es, ep, b, c, d, fun y hy => let ⟨ok, q, t⟩ := e y hy; ⟨ok, k _ _ q, t⟩⟩

section
variable {C : Ctx} {st : St}
theorem OkH.lim {h₀ : Heap} (o : OkH C h₀) : h₀.NoLimit := by
  obtain ⟨A₀, base, outer, p, loose, mean, mg, mb, B, T, hA⟩ := o.low
  exact (topRead_of T).nolimit
theorem c_newDict {pos : Pos} {Q : Value → St → Prop} (h : ∀ d o, st.H d = none → (d == sysModules) = false → SD C.w o [] → ID C.w o [] → Q (.ref d) ⟨st.m, st.H.put d o⟩) : wpC C (eval (.Dict [] [] pos) C.env) Q st :=
  fun _ _ s o hs => by
    refine wpAny_Dict_empty ⟨_, hs.push _, h _ _ hs.new (hs.F.notModules (modules_low o.lim)) ?_ ?_⟩
    · obtain ⟨o, ho, hd⟩ := Heap.dictOf_iff.mp (Heap.DictOf.new (knd := strKind pw C.w) s.heap)
      rw [Heap.get?_push_size _ rfl] at ho
      exact (Option.some.inj ho) ▸ hd
    · obtain ⟨o, ho, hd⟩ := Heap.dictOf_iff.mp (Heap.DictOf.new (knd := intKind pw C.w) s.heap)
      rw [Heap.get?_push_size _ rfl] at ho
      exact (Option.some.inj ho) ▸ hd
theorem c_dMeth {K : Type} [DecidableEq K] {knd : KeyKind pw C.w K} {d : Addr} {ob : Obj} {kvs : List (K × Value)} {name : Str} {id : String} {pl : Sem Bool} {Q : Value × List Value → St → Prop} (slot : Slot "dict" name id) (hty : typeOf (.builtin id) = Pure.pure (.type "method_descriptor"))
    (hd : st.H d = some ob) (ho : ob.IsDictOf knd kvs) (h : Q (.builtin id, [.ref d]) st) : wpC C (getMethod (.ref d) name pl) Q st := fun _ _ s o hs => by
  have hD : s.heap.DictOf knd d kvs := Heap.dictOf_iff.mpr ⟨ob, (hs.N _ _ hd).1, ho⟩
  exact getMethod_builtin hD.typeIs PySem.F.plainAttrs_dict slot hty hD.mapOf.noDict ⟨st, hs, h⟩
theorem c_dGet {K : Type} [DecidableEq K] {knd : KeyKind pw C.w K} {d : Addr} {ob : Obj} {kvs : List (K × Value)} {k : K} {key dflt : Value} {Q : Value → St → Prop} (lo : (d == sysModules) = false) (hd : st.H d = some ob) (ho : ob.IsDictOf knd kvs) (hkey : knd.is k key = true)
    (h : Q ((valueAt kvs k).getD dflt) st) : wpC C (call (.builtin "dict.get") [.ref d, key, dflt]) Q st := fun _ _ s o hs => by
  have hD : s.heap.DictOf knd d kvs := Heap.dictOf_iff.mpr ⟨ob, (hs.N _ _ hd).1, ho⟩
  exact call_meetsIn PySem.F.slot_dict_get hD.typeIs PySem.F.entry_dict_get (PySem.F.args_dict_get_3 _ _ _) (meets_dict_get_default knd d hkey lo dflt) ⟨_, hD.mapOf, st, hs.tk _, h⟩
theorem c_dSet {K : Type} [DecidableEq K] {knd : KeyKind pw C.w K} {d : Addr} {ob : Obj} {kvs : List (K × Value)} {k : K} {key v : Value} {Q : Unit → St → Prop} (hd : st.H d = some ob) (ho : ob.IsDictOf knd kvs) (hkey : knd.is k key = true) (hsz : kvs.length ≤ sizeLine)
    (h : ∀ o', o'.IsDictOf knd (stored kvs k v) → Q () ⟨st.m, st.H.put d o'⟩) : wpC C (setItem (.ref d) key v) Q st := fun _ _ s o hs => by
  have hD : s.heap.DictOf knd d kvs := Heap.dictOf_iff.mpr ⟨ob, (hs.N _ _ hd).1, ho⟩
  refine wpAny_setItem_pairs (hsz := hsz) hkey hD fun h' hm hsb => ?_
  obtain ⟨o', ho', hd'⟩ := Heap.dictOf_iff.mp hm
  exact ⟨_, (hs.upd hd hsb ho').tk _, h o' hd'⟩
theorem c_dSetdef {K : Type} [DecidableEq K] {knd : KeyKind pw C.w K} {d : Addr} {ob : Obj} {kvs : List (K × Value)} {k : K} {key dflt : Value} {Q : Value → St → Prop} (lo : (d == sysModules) = false) (hd : st.H d = some ob) (ho : ob.IsDictOf knd kvs) (hkey : knd.is k key = true) (hsz : kvs.length ≤ sizeLine)
    (h1 : ∀ v, valueAt kvs k = some v → Q v st) (h2 : valueAt kvs k = none → ∀ o', o'.IsDictOf knd (stored kvs k dflt) → Q dflt ⟨st.m, st.H.put d o'⟩) : wpC C (call (.builtin "dict.setdefault") [.ref d, key, dflt]) Q st := fun _ _ s o hs => by
  have hD : s.heap.DictOf knd d kvs := Heap.dictOf_iff.mpr ⟨ob, (hs.N _ _ hd).1, ho⟩
  refine call_meetsIn PySem.F.slot_dict_setdefault hD.typeIs PySem.F.entry_dict_setdefault (PySem.F.args_dict_setdefault_3 _ _ _) (kt_meets_setdefault knd d hkey lo dflt)
    ⟨kvs, hD, hsz, (fun v hv => ⟨st, hs.tk _, h1 v hv⟩), fun hn h' hm hsb => ?_⟩
  obtain ⟨o', ho', hd'⟩ := Heap.dictOf_iff.mp hm
  exact ⟨_, (hs.upd hd hsb ho').tk _, h2 hn o' hd'⟩
theorem TD.at {Z : Hp} {h₀ : Heap} {s : Shared} {d : Addr} {ob : Obj} {xs} (h : TD C.w st.H ob xs) (hs : Holds C h₀ Z st s) (hd : st.H d = some ob) : s.heap.DictOfH (tupleKind (intKind pw C.w)) d xs :=
  let ⟨a, es, ep, b, c, n, e⟩ := h
  ⟨ob, es, ep, (hs.N _ _ hd).1, a, b, c, fun x hx => let ⟨_, q, t⟩ := e x hx; t.key (hs.N _ _ q).1, n⟩
theorem c_tMeth {d : Addr} {ob : Obj} {xs} {name : Str} {id : String} {pl : Sem Bool} {Q : Value × List Value → St → Prop} (slot : Slot "dict" name id) (hty : typeOf (.builtin id) = Pure.pure (.type "method_descriptor"))
    (hd : st.H d = some ob) (ho : TD C.w st.H ob xs) (h : Q (.builtin id, [.ref d]) st) : wpC C (getMethod (.ref d) name pl) Q st := fun _ _ s o hs => by
  have hD := ho.at hs hd
  exact getMethod_builtin hD.typeIs PySem.F.plainAttrs_dict slot hty (dictOfH_noDict hD) ⟨st, hs, h⟩
theorem c_tGet {d a : Addr} {ob oa : Obj} {xs} {ks : List Int} {dflt : Value} {Q : Value → St → Prop} (ok : C.Ok) (hl : C.lev ≤ 30) (lo : (d == sysModules) = false) (hd : st.H d = some ob) (ho : TD C.w st.H ob xs) (ha : st.H a = some oa) (hk : TupKeyObj (intKind pw C.w) ks oa)
    (h : Q (((atKey xs ks).map (·.2)).getD dflt) st) : wpC C (call (.builtin "dict.get") [.ref d, .ref a, dflt]) Q st := fun _ _ s o hs => by
  have hD := ho.at hs hd
  have hu : C.A.units + 1 < cLine := by have := ok.un; show _ < 9900; omega
  exact call_meetsIn PySem.F.slot_dict_get hD.typeIs PySem.F.entry_dict_get (PySem.F.args_dict_get_3 _ _ _) (meetsH_dict_get_default (tupleKind (intKind pw C.w)) d a lo dflt) ⟨tupleKind_room_in1 hu, ks, xs, hk.key (hs.N _ _ ha).1, hD, st, hs.tk _, h⟩
theorem c_tSet {d a : Addr} {ob oa : Obj} {xs} {ks : List Int} {v : Value} {Q : Unit → St → Prop} (ok : C.Ok) (hl : C.lev ≤ 30) (hd : st.H d = some ob) (ho : TD C.w st.H ob xs) (ha : st.H a = some oa) (hk : TupKeyObj (intKind pw C.w) ks oa) (hsz : xs.length ≤ sizeLine)
    (h : ∀ o', TD C.w (st.H.put d o') o' (storedH xs ks a v) → Q () ⟨st.m, st.H.put d o'⟩) : wpC C (setItem (.ref d) (.ref a) v) Q st := fun _ _ s o hs => by
  have hD := ho.at hs hd
  have hu : C.A.units + 1 < cLine := by have := ok.un; show _ < 9900; omega
  refine wpAny_setItem_heap (hsz := hsz) (knd := tupleKind (intKind pw C.w)) (tupleKind_room_in1 hu) (hk.key (hs.N _ _ ha).1) hD fun h' hm hsb => ?_
  obtain ⟨o', es', ep', ho', hc', hd', he', _, hn'⟩ := hm
  refine ⟨_, (hs.upd hd hsb ho').tk _, h o' ⟨hc', es', ep', hd', he', hn', fun x hx => ?_⟩⟩
  have hne : ob.cls ≠ .type "tuple" := by rw [ho.1.1]; intro q; injection q with q; exact absurd q (by decide)
  rcases mem_storedH hx with ⟨y, hy, e1, e2⟩ | ⟨e1, e2⟩
  · rw [e1, e2]
    obtain ⟨_, es, ep, _, _, _, hh⟩ := ho
    exact key_keep hd hne leBut_put (hh y hy)
  · rw [e1, e2]
    exact key_keep hd hne leBut_put ⟨oa, ha, hk⟩
end

-- the table of symbols
structure SyA where
  sy : Addr
  yd : Addr
  tx : Addr
  ad : Addr
  fl : Addr
  fd : Addr
def upd {K V : Type} [DecidableEq K] (f : K → Option V) (x : K) (v : V) : K → Option V := fun t => if t = x then some v else f t
def Nums {K : Type} (f : K → Option Nat) (g : K → Option Value) : Prop := ∀ t, match f t with
  | some k => ∃ u, g t = some (.int k u)
  | none => g t = none
def LeOut (L : List Addr) (H H' : Hp) : Prop := ∀ x o, H x = some o → x ∉ L → H' x = some o
theorem LeOut.trans {L : List Addr} {H H' H'' : Hp} (a : LeOut L H H') (b : LeOut L H' H'') : LeOut L H H'' := fun x o e n => b x o (a x o e n) n
theorem LeOut.refl (L : List Addr) (H : Hp) : LeOut L H H := fun _ _ e _ => e
theorem Le.out {L : List Addr} {H H' : Hp} (k : Le H H') : LeOut L H H' := fun x o e _ => k x o e
theorem LeBut.out {L : List Addr} {l : Addr} {H H' : Hp} (k : LeBut l H H') (h : l ∈ L) : LeOut L H H' := fun x o e n => k x o e fun q => n (q ▸ h)
structure SymR (w : World) (b : SyA) (H : Hp) (n : Nat) (A : Str → Option Nat) (F : Cell → Option Nat) (fs : List Cell) : Prop where
  inst : H b.sy = some (instObj 154 b.yd)
  dict : ∃ es m, H b.yd = some (dictOf es m) ∧ getL "texts" es = some (some (.ref b.tx)) ∧ getL "atom_numbers" es = some (some (.ref b.ad)) ∧ getL "functors" es = some (some (.ref b.fl)) ∧ getL "functor_numbers" es = some (some (.ref b.fd)) ∧
    ∀ x, x ∉ symNames → getL x es = some none
  tx : ∃ vs k, H b.tx = some (lstO vs k) ∧ vs.length = n
  ad : ∃ o kvs, H b.ad = some o ∧ SD w o kvs ∧ kvs.length ≤ n ∧ Nums A (valueAt kvs)
  fl : ∃ vs k, H b.fl = some (lstO vs k) ∧ CellsAre H vs fs
  fd : ∃ o xs, H b.fd = some o ∧ TD w H o xs ∧ xs.length ≤ fs.length ∧ Nums F (fun c : Cell => (atKey xs [c.1, c.2]).map (·.2))
  loa : (b.ad == sysModules) = false
  lof : (b.fd == sysModules) = false
  ne : b.tx ≠ b.fl
  ne1 : b.ad ≠ b.fd
  ne2 : b.yd ≠ b.ad
  ne3 : b.yd ≠ b.fd
  okA : ∀ t k, A t = some k → k < n
  injA : ∀ t t' k, A t = some k → A t' = some k → t = t'
  okF : ∀ c k, F c = some k → fs[k]? = some c
theorem valueAt_new {K : Type} [DecidableEq K] {kvs : List (K × Value)} {k : K} {v : Value} (h : valueAt kvs k = none) (t : K) : valueAt (stored kvs k v) t = if t = k then some v else valueAt kvs t := by
  have h' : kvs.find? (fun kv => decide (kv.1 = k)) = none := by unfold valueAt at h; exact Option.map_eq_none_iff.mp h
  have hn : kvs.any (fun kv => kv.1 = k) = false := by
    rw [List.any_eq_false]
    intro x hx
    exact List.find?_eq_none.mp h' x hx
  unfold stored
  rw [hn, if_neg (by decide)]
  unfold valueAt
  rw [List.find?_append]
  by_cases e : t = k
  · subst e
    rw [h', if_pos rfl]; simp
  · rw [if_neg e]
    cases hf : kvs.find? (fun kv => decide (kv.1 = t)) with
    | some x => rfl
    | none => simp [List.find?, Ne.symm e]
theorem atKey_new {K : Type} [DecidableEq K] {xs : List (K × Addr × Value)} {k : K} {a : Addr} {v : Value} (h : (atKey xs k).map (·.2) = none) (t : K) : (atKey (storedH xs k a v) t).map (·.2) = if t = k then some v else (atKey xs t).map (·.2) := by
  have h1 : atKey xs k = none := Option.map_eq_none_iff.mp h
  rw [storedH_new h1]
  unfold atKey at h1 ⊢
  have h' : xs.find? (fun x => decide (x.1 = k)) = none := Option.map_eq_none_iff.mp h1
  rw [List.find?_append]
  by_cases e : t = k
  · subst e
    rw [h', if_pos rfl]; simp
  · rw [if_neg e]
    cases hf : xs.find? (fun kv => decide (kv.1 = t)) with
    | some x => rfl
    | none => simp [List.find?, Ne.symm e]
theorem sd_cls {w : World} {o : Obj} {kvs} (h : SD w o kvs) : o.cls = .type "dict" := h.choose_spec.choose_spec.1.1
theorem CellsAre.keep {H H' : Hp} {vs : List Value} {cs : List Cell} {x : Addr} {o : Obj} (h : CellsAre H vs cs) (hx : H x = some o) (hc : o.cls ≠ .type "tuple") (k : LeBut x H H') : CellsAre H' vs cs := ⟨h.1, fun i v c a b => (h.2 i v c a b).keep hx hc k⟩
theorem dict_not_tuple {o : Obj} (h : o.cls = .type "dict") : o.cls ≠ .type "tuple" := by rw [h]; intro q; injection q with q; exact absurd q (by decide)
theorem list_not_tuple {vs : List Value} {n : Nat} : (lstO vs n).cls ≠ .type "tuple" := by intro q; injection q with q; exact absurd q (by decide)
theorem ne_cls {H : Hp} {a b : Addr} {o o' : Obj} (ha : H a = some o) (hb : H b = some o') (h : o.cls ≠ o'.cls) : a ≠ b := fun q => by rw [q, hb] at ha; cases ha; exact h rfl
theorem dict_ne_list {o : Obj} {vs : List Value} {n : Nat} (h : o.cls = .type "dict") : o.cls ≠ (lstO vs n).cls := by rw [h]; intro q; injection q with q; exact absurd q (by decide)
theorem dict_ne_inst {o : Obj} {K dx : Addr} (h : o.cls = .type "dict") : o.cls ≠ (instObj K dx).cls := by rw [h]; intro q; cases q

section
variable {C : Ctx} {st : St} {b : SyA} {n : Nat} {A : Str → Option Nat} {F : Cell → Option Nat} {fs : List Cell}
theorem s_atom (ok : C.Ok) (hlev : C.lev ≤ 29) {x : Str} {t : Tok} {Q : Value → St → Prop} (S : SymR C.w b st.H n A F fs) (hn : n ≤ 1000)
    (h1 : ∀ k u, A x = some k → Q (.int k u) st)
    (h2 : ∀ H' u, A x = none → LeOut [b.tx, b.ad] st.H H' → SymR C.w b H' (n + 1) (upd A x n) F fs → Q (.int n u) ⟨st.m, H'⟩) :
    codeC C (.ref 88) [.ref b.sy, .str x t] Q st := by
  refine' c_def (f := 88) (binds := [("self", .ref b.sy), ("text", .str x t)]) ok ?ho ?hcd ?hbind ?hloc ?hlev ?hco ?hgen ?hk ?hcell ?_
  walk_at "enter"
  obtain ⟨hin, ⟨es, m, hyd, g1, g2, g3, g4, hno⟩, ⟨tv, tk, htx, htl⟩, ⟨ao, kvs, had, hao, hal, hA⟩, ⟨fv, fk, hfl, hfc⟩, ⟨fo, xs, hfd, hfo, hfl', hF⟩, loa, lof, ne, ne1, ne2, ne3, okA, injA, okF⟩ := id S
  rw [← hw] at hao
  repeat walk_at "c"
  refine c_dMeth PySem.F.slot_dict_get PySem.F.type_dict_get had hao ?_
  repeat walk_at "c"
  refine c_dGet (k := x) loa had hao (strKind_is _ _ _ _) ?_
  have hAx := hA x
  repeat walk_at "c"
  cases hx : A x with
  | some k =>
    rw [hx] at hAx
    obtain ⟨u, hu⟩ := hAx
    rw [hu]
    refine c_ge ?_
    repeat walk_at "c"
    refine ⟨fun _ => ?_, fun e => absurd (of_decide_eq_false e) (by omega)⟩
    repeat walk_at "c"
    exact h1 _ _ hx
  | none =>
    rw [hx] at hAx
    rw [hAx]
    refine c_ge ?_
    repeat walk_at "c"
    refine ⟨fun e => absurd (of_decide_eq_true e) (by omega), fun _ => ?_⟩
    have hsz := sizeLine_eq
    repeat walk_at "c"
    refine c_len htx (by omega) fun u => ?_
    repeat walk_at "c"
    refine c_append htx (by omega) ?_
    refine ⟨rfl, ?_⟩
    have n1 : b.ad ≠ b.tx := ne_cls had htx (dict_ne_list (sd_cls hao))
    have k1 : LeBut b.tx st.H (st.H.put b.tx (lstO (tv ++ [.str x t]) (tk + 1))) := leBut_put
    have htx1 : (st.H.put b.tx (lstO (tv ++ [.str x t]) (tk + 1))) b.tx = some (lstO (tv ++ [.str x t]) (tk + 1)) := Hp.put_self ..
    have had1 := k1 _ _ had n1
    have hin1 := k1 _ _ hin (ne_of_obj htx hin lst_ne_inst)
    have hyd1 := k1 _ _ hyd (ne_of_obj htx hyd lst_ne_dict)
    have hfl1 := k1 _ _ hfl (Ne.symm ne)
    have hfd1 := k1 _ _ hfd (ne_cls hfd htx (dict_ne_list hfo.1.1))
    have hfc1 := hfc.keep htx list_not_tuple k1
    have hfo1 := hfo.keep htx list_not_tuple k1
    repeat walk_at "c"
    dsimp only
    generalize st.H.put b.tx (lstO (tv ++ [.str x t]) (tk + 1)) = H1 at *
    repeat walk_at "c"
    refine c_dSet (k := x) had1 hao (strKind_is _ _ _ _) (by omega) fun o' ho' => ?_
    have hdt := dict_not_tuple (sd_cls hao)
    have k2 : LeBut b.ad H1 (H1.put b.ad o') := leBut_put
    repeat walk_at "c"
    rw [htl]
    refine h2 _ _ hx ((k1.out (.head _)).trans (k2.out (.tail _ (.head _)))) ⟨k2 _ _ hin1 (ne_cls hin1 had1 (dict_ne_inst (sd_cls hao)).symm), ⟨es, m, k2 _ _ hyd1 ne2, g1, g2, g3, g4, hno⟩, ⟨_, _, k2 _ _ htx1 (Ne.symm n1), by simp [htl]⟩,
      ⟨o', _, Hp.put_self .., by rw [← hw]; exact ho', Nat.le_trans (stored_length_le _ _ _) (by omega), fun y => ?_⟩, ⟨fv, fk, k2 _ _ hfl1 (ne_cls hfl1 had1 (dict_ne_list (sd_cls hao)).symm), hfc1.keep had1 hdt k2⟩, ⟨fo, xs, k2 _ _ hfd1 (Ne.symm ne1), hfo1.keep had1 hdt k2, hfl', hF⟩, loa, lof, ne, ne1, ne2, ne3,
      fun y k e => ?_, fun y y' k e e' => ?_, okF⟩
    · have := hA y
      unfold upd
      rw [valueAt_new hAx]
      by_cases e : y = x
      · rw [if_pos e, if_pos e, htl]; exact ⟨_, rfl⟩
      · rw [if_neg e, if_neg e]; exact this
    · unfold upd at e
      split at e
      · cases e; omega
      · have := okA _ _ e; omega
    · unfold upd at e e'
      split at e <;> split at e'
      · rename_i p q; rw [p, q]
      · cases e; exact absurd (okA _ _ e') (by omega)
      · cases e'; exact absurd (okA _ _ e) (by omega)
      · exact injA _ _ _ e e'
end

theorem Le.symR {w : World} {b : SyA} {H H' : Hp} {n : Nat} {A : Str → Option Nat} {F : Cell → Option Nat} {fs : List Cell} (S : SymR w b H n A F fs) (k : Le H H') : SymR w b H' n A F fs := by
  obtain ⟨hin, ⟨es, m, hyd, g⟩, ⟨tv, tk, htx, htl⟩, ⟨ao, kvs, had, hao⟩, ⟨fv, fk, hfl, hfc⟩, ⟨fo, xs, hfd, hfo, hf⟩, r⟩ := S
  exact ⟨k _ _ hin, ⟨es, m, k _ _ hyd, g⟩, ⟨tv, tk, k _ _ htx, htl⟩, ⟨ao, kvs, k _ _ had, hao⟩, ⟨fv, fk, k _ _ hfl, hfc.mono k⟩, ⟨fo, xs, k _ _ hfd, hfo.mono k, hf⟩, r, ‹_›, ‹_›, ‹_›, ‹_›, ‹_›, ‹_›, ‹_›, ‹_›⟩
section
variable {C : Ctx} {st : St} {b : SyA} {n : Nat} {A : Str → Option Nat} {F : Cell → Option Nat} {fs : List Cell}
theorem s_functor (ok : C.Ok) (hlev : C.lev ≤ 28) {x y : Int} {t u : Tok} {Q : Value → St → Prop} (S : SymR C.w b st.H n A F fs) (hn : fs.length ≤ 1000)
    (h1 : ∀ H' k u, F (x, y) = some k → Le st.H H' → Q (.int k u) ⟨st.m, H'⟩)
    (h2 : ∀ H' u, F (x, y) = none → LeOut [b.fl, b.fd] st.H H' → SymR C.w b H' n A (upd F (x, y) fs.length) (fs ++ [(x, y)]) → Q (.int fs.length u) ⟨st.m, H'⟩) :
    codeC C (.ref 102) [.ref b.sy, .int x t, .int y u] Q st := by
  refine' c_def (f := 102) (binds := [("self", .ref b.sy), ("atom", .int x t), ("arity", .int y u)]) ok ?ho ?hcd ?hbind ?hloc ?hlev ?hco ?hgen ?hk ?hcell ?_
  walk_at "enter"
  repeat walk_at "c"
  refine c_newTuple (by rw [sizeLine_eq]; simp) fun key hkn => ?_
  have S2 := (le_put (o := tupO [.int x t, .int y u]) hkn).symR S
  have kk : (st.H.put key (tupO [.int x t, .int y u])) key = some (tupO [.int x t, .int y u]) := Hp.put_self ..
  have k0 : Le st.H (st.H.put key (tupO [.int x t, .int y u])) := le_put hkn
  dsimp only
  generalize st.H.put key (tupO [.int x t, .int y u]) = H0 at *
  obtain ⟨hin, ⟨es, m, hyd, g1, g2, g3, g4, hno⟩, ⟨tv, tk, htx, htl⟩, ⟨ao, kvs, had, hao, hal, hA⟩, ⟨fv, fk, hfl, hfc⟩, ⟨fo, xs, hfd, hfo, hfl', hF⟩, loa, lof, ne, ne1, ne2, ne3, okA, injA, okF⟩ := id S2
  rw [← hw] at hfo
  repeat walk_at "c"
  refine c_tMeth PySem.F.slot_dict_get PySem.F.type_dict_get hfd hfo ?_
  repeat walk_at "c"
  refine c_tGet (ks := [x, y]) ok (by omega) lof hfd hfo kk (key_pair _ _ _ _ _) ?_
  have hFx := hF (x, y)
  dsimp only at hFx
  repeat walk_at "c"
  cases hx : F (x, y) with
  | some k =>
    rw [hx] at hFx
    obtain ⟨u, hu⟩ := hFx
    rw [hu]
    refine c_ge ?_
    repeat walk_at "c"
    refine ⟨fun _ => ?_, fun e => absurd (of_decide_eq_false e) (by omega)⟩
    repeat walk_at "c"
    exact h1 _ _ _ hx k0
  | none =>
    rw [hx] at hFx
    rw [hFx]
    refine c_ge ?_
    repeat walk_at "c"
    refine ⟨fun e => absurd (of_decide_eq_true e) (by omega), fun _ => ?_⟩
    have hsz := sizeLine_eq
    have hfvl := hfc.1
    repeat walk_at "c"
    refine c_len hfl (by omega) fun u' => ?_
    repeat walk_at "c"
    refine c_append hfl (by omega) ?_
    refine ⟨rfl, ?_⟩
    have n1 : b.fd ≠ b.fl := ne_cls hfd hfl (dict_ne_list hfo.1.1)
    have k1 : LeBut b.fl H0 (H0.put b.fl (lstO (fv ++ [.ref key]) (fk + 1))) := leBut_put
    have hfl1 : (H0.put b.fl (lstO (fv ++ [.ref key]) (fk + 1))) b.fl = some (lstO (fv ++ [.ref key]) (fk + 1)) := Hp.put_self ..
    have hfd1 := k1 _ _ hfd n1
    have kk1 := k1 _ _ kk (ne_cls kk hfl (fun q => list_not_tuple q.symm))
    have hin1 := k1 _ _ hin (ne_of_obj hfl hin lst_ne_inst)
    have hyd1 := k1 _ _ hyd (ne_of_obj hfl hyd lst_ne_dict)
    have htx1 := k1 _ _ htx ne
    have had1 := k1 _ _ had (ne_cls had hfl (dict_ne_list (sd_cls hao)))
    have hfc1 := hfc.keep hfl list_not_tuple k1
    have hfo1 := hfo.keep hfl list_not_tuple k1
    repeat walk_at "c"
    dsimp only
    generalize H0.put b.fl (lstO (fv ++ [.ref key]) (fk + 1)) = H1 at *
    repeat walk_at "c"
    refine c_tSet (ks := [x, y]) ok (by omega) hfd1 hfo1 kk1 (key_pair _ _ _ _ _) (by omega) fun o' ho' => ?_
    have hdt := dict_not_tuple hfo.1.1
    have k2 : LeBut b.fd H1 (H1.put b.fd o') := leBut_put
    repeat walk_at "c"
    rw [hfvl]
    refine h2 _ _ hx ((k0.out.trans (k1.out (.head _))).trans (k2.out (.tail _ (.head _)))) ⟨k2 _ _ hin1 (ne_cls hin1 hfd1 (dict_ne_inst hfo.1.1).symm), ⟨es, m, k2 _ _ hyd1 ne3, g1, g2, g3, g4, hno⟩, ⟨_, _, k2 _ _ htx1 (ne_cls htx1 hfd1 (dict_ne_list hfo.1.1).symm), htl⟩,
      ⟨ao, kvs, k2 _ _ had1 ne1, hao, hal, hA⟩, ⟨_, _, k2 _ _ hfl1 (Ne.symm n1), ?_⟩, ⟨o', _, Hp.put_self .., hw ▸ ho', ?_, fun c => ?_⟩, loa, lof, ne, ne1, ne2, ne3, okA, injA, fun c k e => ?_⟩
    · have hq := hfc1.keep hfd1 hdt k2
      refine ⟨by simp [hfvl], fun i v c e e' => ?_⟩
      rw [List.getElem?_append] at e e'
      rw [hfvl] at e
      split at e
      · rename_i q; rw [if_pos q] at e'; exact hq.2 i v c e e'
      · rename_i q
        rw [if_neg q] at e'
        have hi : i - fs.length = 0 := by
          cases hd : i - fs.length with
          | zero => rfl
          | succ j => rw [hd] at e; simp at e
        rw [hi] at e e'
        cases e; cases e'
        exact ⟨key, t, u, rfl, k2 _ _ kk1 (fun q => by rw [q, hfd1] at kk1; cases kk1; exact hdt rfl)⟩
    · rw [List.length_append, storedH_new (Option.map_eq_none_iff.mp hFx), List.length_append]
      simp only [List.length_cons, List.length_nil]; omega
    · have := hF c
      unfold upd
      dsimp only at this ⊢
      rw [atKey_new hFx]
      by_cases e : c = (x, y)
      · rw [if_pos e, if_pos (by rw [e])]
        rw [hfvl]
        exact ⟨_, rfl⟩
      · rw [if_neg e, if_neg (fun q => e (by injection q with q1 q2; injection q2 with q2; exact Prod.ext q1 q2))]; exact this
    · unfold upd at e
      split at e
      · rename_i q; cases e; rw [q]; simp
      · have := okF _ _ e
        rw [List.getElem?_append_left (List.getElem?_eq_some_iff.mp this).1]; exact this

/-- what func does to the table -/
def symAtom (x : Str) (z : Nat × (Str → Option Nat)) : Nat × (Str → Option Nat) × Nat := match z.2 x with
  | some k => (z.1, z.2, k)
  | none => (z.1 + 1, upd z.2 x z.1, z.1)
theorem LeOut.sub {L M : List Addr} {H H' : Hp} (a : LeOut L H H') (h : ∀ x ∈ L, x ∈ M) : LeOut M H H' := fun x o e n => a x o e fun q => n (h x q)
theorem s_func (ok : C.Ok) (hlev : C.lev ≤ 27) {x : Str} {y : Int} {t u : Tok} {Q : Value → St → Prop} (S : SymR C.w b st.H n A F fs) (hn : n ≤ 1000) (hn2 : fs.length ≤ 1000)
    (h : ∀ H' n' A' F' fs' k j u, LeOut [b.tx, b.ad, b.fl, b.fd] st.H H' → SymR C.w b H' n' A' F' fs' → n' ≤ n + 1 → (∀ t k, A t = some k → A' t = some k) → (∀ c k, F c = some k → F' c = some k) → A' x = some j → F' (j, y) = some k →
      (∃ new, fs' = fs ++ new ∧ new.length ≤ 1 ∧ (fs = [] → fs'[0]? = some ((j : Int), y))) → Q (.int k u) ⟨st.m, H'⟩) :
    codeC C (.ref 109) [.ref b.sy, .str x t, .int y u] Q st := by
  refine' c_def (f := 109) (binds := [("self", .ref b.sy), ("text", .str x t), ("arity", .int y u)]) ok ?ho ?hcd ?hbind ?hloc ?hlev ?hco ?hgen ?hk ?hcell ?_
  walk_at "enter"
  obtain ⟨es, m, hyd, g1, g2, g3, g4, hno⟩ := S.dict
  have hin := S.inst
  have hm1 := hno "functor" (by decide)
  have hm2 := hno "atom" (by decide)
  rw [← hw] at S h
  have cont : ∀ m' H' n' A' j u', LeOut [b.tx, b.ad] st.H H' → SymR C.w b H' n' A' F fs → n' ≤ n + 1 → (∀ t k, A t = some k → A' t = some k) → A' x = some j → codeC C (.ref 102) [.ref b.sy, .int j u', .int y u] (fun v st' => Q v ⟨st.m, st'.H⟩) ⟨m', H'⟩ := fun m' H' n' A' j u' k1 S1 hn' hA hx => by
    refine s_functor ok (by omega) S1 hn2 (fun H2 k u2 e k2 => ?_) fun H2 u2 e k2 S2 => ?_
    · have S2 := k2.symR S1
      refine h H2 n' A' F fs k j u2 ((k1.sub (by simp)).trans k2.out) S2 hn' hA (fun _ _ e => e) hx e ⟨[], by simp, by simp, fun q => ?_⟩
      have := S2.okF _ _ e
      rw [q] at this; simp at this
    · refine h H2 n' A' _ _ _ j u2 ((k1.sub (by simp)).trans (k2.sub (by simp))) S2 hn' hA (fun c k e' => ?_) hx ?_ ⟨[(j, y)], rfl, by simp, fun q => by rw [q]; rfl⟩
      · unfold upd
        rw [if_neg (fun q => by rw [q, e] at e'; cases e')]; exact e'
      · unfold upd; rw [if_pos rfl]
  repeat walk_at "c"
  refine c_call (s_atom ok (by omega) (by exact S) hn (fun k u1 e => ?_) fun H1 u1 e k1 S1 => ?_)
  · repeat walk_at "c"
    refine c_call ((cont _ st.H n A k u1 (LeOut.refl _ _) S (by omega) (fun _ _ e => e) e).mono fun v st' q => ?_)
    repeat walk_at "c"
    exact q
  · repeat walk_at "c"
    refine c_call ((cont _ H1 _ _ n u1 k1 S1 (by omega) (fun t k e' => ?_) (by unfold upd; rw [if_pos rfl])).mono fun v st' q => ?_)
    · unfold upd
      rw [if_neg (fun q => by rw [q, e] at e'; cases e')]; exact e'
    · repeat walk_at "c"
      exact q
end

theorem isStr_ne {k : Value} {x y : Str} (h : k.isStr x = true) (n : y ≠ x) : k.isStr y = false := by
  cases k <;> simp only [Value.isStr] at h ⊢ <;> first | exact absurd h (by decide) | skip
  rename_i s _
  have : s = x := eq_of_beq h
  subst this
  exact beq_eq_false_iff_ne.mpr (Ne.symm n)
theorem putL_find_ne {name x : Str} (hx : x ≠ name) (hsh : Int) (t : Tok) (v : Value) : ∀ es : List DictEntry, (putL name hsh (.str name t) v es).find? (·.key.isStr x) = es.find? (·.key.isStr x)
  | [] => by
    show List.find? _ [_] = none
    rw [List.find?_cons_of_neg (by show ¬ (Value.isStr (.str name t) x = true); rw [isStr_ne (x := name) (by simp [Value.isStr]) hx]; decide)]; rfl
  | e :: r => by
    unfold putL
    cases h : e.key.isStr name with
    | true =>
      rw [if_pos rfl, List.find?_cons_of_neg (by rw [isStr_ne h hx]; decide), List.find?_cons_of_neg (by rw [isStr_ne h hx]; decide)]
    | false =>
      rw [if_neg (by decide), List.find?_cons, List.find?_cons, putL_find_ne hx]
theorem putL_any (name : Str) (hsh : Int) (t : Tok) (v : Value) : ∀ es : List DictEntry, (putL name hsh (.str name t) v es).any (·.refKey) = es.any (·.refKey)
  | [] => rfl
  | e :: r => by
    unfold putL
    cases h : e.key.isStr name with
    | true => rw [if_pos rfl, List.any_cons, List.any_cons]; rfl
    | false => rw [if_neg (by decide), List.any_cons, List.any_cons, putL_any]
theorem getL_put_ne {name x : Str} {hsh : Int} {t : Tok} {v : Value} {es : List DictEntry} (hx : x ≠ name) : getL x (putL name hsh (.str name t) v es) = getL x es := by
  unfold getL
  rw [putL_find_ne hx, putL_any]

/-- the value of an expression is dropped -/
theorem c_ExprV {C : Ctx} {st : St} {e : Expr} {pos : Pos} {Q : Flow → St → Prop} (ok : C.Ok) (h : wpC C (eval e C.env) (fun v st' => (∀ a, v ≠ .ref a) ∧ Q .next st') st)
    (hs : swapsWith e none pos.line C.env = Pure.pure false := by with_unfolding_all rfl) : wpC C (exec (.Expr e pos) C.env) Q st :=
  fun _ _ _ o hh => wpAny_Expr (h.go o hh fun v s' st' hs' q => by
    obtain ⟨n, q⟩ := q
    cases v <;> first | exact ⟨st', hs', q⟩ | exact absurd rfl (n _)) (by show (C.sc.kind == .module && _) = false; rw [ok.fn]; rfl) hs

def isStrE : Expr → Bool
  | .Constant (.str _) _ _ => true
  | _ => false
def rowOf : Expr → Option (Str × Int)
  | .Tuple [.Constant (.str s) _ _, .Constant (.int n) _ _] _ _ => some (s, n)
  | _ => none
def RowIs (H : Hp) (r : Str × Int) (v : Value) : Prop := ∃ d t u, v = .ref d ∧ H d = some (tupO [.str r.1 t, .int r.2 u])
section
variable {C : Ctx} {st : St}
theorem c_strs {pos : Pos} : ∀ (es : List Expr) {Q : List Value → St → Prop}, es.all isStrE = true → (∀ vs, vs.length = es.length → (∀ v ∈ vs, ∃ s t, v = .str s t) → Q vs st) → wpC C (spliced (backTo pos (starEach es C.env))) Q st
  | [], Q, _, h => c_args_nil (h [] rfl fun _ h => by simp at h)
  | e :: r, Q, he, h => by
    rw [List.all_cons, Bool.and_eq_true] at he
    obtain ⟨h1, h2⟩ := he
    cases e <;> simp only [isStrE] at h1 <;> try exact absurd h1 (by decide)
    rename_i c k p
    cases c <;> simp only at h1 <;> try exact absurd h1 (by decide)
    refine c_args_cons (c_str fun t => ?_)
    exact c_strs r h2 fun vs hl hv => h _ (by simp [hl]) fun v hm => by
      rcases List.mem_cons.mp hm with rfl | hm
      · exact ⟨_, _, rfl⟩
      · exact hv v hm
theorem c_rows {pos : Pos} : ∀ (es : List Expr) (st : St) {Q : List Value → St → Prop}, es.all (fun e => (rowOf e).isSome) = true →
    (∀ H' vs, Le st.H H' → vs.length = es.length → (∀ (i : Nat) v, vs[i]? = some v → ∃ e r, es[i]? = some e ∧ rowOf e = some r ∧ RowIs H' r v) → Q vs ⟨st.m, H'⟩) → wpC C (spliced (backTo pos (starEach es C.env))) Q st
  | [], st, Q, _, h => c_args_nil (h st.H [] (Le.refl _) rfl fun i v e => by simp at e)
  | e :: r, st, Q, he, h => by
    rw [List.all_cons, Bool.and_eq_true] at he
    obtain ⟨h1, h2⟩ := he
    obtain ⟨⟨s, n⟩, hr⟩ := Option.isSome_iff_exists.mp h1
    unfold rowOf at hr
    split at hr
    · rename_i s' k1 p1 n' k2 p2 k p
      injection hr with hr
      injection hr with e1 e2
      subst e1 e2
      refine c_args_cons (c_Tuple (c_args_cons (c_str fun t => c_args_cons (c_int fun u => c_args_nil (c_newTuple (by rw [sizeLine_eq]; simp) fun d hd => ?_)))))
      refine c_rows r _ h2 fun H' vs hle hl hv => h H' _ ((le_put hd).trans hle) (by simp [hl]) fun i v e => ?_
      cases i with
      | zero => cases e; exact ⟨_, _, rfl, rfl, d, t, u, rfl, hle _ _ (Hp.put_self ..)⟩
      | succ i => exact hv i v e
    · cases hr
end

section
variable {C : Ctx} {st : St}
theorem s_fixed_atoms (ok : C.Ok) (hlev : C.lev ≤ 29) {Q : Value → St → Prop} (h : ∀ H' r vs, Le st.H H' → st.H r = none → H' r = some (tupO vs) → (∀ v ∈ vs, ∃ s t, v = .str s t) → vs.length = 29 → Q (.ref r) ⟨st.m, H'⟩) :
    codeC C (.ref 60) [] Q st := by
  refine' c_def (f := 60) (binds := []) ok ?ho ?hcd ?hbind ?hloc ?hlev ?hco ?hgen ?hk ?hcell ?_
  walk_at "enter"
  walk_at "c"
  with_reducible refine c_Return ?_
  with_reducible refine c_Tuple ?_
  with_reducible refine c_strs _ ?hh fun vs hl hv => ?_
  case hh => rfl

  refine c_newTuple (by rw [hl, sizeLine_eq]; exact Nat.le_of_ble_eq_true rfl) fun r hr => ?_
  repeat walk_at "c"
  exact h _ r vs (le_put hr) hr (Hp.put_self ..) hv hl
theorem s_fixed_functors (ok : C.Ok) (hlev : C.lev ≤ 29) {Q : Value → St → Prop} (h : ∀ H' r vs, Le st.H H' → st.H r = none → H' r = some (tupO vs) → vs.length = 32 → (∀ v ∈ vs, ∃ p, RowIs H' p v) → (∀ v, vs[0]? = some v → RowIs H' (".", 2) v) → Q (.ref r) ⟨st.m, H'⟩) :
    codeC C (.ref 67) [] Q st := by
  refine' c_def (f := 67) (binds := []) ok ?ho ?hcd ?hbind ?hloc ?hlev ?hco ?hgen ?hk ?hcell ?_
  walk_at "enter"
  walk_at "c"
  with_reducible refine c_Return ?_
  with_reducible refine c_Tuple ?_
  with_reducible refine c_rows _ _ ?hh fun H1 vs k1 hl hv => ?_
  case hh => rfl

  refine c_newTuple (by rw [hl, sizeLine_eq]; exact Nat.le_of_ble_eq_true rfl) fun r hr => ?_
  repeat walk_at "c"
  refine h _ r vs (k1.trans (le_put hr)) (Le.new k1 hr) (Hp.put_self ..) hl (fun v hm => ?_) fun v e => ?_
  · obtain ⟨i, hi⟩ := List.getElem?_of_mem hm
    obtain ⟨e, p, _, _, d, t, u, e1, e2⟩ := hv i v hi
    exact ⟨p, d, t, u, e1, put_keep e2 hr⟩
  · obtain ⟨e, p, he, hp, d, t, u, e1, e2⟩ := hv 0 v e
    cases he
    cases hp
    exact ⟨d, t, u, e1, put_keep e2 hr⟩
end

theorem LeOut.symKeep {w : World} {b : SyA} {H H' : Hp} {n : Nat} {A : Str → Option Nat} {F : Cell → Option Nat} {fs : List Cell} (S : SymR w b H n A F fs) (k : LeOut [b.tx, b.ad, b.fl, b.fd] H H') {x : Addr} {vs : List Value} (h : H x = some (tupO vs)) : H' x = some (tupO vs) := by
  refine k _ _ h fun q => ?_
  obtain ⟨tv, tk, htx, htl⟩ := S.tx
  obtain ⟨ao, kvs, had, hao, _⟩ := S.ad
  obtain ⟨fv, fk, hfl, hfc⟩ := S.fl
  obtain ⟨fo, xs, hfd, hfo, _⟩ := S.fd
  simp only [List.mem_cons, List.not_mem_nil, or_false] at q
  rcases q with q | q | q | q <;> subst q
  · rw [htx] at h; exact absurd (congrArg Obj.cls (Option.some.inj h)) list_not_tuple
  · rw [had] at h; cases h; exact dict_not_tuple (sd_cls hao) rfl
  · rw [hfl] at h; exact absurd (congrArg Obj.cls (Option.some.inj h)) list_not_tuple
  · rw [hfd] at h; cases h; exact dict_not_tuple hfo.1.1 rfl
theorem RowIs.keep {w : World} {b : SyA} {H H' : Hp} {n : Nat} {A : Str → Option Nat} {F : Cell → Option Nat} {fs : List Cell} {p : Str × Int} {v : Value} (h : RowIs H p v) (S : SymR w b H n A F fs) (k : LeOut [b.tx, b.ad, b.fl, b.fd] H H') : RowIs H' p v :=
  let ⟨d, t, u, e, x⟩ := h
  ⟨d, t, u, e, k.symKeep S x⟩
section
variable {C : Ctx} {st : St}
theorem Le.putTo {H H' H'' : Hp} {x : Addr} (a : Le H H') (b : LeBut x H' H'') (n : H x = none) : Le H H'' := fun y o e => b y o (a y o e) (ne_new e n)
theorem c_put {α : Type} {t : Sem α} {Q : α → St → Prop} {m : Str → Option Value} {H : Hp} {x : Addr} {o : Obj} (h : ∀ G, LeBut x H G → G x = some o → wpC C t Q ⟨m, G⟩) : wpC C t Q ⟨m, H.put x o⟩ := h _ leBut_put (Hp.put_self ..)
theorem c_newTupleG {vs : List Value} {Q : Value → St → Prop} (hsz : vs.length ≤ sizeLine) (h : ∀ H' a, Le st.H H' → st.H a = none → H' a = some (tupO vs) → Q (.ref a) ⟨st.m, H'⟩) : wpC C (newTuple vs) Q st :=
  c_newTuple hsz fun a n => h _ a (le_put n) n (Hp.put_self ..)
theorem c_newListG {vs : List Value} {Q : Value → St → Prop} (hsz : vs.length ≤ sizeLine) (h : ∀ H' a, Le st.H H' → st.H a = none → H' a = some (lstO vs 0) → Q (.ref a) ⟨st.m, H'⟩) : wpC C (newList vs) Q st :=
  c_newList hsz fun a n => h _ a (le_put n) n (Hp.put_self ..)
theorem c_newDictG {pos : Pos} {Q : Value → St → Prop} (h : ∀ H' d o, Le st.H H' → st.H d = none → H' d = some o → (d == sysModules) = false → SD C.w o [] → ID C.w o [] → Q (.ref d) ⟨st.m, H'⟩) : wpC C (eval (.Dict [] [] pos) C.env) Q st :=
  c_newDict fun d o n lo a b => h _ d o (le_put n) n (Hp.put_self ..) lo a b
theorem s_Symbols (ok : C.Ok) (hlev : C.lev ≤ 25) {Q : Value → St → Prop}
    (h : ∀ H' b n A F fs, Le st.H H' → SymR C.w b H' n A F fs → n ≤ 100 → fs.length ≤ 100 → (∃ j, A "." = some j ∧ fs[0]? = some ((j : Int), 2)) → (∀ x ∈ [b.tx, b.ad, b.fl, b.fd], st.H x = none) → Q (.ref b.sy) ⟨st.m, H'⟩) :
    wpC C (call (.ref 154) []) Q st := by
  refine c_make (fI := 81) (by k_is) (by k_is) (by k_is) ok fun C1 x dx ok1 hw1 hl1 nx nd hne => ?_
  refine' c_def (f := 81) (binds := [("self", .ref x)]) ok1 ?ho ?hcd ?hbind ?hloc ?hlev ?hco ?hgen ?hk ?hcell ?_
  walk_at "enter"
  have hx : ((st.H.put dx (dictOf [] 0)).put x (instObj 154 dx)) x = some (instObj 154 dx) := Hp.put_self ..
  have hd : ((st.H.put dx (dictOf [] 0)).put x (instObj 154 dx)) dx = some (dictOf [] 0) := by walk_at "fact"
  have k0 : Le st.H ((st.H.put dx (dictOf [] 0)).put x (instObj 154 dx)) := (le_put nd).put nx
  dsimp only
  generalize (st.H.put dx (dictOf [] 0)).put x (instObj 154 dx) = H0 at *
  repeat walk_at "c"
  refine c_newListG (by rw [sizeLine_eq]; simp) fun H1 tx kk htx h_tx => ?_
  dsimp only at kk htx ⊢
  have qtx : st.H tx = none := Le.new k0 htx
  have etx : tx ≠ dx := Ne.symm (ne_new hd htx)
  have k0 := k0.trans kk
  have hx := kk _ _ hx
  have hd := kk _ _ hd
  repeat walk_at "c"
  refine c_put fun H2 kk hd => ?_
  have k0 := k0.putTo kk nd
  have hx := kk _ _ hx hne
  have h_tx := kk _ _ h_tx etx
  repeat walk_at "c"
  refine c_newDictG fun H1 ad oa kk htx h_ad loa hsa _ => ?_
  dsimp only at kk htx ⊢
  have qad : st.H ad = none := Le.new k0 htx
  have ead : ad ≠ dx := Ne.symm (ne_new hd htx)
  have tx_ad : tx ≠ ad := ne_new h_tx htx
  have k0 := k0.trans kk
  have hx := kk _ _ hx
  have hd := kk _ _ hd
  have h_tx := kk _ _ h_tx
  repeat walk_at "c"
  refine c_put fun H2 kk hd => ?_
  have k0 := k0.putTo kk nd
  have hx := kk _ _ hx hne
  have h_tx := kk _ _ h_tx etx
  have h_ad := kk _ _ h_ad ead
  repeat walk_at "c"
  refine c_newListG (by rw [sizeLine_eq]; simp) fun H1 fl kk htx h_fl => ?_
  dsimp only at kk htx ⊢
  have qfl : st.H fl = none := Le.new k0 htx
  have efl : fl ≠ dx := Ne.symm (ne_new hd htx)
  have tx_fl : tx ≠ fl := ne_new h_tx htx
  have ad_fl : ad ≠ fl := ne_new h_ad htx
  have k0 := k0.trans kk
  have hx := kk _ _ hx
  have hd := kk _ _ hd
  have h_tx := kk _ _ h_tx
  have h_ad := kk _ _ h_ad
  repeat walk_at "c"
  refine c_put fun H2 kk hd => ?_
  have k0 := k0.putTo kk nd
  have hx := kk _ _ hx hne
  have h_tx := kk _ _ h_tx etx
  have h_ad := kk _ _ h_ad ead
  have h_fl := kk _ _ h_fl efl
  repeat walk_at "c"
  refine c_newDictG fun H1 fd of kk htx h_fd lof hsf _ => ?_
  dsimp only at kk htx ⊢
  have qfd : st.H fd = none := Le.new k0 htx
  have efd : fd ≠ dx := Ne.symm (ne_new hd htx)
  have tx_fd : tx ≠ fd := ne_new h_tx htx
  have ad_fd : ad ≠ fd := ne_new h_ad htx
  have fl_fd : fl ≠ fd := ne_new h_fl htx
  have k0 := k0.trans kk
  have hx := kk _ _ hx
  have hd := kk _ _ hd
  have h_tx := kk _ _ h_tx
  have h_ad := kk _ _ h_ad
  have h_fl := kk _ _ h_fl
  repeat walk_at "c"
  refine c_put fun H2 kk hd => ?_
  have k0 := k0.putTo kk nd
  have hx := kk _ _ hx hne
  have h_tx := kk _ _ h_tx etx
  have h_ad := kk _ _ h_ad ead
  have h_fl := kk _ _ h_fl efl
  have h_fd := kk _ _ h_fd efd
  repeat walk_at "c"
  have S0 : SymR C.w ⟨x, dx, tx, ad, fl, fd⟩ H2 0 (fun _ => none) (fun _ => none) [] := by
    rw [hw, hw1] at hsa hsf
    exact ⟨hx, ⟨_, _, hd, by with_unfolding_all rfl, by with_unfolding_all rfl, by with_unfolding_all rfl, by with_unfolding_all rfl, fun y hy => by
      simp only [symNames, List.mem_cons, List.not_mem_nil, or_false, not_or] at hy
      rw [getL_put_ne hy.2.2.2, getL_put_ne hy.2.2.1, getL_put_ne hy.2.1, getL_put_ne hy.1]; rfl⟩, ⟨_, _, h_tx, rfl⟩, ⟨_, _, h_ad, by rw [hw, hw1]; exact hsa, Nat.le_refl _, fun _ => rfl⟩, ⟨_, _, h_fl, rfl, fun i v c e => by simp at e⟩,
      ⟨_, _, h_fd, td_empty (by rw [hw, hw1]; exact hsf), Nat.le_refl _, fun _ => rfl⟩, loa, lof, tx_fl, ad_fd, Ne.symm ead, Ne.symm efd, fun _ _ e => (by cases e), fun _ _ _ e => (by cases e), fun _ _ e => (by cases e)⟩
  refine c_call (s_fixed_atoms ok (by omega) fun H3 r vs k3 hr hr3 hvs hlen => ?_)
  have S1 := k3.symR S0
  have k1 := k0.trans k3
  repeat walk_at "c"
  refine src_tuple (fun i st' => st'.m "self" = some (.ref x) ∧ ∃ n A, LeOut [tx, ad, fl, fd] H3 st'.H ∧ n ≤ i ∧ SymR C.w ⟨x, dx, tx, ad, fl, fd⟩ st'.H n A (fun _ => none) []) ok hr3 (fun i st' ⟨_, n, A, k, _, S⟩ => k.symKeep S1 hr3) ⟨rfl, 0, _, LeOut.refl _ _, Nat.le_refl _, S1⟩ ?_ ?_
  · rintro i ⟨m', H'⟩ v hv ⟨hm, n, A, k, hn, S⟩
    dsimp only at hm k S
    have hi := (List.getElem?_eq_some_iff.mp hv).1
    obtain ⟨s, t, rfl⟩ := hvs v (List.mem_of_getElem? hv)
    obtain ⟨es', m2, hyd, a1, a2, a3, a4, hno'⟩ := S.dict
    have hin := S.inst
    have hm2 := hno' "atom" (by decide)
    dsimp only at hyd hin
    refine c_assignN (lk hsc rfl) ok ?_
    walk_at "c"
    refine c_ExprV ok ?_
    repeat walk_at "c"
    refine c_call (s_atom (b := ⟨x, dx, tx, ad, fl, fd⟩) ok (by omega) (by exact S) (by omega) (fun k' u e => ?_) fun H4 u e k4 S4 => ?_)
    · refine ⟨fun _ => nofun, ?_⟩
      repeat walk_at "c"
      exact ⟨hm, n, A, k, by omega, S⟩
    · refine ⟨fun _ => nofun, ?_⟩
      repeat walk_at "c"
      exact ⟨hm, n + 1, _, k.trans (k4.sub (by simp)), by omega, S4⟩
  · rintro ⟨m', H'⟩ ⟨hm, n, A, k, hn, S⟩
    dsimp only at hm k S
    repeat walk_at "c"
    refine c_call (s_fixed_functors ok (by omega) fun H4 r2 ws k4 hr2 hr4 hlen2 hrows hrow0 => ?_)
    have S4 := k4.symR S
    repeat walk_at "c"
    refine src_tuple (fun i st' => st'.m "self" = some (.ref x) ∧ ∃ n A F fs, LeOut [tx, ad, fl, fd] H4 st'.H ∧ n ≤ 29 + i ∧ fs.length ≤ i ∧ (i = 0 → fs = []) ∧ (0 < i → ∃ j : Nat, A "." = some j ∧ fs[0]? = some ((j : Int), 2)) ∧ SymR C.w ⟨x, dx, tx, ad, fl, fd⟩ st'.H n A F fs) ok hr4 (fun i st' ⟨_, n, A, F, fs, k, _, _, _, _, S⟩ => k.symKeep S4 hr4)
      ⟨hm, n, A, _, [], LeOut.refl _ _, by omega, Nat.le_refl _, fun _ => rfl, fun q => absurd q (by omega), S4⟩ ?_ ?_
    · rintro i ⟨m2, H5⟩ v hv ⟨hm', n, A, F, fs, k5, hn, hfs, hf0, hf1, S5⟩
      dsimp only at hm' k5 S5
      have hi := (List.getElem?_eq_some_iff.mp hv).1
      obtain ⟨⟨s, ar⟩, hrow⟩ := hrows v (List.mem_of_getElem? hv)
      have hrow' : i = 0 → RowIs H4 (".", 2) v := fun q => hrow0 v (q ▸ hv)
      have hsame : i = 0 → s = "." ∧ ar = 2 := fun q => by
        obtain ⟨d1, t1, u1, e1, x1⟩ := hrow
        obtain ⟨d2, t2, u2, e2, x2⟩ := hrow' q
        rw [e1] at e2; cases e2
        rw [x1] at x2
        injection x2 with x2; injection x2 with _ _ x2; injection x2 with x2
        have x3 := congrArg Array.toList x2
        simp at x3
        exact ⟨x3.1.1, x3.2.1⟩
      obtain ⟨rd, rt, ru, rfl, hrd⟩ := hrow.keep S4 k5
      obtain ⟨es', m3, hyd, a1, a2, a3, a4, hno'⟩ := S5.dict
      have hin := S5.inst
      have hm2 := hno' "func" (by decide)
      dsimp only at hyd hin
      refine c_assignN (lk hsc rfl) ok ?_
      walk_at "c"
      refine c_ExprV ok ?_
      repeat walk_at "c"
      refine c_call (s_func (b := ⟨x, dx, tx, ad, fl, fd⟩) ok (by omega) (by exact S5) (by omega) (by omega) fun H6 n' A' F' fs' k' j u k6 S6 hn' hA hF hAx hFx hq => ?_)
      obtain ⟨new, hnew, hnl, hz⟩ := hq
      refine ⟨fun _ => nofun, ?_⟩
      repeat walk_at "c"
      refine ⟨hm', n', A', F', fs', k5.trans k6, by omega, by rw [hnew, List.length_append]; omega, fun q => absurd q (by omega), fun _ => ?_, S6⟩
      by_cases hi0 : i = 0
      · obtain ⟨e1, e2⟩ := hsame hi0
        rw [e1] at hAx
        have := hz (hf0 hi0)
        rw [e2] at this
        exact ⟨j, hAx, this⟩
      · obtain ⟨j', h1, h2⟩ := hf1 (by omega)
        exact ⟨j', hA _ _ h1, by rw [hnew, List.getElem?_append_left (List.getElem?_eq_some_iff.mp h2).1]; exact h2⟩
    · rintro ⟨m2, H5⟩ ⟨hm', n, A, F, fs, k5, hn, hfs, hf0, hf1, S5⟩
      dsimp only at hm' k5 S5
      repeat walk_at "c"
      have kall : LeOut [tx, ad, fl, fd] st.H H5 := (((k1.out).trans k).trans k4.out).trans k5
      have fresh : ∀ y ∈ [tx, ad, fl, fd], st.H y = none := by simp [qtx, qad, qfl, qfd]
      refine ⟨rfl, h H5 ⟨x, dx, tx, ad, fl, fd⟩ n A F fs (fun y o e => kall y o e fun q => by rw [fresh y q] at e; cases e) (by rw [hw, hw1] at S5; exact S5) (by omega) (by omega) (hf1 (by omega)) fresh⟩
end

theorem q_put {Q : Value → St → Prop} {v : Value} {m : Str → Option Value} {H : Hp} {x : Addr} {o : Obj} (h : ∀ G, LeBut x H G → G x = some o → Q v ⟨m, G⟩) : Q v ⟨m, H.put x o⟩ := h _ leBut_put (Hp.put_self ..)
section
variable {C : Ctx} {st : St} {b : SyA} {n : Nat} {A : Str → Option Nat} {F : Cell → Option Nat} {fs : List Cell}
theorem s_Store (ok : C.Ok) (hlev : C.lev ≤ 25) {Q : Value → St → Prop} (S : SymR C.w b st.H n A F fs)
    (h : ∀ H' a, Le st.H H' → Rep a H' [] fs → a.sy = b.sy → a.yd = b.yd → a.fl = b.fl → (∀ x ∈ [a.st, a.sd, a.hl, a.sl, a.tr], st.H x = none) → Q (.ref a.st) ⟨st.m, H'⟩) :
    wpC C (call (.ref 380) [.ref b.sy]) Q st := by
  refine c_make (fI := 194) (by k_is) (by k_is) (by k_is) ok fun C1 x dx ok1 hw1 hl1 nx nd hne => ?_
  refine' c_def (f := 194) (binds := [("self", .ref x), ("symbols", .ref b.sy), ("max_heap", .int 100000 ?tok)]) ok1 ?ho ?hcd ?hbind ?hloc ?hlev ?hco ?hgen ?hk ?hcell ?_
  case ho => k_is
  case hcd => k_is
  case hbind =>
    intro s X
    refine' binds_K X rfl ?a ?b ?c ?d
    case a => k_is
    case b => exact rfl
    case c => exact rfl
    case d => exact rfl
  case hloc => exact locs rfl
  case hlev => omega
  case hco => rfl
  case hgen => rfl
  case hk => rfl
  case hcell => decide
  clear ok; intro C ok hw hsc hl
  have hx : ((st.H.put dx (dictOf [] 0)).put x (instObj 380 dx)) x = some (instObj 380 dx) := Hp.put_self ..
  have hd : ((st.H.put dx (dictOf [] 0)).put x (instObj 380 dx)) dx = some (dictOf [] 0) := by walk_at "fact"
  have k0 : Le st.H ((st.H.put dx (dictOf [] 0)).put x (instObj 380 dx)) := (le_put nd).put nx
  dsimp only
  generalize (st.H.put dx (dictOf [] 0)).put x (instObj 380 dx) = H0 at *
  repeat walk_at "c"
  refine c_put fun H2 kk hd => ?_
  have k0 := (k0.put (o := _) nd).putTo kk nd
  have hx := kk _ _ (put_other hx hne) hne
  refine c_newListG (by rw [sizeLine_eq]; simp) fun H1 hp kk htx h_hp => ?_
  dsimp only at kk htx ⊢
  have qhp : st.H hp = none := Le.new k0 htx
  have ehp : hp ≠ dx := Ne.symm (ne_new hd htx)
  have k0 := k0.trans kk
  have hx := kk _ _ hx
  have hd := kk _ _ hd
  repeat walk_at "c"
  refine c_put fun H2 kk hd => ?_
  have k0 := k0.putTo kk nd
  have hx := kk _ _ hx hne
  have h_hp := kk _ _ h_hp ehp
  repeat walk_at "c"
  refine c_newListG (by rw [sizeLine_eq]; simp) fun H1 sk kk htx h_sk => ?_
  dsimp only at kk htx ⊢
  have qsk : st.H sk = none := Le.new k0 htx
  have esk : sk ≠ dx := Ne.symm (ne_new hd htx)
  have k0 := k0.trans kk
  have hx := kk _ _ hx
  have hd := kk _ _ hd
  have h_hp := kk _ _ h_hp
  repeat walk_at "c"
  refine c_put fun H2 kk hd => ?_
  have k0 := k0.putTo kk nd
  have hx := kk _ _ hx hne
  have h_hp := kk _ _ h_hp ehp
  have h_sk := kk _ _ h_sk esk
  repeat walk_at "c"
  refine c_newListG (by rw [sizeLine_eq]; simp) fun H1 tr kk htx h_tr => ?_
  dsimp only at kk htx ⊢
  have qtr : st.H tr = none := Le.new k0 htx
  have etr : tr ≠ dx := Ne.symm (ne_new hd htx)
  have k0 := k0.trans kk
  have hx := kk _ _ hx
  have hd := kk _ _ hd
  have h_hp := kk _ _ h_hp
  have h_sk := kk _ _ h_sk
  repeat walk_at "c"
  have S1 := k0.symR S
  obtain ⟨fv, fk, hfl, hfc⟩ := S1.fl
  obtain ⟨es, m, hyd, g1, g2, g3, g4, hno⟩ := S1.dict
  have hd0 := hd
  have d1 : b.fl ≠ dx := ne_cls hfl hd (by intro q; injection q with q; exact absurd q (by decide))
  have d2 : b.sy ≠ dx := ne_cls S1.inst hd (by intro q; cases q)
  have d3 : b.yd ≠ dx := by
    obtain ⟨_, _, z, _⟩ := S.dict
    exact ne_new z nd
  refine ⟨rfl, ?_⟩
  dsimp only
  refine q_put fun G kk hd => ?_
  have mv : ∀ y o, H1 y = some o → y ≠ dx → G y = some o := fun y o e ne => kk _ _ (put_other (put_other e ne) ne) ne
  refine' h G ⟨x, dx, hp, sk, tr, b.sy, b.yd, b.fl⟩ (fun y o e => mv y o (k0 _ _ e) (ne_new e nd)) ⟨mv _ _ hx hne, ⟨_, _, _, _, _, hd, by with_unfolding_all rfl, by with_unfolding_all rfl, by with_unfolding_all rfl, by with_unfolding_all rfl, by with_unfolding_all rfl, by with_unfolding_all rfl, by with_unfolding_all rfl, fun y hy => ?_⟩,
    ⟨[], 0, mv _ _ h_hp ehp, rfl, fun i v c e => by simp at e⟩, mv _ _ S1.inst d2, ⟨es, m, mv _ _ hyd d3, g3, hno⟩, ⟨fv, fk, mv _ _ hfl d1, ?_⟩, ?_⟩ rfl rfl rfl ?_
  · simp only [storeNames, List.mem_cons, List.not_mem_nil, or_false, not_or] at hy
    rw [getL_put_ne hy.2.2.2.2.2.2, getL_put_ne hy.2.2.2.2.2.1, getL_put_ne hy.2.2.2.2.1, getL_put_ne hy.2.2.2.1, getL_put_ne hy.2.2.1, getL_put_ne hy.2.1, getL_put_ne hy.1]; rfl
  · refine ⟨hfc.1, fun i v c e e' => ?_⟩
    obtain ⟨d, t, u, e1, e2⟩ := hfc.2 i v c e e'
    exact ⟨d, t, u, e1, mv _ _ e2 (ne_cls e2 hd0 (by intro q; injection q with q; exact absurd q (by decide)))⟩
  · obtain ⟨_, _, z, _⟩ := S.fl
    exact Ne.symm (ne_new z qhp)
  · simp [nx, nd, qhp, qsk, qtr]
end

theorem CellsAre.app {H : Hp} {vs : List Value} {cs : List Cell} {v : Value} {c : Cell} (h : CellsAre H vs cs) (hv : IsCell H v c) : CellsAre H (vs ++ [v]) (cs ++ [c]) := by
  have hl := h.1
  refine ⟨by simp [hl], fun i x d e e' => ?_⟩
  rw [List.getElem?_append] at e e'
  rw [hl] at e
  split at e
  · rename_i q; rw [if_pos q] at e'; exact h.2 i x d e e'
  · rename_i q
    rw [if_neg q] at e'
    have hi : i - cs.length = 0 := by
      cases hd : i - cs.length with
      | zero => rfl
      | succ j => rw [hd] at e; simp at e
    rw [hi] at e e'
    cases e; cases e'
    exact hv
section
variable {C : Ctx} {st : St} {a : StoA} {cs fs : List Cell}
theorem c_sMax {expr : Bool} {Q : Value → St → Prop} (S : Rep a st.H cs fs) (h : ∀ t, Q (.int 100000 t) st) : wpC C (getAttr (.ref a.st) "max_heap" expr) Q st := by
  obtain ⟨hst, ⟨es, n, t1, t2, t3, hsd, hheap, hstack, htrail, hsym, hmax, hhb, hbb, hno⟩, -, -, -, -, -⟩ := S
  exact c_getAttr hst hsd (by k_is) (by k_is) (by k_is) (by k_is) hmax rfl (h _)
theorem c_hLen {Q : Value → St → Prop} (S : Rep a st.H cs fs) (hl : cs.length ≤ 1000) (h : ∀ t, Q (.int cs.length t) st) : wpC C (call (.builtin "len") [.ref a.hl]) Q st := by
  obtain ⟨vs, n, hh, hc⟩ := S.heap
  refine c_len hh (by have := hc.1; have := sizeLine_eq; omega) fun t => ?_
  rw [hc.1]; exact h t
theorem c_hMethod {pl : Sem Bool} {Q : Value × List Value → St → Prop} (S : Rep a st.H cs fs) (h : Q (.builtin "list.append", [.ref a.hl]) st) : wpC C (getMethod (.ref a.hl) "append" pl) Q st := by
  obtain ⟨vs, n, hh, hc⟩ := S.heap
  exact c_method PySem.F.slot_list_append PySem.F.type_list_append hh h
theorem c_hApp {v : Value} {c : Cell} {Q : Value → St → Prop} (S : Rep a st.H cs fs) (hl : cs.length ≤ 1000) (hv : IsCell st.H v c) (h : ∀ H', LeBut a.hl st.H H' → Rep a H' (cs ++ [c]) fs → Q .none ⟨st.m, H'⟩) : wpC C (call (.builtin "list.append") [.ref a.hl, v]) Q st := by
  obtain ⟨vs, n, hh, hc⟩ := S.heap
  refine c_append hh (by have := hc.1; have := sizeLine_eq; omega) ?_
  have k : LeBut a.hl st.H (st.H.put a.hl (lstO (vs ++ [v]) (n + 1))) := leBut_put
  exact h _ k (S.but k (Hp.put_self ..) ((hc.app hv).but hh k))
theorem c_hSet {v : Value} {c : Cell} {k : Int} {u : Tok} {Q : Unit → St → Prop} (S : Rep a st.H cs fs) (h0 : 0 ≤ k) (hk : k.toNat < cs.length) (hl : cs.length ≤ 1000) (hv : IsCell st.H v c) (h : ∀ H', LeBut a.hl st.H H' → Rep a H' (cs.set k.toNat c) fs → Q () ⟨st.m, H'⟩) : wpC C (setItem (.ref a.hl) (.int k u) v) Q st := by
  obtain ⟨vs, n, hh, hc⟩ := S.heap
  refine c_setItem hh h0 (by omega) (by rw [hc.1]; exact hk) ?_
  have kk : LeBut a.hl st.H (st.H.put a.hl (lstO (vs.set k.toNat v) n)) := leBut_put
  exact h _ kk (S.but kk (Hp.put_self ..) ((hc.set hv).but hh kk))
theorem Rep.cell {H H' : Hp} (S : Rep a H cs fs) {v : Value} {c : Cell} (h : IsCell H v c) (k : LeBut a.hl H H') : IsCell H' v c := by
  obtain ⟨vs, n, hh, hc⟩ := S.heap
  exact h.but hh k

theorem s_push (ok : C.Ok) (hlev : C.lev ≤ 28) {v : Value} {c : Cell} {Q : Value → St → Prop} (S : Rep a st.H cs fs) (hlen : cs.length ≤ 900) (hv : IsCell st.H v c)
    (h : ∀ H' t, LeBut a.hl st.H H' → Rep a H' (cs ++ [c]) fs → Q (.int cs.length t) ⟨st.m, H'⟩) : codeC C (.ref 201) [.ref a.st, v] Q st := by
  refine' c_def (f := 201) (binds := [("self", .ref a.st), ("cell", v)]) ok ?ho ?hcd ?hbind ?hloc ?hlev ?hco ?hgen ?hk ?hcell ?_
  walk_at "enter"
  repeat walk_at "c"
  refine c_hLen S (by omega) fun t => ?_
  repeat walk_at "c"
  refine ⟨fun e => absurd (of_decide_eq_true e) (by omega), fun _ => ?_⟩
  repeat walk_at "c"
  refine c_hMethod S ?_
  repeat walk_at "c"
  refine c_hApp S (by omega) hv fun H' k S' => ?_
  refine ⟨rfl, ?_⟩
  repeat walk_at "c"
  exact h _ _ k S'
theorem s_new_var (ok : C.Ok) (hlev : C.lev ≤ 27) {Q : Value → St → Prop} (S : Rep a st.H cs fs) (hlen : cs.length ≤ 900)
    (h : ∀ H' v, LeBut a.hl st.H H' → Rep a H' (cs ++ [(0, (cs.length : Int))]) fs → IsCell H' v (0, (cs.length : Int)) → Q v ⟨st.m, H'⟩) : codeC C (.ref 208) [.ref a.st] Q st := by
  refine' c_def (f := 208) (binds := [("self", .ref a.st)]) ok ?ho ?hcd ?hbind ?hloc ?hlev ?hco ?hgen ?hk ?hcell ?_
  walk_at "enter"
  repeat walk_at "c"
  refine c_hLen S (by omega) fun t => ?_
  repeat walk_at "c"
  refine c_newTupleG (by rw [sizeLine_eq]; simp) fun H1 p k1 hp hp1 => ?_
  have S1 := S.mono k1
  have hc1 : IsCell H1 (.ref p) (0, (cs.length : Int)) := ⟨p, _, _, rfl, hp1⟩
  walk_at "c"
  walk_at "c"
  refine c_ExprV ok ?_
  repeat walk_at "c"
  refine c_call (s_push ok (by omega) (by exact S1) (by omega) (by exact hc1) fun H2 t k2 S2 => ?_)
  refine ⟨fun _ => nofun, ?_⟩
  repeat walk_at "c"
  exact h _ _ (k1.but.trans k2) S2 (S1.cell hc1 k2)
theorem s_globalise (ok : C.Ok) (hlev : C.lev ≤ 24) {v : Value} {c : Cell} {Q : Value → St → Prop} (S : Rep a st.H cs fs) (W : Wf cs) (hv : IsCell st.H v c) (hc : CellOk cs c) (hf : deref cs c = c) (h : ∀ r, IsCell st.H r c → Q r st) :
    codeC C (.ref 257) [.ref a.st, v] Q st := by
  refine' c_def (f := 257) (binds := [("self", .ref a.st), ("cell", v)]) ok ?ho ?hcd ?hbind ?hloc ?hlev ?hco ?hgen ?hk ?hcell ?_
  walk_at "enter"
  repeat walk_at "c"
  refine c_call (s_deref ok (by omega) S W hv hc fun r hr => ?_)
  rw [hf] at hr
  repeat walk_at "c"
  refine ⟨fun e => absurd (of_decide_eq_true e) hc.1, fun _ => ?_⟩
  repeat walk_at "c"
  exact h r hr
end

def fresh (n k : Nat) : List Cell := (List.range k).map fun i => (0, ((n + i : Nat) : Int))
theorem fresh_len (n k : Nat) : (fresh n k).length = k := by unfold fresh; simp
theorem fresh_s (n k : Nat) : fresh n (k + 1) = fresh n k ++ [(0, ((n + k : Nat) : Int))] := by unfold fresh; rw [List.range_succ, List.map_append]; rfl
theorem set_step {X ds tl : List Cell} {i : Nat} {d : Cell} (hd : ds[i]? = some d) (hl : ds.length = tl.length) : (X ++ ds.take i ++ tl.drop i).set (X.length + i) d = X ++ ds.take (i + 1) ++ tl.drop (i + 1) := by
  have hi := (List.getElem?_eq_some_iff.mp hd).1
  have e1 : ds.take (i + 1) = ds.take i ++ [d] := by rw [List.take_add_one, hd]; rfl
  have e2 : tl.drop i = tl[i]'(by omega) :: tl.drop (i + 1) := List.drop_eq_getElem_cons (by omega)
  have e3 : (X ++ ds.take i).length = X.length + i := by rw [List.length_append, List.length_take]; omega
  rw [e1, e2, ← e3, List.set_append_right _ _ (Nat.le_refl _), Nat.sub_self]
  simp only [List.set_cons_zero, List.append_assoc, List.cons_append, List.nil_append]
section
variable {C : Ctx} {st : St} {a : StoA} {cs fs : List Cell}
theorem s_reserve (ok : C.Ok) (hlev : C.lev ≤ 27) {k : Nat} {u : Tok} {Q : Value → St → Prop} (S : Rep a st.H cs fs) (hlen : cs.length + k ≤ 900)
    (h : ∀ H' t, LeBut a.hl st.H H' → Rep a H' (cs ++ fresh cs.length k) fs → Q (.int cs.length t) ⟨st.m, H'⟩) : codeC C (.ref 215) [.ref a.st, .int k u] Q st := by
  refine' c_def (f := 215) (binds := [("self", .ref a.st), ("count", .int k u)]) ok ?ho ?hcd ?hbind ?hloc ?hlev ?hco ?hgen ?hk ?hcell ?_
  walk_at "enter"
  repeat walk_at "c"
  refine c_hLen S (by omega) fun t => ?_
  repeat walk_at "c"
  refine ⟨fun e => absurd (of_decide_eq_true e) (by omega), fun _ => ?_⟩
  repeat walk_at "c"
  refine c_range1 fun rl v1 v2 hrl => ?_
  have S1 := S.put (o := rngO 0 k 1 v1 u v2) hrl
  have k1 : Le st.H (st.H.put rl (rngO 0 k 1 v1 u v2)) := le_put hrl
  refine src_range (n := k) (fun i st' => LeBut a.hl st.H st'.H ∧ Rep a st'.H (cs ++ fresh cs.length i) fs ∧ st'.m "self" = some (.ref a.st) ∧ ∃ t, st'.m "first" = some (.int cs.length t)) ok (Hp.put_self ..) (small_up (by omega)) (size_up k)
    ⟨k1.but, by simpa [fresh] using S1, rfl, _, rfl⟩ ?_ ?_
  · rintro i ⟨m', H'⟩ hi ⟨hle, S2, hm1, t1, hm2⟩ t2
    dsimp only at hle S2 hm1 hm2
    refine c_assignN (lk hsc rfl) ok ?_
    repeat walk_at "c"
    refine c_hMethod S2 ?_
    repeat walk_at "c"
    refine c_newTupleG (by rw [sizeLine_eq]; simp) fun H3 p k3 hp hp3 => ?_
    have S3 := S2.mono k3
    repeat walk_at "c"
    refine c_hApp (c := (0, ((cs.length + i : Nat) : Int))) S3 (by rw [List.length_append, fresh_len]; omega) (by rw [show ((cs.length + i : Nat) : Int) = (cs.length : Int) + (0 + (i : Int) * 1) by omega]; exact ⟨p, _, _, rfl, hp3⟩) fun H4 k4 S4 => ?_
    refine ⟨rfl, ?_⟩
    repeat walk_at "c"
    rw [List.append_assoc, ← fresh_s] at S4
    exact ⟨(hle.thenLe k3).trans k4, S4, hm1, _, hm2⟩
  · rintro ⟨m', H'⟩ ⟨hle, S2, hm1, t1, hm2⟩
    dsimp only at hle S2 hm1 hm2
    repeat walk_at "c"
    exact h _ _ hle S2
theorem s_new_block0 (ok : C.Ok) (hlev : C.lev ≤ 26) {u : Tok} {Q : Value → St → Prop} (S : Rep a st.H cs fs) (hlen : cs.length + 2 ≤ 900)
    (h : ∀ H' v, LeBut a.hl st.H H' → Rep a H' (cs ++ fresh cs.length 2) fs → IsCell H' v (3, (cs.length : Int)) → Q v ⟨st.m, H'⟩) : codeC C (.ref 320) [.ref a.st, .int 0 u] Q st := by
  refine' c_def (f := 320) (binds := [("self", .ref a.st), ("f", .int 0 u)]) ok ?ho ?hcd ?hbind ?hloc ?hlev ?hco ?hgen ?hk ?hcell ?_
  walk_at "enter"
  repeat walk_at "c"
  refine ⟨fun _ => ?_, fun e => absurd e (by decide)⟩
  repeat walk_at "c"
  refine c_call (s_reserve (k := 2) ok (by omega) S (by omega) fun H1 t k1 S1 => ?_)
  repeat walk_at "c"
  refine c_newTupleG (by rw [sizeLine_eq]; simp) fun H2 p k2 hp hp2 => ?_
  repeat walk_at "c"
  exact h _ _ (k1.thenLe k2) (S1.mono k2) ⟨p, _, _, rfl, hp2⟩
theorem s_new_block1 (ok : C.Ok) (hlev : C.lev ≤ 26) {f : Int} {u : Tok} {x : Int} {k : Nat} {Q : Value → St → Prop} (S : Rep a st.H cs fs) (hlen : cs.length + 1 + k ≤ 900) (hf : fs[f.toNat]? = some (x, (k : Int))) (hf0 : 0 < f) (hf1 : f < 1000)
    (h : ∀ H' v, LeBut a.hl st.H H' → Rep a H' (cs ++ [(6, f)] ++ (fresh cs.length (1 + k)).drop 1) fs → IsCell H' v (2, (cs.length : Int)) → Q v ⟨st.m, H'⟩) : codeC C (.ref 320) [.ref a.st, .int f u] Q st := by
  refine' c_def (f := 320) (binds := [("self", .ref a.st), ("f", .int f u)]) ok ?ho ?hcd ?hbind ?hloc ?hlev ?hco ?hgen ?hk ?hcell ?_
  walk_at "enter"
  repeat walk_at "c"
  refine ⟨fun e => absurd (of_decide_eq_true e) (by omega), fun _ => ?_⟩
  repeat walk_at "c"
  refine c_call (s_arity ok (by omega) S (by omega) hf1 hf fun t => ?_)
  repeat walk_at "c"
  rename_i t3
  have e1 : (1 : Int) + ((x, (k : Int)) : Cell).2 = ((1 + k : Nat) : Int) := by show (1 : Int) + k = _; omega
  rw [e1]
  refine c_call (s_reserve (k := 1 + k) ok (by omega) S (by omega) fun H1 t k1 S1 => ?_)
  repeat walk_at "c"
  refine c_newTupleG (by rw [sizeLine_eq]; simp) fun H2 p k2 hp hp2 => ?_
  have S2 := S1.mono k2
  repeat walk_at "c"
  refine c_hSet (c := (6, f)) S2 (by omega) (by rw [List.length_append, fresh_len]; omega) (by rw [List.length_append, fresh_len]; omega) ⟨p, _, _, rfl, hp2⟩ fun H3 k3 S3 => ?_
  have e2 : (cs ++ fresh cs.length (1 + k)).set (cs.length : Int).toNat (6, f) = cs ++ [(6, f)] ++ (fresh cs.length (1 + k)).drop 1 := by
    have := set_step (X := cs) (ds := (6, f) :: (fresh cs.length (1 + k)).drop 1) (tl := fresh cs.length (1 + k)) (i := 0) (d := (6, f)) rfl (by simp [fresh_len]; omega)
    simp only [List.take_zero, List.append_nil, List.drop_zero, Nat.add_zero, Nat.zero_add, List.take_succ_cons] at this
    rw [show ((cs.length : Int)).toNat = cs.length by omega]; exact this
  rw [e2] at S3
  repeat walk_at "c"
  refine c_newTupleG (by rw [sizeLine_eq]; simp) fun H4 p2 k4 hp2' hp4 => ?_
  repeat walk_at "c"
  exact h _ _ (((k1.thenLe k2).trans k3).thenLe k4) (S3.mono k4) ⟨p2, _, _, rfl, hp4⟩
end

section
variable {C : Ctx} {st : St} {a : StoA} {cs fs : List Cell}
theorem s_new_block (ok : C.Ok) (hlev : C.lev ≤ 26) {f : Int} {u : Tok} {k : Nat} {Q : Value → St → Prop} (S : Rep a st.H cs fs) (hlen : cs.length + 1 + k ≤ 900) (hf : (f = 0 ∧ k = 2) ∨ (0 < f ∧ f < 1000 ∧ ∃ x, fs[f.toNat]? = some (x, (k : Int))))
    (h : ∀ H' v tl, LeBut a.hl st.H H' → tl.length = k → Rep a H' ((if f = 0 then cs else cs ++ [(6, f)]) ++ tl) fs → IsCell H' v (if f = 0 then 3 else 2, (cs.length : Int)) → Q v ⟨st.m, H'⟩) : codeC C (.ref 320) [.ref a.st, .int f u] Q st := by
  rcases hf with ⟨rfl, rfl⟩ | ⟨h0, h1, x, hx⟩
  · exact s_new_block0 ok hlev S (by omega) fun H' v k1 S1 hv => h H' v (fresh cs.length 2) k1 (fresh_len _ _) S1 hv
  · have hne : f ≠ 0 := by omega
    refine s_new_block1 ok hlev S hlen hx h0 h1 fun H' v k1 S1 hv => h H' v ((fresh cs.length (1 + k)).drop 1) k1 (by rw [List.length_drop, fresh_len]; omega) ?_ ?_
    · rw [if_neg hne]; exact S1
    · rw [if_neg hne]; exact hv
theorem s_new_struct (ok : C.Ok) (hlev : C.lev ≤ 22) {f : Int} {u : Tok} {cl : Addr} {cvs : List Value} {cn : Nat} {ds : List Cell} {Q : Value → St → Prop} (S : Rep a st.H cs fs) (W : Wf cs) (hcl : st.H cl = some (lstO cvs cn)) (hds : CellsAre st.H cvs ds) (hne : cl ≠ a.hl)
    (hok : ∀ d ∈ ds, CellOk cs d ∧ deref cs d = d) (hd0 : ds ≠ []) (hd5 : ds.length ≤ 5)
    (hf : (f = 0 ∧ ds.length = 2) ∨ (0 < f ∧ f < 1000 ∧ ∃ x, fs[f.toNat]? = some (x, (ds.length : Int))))
    (h : ∀ H' v, LeBut a.hl st.H H' → Rep a H' (cs ++ (if f = 0 then ds else (6, f) :: ds)) fs → IsCell H' v (if f = 0 then 3 else 2, (cs.length : Int)) → Q v ⟨st.m, H'⟩) : codeC C (.ref 341) [.ref a.st, .int f u, .ref cl] Q st := by
  have hclen := W.len
  have hcvl := hds.1
  have hpos : 0 < ds.length := List.length_pos_iff.mpr hd0
  have hsz := sizeLine_eq
  refine' c_def (f := 341) (binds := [("self", .ref a.st), ("f", .int f u), ("cells", .ref cl)]) ok ?ho ?hcd ?hbind ?hloc ?hlev ?hco ?hgen ?hk ?hcell ?_
  walk_at "enter"
  repeat walk_at "c"
  refine c_len hcl (by omega) fun t => ?_
  repeat walk_at "c"
  refine ⟨fun e => absurd (eq_of_beq e) (by omega), fun _ => ?_⟩
  repeat walk_at "c"
  refine c_newListG (by rw [sizeLine_eq]; simp) fun H1 wl k1 nwl hwl => ?_
  dsimp only at k1 nwl
  have n1 : wl ≠ a.hl := by
    obtain ⟨_, _, e, _⟩ := S.heap
    exact Ne.symm (ne_new e nwl)
  have n2 : wl ≠ a.fl := by
    obtain ⟨_, _, e, _⟩ := S.fun_
    exact Ne.symm (ne_new e nwl)
  have n3 : cl ≠ wl := ne_new hcl nwl
  have S1 := S.mono k1
  have hcl1 := k1 _ _ hcl
  have hds1 := hds.mono k1
  repeat walk_at "c"
  refine src_list (fun i st' => LeBut wl H1 st'.H ∧ (∃ ws k, st'.H wl = some (lstO ws k) ∧ CellsAre st'.H ws (ds.take i)) ∧ st'.m "self" = some (.ref a.st) ∧ st'.m "f" = some (.int f u) ∧ st'.m "values" = some (.ref wl)) ok hcl1 (fun i st' ⟨k, _⟩ => k _ _ hcl1 n3)
    ⟨LeBut.refl _ _, ⟨[], 0, hwl, rfl, fun i v c e => by simp at e⟩, rfl, rfl, rfl⟩ ?_ ?_ (.inl fun _ _ => rfl)
  · rintro i ⟨m', H'⟩ v hv ⟨hle, ⟨ws, k, hw1, hc1⟩, hm1, hm2, hm3⟩
    dsimp only at hle hw1 hc1 hm1 hm2 hm3
    have hi := (List.getElem?_eq_some_iff.mp hv).1
    obtain ⟨d, hd⟩ : ∃ d, ds[i]? = some d := ⟨ds[i]'(by omega), by simp⟩
    obtain ⟨hdo, hdd⟩ := hok d (List.mem_of_getElem? hd)
    have hvd := (hds1.2 i v d hv hd).but hwl hle
    have S2 : Rep a H' cs fs := S1.list hwl n1 n2 hle
    have hwsl : ws.length = _ := hc1.1
    rw [List.length_take] at hwsl
    refine c_assignN (lk hsc rfl) ok ?_
    repeat walk_at "c"
    refine c_call (s_globalise ok (by omega) (by exact S2) W (by exact hvd) hdo hdd fun r hr => ?_)
    repeat walk_at "c"
    refine c_append hw1 (by omega) ?_
    refine ⟨rfl, ?_⟩
    repeat walk_at "c"
    have k2 : LeBut wl H' (H'.put wl (lstO (ws ++ [r]) (k + 1))) := leBut_put
    refine ⟨hle.trans k2, ⟨_, _, Hp.put_self .., ?_⟩, hm1, hm2, hm3⟩
    rw [List.take_add_one, hd]
    exact (hc1.app hr).but hw1 k2
  · rintro ⟨m', H'⟩ ⟨hle, ⟨ws, k, hw1, hc1⟩, hm1, hm2, hm3⟩
    dsimp only at hle hw1 hc1 hm1 hm2 hm3
    rw [hcvl, List.take_length] at hc1
    have S2 : Rep a H' cs fs := S1.list hwl n1 n2 hle
    have hle0 : Le st.H H' := fun y o e => hle y o (k1 y o e) (ne_new e nwl)
    have hwl2 : ws.length = ds.length := hc1.1
    repeat walk_at "c"
    refine c_call (s_new_block (k := ds.length) ok (by omega) (by exact S2) (by omega) hf fun H2 v tl k2 htl R2 hv2 => ?_)
    dsimp only at k2
    have hw2 : H2 wl = some (lstO ws k) := k2 _ _ hw1 n1
    have hc2 : CellsAre H2 ws ds := by
      obtain ⟨_, _, e, _⟩ := S2.heap
      exact hc1.but e k2
    obtain ⟨X, hX⟩ : ∃ X, X = (if f = 0 then cs else cs ++ [(6, f)]) := ⟨_, rfl⟩
    have hXl : (X.length : Int) = if ((if f = 0 then 3 else 2, (cs.length : Int)) : Cell).1 = 3 then ((if f = 0 then 3 else 2, (cs.length : Int)) : Cell).2 else ((if f = 0 then 3 else 2, (cs.length : Int)) : Cell).2 + 1 := by
      rw [hX]
      by_cases e : f = 0
      · rw [if_pos e]; simp [e]
      · rw [if_neg e]; simp [e]
    have hXe : X ++ ds = cs ++ (if f = 0 then ds else (6, f) :: ds) := by
      rw [hX]
      by_cases e : f = 0
      · rw [if_pos e, if_pos e]
      · rw [if_neg e, if_neg e]; simp
    have hX9 : X.length ≤ 41 := by
      rw [hX]
      split
      · omega
      · rw [List.length_append]; simp; omega
    rw [← hX] at R2
    repeat walk_at "c"
    refine c_call (s_base ok (by omega) hv2 fun t => ?_)
    rw [← hXl]
    repeat walk_at "c"
    refine src_list (fun i st' => LeBut a.hl H2 st'.H ∧ Rep a st'.H (X ++ ds.take i ++ tl.drop i) fs ∧ st'.m "self" = some (.ref a.st) ∧ st'.m "made" = some v ∧ ∃ t, st'.m "place" = some (.int ((X.length + i : Nat) : Int) t)) ok hw2 (fun i st' ⟨k, _⟩ => k _ _ hw2 n1)
      ⟨LeBut.refl _ _, by simpa using R2, by walk_at "look", by walk_at "look", t, by walk_at "look"⟩ ?_ ?_ (.inl fun _ _ => rfl)
    · rintro i ⟨m3, H3⟩ w hw' ⟨hle3, R3, hm4, hm5, t3, hm6⟩
      dsimp only at hle3 R3 hm4 hm5 hm6
      have hi := (List.getElem?_eq_some_iff.mp hw').1
      obtain ⟨d, hd⟩ : ∃ d, ds[i]? = some d := ⟨ds[i]'(by omega), by simp⟩
      have hwd := (R2.cell (hc2.2 i w d hw' hd) hle3)
      have hlen3 : (X ++ ds.take i ++ tl.drop i).length = X.length + ds.length := by simp only [List.length_append, List.length_take, List.length_drop]; omega
      refine c_assignN (lk hsc rfl) ok ?_
      repeat walk_at "c"
      refine c_hSet R3 (by omega) (by rw [hlen3]; omega) (by rw [hlen3]; omega) hwd fun H4 k4 R4 => ?_
      rw [show ((X.length + i : Nat) : Int).toNat = X.length + i by omega, set_step hd htl.symm] at R4
      repeat walk_at "c"
      refine c_AugName ok (lk hsc rfl) (by walk_at "look") ?_
      repeat walk_at "c"
      exact ⟨hle3.trans k4, R4, hm4, hm5, _, by rw [show ((X.length + (i + 1) : Nat) : Int) = ((X.length + i : Nat) : Int) + 1 by omega]; walk_at "look"⟩
    · rintro ⟨m3, H3⟩ ⟨hle3, R3, hm4, hm5, t3, hm6⟩
      dsimp only at hle3 R3 hm4 hm5 hm6
      rw [hwl2, List.take_length, List.drop_of_length_le (by omega), List.append_nil, hXe] at R3
      repeat walk_at "c"
      exact h _ _ ((hle0.but.trans k2).trans hle3) R3 (R2.cell hv2 hle3)
end

def UrnR (H : Hp) (ua sl : Addr) : Prop := ∃ x t y u n vs k, H ua = some (lstO [.int x t, .ref sl, .int y u] n) ∧ 0 ≤ y ∧ H sl = some (lstO vs k) ∧ (∀ v ∈ vs, ∃ i t, v = .int i t) ∧ vs.length ≤ 1000
theorem UrnR.keep {H H' : Hp} {ua sl : Addr} (h : UrnR H ua sl) (k : ∀ x o, H x = some o → (x = ua ∨ x = sl) → H' x = some o) : UrnR H' ua sl :=
  let ⟨x, t, y, u, n, vs, kk, h1, h2, h3, h4⟩ := h
  ⟨x, t, y, u, n, vs, kk, k _ _ h1 (.inl rfl), h2, k _ _ h3 (.inr rfl), h4⟩
theorem c_cut {C : Ctx} {st : St} {x : Stmt} {rest : List Stmt} {Q : Flow → St → Prop} (J : St → Prop) (h1 : wpC C (exec x C.env) (fun fl st' => fl = .next ∧ J st') st) (h2 : ∀ st', J st' → wpC C (execs rest C.env) Q st') : wpC C (execs (x :: rest) C.env) Q st :=
  c_cons (h1.mono fun fl st' ⟨e, j⟩ => by subst e; exact seq_next (h2 st' j))
section
variable {C : Ctx} {st : St}
theorem s_pick (ok : C.Ok) (hlev : C.lev ≤ 29) {ua sl : Addr} {f : Int} {t : Tok} {Q : Value → St → Prop} (U : UrnR st.H ua sl) (hne : ua ≠ sl) (h0 : 0 < f) (hlog : f.natAbs.log2 < 9000)
    (h : ∀ H' r u, LeBut ua st.H H' → UrnR H' ua sl → 0 ≤ r → r < f → Q (.int r u) ⟨st.m, H'⟩) :
    codeC C (.ref 508) [.ref ua, .int f t] Q st := by
  obtain ⟨x, tx, y, ty, n, vs, k, hu, hy, hs, hvs, hlen⟩ := U
  have hsz := sizeLine_eq
  have fin : ∀ H' x' tx' y' ty' n', LeBut ua st.H H' → H' ua = some (lstO [.int x' tx', .ref sl, .int y' ty'] n') → 0 ≤ y' → ∀ t1 t2, UrnR (H'.put ua (lstO ([Value.int x' tx', .ref sl, .int y' ty'].set (0 : Int).toNat (.int (x'.fdiv f) t2)) n')) ua sl ∧ Q (.int (x'.fmod f) t1) ⟨st.m, H'.put ua (lstO ([Value.int x' tx', .ref sl, .int y' ty'].set (0 : Int).toNat (.int (x'.fdiv f) t2)) n')⟩ := fun H' x' tx' y' ty' n' kk hu' hy' t1 t2 => by
    have k2 : LeBut ua H' (H'.put ua (lstO ([Value.int x' tx', .ref sl, .int y' ty'].set (0 : Int).toNat (.int (x'.fdiv f) t2)) n')) := leBut_put
    have hU : UrnR (H'.put ua (lstO ([Value.int x' tx', .ref sl, .int y' ty'].set (0 : Int).toNat (.int (x'.fdiv f) t2)) n')) ua sl := ⟨_, t2, y', ty', n', vs, k, Hp.put_self .., hy', k2 _ _ (kk _ _ hs (Ne.symm hne)) (Ne.symm hne), hvs, hlen⟩
    exact ⟨hU, h _ _ _ (kk.trans k2) hU (Int.fmod_nonneg_of_pos _ h0) (Int.fmod_lt_of_pos _ h0)⟩
  refine' c_def (f := 508) (binds := [("urn", .ref ua), ("faces", .int f t)]) ok ?ho ?hcd ?hbind ?hloc ?hlev ?hco ?hgen ?hk ?hcell ?_
  walk_at "enter"
  refine c_cut (fun st' => st'.m "urn" = some (.ref ua) ∧ (∃ t, st'.m "faces" = some (.int f t)) ∧ ∃ x tx y ty n, LeBut ua st.H st'.H ∧ st'.H ua = some (lstO [.int x tx, .ref sl, .int y ty] n) ∧ 0 ≤ y) ?_ ?_
  · repeat walk_at "c"
    refine c_item hu (by decide) (by decide) rfl ?_
    repeat walk_at "c"
    refine ⟨fun _ => ?_, fun _ => ?_⟩
    · repeat walk_at "c"
      refine c_item hu (by decide) (by decide) rfl ?_
      repeat walk_at "c"
      refine c_item hu (by decide) (by decide) rfl ?_
      repeat walk_at "c"
      refine c_len hs (by omega) fun t1 => ?_
      repeat walk_at "c"
      refine ⟨fun e => ?_, fun _ => ?_⟩
      · have e : y < (vs.length : Int) := of_decide_eq_true e
        obtain ⟨v, hv⟩ : ∃ v, vs[y.toNat]? = some v := ⟨vs[y.toNat]'(by omega), by simp⟩
        obtain ⟨z, tz, rfl⟩ := hvs v (List.mem_of_getElem? hv)
        repeat walk_at "C"
        refine c_item hu (by decide) (by decide) rfl ?_
        repeat walk_at "C"
        refine c_item hu (by decide) (by decide) rfl ?_
        repeat walk_at "C"
        refine c_item hs hy (by omega) hv ?_
        repeat walk_at "C"
        refine c_int1 ?_
        repeat walk_at "C"
        refine c_abs fun t2 => ?_
        repeat walk_at "C"
        refine c_setItem hu (by decide) (by decide) (by simp) ?_
        refine c_put fun H2 k2 hu2 => ?_
        repeat walk_at "C"
        refine c_AugSub ?_
        repeat walk_at "C"
        refine c_getItem hu2 (by decide) (by decide) rfl ?_
        repeat walk_at "C"
        refine c_setItem hu2 (by decide) (by decide) (by simp) ?_
        refine c_put fun H3 k3 hu3 => ?_
        repeat walk_at "C"
        exact ⟨rfl, by walk_at "look", ⟨t, by walk_at "look"⟩, _, _, _, _, _, k2.trans k3, hu3, by omega⟩
      · repeat walk_at "C"
        exact ⟨rfl, by walk_at "look", ⟨t, by walk_at "look"⟩, _, _, _, _, _, LeBut.refl _ _, hu, hy⟩
    · repeat walk_at "C"
      exact ⟨rfl, by walk_at "look", ⟨t, by walk_at "look"⟩, _, _, _, _, _, LeBut.refl _ _, hu, hy⟩
  · rintro ⟨m', H'⟩ ⟨hm1, ⟨t', hm2⟩, x', tx', y', ty', n', k', hu', hy'⟩
    dsimp only at hm1 hm2 k' hu'
    repeat walk_at "c"
    refine c_item hu' (by decide) (by decide) rfl ?_
    repeat walk_at "c"
    refine c_mod (by omega) fun t1 => ?_
    repeat walk_at "c"
    refine c_AugSub ?_
    repeat walk_at "c"
    refine c_getItem hu' (by decide) (by decide) rfl ?_
    repeat walk_at "c"
    refine c_ifloordiv (by omega) hlog fun t2 => ?_
    repeat walk_at "c"
    refine c_setItem hu' (by decide) (by decide) (by simp) ?_
    repeat walk_at "c"
    exact (fin H' x' tx' y' ty' n' k' hu' hy' t1 t2).2
end

inductive Kd where
  | str (s : Str)
  | cell (c : Cell)
deriving DecidableEq
structure Node where
  kd : Kd
  parts : List Nat
def KdIs (H : Hp) (v : Value) : Kd → Prop
  | .str s => ∃ t, v = .str s t
  | .cell c => IsCell H v c
def NatsAre (vs : List Value) (ns : List Nat) : Prop := vs.length = ns.length ∧ ∀ (i : Nat) v n, vs[i]? = some v → ns[i]? = some n → ∃ t, v = .int n t
def NodeIs (H : Hp) (v : Value) (nd : Node) : Prop := ∃ d kv pl n pvs m, v = .ref d ∧ H d = some (lstO [kv, .ref pl] n) ∧ KdIs H kv nd.kd ∧ H pl = some (lstO pvs m) ∧ NatsAre pvs nd.parts
def NodesR (H : Hp) (nl : Addr) (nds : List Node) : Prop := ∃ nvs n, H nl = some (lstO nvs n) ∧ nvs.length = nds.length ∧ ∀ (i : Nat) v nd, nvs[i]? = some v → nds[i]? = some nd → NodeIs H v nd
theorem KdIs.mono {H H' : Hp} {v : Value} {k : Kd} (h : KdIs H v k) (l : Le H H') : KdIs H' v k := by
  cases k with
  | str s => exact h
  | cell c => exact IsCell.mono h l
theorem NodeIs.mono {H H' : Hp} {v : Value} {k : Node} (h : NodeIs H v k) (l : Le H H') : NodeIs H' v k :=
  let ⟨d, kv, pl, n, pvs, m, a, b, c, e, f⟩ := h
  ⟨d, kv, pl, n, pvs, m, a, l _ _ b, c.mono l, l _ _ e, f⟩
theorem NodesR.mono {H H' : Hp} {nl : Addr} {nds : List Node} (h : NodesR H nl nds) (l : Le H H') : NodesR H' nl nds :=
  let ⟨nvs, n, a, b, c⟩ := h
  ⟨nvs, n, l _ _ a, b, fun i v nd x y => (c i v nd x y).mono l⟩
theorem NatsAre.at {vs : List Value} {ns : List Nat} (h : NatsAre vs ns) {i n : Nat} (e : ns[i]? = some n) : ∃ t, vs[i]? = some (.int n t) := by
  have hi := (List.getElem?_eq_some_iff.mp e).1
  have hv : vs[i]? = some (vs[i]'(by rw [h.1]; exact hi)) := by simp
  obtain ⟨t, ht⟩ := h.2 i _ n hv e
  exact ⟨t, by rw [hv, ht]⟩
section
variable {C : Ctx} {st : St}
theorem c_neAt {a b : Value} {k : Bool} {Q : Value → St → Prop} (hr : ∀ h₀ Z s, OkH C h₀ → Holds C h₀ Z st s → PySem.SeqAt.RcNeAt C.A s a b k) (h : Q (.bool k) st) : wpC C (compareOp .NotEq a b) Q st :=
  fun h₀ Z s o hs => hr h₀ Z s o hs pw C.w _ _ ⟨st, hs, h⟩
theorem c_kdEq {v : Value} {k : Kd} {s : Str} {t : Tok} {Q : Value → St → Prop} (ok : C.Ok) (hl : C.lev ≤ 31) (hv : KdIs st.H v k) (h : Q (.bool (decide (k = .str s))) st) : wpC C (compareOp .Eq v (.str s t)) Q st := by
  cases k with
  | str s' =>
    obtain ⟨t', rfl⟩ := hv
    refine c_eqAt (fun _ _ s₀ _ _ => PySem.SeqAt.RcAt.str_str s' t' s t) ?_
    have e : (s' == s) = decide (Kd.str s' = Kd.str s) := by
      by_cases q : s' = s
      · subst q; simp
      · have : (s' == s) = false := beq_eq_false_iff_ne.mpr q
        rw [this, decide_eq_false (fun z => q (by injection z))]
    rw [e]; exact h
  | cell c =>
    obtain ⟨a, t1, t2, rfl, ha⟩ := hv
    refine c_eqAt (fun _ _ _ _ hs => PySem.SeqAt.RcAt.tuple_str s t ⟨_, (hs.N _ _ ha).1, rfl, _, rfl⟩ (units_ok ok hl)) ?_
    rw [decide_eq_false (by intro q; cases q)] at h; exact h
theorem rcne_cell {h₀ : Heap} {Z : Hp} {s : Shared} (ok : C.Ok) (hl : C.lev ≤ 31) (hs : Holds C h₀ Z st s) {a b : Addr} {c d : Cell} (ha : IsCell st.H (.ref a) c) (hb : IsCell st.H (.ref b) d) : PySem.SeqAt.RcNeAt C.A s (.ref a) (.ref b) (!decide (c = d)) := by
  obtain ⟨a', t, u, e, ha⟩ := ha
  cases e
  obtain ⟨b', t', u', e, hb⟩ := hb
  cases e
  have k := PySem.SeqAt.RcNeAt.tuples (A := C.A) (s := s) (items := #[.int c.1 t, .int c.2 u]) (items2 := #[.int d.1 t', .int d.2 u']) (e := fun j => if j = 0 then c.1 == d.1 else c.2 == d.2) ⟨_, (hs.N _ _ ha).1, rfl, _, rfl⟩ ⟨_, (hs.N _ _ hb).1, rfl, _, rfl⟩ (units_ok ok hl) (fun j h1 h2 => by
    match j, h1 with
    | 0, _ => exact PySem.SeqAt.EqAt.int_int _ _ _ _
    | 1, _ => exact PySem.SeqAt.EqAt.int_int _ _ _ _)
  have e : ((List.range (min (#[Value.int c.1 t, .int c.2 u]).size (#[Value.int d.1 t', .int d.2 u']).size)).all (fun j => if j = 0 then c.1 == d.1 else c.2 == d.2) && (#[Value.int c.1 t, .int c.2 u]).size == (#[Value.int d.1 t', .int d.2 u']).size) = decide (c = d) := by
    show ((List.range 2).all _ && true) = _
    rw [Bool.and_true, Bool.eq_iff_iff]
    simp only [List.all_eq_true, List.mem_range, decide_eq_true_eq, Prod.ext_iff]
    constructor
    · intro h
      have h0 := h 0 (by omega)
      have h1 := h 1 (by omega)
      simpa using And.intro h0 h1
    · rintro ⟨h0, h1⟩ j _
      split <;> simp [h0, h1]
  rw [e] at k
  exact k
theorem c_kdNe {v w : Value} {k l : Kd} {Q : Value → St → Prop} (ok : C.Ok) (hl : C.lev ≤ 31) (hv : KdIs st.H v k) (hw : KdIs st.H w l) (h : Q (.bool (!decide (k = l))) st) : wpC C (compareOp .NotEq v w) Q st := by
  cases k with
  | str s' =>
    obtain ⟨t', rfl⟩ := hv
    cases l with
    | str s =>
      obtain ⟨t, rfl⟩ := hw
      refine c_neAt (fun _ _ s₀ _ _ => PySem.SeqAt.RcNeAt.str_str s' t' s t) ?_
      have e : (s' == s) = decide (Kd.str s' = Kd.str s) := by
        by_cases q : s' = s
        · subst q; simp
        · have : (s' == s) = false := beq_eq_false_iff_ne.mpr q
          rw [this, decide_eq_false (fun z => q (by injection z))]
      rw [e]; exact h
    | cell c =>
      obtain ⟨a, t1, t2, rfl, ha⟩ := hw
      refine c_neAt (fun _ _ _ _ hs => PySem.SeqAt.RcNeAt.str_tuple s' t' ⟨_, (hs.N _ _ ha).1, rfl, _, rfl⟩ (units_ok ok hl)) ?_
      rw [decide_eq_false (by intro q; cases q)] at h; exact h
  | cell c =>
    cases l with
    | str s =>
      obtain ⟨t, rfl⟩ := hw
      obtain ⟨a, t1, t2, rfl, ha⟩ := hv
      refine c_neAt (fun _ _ _ _ hs => PySem.SeqAt.RcNeAt.tuple_str s t ⟨_, (hs.N _ _ ha).1, rfl, _, rfl⟩ (units_ok ok hl)) ?_
      rw [decide_eq_false (by intro q; cases q)] at h; exact h
    | cell d =>
      obtain ⟨a, t1, t2, rfl, ha⟩ := id hv
      obtain ⟨b, t3, t4, rfl, hb⟩ := id hw
      refine c_neAt (fun _ _ _ _ hs => rcne_cell (c := c) (d := d) ok hl hs hv hw) ?_
      have e : decide (c = d) = decide (Kd.cell c = Kd.cell d) := decide_eq_decide.mpr ⟨fun q => by rw [q], fun q => by injection q⟩
      rw [e]; exact h
end
structure Fo (L : List Nat) (rt : Nat → Nat) : Prop where
  lt : ∀ i < L.length, rt i < L.length
  in_ : ∀ i j : Nat, L[i]? = some j → j < L.length
  self : ∀ i : Nat, L[i]? = some i → rt i = i
  step : ∀ i j : Nat, L[i]? = some j → j ≠ i → rt j = rt i
  root : ∀ i < L.length, L[rt i]? = some (rt i)
  ht : ∃ ht : Nat → Nat, ∀ i j : Nat, L[i]? = some j → j ≠ i → ht j < ht i
section
variable {C : Ctx} {st : St}
theorem s_leader (ok : C.Ok) (hlev : C.lev ≤ 29) {ll : Addr} {lvs : List Value} {k : Nat} {L : List Nat} {rt : Nat → Nat} {x : Nat} {t : Tok} {Q : Value → St → Prop} (hll : st.H ll = some (lstO lvs k)) (hL : NatsAre lvs L) (hF : Fo L rt) (hx : x < L.length) (hlen : L.length ≤ 1000)
    (h : ∀ u, Q (.int (rt x) u) st) : codeC C (.ref 520) [.ref ll, .int x t] Q st := by
  obtain ⟨ht, hht⟩ := hF.ht
  refine' c_def (f := 520) (binds := [("leads", .ref ll), ("number", .int x t)]) ok ?ho ?hcd ?hbind ?hloc ?hlev ?hco ?hgen ?hk ?hcell ?_
  walk_at "enter"
  repeat walk_at "c"
  refine c_While (fun n st' => st'.H = st.H ∧ st'.m "leads" = some (.ref ll) ∧ ∃ y t, st'.m "number" = some (.int (y : Nat) t) ∧ y < L.length ∧ rt y = rt x ∧ n = ht y) ?_ _ ⟨rfl, rfl, x, t, rfl, hx, rfl, rfl⟩
  rintro n ⟨m', H'⟩ ⟨rfl, hm1, y, ty, hm2, hy, hr, rfl⟩
  dsimp only at hm1 hm2
  obtain ⟨j, hj⟩ : ∃ j, L[y]? = some j := ⟨L[y], by simp⟩
  obtain ⟨tj, hv⟩ := hL.at hj
  repeat walk_at "c"
  refine c_item hll (by omega) (by omega) (by rw [show ((y : Nat) : Int).toNat = y by omega]; exact hv) ?_
  repeat walk_at "c"
  refine ⟨fun e => ?_, fun e => ?_⟩
  · have e : j ≠ y := fun q => by subst q; simp at e
    repeat walk_at "c"
    refine c_item hll (by omega) (by omega) (by rw [show ((y : Nat) : Int).toNat = y by omega]; exact hv) ?_
    repeat walk_at "c"
    exact ⟨ht j, hht y j hj e, rfl, hm1, j, tj, rfl, hF.in_ y j hj, by rw [hF.step y j hj e, hr], rfl⟩
  · have e : j = y := by
      have e : (j : Int) = y := by simpa using e
      omega
    subst e
    repeat walk_at "c"
    rw [← hr, hF.self j hj] at h
    exact h _
end

def castP (p : Nat × Nat) : Cell := ((p.1 : Int), (p.2 : Int))
def pairsN (a b : Node) : List (Nat × Nat) := a.parts.zip b.parts
structure NdsOk (nds : List Node) : Prop where
  lt : ∀ (i : Nat) nd, nds[i]? = some nd → ∀ p ∈ nd.parts, p < nds.length
  len : ∀ (i j : Nat) a b, nds[i]? = some a → nds[j]? = some b → a.kd = b.kd → a.parts.length = b.parts.length
  two : ∀ (i : Nat) nd, nds[i]? = some nd → nd.parts.length ≤ 2
  small : nds.length ≤ 20
def kdAt (nds : List Node) (i : Nat) : Kd := ((nds[i]?).map Node.kd).getD (.str "")
def ptAt (nds : List Node) (i : Nat) : List Nat := ((nds[i]?).map Node.parts).getD []
structure JInv (nds : List Node) (I : Nat → List Nat → List (Nat × Nat) → Prop) (End : Bool → List Nat → Prop) : Prop where
  good : ∀ m L wk, I m L wk → (∃ rt, Fo L rt) ∧ L.length = nds.length ∧ (∀ p ∈ wk, p.1 < L.length ∧ p.2 < L.length) ∧ wk.length ≤ 9000
  fin : ∀ m L, I m L [] → End true L
  same : ∀ m L x y wk rt, I m L ((x, y) :: wk) → Fo L rt → rt x = rt y → ∃ m' < m, I m' L wk
  varL : ∀ m L x y wk rt, I m L ((x, y) :: wk) → Fo L rt → rt x ≠ rt y → kdAt nds (rt x) = .str "" → ∃ m' < m, I m' (L.set (rt x) (rt y)) wk
  varR : ∀ m L x y wk rt, I m L ((x, y) :: wk) → Fo L rt → rt x ≠ rt y → kdAt nds (rt x) ≠ .str "" → kdAt nds (rt y) = .str "" → ∃ m' < m, I m' (L.set (rt y) (rt x)) wk
  fail : ∀ m L x y wk rt, I m L ((x, y) :: wk) → Fo L rt → rt x ≠ rt y → kdAt nds (rt x) ≠ .str "" → kdAt nds (rt y) ≠ .str "" → kdAt nds (rt x) ≠ kdAt nds (rt y) → End false L
  push : ∀ m L x y wk rt, I m L ((x, y) :: wk) → Fo L rt → rt x ≠ rt y → kdAt nds (rt x) ≠ .str "" → kdAt nds (rt x) = kdAt nds (rt y) → ∃ m' < m, I m' (L.set (rt x) (rt y)) (((ptAt nds (rt x)).zip (ptAt nds (rt y))).reverse ++ wk)
theorem NatsAre.set {vs : List Value} {ns : List Nat} (h : NatsAre vs ns) {i n : Nat} {t : Tok} : NatsAre (vs.set i (.int n t)) (ns.set i n) := by
  refine ⟨by rw [List.length_set, List.length_set, h.1], fun j v m a b => ?_⟩
  rw [List.getElem?_set] at a b
  by_cases q : i = j
  · subst q
    rw [if_pos rfl] at a b
    have := h.1
    split at a <;> split at b <;> first | omega | (cases a; cases b; exact ⟨_, rfl⟩) | cases b
  · rw [if_neg q] at a b
    exact h.2 j v m a b
theorem CellsAre.pop {H : Hp} {ws : List Value} {wk : List Cell} {c : Cell} (h : CellsAre H ws (wk ++ [c])) : ∃ ws' v, ws = ws' ++ [v] ∧ CellsAre H ws' wk ∧ IsCell H v c := by
  have hl := h.1
  rw [List.length_append, List.length_singleton] at hl
  have hne : ws ≠ [] := fun q => by rw [q] at hl; simp at hl
  have hsp : ws.dropLast ++ [ws.getLast hne] = ws := List.dropLast_concat_getLast hne
  have hd : ws.dropLast.length = wk.length := by rw [List.length_dropLast, hl]; simp
  refine ⟨ws.dropLast, ws.getLast hne, hsp.symm, ⟨hd, fun i v c' e e' => ?_⟩, ?_⟩
  · have hi := (List.getElem?_eq_some_iff.mp e').1
    refine h.2 i v c' ?_ (by rw [List.getElem?_append_left hi]; exact e')
    rw [← hsp, List.getElem?_append_left (by omega)]; exact e
  · refine h.2 wk.length _ c ?_ (by simp)
    rw [List.getLast_eq_getElem, List.getElem?_eq_getElem (by omega)]
    simp only [hl, Nat.add_sub_cancel]
section
variable {C : Ctx} {st : St}
theorem c_nodeItem {e j : Expr} {nl : Addr} {nds : List Node} {i : Nat} {u : Tok} {nd : Node} {Q : Value → St → Prop} (hN : NodesR st.H nl nds) (hi : nds[i]? = some nd) (hl : nds.length ≤ 1000) (h : ∀ v, NodeIs st.H v nd → Q v st)
    (hs : ∀ (o : Addr) (j' : Int) (z : Tok), subscripted j false (.ref o) (.int j' z) = operate [.ref o, .int j' z] (getItem (.ref o) (.int j' z)) := by intro _ _ _; with_unfolding_all rfl) : wpC C (subscriptTail e j (.ref nl) (.int i u)) Q st := by
  obtain ⟨nvs, n, hnl, hlen, hall⟩ := hN
  have hi' := (List.getElem?_eq_some_iff.mp hi).1
  have hv : nvs[i]? = some (nvs[i]'(by omega)) := by simp
  exact c_item hnl (by omega) (by omega) (by rw [show ((i : Nat) : Int).toNat = i by omega]; exact hv) (h _ (hall i _ nd hv hi)) (hs _ _ _)
theorem c_node0 {e i : Expr} {v : Value} {nd : Node} {u : Tok} {Q : Value → St → Prop} (hv : NodeIs st.H v nd) (h : ∀ kv, KdIs st.H kv nd.kd → Q kv st)
    (hs : ∀ (o : Addr) (j : Int) (z : Tok), subscripted i false (.ref o) (.int j z) = operate [.ref o, .int j z] (getItem (.ref o) (.int j z)) := by intro _ _ _; with_unfolding_all rfl) : wpC C (subscriptTail e i v (.int 0 u)) Q st := by
  obtain ⟨d, kv, pl, n, pvs, m, rfl, hd, hk, hp, hns⟩ := hv
  exact c_item hd (by decide) (by decide) rfl (h kv hk) (hs _ _ _)
theorem c_node1 {e i : Expr} {v : Value} {nd : Node} {u : Tok} {Q : Value → St → Prop} (hv : NodeIs st.H v nd) (h : ∀ pl pvs m, st.H pl = some (lstO pvs m) → NatsAre pvs nd.parts → Q (.ref pl) st)
    (hs : ∀ (o : Addr) (j : Int) (z : Tok), subscripted i false (.ref o) (.int j z) = operate [.ref o, .int j z] (getItem (.ref o) (.int j z)) := by intro _ _ _; with_unfolding_all rfl) : wpC C (subscriptTail e i v (.int 1 u)) Q st := by
  obtain ⟨d, kv, pl, n, pvs, m, rfl, hd, hk, hp, hns⟩ := hv
  exact c_item hd (by decide) (by decide) rfl (h pl pvs m hp hns) (hs _ _ _)
theorem take_zip {α β : Type} {a : List α} {b : List β} {i : Nat} {x : α} {y : β} (h1 : a[i]? = some x) (h2 : b[i]? = some y) : (a.zip b).take (i + 1) = (a.zip b).take i ++ [(x, y)] := by
  rw [List.take_add_one]
  have : (a.zip b)[i]? = some (x, y) := by rw [List.getElem?_zip_eq_some]; exact ⟨h1, h2⟩
  rw [this]; rfl
theorem s_joined (ok : C.Ok) (hlev : C.lev ≤ 25) {nl ll : Addr} {nds : List Node} {lvs : List Value} {k : Nat} {L : List Nat} {x y : Nat} {t u : Tok} {Z : Hp} {Q : Value → St → Prop} (hZ : Le Z st.H) (hNR : NodesR Z nl nds) (hZl : Z ll = none) (hNO : NdsOk nds)
    (hll : st.H ll = some (lstO lvs k)) (hL : NatsAre lvs L) {I : Nat → List Nat → List (Nat × Nat) → Prop} {End : Bool → List Nat → Prop} (J : JInv nds I End) {m0 : Nat} (h0 : I m0 L [(x, y)])
    (h : ∀ b H' L' lvs' k', LeBut ll st.H H' → H' ll = some (lstO lvs' k') → NatsAre lvs' L' → End b L' → L'.length = nds.length → Q (.bool b) ⟨st.m, H'⟩) :
    codeC C (.ref 527) [.ref nl, .ref ll, .int x t, .int y u] Q st := by
  refine' c_def (f := 527) (binds := [("nodes", .ref nl), ("leads", .ref ll), ("one", .int x t), ("two", .int y u)]) ok ?ho ?hcd ?hbind ?hloc ?hlev ?hco ?hgen ?hk ?hcell ?_
  walk_at "enter"
  repeat walk_at "c"
  refine c_newTupleG (by rw [sizeLine_eq]; simp) fun H1 p k1 np hp => ?_
  dsimp only at k1 np
  repeat walk_at "c"
  refine c_newListG (by rw [sizeLine_eq]; simp) fun H2 wl k2 nwl hwl => ?_
  dsimp only at k2 nwl
  have k02 := k1.trans k2
  have nwl0 : st.H wl = none := Le.new k1 nwl
  have hlw : ll ≠ wl := ne_new hll nwl0
  repeat walk_at "c"
  obtain ⟨K, hK⟩ : ∃ K : Nat → St → Prop, ∀ n st', K n st' ↔ (st'.m "nodes" = some (.ref nl) ∧ st'.m "leads" = some (.ref ll) ∧ st'.m "work" = some (.ref wl) ∧ LeBut ll st.H st'.H ∧
    ∃ L wk lvs k ws k', I n L wk ∧ st'.H ll = some (lstO lvs k) ∧ NatsAre lvs L ∧ st'.H wl = some (lstO ws k') ∧ CellsAre st'.H ws (wk.reverse.map castP)) := ⟨_, fun _ _ => Iff.rfl⟩
  refine c_While K ?_ m0
    ((hK _ _).mpr ⟨by walk_at "look", by walk_at "look", by walk_at "look", k02.but, L, _, lvs, k, _, _, h0, k02 _ _ hll, hL, hwl, ?_⟩)
  · rintro n ⟨m', H'⟩ hj
    obtain ⟨hm1, hm2, hm3, hle, L, wk, lvs, k, ws, k', hI, hll', hL', hwl', hcs⟩ := (hK _ _).mp hj
    clear hj
    dsimp only at hm1 hm2 hm3 hle hll' hwl' hcs
    obtain ⟨⟨rt, hF⟩, hLl, hwkl, hwk9⟩ := J.good _ _ _ hI
    have hcl := hcs.1
    rw [List.length_map, List.length_reverse] at hcl
    have := sizeLine_eq
    have hns := hNO.small
    repeat walk_at "c"
    refine c_len hwl' (by omega) fun t => ?_
    repeat walk_at "c"
    refine ⟨fun e => ?_, fun e => ?_⟩
    · cases wk with
      | nil => exact absurd (of_decide_eq_true e) (by simp at hcl; simp [hcl])
      | cons p wk =>
      obtain ⟨x, y⟩ := p
      rw [List.reverse_cons, List.map_append] at hcs
      obtain ⟨ws, pv, rfl, hcs1, hpv⟩ := CellsAre.pop hcs
      obtain ⟨hx, hy⟩ := hwkl _ (.head _)
      dsimp only at hx hy
      obtain ⟨pa, t1, t2, rfl, hpa⟩ := hpv
      have hpa : H' pa = some (tupO [.int (x : Nat) t1, .int (y : Nat) t2]) := hpa
      have kw : LeBut wl H' (H'.put wl (lstO ws (k' + 1))) := leBut_put
      have hpa' := kw _ _ hpa (fun q => by rw [q, hwl'] at hpa; exact list_not_tuple (congrArg Obj.cls (Option.some.inj hpa)))
      have hcs2 := hcs1.keep hwl' list_not_tuple kw
      have hll2 := kw _ _ hll' hlw
      have hle2 : LeBut ll st.H (H'.put wl (lstO ws (k' + 1))) := hle.put nwl0
      have hw2 : (H'.put wl (lstO ws (k' + 1))) wl = some (lstO ws (k' + 1)) := Hp.put_self ..
      have hwsl : ws.length = _ := hcs1.1
      rw [List.length_map, List.length_reverse] at hwsl
      rw [List.length_cons] at hwk9
      repeat walk_at "c"
      refine c_AssignTup ?_
      repeat walk_at "c"
      refine c_pop hwl' (by omega) ?_
      generalize H'.put wl (lstO ws (k' + 1)) = H2 at *
      refine c_assignP (lk hsc rfl) (lk hsc rfl) ok hpa' ?_
      repeat walk_at "c"
      refine c_call (s_leader ok (by omega) hll2 hL' hF hx (by omega) fun t3 => ?_)
      repeat walk_at "c"
      refine c_call (s_leader ok (by omega) hll2 hL' hF hy (by omega) fun t4 => ?_)
      repeat walk_at "c"
      have hZ2 : Le Z H2 := fun a o e => hle2 a o (hZ a o e) (ne_new e hZl)
      have hN2 := hNR.mono hZ2
      have hrx := hF.lt x hx
      have hry := hF.lt y hy
      obtain ⟨nx, hnx⟩ : ∃ nd, nds[rt x]? = some nd := ⟨nds[rt x]'(by omega), by simp⟩
      obtain ⟨ny, hny⟩ : ∃ nd, nds[rt y]? = some nd := ⟨nds[rt y]'(by omega), by simp⟩
      have ekx : kdAt nds (rt x) = nx.kd := by unfold kdAt; rw [hnx]; rfl
      have eky : kdAt nds (rt y) = ny.kd := by unfold kdAt; rw [hny]; rfl
      have hfin : ∀ H3 L3 wk3 lvs3 k3 ws3 k3', LeBut ll st.H H3 → (∃ m' < n, I m' L3 wk3) → H3 ll = some (lstO lvs3 k3) → NatsAre lvs3 L3 → H3 wl = some (lstO ws3 k3') → CellsAre H3 ws3 (wk3.reverse.map castP) →
        ∃ m' < n, LeBut ll st.H H3 ∧ ∃ L wk lvs k ws k', I m' L wk ∧ H3 ll = some (lstO lvs k) ∧ NatsAre lvs L ∧ H3 wl = some (lstO ws k') ∧ CellsAre H3 ws (wk.reverse.map castP) := fun H3 L3 wk3 lvs3 k3 ws3 k3' q1 ⟨m', q2, q3⟩ q4 q5 q6 q7 => ⟨m', q2, q1, L3, wk3, lvs3, k3, ws3, k3', q3, q4, q5, q6, q7⟩
      have hset : ∀ i j (t : Tok), LeBut ll H2 (H2.put ll (lstO (lvs.set i (.int (j : Nat) t)) k)) := fun _ _ _ => leBut_put
      refine ⟨fun e => ?_, fun e => ?_⟩
      · have e : rt x = rt y := by
          have e : (rt x : Int) = rt y := by simpa using e
          omega
        repeat walk_at "C"
        obtain ⟨m', q1, q2, q3⟩ := hfin H2 L wk lvs k ws (k' + 1) hle2 (J.same _ _ _ _ _ rt hI hF e) hll2 hL' hw2 hcs2
        exact ⟨m', q1, (hK _ _).mpr ⟨hm1, hm2, hm3, q2, q3⟩⟩
      · have e : rt x ≠ rt y := fun q => by rw [q] at e; simp at e
        repeat walk_at "C"
        refine c_nodeItem hN2 hnx (by omega) fun v1 hv1 => ?_
        repeat walk_at "C"
        refine c_node0 hv1 fun kv1 hkv1 => ?_
        repeat walk_at "C"
        refine c_kdEq ok (by omega) hkv1 ?_
        repeat walk_at "C"
        refine ⟨fun e1 => ?_, fun e1 => ?_⟩
        · have e1 : nx.kd = .str "" := of_decide_eq_true e1
          repeat walk_at "C"
          refine c_setItem hll2 (by omega) (by omega) (by rw [hL'.1]; omega) ?_
          repeat walk_at "C"
          have k4 := hset (rt x) (rt y) t4
          obtain ⟨m', q1, q2, q3⟩ := hfin _ _ wk _ k ws (k' + 1) (hle2.trans k4) (J.varL _ _ _ _ _ rt hI hF e (ekx.trans e1)) (Hp.put_self ..) hL'.set (k4 _ _ hw2 (Ne.symm hlw)) (hcs2.keep hll2 list_not_tuple k4)
          exact ⟨m', q1, (hK _ _).mpr ⟨hm1, hm2, hm3, q2, q3⟩⟩
        · have e1 : nx.kd ≠ .str "" := of_decide_eq_false e1
          repeat walk_at "C"
          refine c_nodeItem hN2 hny (by omega) fun v2 hv2 => ?_
          repeat walk_at "C"
          refine c_node0 hv2 fun kv2 hkv2 => ?_
          repeat walk_at "C"
          refine c_kdEq ok (by omega) hkv2 ?_
          repeat walk_at "C"
          refine ⟨fun e2 => ?_, fun e2 => ?_⟩
          · have e2 : ny.kd = .str "" := of_decide_eq_true e2
            repeat walk_at "C"
            refine c_setItem hll2 (by omega) (by omega) (by rw [hL'.1]; omega) ?_
            repeat walk_at "C"
            have k4 := hset (rt y) (rt x) t3
            obtain ⟨m', q1, q2, q3⟩ := hfin _ _ wk _ k ws (k' + 1) (hle2.trans k4) (J.varR _ _ _ _ _ rt hI hF e (by rw [ekx]; exact e1) (eky.trans e2)) (Hp.put_self ..) hL'.set (k4 _ _ hw2 (Ne.symm hlw)) (hcs2.keep hll2 list_not_tuple k4)
            exact ⟨m', q1, (hK _ _).mpr ⟨hm1, hm2, hm3, q2, q3⟩⟩
          · have e2 : ny.kd ≠ .str "" := of_decide_eq_false e2
            repeat walk_at "C"
            refine c_nodeItem hN2 hnx (by omega) fun v3 hv3 => ?_
            repeat walk_at "C"
            refine c_node0 hv3 fun kv3 hkv3 => ?_
            repeat walk_at "C"
            refine c_nodeItem hN2 hny (by omega) fun v4 hv4 => ?_
            repeat walk_at "C"
            refine c_node0 hv4 fun kv4 hkv4 => ?_
            repeat walk_at "C"
            refine c_kdNe ok (by omega) hkv3 hkv4 ?_
            repeat walk_at "C"
            refine ⟨fun e3 => ?_, fun e3 => ?_⟩
            · have e3 : nx.kd ≠ ny.kd := by simpa using e3
              repeat walk_at "C"
              exact h false H2 L lvs k hle2 hll2 hL' (J.fail _ _ _ _ _ rt hI hF e (by rw [ekx]; exact e1) (by rw [eky]; exact e2) (by rw [ekx, eky]; exact e3)) hLl
            · have e3 : nx.kd = ny.kd := by simpa using e3
              have hpl := hNO.len _ _ _ _ hnx hny e3
              have hp2 := hNO.two _ _ hnx
              repeat walk_at "C"
              refine c_setItem hll2 (by omega) (by omega) (by rw [hL'.1]; omega) ?_
              have k4 := hset (rt x) (rt y) t4
              have hll4 : (H2.put ll (lstO (lvs.set (rt x) (.int (rt y : Nat) t4)) k)) ll = some (lstO (lvs.set (rt x) (.int (rt y : Nat) t4)) k) := Hp.put_self ..
              have hw4 := k4 _ _ hw2 (Ne.symm hlw)
              have hcs4 := hcs2.keep hll2 list_not_tuple k4
              have hle4 := hle2.trans k4
              rw [show ((rt x : Nat) : Int).toNat = rt x by omega]
              repeat walk_at "C"
              dsimp only
              generalize H2.put ll (lstO (lvs.set (rt x) (.int (rt y : Nat) t4)) k) = H4 at *
              have hN4 := hNR.mono (H' := H4) fun a o e => hle4 a o (hZ a o e) (ne_new e hZl)
              repeat walk_at "C"
              refine c_nodeItem hN4 hnx (by omega) fun v5 hv5 => ?_
              repeat walk_at "C"
              refine c_node1 hv5 fun pl pvs pm hpl5 hpn5 => ?_
              repeat walk_at "C"
              refine c_len hpl5 (by rw [hpn5.1]; omega) fun t5 => ?_
              rw [hpn5.1]
              repeat walk_at "C"
              refine c_range1 fun rl v6 v7 hrl => ?_
              have k5 : Le H4 (H4.put rl (rngO 0 (nx.parts.length : Nat) 1 v6 t5 v7)) := le_put hrl
              have hlr : ll ≠ rl := ne_new hll4 hrl
              have hwr : wl ≠ rl := ne_new hw4 hrl
              obtain ⟨K2, hK2⟩ : ∃ K : Nat → St → Prop, ∀ i st', K i st' ↔ (st'.m "nodes" = some (.ref nl) ∧ st'.m "leads" = some (.ref ll) ∧ st'.m "work" = some (.ref wl) ∧ (∃ t, st'.m "one" = some (.int (rt x : Nat) t)) ∧ (∃ t, st'.m "two" = some (.int (rt y : Nat) t)) ∧ LeBut wl H4 st'.H ∧
                ∃ ws k', st'.H wl = some (lstO ws k') ∧ CellsAre st'.H ws ((wk.reverse ++ (nx.parts.zip ny.parts).take i).map castP)) := ⟨_, fun _ _ => Iff.rfl⟩
              refine src_range (n := nx.parts.length) K2 ok (Hp.put_self ..) (small_up (by omega)) (size_up _)
                ((hK2 _ _).mpr ⟨hm1, hm2, hm3, ⟨t3, by walk_at "look"⟩, ⟨t4, by walk_at "look"⟩, k5.but, ws, k' + 1, k5 _ _ hw4, by simpa using hcs4.mono k5⟩) ?_ ?_
              · rintro i ⟨m5, H5⟩ hi hj t8
                obtain ⟨n1, n2, n3, ⟨t6, n4⟩, ⟨t7, n5⟩, hle5, ws5, k5', hw5, hcs5⟩ := (hK2 _ _).mp hj
                clear hj
                dsimp only at n1 n2 n3 n4 n5 hle5 hw5 hcs5
                rw [show (0 : Int) + (i : Int) * 1 = (i : Nat) by omega]
                have hZ5 : Le Z H5 := fun a o e => hle5 a o (hle4 a o (hZ a o e) (ne_new e hZl)) (ne_new (hZ a o e) nwl0)
                have hN5 := hNR.mono hZ5
                obtain ⟨px, hpx⟩ : ∃ q, nx.parts[i]? = some q := ⟨nx.parts[i], by simp⟩
                obtain ⟨py, hpy⟩ : ∃ q, ny.parts[i]? = some q := ⟨ny.parts[i]'(by omega), by simp⟩
                have hcl5 := hcs5.1
                rw [List.length_map, List.length_append, List.length_reverse, List.length_take] at hcl5
                refine c_assignN (lk hsc rfl) ok ?_
                repeat walk_at "C"
                refine c_nodeItem hN5 hnx (by omega) fun v8 hv8 => ?_
                repeat walk_at "C"
                refine c_node1 hv8 fun pl1 pvs1 pm1 hpl1 hpn1 => ?_
                obtain ⟨tp1, hq1⟩ := hpn1.at hpx
                repeat walk_at "C"
                refine c_item hpl1 (by omega) (by omega) (by rw [show ((i : Nat) : Int).toNat = i by omega]; exact hq1) ?_
                repeat walk_at "C"
                refine c_nodeItem hN5 hny (by omega) fun v9 hv9 => ?_
                repeat walk_at "C"
                refine c_node1 hv9 fun pl2 pvs2 pm2 hpl2 hpn2 => ?_
                obtain ⟨tp2, hq2⟩ := hpn2.at hpy
                repeat walk_at "C"
                refine c_item hpl2 (by omega) (by omega) (by rw [show ((i : Nat) : Int).toNat = i by omega]; exact hq2) ?_
                repeat walk_at "C"
                refine c_newTupleG (by rw [sizeLine_eq]; simp) fun H6 pp k6 npp hpp => ?_
                dsimp only at k6 npp
                have hw6 := k6 _ _ hw5
                have hcs6 := hcs5.mono k6
                repeat walk_at "C"
                refine c_append hw6 (by omega) ?_
                refine ⟨rfl, ?_⟩
                have k7 : LeBut wl H6 (H6.put wl (lstO (ws5 ++ [.ref pp]) (k5' + 1))) := leBut_put
                repeat walk_at "C"
                refine (hK2 _ _).mpr ⟨n1, n2, n3, ⟨t6, n4⟩, ⟨t7, n5⟩, (hle5.thenLe k6).trans k7, _, _, Hp.put_self .., ?_⟩
                rw [take_zip hpx hpy, ← List.append_assoc, List.map_append]
                exact (hcs6.app ⟨pp, _, _, rfl, hpp⟩).keep hw6 list_not_tuple k7
              · rintro ⟨m5, H5⟩ hj
                obtain ⟨n1, n2, n3, -, -, hle5, ws5, k5', hw5, hcs5⟩ := (hK2 _ _).mp hj
                clear hj hK2 K2
                dsimp only at n1 n2 n3 hle5 hw5 hcs5
                repeat walk_at "C"
                have hcs7 : CellsAre H5 ws5 (((((ptAt nds (rt x)).zip (ptAt nds (rt y))).reverse ++ wk).reverse).map castP) := by
                  have e1 : ptAt nds (rt x) = nx.parts := by unfold ptAt; rw [hnx]; rfl
                  have e2 : ptAt nds (rt y) = ny.parts := by unfold ptAt; rw [hny]; rfl
                  rw [e1, e2, List.reverse_append, List.reverse_reverse]
                  rw [List.take_of_length_le (by rw [List.length_zip]; omega)] at hcs5
                  exact hcs5
                obtain ⟨m', q1, q2, q3⟩ := hfin H5 _ _ _ k ws5 k5' (hle4.transNew hle5 nwl0) (J.push _ _ _ _ _ rt hI hF e (by rw [ekx]; exact e1) (by rw [ekx, eky]; exact e3)) (hle5 _ _ hll4 hlw) hL'.set hw5 hcs7
                exact ⟨m', q1, (hK _ _).mpr ⟨n1, n2, n3, q2, q3⟩⟩
    · cases wk with
      | cons _ _ => simp at hcl; simp [hcl] at e
      | nil =>
        repeat walk_at "C"
        exact h true H' L lvs k hle hll' hL' (J.fin _ _ hI) hLl
  · have : ([(x, y)].reverse.map castP) = [] ++ [((x : Int), (y : Int))] := rfl
    rw [this]
    exact CellsAre.app (vs := []) ⟨rfl, fun i v c e => by simp at e⟩ ⟨p, t, u, rfl, k2 _ _ hp⟩
end

def CellAt (H : Hp) (c : Addr) (v : Option Value) : Prop := ∃ o, H c = some o ∧ o.data = .cell v
section
variable {C : Ctx} {st : St}
theorem c_cellName {x : Str} {pos : Pos} {c : Addr} {v : Value} {Q : Value → St → Prop} (ok : C.Ok) (hl : C.sc.names.lookup x = some .cell) (hc : C.cl.lookup x = some c) (hv : CellAt st.H c (some v)) (h : Q v st) (hd : (x == ("__debug__" : Str)) = false := by decide) :
    wpC C (eval (.Name x pos) C.env) Q st := fun _ _ _ _ hs => wpAny_Name (wpAny_loadName_cell (env := C.env) ok.fn hl hc (let ⟨o, e, d⟩ := hv; ⟨o, (hs.N _ _ e).1, d⟩) ⟨st, hs, h⟩) hd
theorem c_AssignCell {x : Str} {px pos : Pos} {e : Expr} {c : Addr} {Q : Flow → St → Prop} (ok : C.Ok) (hl : C.sc.names.lookup x = some .cell) (hc : C.cl.lookup x = some c)
    (h : wpC C (eval e C.env) (fun v st' => (∃ w, CellAt st'.H c w) ∧ ∀ H', LeBut c st'.H H' → CellAt H' c (some v) → Q .next ⟨st'.m, H'⟩) st)
    (hs : swapsWith e (some (.Name x px)) pos.line C.env = Pure.pure false := by with_unfolding_all rfl) : wpC C (exec (.Assign [.Name x px] e pos) C.env) Q st :=
  fun _ _ _ o hh => wpAny_Assign_Name (h.go o hh fun v s' st' hs' ⟨⟨w, ob, eb, db⟩, q⟩ => wpAny_storeName_cell (env := C.env) ok.fn hl hc ⟨ob, (hs'.N _ _ eb).1, db⟩ (fun h' ⟨o', e', d'⟩ hsb => ⟨_, hs'.upd eb hsb e', q _ leBut_put ⟨o', Hp.put_self .., d'⟩⟩)) hs
theorem c_defC {Q : Value → St → Prop} {name qual : Str} {params : Arguments} {body : List Stmt} {scope : Scope} {dV kV doc pm cdv ct oc : Value} {an od : Option Addr} {osl : Array (Option Value)} {f : Addr} {args : List Value} {binds : List (Str × Value)} {x : Str}
    (ok : C.Ok) (ho : (Mine.hd.heap_1 C.w.params).lookup f = some ⟨oc, od, .func (fnOf name qual params body scope dV kV doc pm an cdv ct), osl⟩) (hcd : codeIn (Mine.hd.heap_1 C.w.params) cdv qual = true)
    (hbind : ∀ s : Shared, (Mine.hd.heap_1 C.w.params).In s.heap → BindsTo s (fnOf name qual params body scope dV kV doc pm an cdv ct) ⟨args, []⟩ binds) (hkind : (binds.all fun y => scope.names.lookup y.1 == some .local || scope.names.lookup y.1 == some .cell) = true) (hlev : C.lev ≤ 30)
    (hco : scope.isCoroutine = false) (hgen : scope.isGenerator = false) (hk : scope.kind = .function) (hone : ∀ n, cellsFrom n scope.names [] = [(x, n)]) (hfree : ∀ L', bindC (envOfC qual scope L' f cdv).kindOf binds (fun _ => none) x = none)
    (h : ∀ (C' : Ctx) c m₀ H', C'.Ok → C'.w = C.w → C'.sc = scope → C'.lev = C.lev + 1 → C'.cl = [(x, c)] → (∃ L', m₀ = bindL (envOfC qual scope L' f cdv).kindOf binds fun _ => none) → Le st.H H' → st.H c = none → CellAt H' c none → wpC C' (execs body C'.env) (Back st.m Q) ⟨m₀, H'⟩) :
    codeC C (.ref f) args Q st := fun h₀ Z s o hs => by
  obtain ⟨A₀, base, outer, p, loose, mean, mg, mb, B, T, hA⟩ := o.low
  have room : C.A.depth < recursionLimit := by have := ok.dep; show _ < 1000; omega
  refine code_defC B hs.F o.X hs.news T hA rfl ok.fn ho hcd room (hbind s (o.X.keeps hs.F.keep)) hkind (by rw [hone]; simp) (fun g L' h₁ tk cells FG F' N' Y B' X' T' low => ?_) hco hgen hk
  rw [hone] at Y
  obtain ⟨oc', rfl, hoc⟩ := Y.one
  rw [hfree] at hoc
  let C' : Ctx := { w := C.w, A := C.A.deeper (envX qual scope L' f cdv [(x, L' + 1)]), L := L', qn := qual, sc := scope, fa := f, cd := cdv, g := C.g, os := C.os, lev := C.lev + 1, cl := [(x, L' + 1)] }
  have henv : envOfC qual scope L' f cdv = C'.env := by
    show envX qual scope L' f cdv (cellsFrom (L' + 1) scope.names []) = envX qual scope L' f cdv [(x, L' + 1)]
    rw [hone]
  have ok' : C'.Ok := ⟨ok.hh, by have := ok.dep; show C.A.depth + 1 ≤ 310 + 2 * (C.lev + 1); omega, by have := ok.un; show C.A.units + 3 ≤ 10 + 8 * (C.lev + 1); omega, hk⟩
  have oh : OkH C' g := ⟨X', ⟨C.A, base, C.env :: outer, p, loose, mean, mg, mb, B', T', by show (C.A.frames.map (envX qual scope L' f cdv [(x, L' + 1)] :: ·)) = _; rw [hA]; rfl⟩, trivial⟩
  have nc : st.H (L' + 1) = none := by
    cases q : st.H (L' + 1) with
    | none => rfl
    | some o => have z := low _ (hs.mem q); exact absurd z (Nat.not_lt.mpr (Nat.le_succ L'))
  have ncZ : Z (L' + 1) = none := by
    cases q : Z (L' + 1) with
    | none => rfl
    | some o => have z := low _ (hs.memZ q); exact absurd z (Nat.not_lt.mpr (Nat.le_succ L'))
  have hh : Holds C' g Z ⟨bindL (envOfC qual scope L' f cdv).kindOf binds (fun _ => none), st.H.put (L' + 1) oc'⟩ { s with heap := h₁, toks := tk } := by
    refine ⟨F', fun a o e => ?_, fun a o e => ?_, hs.g, hs.os⟩
    · have e : (st.H.put (L' + 1) oc') a = some o := e
      by_cases q : a = L' + 1
      · subst q; rw [Hp.put_self] at e; cases e; exact N' _ (.head _)
      · rw [Hp.put_ne _ _ q] at e; exact N' _ (.tail _ (hs.mem e))
    · have z := N' _ (.tail _ (hs.memZ e))
      exact ⟨z.1, z.2.1, z.2.2, by show (st.H.put (L' + 1) oc') a = none; rw [Hp.put_ne _ _ (fun q => by rw [q, ncZ] at e; cases e)]; exact (hs.Z a o e).2.2.2⟩
  rw [henv]
  refine wpAny_mono (h C' (L' + 1) _ _ ok' rfl rfl rfl rfl ⟨L', rfl⟩ (le_put nc) nc ⟨oc', Hp.put_self .., hoc⟩ g Z _ oh hh) (fun fl s' ⟨st', hs', q⟩ => ?_) fun _ _ x => x.elim
  refine leaveK_ hs'.F hs'.news fun F₂ N₂ => ?_
  refine ⟨⟨st.m, st'.H⟩, ⟨F₂, fun a o e => N₂ _ (hs'.mem e), fun a o e => ⟨(N₂ _ (hs'.memZ e)).1, (N₂ _ (hs'.memZ e)).2.1, (N₂ _ (hs'.memZ e)).2.2, (hs'.Z a o e).2.2.2⟩, hs'.g, hs'.os⟩, q⟩

abbrev compSc : Scope := { kind := .function, names := [(".0", .local), ("part", .local), ("cells", .free)], isGenerator := false, isCoroutine := false, more := [] }
theorem closes {env : Env} {c : Addr} (h : env.cells = [(("cells" : Str), c)]) : closureFor compSc env = Pure.pure [(("cells" : Str), c)] := by
  obtain ⟨sc, lo, gl, ce, qu, fu, co, fr, bu⟩ := env
  cases h
  rfl
end

open PyProof.Rows.LCg in
theorem c_comp {C : Ctx} {st : St} {pos p1 p2 p3 px pi : Pos} {c cl pl : Addr} {cvs pvs ys : List Value} {k m : Nat} {ns : List Nat} {Q : Value → St → Prop} (ok : C.Ok)
    (hce : C.cl = [(("cells" : Str), c)]) (hs1 : C.sc.names.lookup ("cells" : Str) = some .cell) (hs2 : C.sc.names.lookup ("parts" : Str) = some .local) (hm : st.m "parts" = some (.ref pl))
    (hcell : CellAt st.H c (some (.ref cl))) (hcl : st.H cl = some (lstO cvs k)) (hpl : st.H pl = some (lstO pvs m)) (hns : NatsAre pvs ns) (hys : ys.length = ns.length) (hat : ∀ (i n : Nat), ns[i]? = some n → ∃ v, cvs[n]? = some v ∧ ys[i]? = some v) (hsz : ns.length ≤ 1000) (hsn : ∀ n ∈ ns, n < 1000)
    (h : ∀ H' D, Le st.H H' → st.H D = none → H' D = some (lstO ys ys.length) → Q (.ref D) ⟨st.m, H'⟩) :
    wpC C (eval (.ListComp (.Subscript (.Name "cells" p1) (.Name "part" p2) p3) [⟨.Name "part" px, .Name "parts" pi, [], 0⟩] compSc pos) C.env) Q st := fun h₀ Z s o hs => by
  have hsl := sizeLine_eq
  have hk2 : C.sc.kind = .function := ok.fn
  have hnames : (relabel compSc C.env).names = [((".0" : Str), .local), (("part" : Str), .local), (("cells" : Str), .cell)] := by
    have e : (C.sc.kind == ScopeKind.function && C.env.kindOf "cells" == some NameKind.cell) = true := by
      rw [hk2]
      have : C.env.kindOf "cells" = some .cell := hs1
      rw [this]; rfl
    show [_, _, _] = _
    have e1 : ((NameKind.free == NameKind.free && C.sc.kind == ScopeKind.function && C.env.kindOf "cells" == some NameKind.cell) = true) := by
      rw [Bool.and_assoc]; exact e
    show [((".0" : Str), NameKind.local), (("part" : Str), NameKind.local), if (NameKind.free == NameKind.free && C.sc.kind == ScopeKind.function && C.env.kindOf "cells" == some NameKind.cell) = true then (("cells" : Str), NameKind.cell) else (("cells" : Str), NameKind.free)] = _
    rw [if_pos e1]
  obtain ⟨co, hco, hcd⟩ := hcell
  have hmc := hs.mem hco
  have hml := hs.mem hcl
  have rest : ∀ g (j i : Nat) (ys' : List Value), i + j = pvs.length → ys' = ys.take i →
      CompRest pw C.w C.A h₀ C.L st.m C.env (.Subscript (.Name "cells" p1) (.Name "part" p2) p3) "part" compSc [(("cells" : Str), c)] { s with heap := g } (SrcAt h₀ pl pvs.toArray) (fun i v => pvs.toArray[i]? = some v)
        (FinE h₀ C.L st.m { s with heap := g } (fun v s' => ∃ st', Holds C h₀ Z st' s' ∧ Q v st')) j i ys' (ledger st.H Z s.heap.objs.size) := by
    intro g j
    induction j with
    | zero =>
      intro i ys' hi hys'
      have hl := hns.1
      rw [List.take_of_length_le (by omega)] at hys'
      subst hys'
      refine CompRest.zero fun D h' tk F N off => ?_
      have offD : ∀ p ∈ ledger st.H Z s.heap.objs.size, p.1 ≠ D := by
        have : ∀ l : List (Addr × Obj), Off1 D l → ∀ p ∈ l, p.1 ≠ D := fun l => by
          induction l with
          | nil => intro _ p hp; cases hp
          | cons a l ih => intro hl p hp; rcases List.mem_cons.mp hp with rfl | hp; exact hl.1; exact ih hl.2 p hp
        exact this _ off
      have nD : st.H D = none := by
        cases q : st.H D with
        | none => rfl
        | some o => exact absurd rfl (offD _ (hs.mem q))
      have nZ : Z D = none := by
        cases q : Z D with
        | none => rfl
        | some o => exact absurd rfl (offD _ (hs.memZ q))
      refine ⟨⟨st.m, st.H.put D (lstO ys' ys'.length)⟩, (hs.ofNews F N (fun a o' e => ?_) fun a o' e => ?_).tk _, h _ D (le_put nD) nD (Hp.put_self ..)⟩
      · by_cases q : a = D
        · subst q; rw [Hp.put_self] at e; cases e; exact .head _
        · rw [Hp.put_ne _ _ q] at e; exact .tail _ (hs.mem e)
      · exact ⟨.tail _ (hs.memZ e), by rw [Hp.put_ne _ _ (fun q => by rw [q, nZ] at e; cases e)]; exact (hs.Z a o' e).2.2.2⟩
    | succ j ih =>
      intro i ys' hi hys'
      refine CompRest.succ fun v I oI Cc oC D m₂ h' tk E' hP hno hm₂ F N off ne => ?_
      have hv : pvs[i]? = some v := by simpa using hP
      have hl := hns.1
      obtain ⟨n, hn⟩ : ∃ n, ns[i]? = some n := ⟨ns[i]'(by omega), by simp⟩
      obtain ⟨t, rfl⟩ := hns.2 i v n hv hn
      obtain ⟨w, hw1, hw2⟩ := hat i n hn
      have hn9 := hsn n (List.mem_of_getElem? hn)
      have hC := (N (Cc, oC) (.tail _ (.head _))).1
      refine Subscript_ (wpAny_Name (wpAny_loadName_cell (env := compEnvC compSc [(("cells" : Str), c)] Cc C.env) (c := c) rfl (by show List.lookup _ (relabel compSc C.env).names = _; rw [hnames]; rfl) rfl
        ⟨co, (N _ (.tail _ (.tail _ (.tail _ hmc)))).1, hcd⟩ ?_) (by decide))
      refine wpAny_Name (wpAny_loadName_local (env := compEnvC compSc [(("cells" : Str), c)] Cc C.env) rfl (by show List.lookup _ (relabel compSc C.env).names = _; rw [hnames]; rfl) (hno.ns hC) hm₂ ?_) (by decide)
      refine tail_any (T := "list") ⟨_, (N _ (.tail _ (.tail _ (.tail _ hml)))).1, rfl⟩ slot_list_getitem.lookup (wpAny_getItem_list (items := cvs.toArray) ⟨_, (N _ (.tail _ (.tail _ (.tail _ hml)))).1, rfl, _, rfl⟩ (by omega) (by omega) (by rw [show ((n : Nat) : Int).toNat = n by omega]; simpa using hw1) ?_) (by with_unfolding_all rfl)
      refine CompEnd.intro (all := (I, oI) :: (Cc, oC) :: (D, lst ys') :: ledger st.H Z s.heap.objs.size) F N (ledger st.H Z s.heap.objs.size) (fun p hp => hp) off (.inr ⟨_, hs.mem hpl, rfl, _, rfl⟩) ?_
      refine ih (i + 1) _ (by omega) ?_
      rw [hys', List.take_add_one, hw2]; rfl
  refine ListComp_U hs.F (closes (c := c) hce) (by decide) rfl (by decide) rfl (wpAny_Name (wpAny_loadName_local hk2 hs2 hs.F.ns hm ?_) (by decide))
  refine CompSrc.ledger ok.hh hs.F hs.news (hs.mem hpl) (by have := hns.1; simp; omega) fun g => ?_
  have := rest g pvs.length 0 [] (by omega) rfl
  simpa using this

-- the things
inductive Thing (cs : List Cell) (A : Str → Option Nat) (F : Cell → Option Nat) (ts : List Cell) (k : Nat) : Node → Cell → Prop
  | var (p : Nat) : cs[p]? = some (0, (p : Int)) → Thing cs A F ts k ⟨.str "", []⟩ (0, (p : Int))
  | nil : Thing cs A F ts k ⟨.str "[]", []⟩ (4, 0)
  | int (v : Int) : Thing cs A F ts k ⟨.cell (5, v), []⟩ (5, v)
  | dot (p : Nat) (ps : List Nat) : ps.length = 2 → (∀ (j q : Nat), ps[j]? = some q → q < k ∧ ∃ y, cs[p + j]? = some y ∧ ts[q]? = some y ∧ y ≠ (0, ((p + j : Nat) : Int))) → Thing cs A F ts k ⟨.str ".", ps⟩ (3, (p : Int))
  | str (s : Str) (p : Nat) (ps : List Nat) (f : Nat) : ((s = "g" ∧ ps.length = 1) ∨ (s = "h" ∧ ps.length = 2) ∨ (s = "f" ∧ ps.length = 2)) → (∃ j : Nat, A s = some j ∧ F ((j : Int), (ps.length : Int)) = some f) → cs[p]? = some (6, (f : Int)) →
      (∀ (j q : Nat), ps[j]? = some q → q < k ∧ ∃ y, cs[p + 1 + j]? = some y ∧ ts[q]? = some y ∧ y ≠ (0, ((p + 1 + j : Nat) : Int))) → Thing cs A F ts k ⟨.str s, ps⟩ (2, (p : Int))
structure TInv (A : Str → Option Nat) (F : Cell → Option Nat) (cs : List Cell) (nds : List Node) (ts : List Cell) : Prop where
  len : ts.length = nds.length
  th : ∀ (k : Nat) nd t, nds[k]? = some nd → ts[k]? = some t → Thing cs A F ts k nd t
  wf : Wf cs
  size : cs.length ≤ 3 * nds.length
  home : ∀ i : Nat, cs[i]? = some (0, (i : Int)) → (0, (i : Int)) ∈ ts
  inj : ∀ (k l : Nat) t, ts[k]? = some t → ts[l]? = some t → k = l ∨ t.1 = 4 ∨ t.1 = 5
  addr : ∀ t ∈ ts, t.1 = 0 ∨ t.1 = 2 ∨ t.1 = 3 → t.2 < cs.length
theorem app_get {α : Type} {a b : List α} {i : Nat} {x : α} (h : a[i]? = some x) : (a ++ b)[i]? = some x := by rw [List.getElem?_append_left (List.getElem?_eq_some_iff.mp h).1]; exact h
theorem Thing.mono {cs cs2 : List Cell} {A A' : Str → Option Nat} {F F' : Cell → Option Nat} {ts ts2 : List Cell} {k : Nat} {nd : Node} {t : Cell} (h : Thing cs A F ts k nd t) (hA : ∀ s k, A s = some k → A' s = some k) (hF : ∀ c k, F c = some k → F' c = some k) : Thing (cs ++ cs2) A' F' (ts ++ ts2) k nd t := by
  cases h with
  | var p e => exact .var p (app_get e)
  | nil => exact .nil
  | int v => exact .int v
  | dot p ps hl h => exact .dot p ps hl fun j q e => let ⟨a, y, b, c, d⟩ := h j q e; ⟨a, y, app_get b, app_get c, d⟩
  | str s p ps f hs hf hp h => exact .str s p ps f hs (let ⟨j, a, b⟩ := hf; ⟨j, hA _ _ a, hF _ _ b⟩) (app_get hp) fun j q e => let ⟨a, y, b, c, d⟩ := h j q e; ⟨a, y, app_get b, app_get c, d⟩
theorem TInv.grow {A A' : Str → Option Nat} {F F' : Cell → Option Nat} {cs : List Cell} {nds : List Node} {ts : List Cell} (V : TInv A F cs nds ts) (hA : ∀ s k, A s = some k → A' s = some k) (hF : ∀ c k, F c = some k → F' c = some k) : TInv A' F' cs nds ts :=
  ⟨V.len, fun k nd t a b => by simpa using (V.th k nd t a b).mono (cs2 := []) (ts2 := []) hA hF, V.wf, V.size, V.home, V.inj, V.addr⟩
section
variable {A : Str → Option Nat} {F : Cell → Option Nat} {cs : List Cell} {nds : List Node} {ts : List Cell}
theorem TInv.cell (V : TInv A F cs nds ts) {d : Cell} (h : d ∈ ts) : CellOk cs d ∧ deref cs d = d ∧ 0 ≤ d.2 ∨ d.1 = 5 ∧ CellOk cs d ∧ deref cs d = d := by
  obtain ⟨k, hk⟩ := List.getElem?_of_mem h
  have hi := (List.getElem?_eq_some_iff.mp hk).1
  have hn : nds[k]? = some (nds[k]'(by rw [← V.len]; exact hi)) := by simp
  have := V.th k _ d hn hk
  generalize nds[k]'_ = nd at *
  cases this with
  | var p e =>
    refine .inl ⟨⟨by simp, fun _ => ⟨by simp, ?_⟩⟩, deref_self (by simpa using e), by simp⟩
    have := (List.getElem?_eq_some_iff.mp e).1
    simp; omega
  | nil => exact .inl ⟨⟨by simp, fun q => by simp at q⟩, deref_val (by simp), by simp⟩
  | int v => exact .inr ⟨rfl, ⟨by simp, fun q => by simp at q⟩, deref_val (by simp)⟩
  | dot p ps hl h => exact .inl ⟨⟨by simp, fun q => by simp at q⟩, deref_val (by simp), by simp⟩
  | str s p ps f hs hf hp h => exact .inl ⟨⟨by simp, fun q => by simp at q⟩, deref_val (by simp), by simp⟩
theorem TInv.cell' (V : TInv A F cs nds ts) {d : Cell} (h : d ∈ ts) : CellOk cs d ∧ deref cs d = d := (V.cell h).elim (fun x => ⟨x.1, x.2.1⟩) fun x => x.2
theorem nth_app {α : Type} {a : List α} {x y : α} {i : Nat} (h : (a ++ [x])[i]? = some y) : a[i]? = some y ∨ (i = a.length ∧ y = x) := by
  rw [List.getElem?_append] at h
  split at h
  · exact .inl h
  · rename_i q
    have hi : i - a.length = 0 := by
      cases hd : i - a.length with
      | zero => rfl
      | succ j => rw [hd] at h; simp at h
    rw [hi] at h
    cases h
    exact .inr ⟨by omega, rfl⟩
/-- one thing more, with the cells it takes -/
theorem TInv.more (V : TInv A F cs nds ts) (h7 : nds.length ≤ 9) {cs2 : List Cell} {nd : Node} {t : Cell} (ht : Thing (cs ++ cs2) A F (ts ++ [t]) nds.length nd t) (hc : cs2.length ≤ 3)
    (hnew : ∀ (i : Nat) c, cs2[i]? = some c → (c = (0, ((cs.length + i : Nat) : Int)) ∧ t = c) ∨ (c ∈ ts ∧ c ≠ (0, ((cs.length + i : Nat) : Int))) ∨ c.1 = 6)
    (hadr : (t.1 = 4 ∨ t.1 = 5) ∨ (t.2 = cs.length ∧ cs2 ≠ [])) : TInv A F (cs ++ cs2) (nds ++ [nd]) (ts ++ [t]) := by
  have hlen := V.wf.len
  have hsz := V.size
  have get2 : ∀ (i : Nat) c, (cs ++ cs2)[i]? = some c → cs[i]? = some c ∨ (cs.length ≤ i ∧ cs2[i - cs.length]? = some c) := fun i c h => by
    rw [List.getElem?_append] at h
    split at h
    · exact .inl h
    · exact .inr ⟨by omega, h⟩
  have okc : ∀ c, CellOk cs c → CellOk (cs ++ cs2) c := fun c h => ⟨h.1, fun q => by have := h.2 q; rw [List.length_append]; omega⟩
  refine ⟨by rw [List.length_append, List.length_append, V.len]; rfl, fun k nd' t' a b => ?_, ⟨fun c hm => ?_, fun i c h h0 => ?_, by rw [List.length_append]; omega⟩, by rw [List.length_append, List.length_append]; simp; omega, fun i h => ?_, fun k l t' a b => ?_, fun t' hm hk => ?_⟩
  · rcases nth_app a with a1 | ⟨a1, a2⟩
    · rcases nth_app b with b1 | ⟨b1, -⟩
      · exact (V.th k nd' t' a1 b1).mono (fun _ _ e => e) (fun _ _ e => e)
      · have := (List.getElem?_eq_some_iff.mp a1).1
        rw [V.len] at b1; omega
    · rcases nth_app b with b1 | ⟨-, b2⟩
      · have := (List.getElem?_eq_some_iff.mp b1).1
        rw [V.len] at this; omega
      · rw [a1, a2, b2]; exact ht
  · rcases List.mem_append.mp hm with hm | hm
    · exact okc c (V.wf.ok c hm)
    · obtain ⟨i, hi⟩ := List.getElem?_of_mem hm
      have hi' := (List.getElem?_eq_some_iff.mp hi).1
      rcases hnew i c hi with ⟨rfl, -⟩ | ⟨hts, -⟩ | h6
      · refine ⟨by simp, fun _ => ⟨by simp; omega, ?_⟩⟩
        rw [List.length_append]; simp; omega
      · exact okc c (V.cell' hts).1
      · exact ⟨by omega, fun q => by omega⟩
  · rcases get2 i c h with h | ⟨hi, h⟩
    · exact V.wf.down i c h h0
    · rcases hnew _ c h with ⟨rfl, -⟩ | ⟨hts, -⟩ | h6
      · simp; omega
      · have := V.addr c hts (.inl h0); omega
      · omega
  · rcases get2 i _ h with h | ⟨hi, h⟩
    · exact List.mem_append_left _ (V.home i h)
    · have e : ((cs.length + (i - cs.length) : Nat) : Int) = (i : Int) := by omega
      rcases hnew _ _ h with ⟨-, h'⟩ | ⟨-, h'⟩ | h6
      · rw [h']; simp
      · rw [e] at h'; exact absurd rfl h'
      · simp at h6
  · have keyN : ∀ (k : Nat), ts[k]? = some t → t.1 = 4 ∨ t.1 = 5 := fun k a => by
      rcases hadr with h | ⟨h1, h2⟩
      · exact h
      · have hm := List.mem_of_getElem? a
        by_cases q : t.1 = 0 ∨ t.1 = 2 ∨ t.1 = 3
        · have := V.addr t hm q; omega
        · rcases V.cell hm with ⟨a1, -, -⟩ | ⟨a1, -⟩
          · obtain ⟨k', hk'⟩ := List.getElem?_of_mem hm
            have hi := (List.getElem?_eq_some_iff.mp hk').1
            have hn : nds[k']? = some (nds[k']'(by rw [← V.len]; exact hi)) := by simp
            have := V.th k' _ t hn hk'
            generalize nds[k']'_ = nd0 at *
            cases this <;> simp at q ⊢
          · exact .inr a1
    rcases nth_app a with a1 | ⟨a1, e1⟩ <;> rcases nth_app b with b1 | ⟨b1, e2⟩
    · exact V.inj k l t' a1 b1
    · rw [e2] at a1 ⊢; exact .inr (keyN k a1)
    · rw [e1] at b1 ⊢; exact .inr (keyN l b1)
    · exact .inl (by omega)
  · rw [List.length_append]
    rcases List.mem_append.mp hm with hm | hm
    · have := V.addr t' hm hk; omega
    · rw [List.mem_singleton] at hm
      subst hm
      rcases hadr with h | ⟨h1, h2⟩
      · omega
      · have := List.length_pos_iff.mpr h2; omega
end

section
variable {A : Str → Option Nat} {F : Cell → Option Nat} {cs : List Cell} {nds : List Node} {ts : List Cell}
theorem TInv.nil' (V : TInv A F cs nds ts) (h7 : nds.length ≤ 9) : TInv A F cs (nds ++ [⟨.str "[]", []⟩]) (ts ++ [(4, 0)]) := by
  have := V.more h7 (cs2 := []) (t := (4, 0)) (nd := ⟨.str "[]", []⟩) (by simpa using Thing.nil) (by simp) (fun i c h => by simp at h) (.inl (.inl rfl))
  simpa using this
theorem TInv.int' (V : TInv A F cs nds ts) (h7 : nds.length ≤ 9) (v : Int) : TInv A F cs (nds ++ [⟨.cell (5, v), []⟩]) (ts ++ [(5, v)]) := by
  have := V.more h7 (cs2 := []) (t := (5, v)) (nd := ⟨.cell (5, v), []⟩) (by simpa using Thing.int v) (by simp) (fun i c h => by simp at h) (.inl (.inr rfl))
  simpa using this
theorem TInv.var' (V : TInv A F cs nds ts) (h7 : nds.length ≤ 9) : TInv A F (cs ++ [(0, (cs.length : Int))]) (nds ++ [⟨.str "", []⟩]) (ts ++ [(0, (cs.length : Int))]) := by
  refine V.more h7 (.var cs.length (by simp)) (by simp) (fun i c h => ?_) (.inr ⟨rfl, by simp⟩)
  cases i with
  | zero => cases h; exact .inl ⟨by simp, rfl⟩
  | succ i => simp at h
/-- the cells of the parts -/
def PartsAre (ts : List Cell) (ps : List Nat) (ds : List Cell) : Prop := ds.length = ps.length ∧ ∀ (j q : Nat), ps[j]? = some q → ∃ y, ts[q]? = some y ∧ ds[j]? = some y
theorem TInv.part (V : TInv A F cs nds ts) {ps : List Nat} {ds : List Cell} (hp : PartsAre ts ps ds) {j : Nat} {y : Cell} (h : ds[j]? = some y) : y ∈ ts := by
  have hj := (List.getElem?_eq_some_iff.mp h).1
  obtain ⟨z, hz, hz'⟩ := hp.2 j (ps[j]'(by rw [← hp.1]; exact hj)) (by simp)
  rw [h] at hz'; cases hz'
  exact List.mem_of_getElem? hz
theorem TInv.noref (V : TInv A F cs nds ts) {y : Cell} (h : y ∈ ts) {p : Nat} (hp : cs.length ≤ p) : y ≠ (0, (p : Int)) := fun q => by
  have := V.addr y h (.inl (by rw [q]))
  rw [q] at this
  dsimp only at this
  omega
theorem TInv.dot' (V : TInv A F cs nds ts) (h7 : nds.length ≤ 9) {ps : List Nat} {ds : List Cell} (hp : PartsAre ts ps ds) (hl : ps.length = 2) : TInv A F (cs ++ ds) (nds ++ [⟨.str ".", ps⟩]) (ts ++ [(3, (cs.length : Int))]) := by
  have hdl := hp.1
  refine V.more h7 (.dot cs.length ps hl fun j q e => ?_) (by omega) (fun i c h => ?_) (.inr ⟨rfl, fun q => by rw [q] at hdl; simp at hdl; omega⟩)
  · obtain ⟨y, hy, hy'⟩ := hp.2 j q e
    have hq := (List.getElem?_eq_some_iff.mp hy).1
    refine ⟨by rw [← V.len]; exact hq, y, by rw [List.getElem?_append_right (by omega), Nat.add_sub_cancel_left]; exact hy', app_get hy, V.noref (List.mem_of_getElem? hy) (by omega)⟩
  · exact .inr (.inl ⟨V.part hp h, V.noref (V.part hp h) (by omega)⟩)
theorem TInv.str' (V : TInv A F cs nds ts) (h7 : nds.length ≤ 9) {s : Str} {f : Nat} {ps : List Nat} {ds : List Cell} (hp : PartsAre ts ps ds) (hs : (s = "g" ∧ ps.length = 1) ∨ (s = "h" ∧ ps.length = 2) ∨ (s = "f" ∧ ps.length = 2))
    (hf : ∃ j : Nat, A s = some j ∧ F ((j : Int), (ps.length : Int)) = some f) : TInv A F (cs ++ (6, (f : Int)) :: ds) (nds ++ [⟨.str s, ps⟩]) (ts ++ [(2, (cs.length : Int))]) := by
  have hdl := hp.1
  refine V.more h7 (.str s cs.length ps f hs hf (by simp) fun j q e => ?_) (by simp; omega) (fun i c h => ?_) (.inr ⟨rfl, by simp⟩)
  · obtain ⟨y, hy, hy'⟩ := hp.2 j q e
    have hq := (List.getElem?_eq_some_iff.mp hy).1
    refine ⟨by rw [← V.len]; exact hq, y, ?_, app_get hy, V.noref (List.mem_of_getElem? hy) (by omega)⟩
    rw [List.getElem?_append_right (by omega), show cs.length + 1 + j - cs.length = j + 1 by omega]
    exact hy'
  · cases i with
    | zero => cases h; exact .inr (.inr rfl)
    | succ i => exact .inr (.inl ⟨V.part hp h, V.noref (V.part hp h) (by omega)⟩)
end

-- what stays when other objects change
theorem SymR.core {w : World} {b : SyA} {H H' : Hp} {n : Nat} {A : Str → Option Nat} {F : Cell → Option Nat} {fs : List Cell} (S : SymR w b H n A F fs) (k : ∀ y o, H y = some o → (y ∈ [b.sy, b.yd, b.tx, b.ad, b.fl, b.fd] ∨ o.cls = .type "tuple") → H' y = some o) : SymR w b H' n A F fs := by
  obtain ⟨hin, ⟨es, m, hyd, g⟩, ⟨tv, tk, htx, htl⟩, ⟨ao, kvs, had, hao⟩, ⟨fv, fk, hfl, hfc⟩, ⟨fo, xs, hfd, hfo, hf⟩, r⟩ := S
  refine ⟨k _ _ hin (.inl (by simp)), ⟨es, m, k _ _ hyd (.inl (by simp)), g⟩, ⟨tv, tk, k _ _ htx (.inl (by simp)), htl⟩, ⟨ao, kvs, k _ _ had (.inl (by simp)), hao⟩, ⟨fv, fk, k _ _ hfl (.inl (by simp)), hfc.1, fun i v c e e' => ?_⟩, ⟨fo, xs, k _ _ hfd (.inl (by simp)), ?_, hf⟩, r, ‹_›, ‹_›, ‹_›, ‹_›, ‹_›, ‹_›, ‹_›, ‹_›⟩
  · obtain ⟨d, t, u, e1, e2⟩ := hfc.2 i v c e e'
    exact ⟨d, t, u, e1, k _ _ e2 (.inr rfl)⟩
  · obtain ⟨a, es, ep, b, c, d, e⟩ := hfo
    exact ⟨a, es, ep, b, c, d, fun x hx => let ⟨ok, q, t⟩ := e x hx; ⟨ok, k _ _ q (.inr t.1), t⟩⟩
theorem Rep.core {a : StoA} {H H' : Hp} {cs fs : List Cell} (R : Rep a H cs fs) (k : ∀ y o, H y = some o → (y ∈ [a.st, a.sd, a.hl, a.sy, a.yd, a.fl] ∨ o.cls = .type "tuple") → H' y = some o) : Rep a H' cs fs := by
  obtain ⟨us, n', hh, h1⟩ := R.heap
  obtain ⟨es, m, t, u, v, hd, r⟩ := R.dict
  obtain ⟨ys, m', hy, r'⟩ := R.syd
  obtain ⟨ws, q, hf, hfc⟩ := R.fun_
  have cc : ∀ v c, IsCell H v c → IsCell H' v c := fun v c ⟨d, t, u, e, z⟩ => ⟨d, t, u, e, k _ _ z (.inr rfl)⟩
  exact ⟨k _ _ R.inst (.inl (by simp)), ⟨es, m, t, u, v, k _ _ hd (.inl (by simp)), r⟩, ⟨us, n', k _ _ hh (.inl (by simp)), h1.1, fun i v c a b => cc _ _ (h1.2 i v c a b)⟩, k _ _ R.syi (.inl (by simp)), ⟨ys, m', k _ _ hy (.inl (by simp)), r'⟩,
    ⟨ws, q, k _ _ hf (.inl (by simp)), hfc.1, fun i v c a b => cc _ _ (hfc.2 i v c a b)⟩, R.ne⟩
/-- the store over a table that has grown -/
theorem Rep.resym {w : World} {a : StoA} {b : SyA} {H H' : Hp} {cs fs fs' : List Cell} {n : Nat} {A : Str → Option Nat} {F : Cell → Option Nat} (R : Rep a H cs fs) (S' : SymR w b H' n A F fs') (e1 : a.sy = b.sy) (e2 : a.yd = b.yd) (e3 : a.fl = b.fl)
    (k : ∀ y o, H y = some o → (y ∈ [a.st, a.sd, a.hl] ∨ o.cls = .type "tuple") → H' y = some o) : Rep a H' cs fs' := by
  obtain ⟨us, n', hh, h1⟩ := R.heap
  obtain ⟨es, m, t, u, v, hd, r⟩ := R.dict
  obtain ⟨ys, m', hy, g1, g2, g3, g4, r'⟩ := S'.dict
  obtain ⟨ws, q, hf, hfc⟩ := S'.fl
  have cc : ∀ v c, IsCell H v c → IsCell H' v c := fun v c ⟨d, t, u, e, z⟩ => ⟨d, t, u, e, k _ _ z (.inr rfl)⟩
  exact ⟨k _ _ R.inst (.inl (by simp)), ⟨es, m, t, u, v, k _ _ hd (.inl (by simp)), r⟩, ⟨us, n', k _ _ hh (.inl (by simp)), h1.1, fun i v c a b => cc _ _ (h1.2 i v c a b)⟩, by rw [e1, e2]; exact S'.inst, ⟨ys, m', by rw [e2]; exact hy, by rw [e3]; exact g3, r'⟩,
    ⟨ws, q, by rw [e3]; exact hf, hfc⟩, R.ne⟩

theorem dis_of {l : List Addr} (h : l.Nodup) (is js : List Nat) (hi : (is.all fun i => decide (i < l.length)) = true) (hj : (js.all fun i => decide (i < l.length)) = true) (hd : (is.all fun i => !js.contains i) = true) : ∀ x ∈ is.map (fun i => l.getD i 0), x ∉ js.map (fun j => l.getD j 0) := by
  intro x hx hm
  obtain ⟨i, hi1, rfl⟩ := List.mem_map.mp hx
  obtain ⟨j, hj1, e⟩ := List.mem_map.mp hm
  have a := of_decide_eq_true (List.all_eq_true.mp hi i hi1)
  have b := of_decide_eq_true (List.all_eq_true.mp hj j hj1)
  have c := List.all_eq_true.mp hd i hi1
  have e' : l[j] = l[i] := by
    have e1 : l.getD j 0 = l[j] := by simp [List.getD, b]
    have e2 : l.getD i 0 = l[i] := by simp [List.getD, a]
    rw [← e1, ← e2]; exact e
  have : j = i := by
    have hp := List.pairwise_iff_getElem.mp h
    rcases Nat.lt_trichotomy j i with q | q | q
    · exact absurd e' (hp j i b a q)
    · exact q
    · exact absurd e'.symm (hp i j a b q)
  subst this
  simp [hj1] at c
structure LW (w : World) (a : StoA) (b : SyA) (ua sl cl nl c : Addr) (Zf H : Hp) (cs fs : List Cell) (n : Nat) (A : Str → Option Nat) (F : Cell → Option Nat) (ts : List Cell) (nds : List Node) : Prop where
  rep : Rep a H cs fs
  sym : SymR w b H n A F fs
  urn : UrnR H ua sl
  cell : CellAt H c (some (.ref cl))
  cells : ∃ cvs k, H cl = some (lstO cvs k) ∧ CellsAre H cvs ts
  nodes : ∃ nvs k, H nl = some (lstO nvs k) ∧ nvs.length = nds.length ∧ ∀ (i : Nat) v nd, nvs[i]? = some v → nds[i]? = some nd → NodeIs Zf v nd
  zle : Le Zf H
  zno : ∀ x ∈ [a.hl, b.tx, b.ad, b.fl, b.fd, ua, cl, nl], Zf x = none
  dis : [a.st, a.sd, a.hl, b.sy, b.yd, b.tx, b.ad, b.fl, b.fd, ua, sl, cl, nl, c].Nodup
  e1 : a.sy = b.sy
  e2 : a.yd = b.yd
  e3 : a.fl = b.fl
  dot : ∃ j : Nat, A "." = some j ∧ fs[0]? = some ((j : Int), 2)
section
variable {w : World} {a : StoA} {b : SyA} {ua sl cl nl c : Addr} {Zf H H' : Hp} {cs fs : List Cell} {n : Nat} {A : Str → Option Nat} {F : Cell → Option Nat} {ts : List Cell} {nds : List Node}
theorem CellsAre.core {vs : List Value} {xs : List Cell} (h : CellsAre H vs xs) (k : ∀ y o, H y = some o → o.cls = .type "tuple" → H' y = some o) : CellsAre H' vs xs :=
  ⟨h.1, fun i v c e e' => let ⟨d, t, u, e1, e2⟩ := h.2 i v c e e'; ⟨d, t, u, e1, k _ _ e2 rfl⟩⟩
theorem CellAt.core {c : Addr} {v : Option Value} (h : CellAt H c v) (k : ∀ o, H c = some o → H' c = some o) : CellAt H' c v := let ⟨o, e, d⟩ := h; ⟨o, k o e, d⟩
theorem LW.mono (W : LW w a b ua sl cl nl c Zf H cs fs n A F ts nds) (k : Le H H') : LW w a b ua sl cl nl c Zf H' cs fs n A F ts nds := by
  obtain ⟨cvs, ck, h1, h2⟩ := W.cells
  obtain ⟨nvs, nk, h3, h4⟩ := W.nodes
  exact ⟨W.rep.mono k, k.symR W.sym, W.urn.keep fun x o e _ => k _ _ e, W.cell.core fun o e => k _ _ e, ⟨cvs, ck, k _ _ h1, h2.mono k⟩, ⟨nvs, nk, k _ _ h3, h4⟩, W.zle.trans k, W.zno, W.dis, W.e1, W.e2, W.e3, W.dot⟩
theorem zle_out {L : List Addr} (z : Le Zf H) (k : LeOut L H H') (h : ∀ x ∈ L, Zf x = none) : Le Zf H' := fun x o e => k x o (z x o e) fun q => by rw [h x q] at e; cases e
/-- what changes lies apart -/
theorem LW.other (W : LW w a b ua sl cl nl c Zf H cs fs n A F ts nds) {x : Addr} {o : Obj} (hx : H x = some o) (hc : o.cls ≠ .type "tuple") (hn : x ∉ [a.st, a.sd, a.hl, b.sy, b.yd, b.tx, b.ad, b.fl, b.fd, ua, sl, cl, nl, c]) (hz : Zf x = none) (k : LeBut x H H') :
    LW w a b ua sl cl nl c Zf H' cs fs n A F ts nds := by
  have tup : ∀ y o, H y = some o → o.cls = .type "tuple" → H' y = some o := fun y o' e h => k y o' e fun q => by rw [q, hx] at e; cases e; exact hc h
  have mem : ∀ y ∈ [a.st, a.sd, a.hl, b.sy, b.yd, b.tx, b.ad, b.fl, b.fd, ua, sl, cl, nl, c], ∀ o, H y = some o → H' y = some o := fun y hy o' e => k y o' e fun q => hn (q ▸ hy)
  obtain ⟨cvs, ck, h1, h2⟩ := W.cells
  obtain ⟨nvs, nk, h3, h4⟩ := W.nodes
  refine ⟨W.rep.core fun y o e h => ?_, W.sym.core fun y o e h => ?_, W.urn.keep fun y o e h => ?_, W.cell.core fun o e => mem c (by simp) _ e, ⟨cvs, ck, mem cl (by simp) _ h1, h2.core tup⟩, ⟨nvs, nk, mem nl (by simp) _ h3, h4⟩, fun y o e => k y o (W.zle y o e) (fun q => by rw [q, hz] at e; cases e), W.zno, W.dis, W.e1, W.e2, W.e3, W.dot⟩
  · rcases h with h | h
    · rw [W.e1, W.e2, W.e3] at h
      exact mem y (by simp only [List.mem_cons, List.not_mem_nil, or_false] at h ⊢; rcases h with h | h | h | h | h | h <;> simp [h]) _ e
    · exact tup y o e h
  · rcases h with h | h
    · exact mem y (by simp only [List.mem_cons, List.not_mem_nil, or_false] at h ⊢; rcases h with h | h | h | h | h | h <;> simp [h]) _ e
    · exact tup y o e h
  · exact mem y (by rcases h with h | h <;> simp [h]) _ e
/-- one of the own lists changes -/
theorem LW.own {w : World} {a : StoA} {b : SyA} {ua sl cl nl c : Addr} {Zf H H' : Hp} {cs fs cs' fs' : List Cell} {n n' : Nat} {A A' : Str → Option Nat} {F F' : Cell → Option Nat} {ts ts' : List Cell} {nds nds' : List Node} (W : LW w a b ua sl cl nl c Zf H cs fs n A F ts nds) {L : List Addr} (k : LeOut L H H') (hL : ∀ x ∈ L, x ∈ [a.hl, b.tx, b.ad, b.fl, b.fd, ua, cl, nl])
    (r : Rep a H' cs' fs') (s : SymR w b H' n' A' F' fs') (u : UrnR H' ua sl) (ce : CellAt H' c (some (.ref cl))) (cl' : ∃ cvs k, H' cl = some (lstO cvs k) ∧ CellsAre H' cvs ts') (nl' : ∃ nvs k, H' nl = some (lstO nvs k) ∧ nvs.length = nds'.length ∧ ∀ (i : Nat) v nd, nvs[i]? = some v → nds'[i]? = some nd → NodeIs Zf v nd)
    (d : ∃ j : Nat, A' "." = some j ∧ fs'[0]? = some ((j : Int), 2)) : LW w a b ua sl cl nl c Zf H' cs' fs' n' A' F' ts' nds' :=
  ⟨r, s, u, ce, cl', nl', zle_out W.zle k fun x hx => W.zno x (hL x hx), W.zno, W.dis, W.e1, W.e2, W.e3, d⟩
theorem not_tup_list (W : LW w a b ua sl cl nl c Zf H cs fs n A F ts nds) : ∀ x ∈ [a.hl, b.tx, b.ad, b.fl, b.fd, ua, cl, nl], ∀ o, H x = some o → o.cls ≠ .type "tuple" := by
  obtain ⟨_, _, h1, _⟩ := W.rep.heap
  obtain ⟨_, _, h2, _⟩ := W.sym.tx
  obtain ⟨_, _, h3, h3', _⟩ := W.sym.ad
  obtain ⟨_, _, h4, _⟩ := W.sym.fl
  obtain ⟨_, _, h5, h5', _⟩ := W.sym.fd
  obtain ⟨_, _, _, _, _, _, _, h6, _⟩ := W.urn
  obtain ⟨_, _, h7, _⟩ := W.cells
  obtain ⟨_, _, h8, _⟩ := W.nodes
  intro x hx o e
  simp only [List.mem_cons, List.not_mem_nil, or_false] at hx
  rcases hx with rfl | rfl | rfl | rfl | rfl | rfl | rfl | rfl
  · rw [h1] at e; cases e; exact list_not_tuple
  · rw [h2] at e; cases e; exact list_not_tuple
  · rw [h3] at e; cases e; exact dict_not_tuple (sd_cls h3')
  · rw [h4] at e; cases e; exact list_not_tuple
  · rw [h5] at e; cases e; exact dict_not_tuple h5'.1.1
  · rw [h6] at e; cases e; exact list_not_tuple
  · rw [h7] at e; cases e; exact list_not_tuple
  · rw [h8] at e; cases e; exact list_not_tuple
end

section
variable {w : World} {a : StoA} {b : SyA} {ua sl cl nl c : Addr} {Zf H H' : Hp} {cs fs : List Cell} {n : Nat} {A : Str → Option Nat} {F : Cell → Option Nat} {ts : List Cell} {nds : List Node}
theorem LW.tup (W : LW w a b ua sl cl nl c Zf H cs fs n A F ts nds) {L : List Addr} (hL : ∀ x ∈ L, x ∈ [a.hl, b.tx, b.ad, b.fl, b.fd, ua, cl, nl]) {y : Addr} {o : Obj} (e : H y = some o) (h : o.cls = .type "tuple") : y ∉ L :=
  fun q => not_tup_list W y (hL y q) o e h
theorem LW.keepRep (W : LW w a b ua sl cl nl c Zf H cs fs n A F ts nds) {L : List Addr} (k : LeOut L H H') (hL : ∀ x ∈ L, x ∈ [a.hl, b.tx, b.ad, b.fl, b.fd, ua, cl, nl]) (h : ∀ x ∈ [a.st, a.sd, a.hl, b.sy, b.yd, b.fl], x ∉ L) : Rep a H' cs fs :=
  W.rep.core fun y o e q => k y o e (q.elim (fun q => h y (by rw [W.e1, W.e2, W.e3] at q; exact q)) fun q => W.tup hL e q)
theorem LW.keepSym (W : LW w a b ua sl cl nl c Zf H cs fs n A F ts nds) {L : List Addr} (k : LeOut L H H') (hL : ∀ x ∈ L, x ∈ [a.hl, b.tx, b.ad, b.fl, b.fd, ua, cl, nl]) (h : ∀ x ∈ [b.sy, b.yd, b.tx, b.ad, b.fl, b.fd], x ∉ L) : SymR w b H' n A F fs :=
  W.sym.core fun y o e q => k y o e (q.elim (fun q => h y q) fun q => W.tup hL e q)
theorem LW.keepUrn (W : LW w a b ua sl cl nl c Zf H cs fs n A F ts nds) {L : List Addr} (k : LeOut L H H') (h : ∀ x ∈ [ua, sl], x ∉ L) : UrnR H' ua sl :=
  W.urn.keep fun y o e q => k y o e (h y (by rcases q with q | q <;> simp [q]))
theorem LW.keepCells (W : LW w a b ua sl cl nl c Zf H cs fs n A F ts nds) {L : List Addr} (k : LeOut L H H') (hL : ∀ x ∈ L, x ∈ [a.hl, b.tx, b.ad, b.fl, b.fd, ua, cl, nl]) (h : ∀ x ∈ [cl], x ∉ L) : ∃ cvs k, H' cl = some (lstO cvs k) ∧ CellsAre H' cvs ts := by
  obtain ⟨cvs, ck, h1, h2⟩ := W.cells
  exact ⟨cvs, ck, k _ _ h1 (h cl (by simp)), h2.core fun y o e q => k y o e (W.tup hL e q)⟩
theorem LW.keepNodes (W : LW w a b ua sl cl nl c Zf H cs fs n A F ts nds) {L : List Addr} (k : LeOut L H H') (h : ∀ x ∈ [nl], x ∉ L) : ∃ nvs k, H' nl = some (lstO nvs k) ∧ nvs.length = nds.length ∧ ∀ (i : Nat) v nd, nvs[i]? = some v → nds[i]? = some nd → NodeIs Zf v nd := by
  obtain ⟨nvs, nk, h1, h2⟩ := W.nodes
  exact ⟨nvs, nk, k _ _ h1 (h nl (by simp)), h2⟩
theorem LW.keepCell (W : LW w a b ua sl cl nl c Zf H cs fs n A F ts nds) {L : List Addr} (k : LeOut L H H') (h : ∀ x ∈ [c], x ∉ L) : CellAt H' c (some (.ref cl)) := W.cell.core fun o e => k _ _ e (h c (by simp))
theorem LW.urn' (W : LW w a b ua sl cl nl c Zf H cs fs n A F ts nds) (k : LeBut ua H H') (u : UrnR H' ua sl) : LW w a b ua sl cl nl c Zf H' cs fs n A F ts nds := by
  have k' : LeOut [ua] H H' := k.out (by simp)
  have hL : ∀ x ∈ [ua], x ∈ [a.hl, b.tx, b.ad, b.fl, b.fd, ua, cl, nl] := by simp
  exact W.own k' hL (W.keepRep k' hL (dis_of W.dis [0, 1, 2, 3, 4, 7] [9] rfl rfl rfl)) (W.keepSym k' hL (dis_of W.dis [3, 4, 5, 6, 7, 8] [9] rfl rfl rfl)) u (W.keepCell k' (dis_of W.dis [13] [9] rfl rfl rfl)) (W.keepCells k' hL (dis_of W.dis [11] [9] rfl rfl rfl)) (W.keepNodes k' (dis_of W.dis [12] [9] rfl rfl rfl)) W.dot
theorem LW.sto' {cs' : List Cell} (W : LW w a b ua sl cl nl c Zf H cs fs n A F ts nds) (k : LeBut a.hl H H') (r : Rep a H' cs' fs) : LW w a b ua sl cl nl c Zf H' cs' fs n A F ts nds := by
  have k' : LeOut [a.hl] H H' := k.out (by simp)
  have hL : ∀ x ∈ [a.hl], x ∈ [a.hl, b.tx, b.ad, b.fl, b.fd, ua, cl, nl] := by simp
  exact W.own k' hL r (W.keepSym k' hL (dis_of W.dis [3, 4, 5, 6, 7, 8] [2] rfl rfl rfl)) (W.keepUrn k' (dis_of W.dis [9, 10] [2] rfl rfl rfl)) (W.keepCell k' (dis_of W.dis [13] [2] rfl rfl rfl)) (W.keepCells k' hL (dis_of W.dis [11] [2] rfl rfl rfl)) (W.keepNodes k' (dis_of W.dis [12] [2] rfl rfl rfl)) W.dot
theorem LW.cl' {ts' : List Cell} {cvs : List Value} {ck : Nat} (W : LW w a b ua sl cl nl c Zf H cs fs n A F ts nds) (k : LeBut cl H H') (h1 : H' cl = some (lstO cvs ck)) (h2 : CellsAre H' cvs ts') : LW w a b ua sl cl nl c Zf H' cs fs n A F ts' nds := by
  have k' : LeOut [cl] H H' := k.out (by simp)
  have hL : ∀ x ∈ [cl], x ∈ [a.hl, b.tx, b.ad, b.fl, b.fd, ua, cl, nl] := by simp
  exact W.own k' hL (W.keepRep k' hL (dis_of W.dis [0, 1, 2, 3, 4, 7] [11] rfl rfl rfl)) (W.keepSym k' hL (dis_of W.dis [3, 4, 5, 6, 7, 8] [11] rfl rfl rfl)) (W.keepUrn k' (dis_of W.dis [9, 10] [11] rfl rfl rfl)) (W.keepCell k' (dis_of W.dis [13] [11] rfl rfl rfl)) ⟨cvs, ck, h1, h2⟩ (W.keepNodes k' (dis_of W.dis [12] [11] rfl rfl rfl)) W.dot
theorem LW.nl' {nds' : List Node} {nvs : List Value} {nk : Nat} (W : LW w a b ua sl cl nl c Zf H cs fs n A F ts nds) (k : LeBut nl H H') (h1 : H' nl = some (lstO nvs nk)) (h2 : nvs.length = nds'.length ∧ ∀ (i : Nat) v nd, nvs[i]? = some v → nds'[i]? = some nd → NodeIs Zf v nd) : LW w a b ua sl cl nl c Zf H' cs fs n A F ts nds' := by
  have k' : LeOut [nl] H H' := k.out (by simp)
  have hL : ∀ x ∈ [nl], x ∈ [a.hl, b.tx, b.ad, b.fl, b.fd, ua, cl, nl] := by simp
  exact W.own k' hL (W.keepRep k' hL (dis_of W.dis [0, 1, 2, 3, 4, 7] [12] rfl rfl rfl)) (W.keepSym k' hL (dis_of W.dis [3, 4, 5, 6, 7, 8] [12] rfl rfl rfl)) (W.keepUrn k' (dis_of W.dis [9, 10] [12] rfl rfl rfl)) (W.keepCell k' (dis_of W.dis [13] [12] rfl rfl rfl)) (W.keepCells k' hL (dis_of W.dis [11] [12] rfl rfl rfl)) ⟨nvs, nk, h1, h2⟩ W.dot
theorem LW.sym' {n' : Nat} {A' : Str → Option Nat} {F' : Cell → Option Nat} {fs' : List Cell} (W : LW w a b ua sl cl nl c Zf H cs fs n A F ts nds) (k : LeOut [b.tx, b.ad, b.fl, b.fd] H H') (s : SymR w b H' n' A' F' fs') (hA : ∀ t k, A t = some k → A' t = some k) (hfs : ∃ new, fs' = fs ++ new) : LW w a b ua sl cl nl c Zf H' cs fs' n' A' F' ts nds := by
  have hL : ∀ x ∈ [b.tx, b.ad, b.fl, b.fd], x ∈ [a.hl, b.tx, b.ad, b.fl, b.fd, ua, cl, nl] := by simp
  refine W.own k hL (W.rep.resym s W.e1 W.e2 W.e3 fun y o e q => k y o e (q.elim (fun q => dis_of W.dis [0, 1, 2] [5, 6, 7, 8] rfl rfl rfl y q) fun q => W.tup hL e q)) s (W.keepUrn k (dis_of W.dis [9, 10] [5, 6, 7, 8] rfl rfl rfl)) (W.keepCell k (dis_of W.dis [13] [5, 6, 7, 8] rfl rfl rfl)) (W.keepCells k hL (dis_of W.dis [11] [5, 6, 7, 8] rfl rfl rfl)) (W.keepNodes k (dis_of W.dis [12] [5, 6, 7, 8] rfl rfl rfl)) ?_
  obtain ⟨j, h1, h2⟩ := W.dot
  obtain ⟨new, rfl⟩ := hfs
  exact ⟨j, hA _ _ h1, app_get h2⟩
/-- objects are frozen -/
theorem LW.frz (W : LW w a b ua sl cl nl c Zf H cs fs n A F ts nds) {Zf' : Hp} (k : Le Zf Zf') (z : Le Zf' H) (h : ∀ x ∈ [a.hl, b.tx, b.ad, b.fl, b.fd, ua, cl, nl], Zf' x = none) : LW w a b ua sl cl nl c Zf' H cs fs n A F ts nds := by
  obtain ⟨nvs, nk, h1, h2, h3⟩ := W.nodes
  exact ⟨W.rep, W.sym, W.urn, W.cell, W.cells, ⟨nvs, nk, h1, h2, fun i v nd p q => (h3 i v nd p q).mono k⟩, z, h, W.dis, W.e1, W.e2, W.e3, W.dot⟩
theorem LW.fresh (W : LW w a b ua sl cl nl c Zf H cs fs n A F ts nds) {x : Addr} (h : H x = none) : x ∉ [a.st, a.sd, a.hl, b.sy, b.yd, b.tx, b.ad, b.fl, b.fd, ua, sl, cl, nl, c] := by
  obtain ⟨_, _, h1, _⟩ := W.rep.heap
  obtain ⟨_, _, h2, _⟩ := W.sym.tx
  obtain ⟨_, _, h3, _⟩ := W.sym.ad
  obtain ⟨_, _, h4, _⟩ := W.sym.fl
  obtain ⟨_, _, h5, _⟩ := W.sym.fd
  obtain ⟨_, _, _, _, _, _, _, h6, _, h6', _⟩ := W.urn
  obtain ⟨_, _, h7, _⟩ := W.cells
  obtain ⟨_, _, h8, _⟩ := W.nodes
  obtain ⟨_, h9, _⟩ := W.cell
  obtain ⟨_, _, h10, _⟩ := W.sym.dict
  obtain ⟨_, _, _, _, _, h11, _⟩ := W.rep.dict
  have h12 := W.rep.inst
  have h13 := W.sym.inst
  have key : ∀ {o : Obj}, H x = some o → False := fun e => by rw [h] at e; cases e
  intro hx
  simp only [List.mem_cons, List.not_mem_nil, or_false] at hx
  rcases hx with rfl | rfl | rfl | rfl | rfl | rfl | rfl | rfl | rfl | rfl | rfl | rfl | rfl | rfl <;> first | exact key h1 | exact key h2 | exact key h3 | exact key h4 | exact key h5 | exact key h6 | exact key h6' | exact key h7 | exact key h8 | exact key h9.1 | exact key h9 | exact key h10 | exact key h11 | exact key h12 | exact key h13
theorem LW.zfresh (W : LW w a b ua sl cl nl c Zf H cs fs n A F ts nds) {x : Addr} (h : H x = none) : Zf x = none := Le.new W.zle h
end

def kdOf (way : Nat) (t : Cell) : Kd := match way with
  | 0 => .str "g"
  | 1 => .str "h"
  | 2 => .str "."
  | 3 => .str "f"
  | 4 => .str "[]"
  | 5 => .cell t
  | _ => .str ""
section
variable {C : Ctx} {st : St}
theorem c_itemIx {e i : Expr} {l : Addr} {vs : List Value} {n k : Nat} {u : Tok} {Q : Value → St → Prop} (hl : st.H l = some (lstO vs n)) (hk : k < vs.length) (hf : k < 1000) (h : ∀ x, vs[k]? = some x → Q x st)
    (hs' : ∀ (z : Int), subscripted i false (.ref l) (.int z u) = operate [.ref l, .int z u] (getItem (.ref l) (.int z u)) := by intro _; with_unfolding_all rfl) : wpC C (subscriptTail e i (.ref l) (.int (k : Nat) u)) Q st :=
  c_item hl (by omega) (by omega) (by rw [show ((k : Nat) : Int).toNat = k by omega]; exact List.getElem?_eq_getElem hk) (h _ (List.getElem?_eq_getElem hk)) (hs' _)
theorem c_pow {x y : Int} {t u : Tok} {Q : Value → St → Prop} (hn : 0 ≤ y) (hn2 : y ≤ 1000000) (ha : x.natAbs < 2 ^ 64) (h : ∀ t, Q (.int (x ^ y.toNat) t) st) : wpC C (binaryOp .Pow (.int x t) (.int y u)) Q st := fun _ _ _ _ hs => pow_int_small hn hn2 ha ⟨st, hs.tk _, h _⟩
theorem c_itemNeg {e i : Expr} {l : Addr} {vs : List Value} {n : Nat} {u : Tok} {x : Value} {Q : Value → St → Prop} (hl : st.H l = some (lstO vs n)) (hx : vs[vs.length - 1]? = some x) (h : Q x st)
    (hs' : subscripted i false (.ref l) (.int (-1) u) = operate [.ref l, .int (-1) u] (getItem (.ref l) (.int (-1) u)) := by with_unfolding_all rfl) :
    wpC C (subscriptTail e i (.ref l) (.int (-1) u)) Q st := fun _ _ s _ hs => by
  have hp := (List.getElem?_eq_some_iff.mp hx).1
  exact tail_any (T := "list") ⟨_, (hs.N _ _ hl).1, rfl⟩ slot_list_getitem.lookup (wpAny_getItem_list_neg (items := vs.toArray) ⟨_, (hs.N _ _ hl).1, rfl, _, rfl⟩ (by decide) (by simp; omega) (by decide) (by rw [List.size_toArray, show (-1 + (vs.length : Int)).toNat = vs.length - 1 by omega]; simpa using hx) ⟨st, hs, h⟩) hs'
variable {a : StoA} {b : SyA} {ua sl : Addr}
theorem eleven {w : World} {H : Hp} {n : Nat} {A : Str → Option Nat} {F : Cell → Option Nat} {fs cs : List Cell} (R : Rep a H cs fs) (S : SymR w b H n A F fs) (U : UrnR H ua sl) : ∀ x ∈ [a.st, a.sd, a.hl, b.sy, b.yd, b.tx, b.ad, b.fl, b.fd, ua, sl], H x ≠ none := by
  obtain ⟨_, _, h1, _⟩ := R.heap
  obtain ⟨_, _, h2, _⟩ := S.tx
  obtain ⟨_, _, h3, _⟩ := S.ad
  obtain ⟨_, _, h4, _⟩ := S.fl
  obtain ⟨_, _, h5, _⟩ := S.fd
  obtain ⟨_, _, _, _, _, _, _, h6, _, h6', _⟩ := U
  obtain ⟨_, _, h10, _⟩ := S.dict
  obtain ⟨_, _, _, _, _, h11, _⟩ := R.dict
  have h12 := R.inst
  have h13 := S.inst
  have key : ∀ {y : Addr} {o : Obj}, H y = some o → H y ≠ none := fun e q => by rw [e] at q; cases q
  intro x hx
  simp only [List.mem_cons, List.not_mem_nil, or_false] at hx
  rcases hx with rfl | rfl | rfl | rfl | rfl | rfl | rfl | rfl | rfl | rfl | rfl <;> first | exact key h1 | exact key h2 | exact key h3 | exact key h4 | exact key h5 | exact key h6 | exact key h6' | exact key h10 | exact key h11 | exact key h12 | exact key h13
theorem sym_nz {w : World} {b : SyA} {H : Hp} {n : Nat} {A : Str → Option Nat} {F : Cell → Option Nat} {fs : List Cell} (S : SymR w b H n A F fs) (dot : ∃ j : Nat, A "." = some j ∧ fs[0]? = some ((j : Int), 2)) {s : Str} {j k : Nat} {ar : Int} (h1 : A s = some j) (h2 : F ((j : Int), ar) = some k) (hs : s ≠ ".") : 0 < k := by
  obtain ⟨jd, d1, d2⟩ := dot
  rcases Nat.eq_zero_or_pos k with rfl | h
  · have := S.okF _ _ h2
    rw [d2] at this
    injection this with this
    injection this with this _
    have e : jd = j := by omega
    subst e
    exact absurd (S.injA _ _ _ h1 d1) hs
  · exact h
def Way (v : Option Value) (w : Nat) : Prop := ∃ t, v = some (.int (w : Nat) t)
theorem s_things (ok : C.Ok) (hlev : C.lev ≤ 20) {n : Nat} {A : Str → Option Nat} {F : Cell → Option Nat} {fs : List Cell} {tok : Tok} {Q : Value → St → Prop} (R : Rep a st.H [] fs) (S : SymR C.w b st.H n A F fs) (U : UrnR st.H ua sl) (hn : n ≤ 100) (hfs : fs.length ≤ 100)
    (dot : ∃ j : Nat, A "." = some j ∧ fs[0]? = some ((j : Int), 2)) (dis : [a.st, a.sd, a.hl, b.sy, b.yd, b.tx, b.ad, b.fl, b.fd, ua, sl].Nodup) (e1 : a.sy = b.sy) (e2 : a.yd = b.yd) (e3 : a.fl = b.fl)
    (h : ∀ H' r cl nl c Zf cs fs' n' A' F' ts nds, H' r = some (tupO [.ref cl, .ref nl]) → LW C.w a b ua sl cl nl c Zf H' cs fs' n' A' F' ts nds → TInv A' F' cs nds ts → 3 ≤ nds.length → nds.length ≤ 7 → fs'.length ≤ 130 → st.H cl = none → st.H nl = none → Q (.ref r) ⟨st.m, H'⟩) :
    codeC C (.ref 513) [.ref ua, .ref a.st, .ref b.sy, .int 5 tok] Q st := by
  refine' c_defC (f := 513) (binds := [("urn", .ref ua), ("store", .ref a.st), ("book", .ref b.sy), ("most", .int 5 tok)]) (x := "cells") ok ?ho ?hcd ?hbind ?hkind ?hlev ?hco ?hgen ?hk ?hone ?hfree ?_
  case ho => k_is
  case hcd => k_is
  case hbind => exact fun _ _ => BindsTo.of_eq rfl
  case hkind => rfl
  case hlev => omega
  case hco => rfl
  case hgen => rfl
  case hk => rfl
  case hone => intro n; rfl
  case hfree => intro L'; with_unfolding_all rfl
  clear ok
  intro C c m₀ H0 ok hw hsc hl hce hm0 k0 nc hcell
  have hm1 : m₀ "urn" = some (.ref ua) := by obtain ⟨L', rfl⟩ := hm0; with_unfolding_all rfl
  have hm2 : m₀ "store" = some (.ref a.st) := by obtain ⟨L', rfl⟩ := hm0; with_unfolding_all rfl
  have hm3 : m₀ "book" = some (.ref b.sy) := by obtain ⟨L', rfl⟩ := hm0; with_unfolding_all rfl
  have hm4 : m₀ "most" = some (.int 5 tok) := by obtain ⟨L', rfl⟩ := hm0; with_unfolding_all rfl
  clear hm0
  walk_at "c"
  refine c_AssignCell ok (lk hsc (by with_unfolding_all rfl)) (c := c) (by rw [hce]; rfl) ?_
  repeat walk_at "c"
  refine c_newListG (by rw [sizeLine_eq]; simp) fun H1 cl k1 ncl hcl => ?_
  dsimp only at k1 ncl
  refine ⟨⟨none, hcell.core fun o e => k1 _ _ e⟩, fun H2 k2 hcell2 => ?_⟩
  dsimp only at k2
  have nc1 : st.H c = none := nc
  have ncl0 : st.H cl = none := Le.new k0 ncl
  have hccl : cl ≠ c := by
    obtain ⟨o, e, _⟩ := hcell
    exact Ne.symm (ne_new e ncl)
  have hcl2 := k2 _ _ hcl hccl
  have kk2 : Le st.H H2 := (k0.trans k1).putTo k2 nc
  repeat walk_at "c"
  refine c_newListG (by rw [sizeLine_eq]; simp) fun H3 nl k3 nnl hnl => ?_
  dsimp only at k3 nnl
  have nnl0 : st.H nl = none := Le.new kk2 nnl
  have hncl : cl ≠ nl := ne_new hcl2 nnl
  have hcnl : c ≠ nl := by
    obtain ⟨o, e, _⟩ := hcell2
    exact ne_new e nnl
  have kk3 := kk2.trans k3
  have W0 : LW C.w a b ua sl cl nl c (fun _ => none) H3 [] fs n A F [] [] := by
    rw [← hw] at S
    refine ⟨R.mono kk3, kk3.symR S, U.keep fun x o e _ => kk3 _ _ e, hcell2.core fun o e => k3 _ _ e, ⟨[], 0, k3 _ _ hcl2, rfl, fun i v c e => by simp at e⟩, ⟨[], 0, hnl, rfl, fun i v c e => by simp at e⟩, fun x o e => (by cases e), fun _ _ => rfl, ?_, e1, e2, e3, dot⟩
    have h11 := eleven R S U
    show ([a.st, a.sd, a.hl, b.sy, b.yd, b.tx, b.ad, b.fl, b.fd, ua, sl] ++ [cl, nl, c]).Nodup
    refine List.nodup_append.mpr ⟨dis, by simp [hncl, hccl, Ne.symm hcnl], fun x hx y hy e => ?_⟩
    subst e
    simp only [List.mem_cons, List.not_mem_nil, or_false] at hy
    rcases hy with rfl | rfl | rfl
    · exact h11 _ hx ncl0
    · exact h11 _ hx nnl0
    · exact h11 _ hx nc1
  have V0 : TInv A F [] [] [] := ⟨rfl, fun k nd t e => by simp at e, ⟨fun c hc => by simp at hc, fun i c e => by simp at e, by simp⟩, Nat.le_refl _, fun i e => by simp at e, fun k l t e => by simp at e, fun t e => by simp at e⟩
  have hua : ua ≠ sl := fun q => by
    have := dis_of W0.dis [9] [10] rfl rfl rfl ua (by simp)
    exact this (by simp [q])
  clear hcell hcell2 hcl2 hcl hnl R S U
  repeat walk_at "c"
  refine c_call (s_pick ok (by omega) W0.urn hua (by decide) (by decide) fun H4 r u4 k4 U4 hr0 hr5 => ?_)
  have W4 := W0.urn' k4 U4
  obtain ⟨N, hN, hN7⟩ : ∃ N : Nat, (3 + r : Int) = N ∧ 3 ≤ N ∧ N ≤ 7 := ⟨(3 + r).toNat, by omega, by omega⟩
  refine c_add fun u5 => ?_
  rw [hN]
  repeat walk_at "c"
  refine c_range1 fun rl v6 v7 hrl => ?_
  obtain ⟨J, hJ⟩ : ∃ J : Nat → St → Prop, ∀ i st', J i st' ↔ (st'.m "urn" = some (.ref ua) ∧ st'.m "store" = some (.ref a.st) ∧ st'.m "book" = some (.ref b.sy) ∧ st'.m "nodes" = some (.ref nl) ∧
    ∃ Zf cs fs n A F ts nds, LW C.w a b ua sl cl nl c Zf st'.H cs fs n A F ts nds ∧ TInv A F cs nds ts ∧ nds.length = i ∧ n ≤ 100 + 3 * i ∧ fs.length ≤ 100 + 3 * i) := ⟨_, fun _ _ => Iff.rfl⟩
  refine src_range (n := N) J ok (Hp.put_self ..) (small_up (by omega)) (size_up N)
    ((hJ _ _).mpr ⟨hm1, hm2, hm3, by walk_at "look", _, _, _, _, _, _, _, _, W4.mono (le_put hrl), V0, rfl, by omega, by omega⟩) ?_ ?_
  · rintro i ⟨m', H'⟩ hi hj t8
    obtain ⟨hm1, hm2, hm3, hm4, Zf, cs, fs, n, A, F, ts, nds, W, V, hnl, hn, hfs⟩ := (hJ _ _).mp hj
    clear W4 W0 V0 k4 U4 hj
    dsimp only at hm1 hm2 hm3 hm4 W
    rw [show (0 : Int) + (i : Int) * 1 = (i : Nat) by omega]
    refine c_assignN (lk hsc rfl) ok ?_
    obtain ⟨J1, hJ1⟩ : ∃ J : St → Prop, ∀ st', J st' ↔ (st'.m "urn" = some (.ref ua) ∧ st'.m "store" = some (.ref a.st) ∧ st'.m "book" = some (.ref b.sy) ∧ st'.m "nodes" = some (.ref nl) ∧ (∃ t, st'.m "number" = some (.int (i : Nat) t)) ∧ ∃ way, way ≤ 6 ∧ (way < 4 → 2 ≤ i) ∧ Way (st'.m "way") way ∧ LW C.w a b ua sl cl nl c Zf st'.H cs fs n A F ts nds) := ⟨_, fun _ => Iff.rfl⟩
    refine c_cut J1 ?_ ?_
    · repeat walk_at "c"
      refine ⟨fun _ => ?_, fun e => ?_⟩
      · repeat walk_at "c"
        exact ⟨rfl, (hJ1 _).mpr ⟨hm1, hm2, hm3, hm4, ⟨t8, by walk_at "look"⟩, 6, Nat.le_refl _, fun q => absurd q (by decide), ⟨_, by walk_at "look"⟩, W⟩⟩
      · have hi2 : 2 ≤ i := by have := of_decide_eq_false e; omega
        repeat walk_at "c"
        refine c_call (s_pick ok (by omega) (by exact W.urn) hua (by decide) (by decide) fun H5 r5 u5 k5 U5 hr0 hr7 => ?_)
        repeat walk_at "c"
        obtain ⟨w5, rfl⟩ : ∃ w5 : Nat, r5 = w5 := ⟨r5.toNat, by omega⟩
        exact ⟨rfl, (hJ1 _).mpr ⟨hm1, hm2, hm3, hm4, ⟨t8, by walk_at "look"⟩, w5, by omega, fun _ => hi2, ⟨u5, by walk_at "look"⟩, W.urn' k5 U5⟩⟩
    rintro ⟨m5, H5⟩ hj
    obtain ⟨hm1, hm2, hm3, hm4, ⟨t9, hm5⟩, way, hway6, hway4, ⟨t10, hm6⟩, W⟩ := (hJ1 _).mp hj
    clear hj hJ1 J1
    dsimp only at hm1 hm2 hm3 hm4 hm5 hm6 W
    repeat walk_at "c"
    refine c_newListG (by rw [sizeLine_eq]; simp) fun H6 pl k6 npl hpl => ?_
    dsimp only at k6 npl
    have plf := W.fresh npl
    have zpl := W.zfresh npl
    have W := W.mono k6
    walk_at "c"
    obtain ⟨J2, hJ2⟩ : ∃ J : St → Prop, ∀ st', J st' ↔ (st'.m "urn" = some (.ref ua) ∧ st'.m "store" = some (.ref a.st) ∧ st'.m "book" = some (.ref b.sy) ∧ st'.m "nodes" = some (.ref nl) ∧ Way (st'.m "way") way ∧ st'.m "parts" = some (.ref pl) ∧
      ∃ t ps pvs pk cs fs n A F, st'.H pl = some (lstO pvs pk) ∧ NatsAre pvs ps ∧ LW C.w a b ua sl cl nl c Zf st'.H cs fs n A F (ts ++ [t]) nds ∧ TInv A F cs (nds ++ [⟨kdOf way t, ps⟩]) (ts ++ [t]) ∧ n ≤ 100 + 3 * (i + 1) ∧ fs.length ≤ 100 + 3 * (i + 1)) := ⟨_, fun _ => Iff.rfl⟩
    refine c_cut J2 ?_ ?_
    · repeat walk_at "c"
      refine ⟨fun e => ?_, fun e => ?_⟩
      · have hw4 : way < 4 := by have := of_decide_eq_true e; omega
        have hi2 := hway4 hw4
        repeat walk_at "c"
        refine c_newListG (by rw [sizeLine_eq]; simp) fun H7 l7 k7 nl7 hl7 => ?_
        dsimp only at k7 nl7
        have W := W.mono k7
        have hpl := k7 _ _ hpl
        repeat walk_at "c"
        refine c_itemIx hl7 (by simp; omega) (by omega) fun x7 hx7 => ?_
        obtain ⟨np, tnp, rfl, hnp2, hnp1⟩ : ∃ (np : Nat) (tnp : Tok), x7 = Value.int np tnp ∧ (1 ≤ np ∧ np ≤ 2) ∧ np = (if way = 0 then 1 else 2) := by
          rcases (by omega : way = 0 ∨ way = 1 ∨ way = 2 ∨ way = 3) with rfl | rfl | rfl | rfl <;> cases hx7
          · exact ⟨1, _, rfl, by omega, rfl⟩
          · exact ⟨2, _, rfl, by omega, rfl⟩
          · exact ⟨2, _, rfl, by omega, rfl⟩
          · exact ⟨2, _, rfl, by omega, rfl⟩
        clear hx7 hl7
        repeat walk_at "c"
        refine c_range1 fun rl2 v8 v9 hrl2 => ?_
        have hrp : pl ≠ rl2 := ne_new hpl hrl2
        obtain ⟨J3, hJ3⟩ : ∃ J : Nat → St → Prop, ∀ j st', J j st' ↔ (st'.m "urn" = some (.ref ua) ∧ st'.m "store" = some (.ref a.st) ∧ st'.m "book" = some (.ref b.sy) ∧ st'.m "nodes" = some (.ref nl) ∧ (∃ t, st'.m "number" = some (.int (i : Nat) t)) ∧ Way (st'.m "way") way ∧ st'.m "parts" = some (.ref pl) ∧
          ∃ ps pvs pk, st'.H pl = some (lstO pvs pk) ∧ NatsAre pvs ps ∧ ps.length = j ∧ (∀ p ∈ ps, p < i) ∧ LW C.w a b ua sl cl nl c Zf st'.H cs fs n A F ts nds) := ⟨_, fun _ _ => Iff.rfl⟩
        refine src_range (n := np) J3 ok (Hp.put_self ..) (small_up (by omega)) (size_up np)
          ((hJ3 _ _).mpr ⟨hm1, hm2, hm3, hm4, ⟨t9, hm5⟩, ⟨t10, hm6⟩, by walk_at "look", [], [], 0, by walk_at "fact", ⟨rfl, fun i v n e => by simp at e⟩, rfl, fun p hp => (by cases hp), W.mono (le_put hrl2)⟩) ?_ ?_
        · rintro j ⟨m8, H8⟩ hj hJj t13
          obtain ⟨hm1, hm2, hm3, hm4, ⟨t11, hm5⟩, ⟨t12, hm6⟩, hm7, ps, pvs, pk, hpl8, hps, hpsl, hpsi, W⟩ := (hJ3 _ _).mp hJj
          clear hJj
          dsimp only at hm1 hm2 hm3 hm4 hm5 hm6 hm7 hpl8 W
          refine c_assignN (lk hsc rfl) ok ?_
          repeat walk_at "c"
          refine c_call (s_pick ok (by omega) (by exact W.urn) hua (by omega) (by rw [Nat.log2_lt (by omega)]; exact Nat.lt_of_lt_of_le (show (((i : Nat) : Int)).natAbs < 2 ^ 4 by omega) (Nat.pow_le_pow_right (by decide) (by decide))) fun H9 r9 u9 k9 U9 hr0 hr7 => ?_)
          dsimp only at k9
          have W := W.urn' k9 U9
          have hpu : pl ≠ ua := fun q => plf (by simp [q])
          have hpl9 := k9 _ _ hpl8 hpu
          obtain ⟨q9, rfl⟩ : ∃ q9 : Nat, r9 = q9 := ⟨r9.toNat, by omega⟩
          have hpvl := hps.1
          have := sizeLine_eq
          repeat walk_at "c"
          refine c_append hpl9 (by omega) ?_
          refine ⟨rfl, ?_⟩
          have k10 : LeBut pl H9 (H9.put pl (lstO (pvs ++ [.int (q9 : Nat) u9]) (pk + 1))) := leBut_put
          repeat walk_at "c"
          refine (hJ3 _ _).mpr ⟨hm1, hm2, hm3, hm4, ⟨t11, hm5⟩, ⟨t12, hm6⟩, hm7, ps ++ [q9], _, _, Hp.put_self .., ⟨by simp [hpvl], fun i v m e e' => ?_⟩, by simp [hpsl], fun p hp => ?_, W.other hpl9 list_not_tuple plf zpl k10⟩
          · rcases nth_app e with e1 | ⟨e1, rfl⟩ <;> rcases nth_app e' with e2 | ⟨e2, rfl⟩
            · exact hps.2 i v m e1 e2
            · have := (List.getElem?_eq_some_iff.mp e1).1; omega
            · have := (List.getElem?_eq_some_iff.mp e2).1; omega
            · exact ⟨_, rfl⟩
          · rcases List.mem_append.mp hp with hp | hp
            · exact hpsi p hp
            · rw [List.mem_singleton] at hp; omega
        · rintro ⟨m8, H8⟩ hJj
          obtain ⟨hm1, hm2, hm3, hm4, -, ⟨t12, hm6⟩, hm7, ps, pvs, pk, hpl8, hps, hpsl, hpsi, W⟩ := (hJ3 _ _).mp hJj
          clear hJj hJ3 J3
          dsimp only at hm1 hm2 hm3 hm4 hm6 hm7 hpl8 W
          clear hpl hrl2 k6 k7 npl nl7
          have hplne : ∀ x ∈ [a.st, a.sd, a.hl, b.sy, b.yd, b.tx, b.ad, b.fl, b.fd, ua, sl, cl, nl, c], pl ≠ x := fun x hx q => plf (q ▸ hx)
          have pout : pl ∉ [b.tx, b.ad, b.fl, b.fd] := fun hx => plf (by simp only [List.mem_cons, List.not_mem_nil, or_false] at hx ⊢; rcases hx with h | h | h | h <;> simp [h])
          obtain ⟨es, ym, hyd, -, -, -, -, hno⟩ := W.sym.dict
          have hin := W.sym.inst
          have hmf := hno "func" (by decide)
          repeat walk_at "c"
          refine c_call (s_func (b := b) ok (by omega) (by exact W.sym) (by omega) (by omega) fun H9 n1 A1 F1 fs1 kg jg ug k9 S9 hn1 hA1 hF1 hg1 hg2 hq1 => ?_)
          obtain ⟨new1, rfl, hnl1, -⟩ := hq1
          dsimp only at k9
          have W1 := W.sym' k9 S9 hA1 ⟨new1, rfl⟩
          have hpl9 := k9 _ _ hpl8 pout
          obtain ⟨es1, ym1, hyd1, -, -, -, -, hno1⟩ := W1.sym.dict
          have hin1 := W1.sym.inst
          have hmf1 := hno1 "func" (by decide)
          repeat walk_at "c"
          refine c_call (s_func (b := b) ok (by omega) (by exact W1.sym) (by omega) (by simp; omega) fun H10 n2 A2 F2 fs2 kh jh uh k10 S10 hn2 hA2 hF2 hh1 hh2 hq2 => ?_)
          obtain ⟨new2, rfl, hnl2, -⟩ := hq2
          dsimp only at k10
          have W2 := W1.sym' k10 S10 hA2 ⟨new2, rfl⟩
          have hpl10 := k10 _ _ hpl9 pout
          obtain ⟨es2, ym2, hyd2, -, -, -, -, hno2⟩ := W2.sym.dict
          have hin2 := W2.sym.inst
          have hmf2 := hno2 "func" (by decide)
          repeat walk_at "c"
          refine c_call (s_func (b := b) ok (by omega) (by exact W2.sym) (by omega) (by simp; omega) fun H11 n3 A3 F3 fs3 kf jf uf k11 S11 hn3 hA3 hF3 hf1 hf2 hq3 => ?_)
          obtain ⟨new3, rfl, hnl3, -⟩ := hq3
          dsimp only at k11
          have W3 := W2.sym' k11 S11 hA3 ⟨new3, rfl⟩
          have hpl11 := k11 _ _ hpl10 pout
          repeat walk_at "c"
          refine c_newListG (by rw [sizeLine_eq]; simp) fun H12 l12 k12 nl12 hl12 => ?_
          dsimp only at k12 nl12
          have W4 := W3.mono k12
          have hpl12 := k12 _ _ hpl11
          have V4 : TInv A3 F3 cs nds ts := V.grow (fun s k e => hA3 _ _ (hA2 _ _ (hA1 _ _ e))) (fun c k e => hF3 _ _ (hF2 _ _ (hF1 _ _ e)))
          have ng := sym_nz W3.sym W3.dot (hA3 _ _ (hA2 _ _ hg1)) (hF3 _ _ (hF2 _ _ hg2)) (by decide)
          have nh := sym_nz W3.sym W3.dot (hA3 _ _ hh1) (hF3 _ _ hh2) (by decide)
          have nf := sym_nz W3.sym W3.dot hf1 hf2 (by decide)
          have lg := W3.sym.okF _ _ (hF3 _ _ (hF2 _ _ hg2))
          have lh := W3.sym.okF _ _ (hF3 _ _ hh2)
          have lf := W3.sym.okF _ _ hf2
          repeat walk_at "c"
          refine c_itemIx hl12 (by simp; omega) (by omega) fun x12 hx12 => ?_
          obtain ⟨fv, tfv, rfl, hfv⟩ : ∃ (fv : Nat) (tfv : Tok), x12 = Value.int fv tfv ∧ ((fv = 0 ∧ way = 2 ∧ np = 2) ∨ (0 < fv ∧ (∃ x, (fs ++ new1 ++ new2 ++ new3)[fv]? = some (x, (np : Int))) ∧ ∃ s, (∀ t, kdOf way t = .str s) ∧ ((s = "g" ∧ np = 1) ∨ (s = "h" ∧ np = 2) ∨ (s = "f" ∧ np = 2)) ∧ ∃ j : Nat, A3 s = some j ∧ F3 ((j : Int), (np : Int)) = some fv)) := by
            rcases (by omega : way = 0 ∨ way = 1 ∨ way = 2 ∨ way = 3) with rfl | rfl | rfl | rfl <;> cases hx12
            · rw [if_pos rfl] at hnp1
              subst hnp1
              exact ⟨kg, _, rfl, .inr ⟨ng, ⟨_, lg⟩, "g", fun _ => rfl, .inl ⟨rfl, rfl⟩, jg, hA3 _ _ (hA2 _ _ hg1), hF3 _ _ (hF2 _ _ hg2)⟩⟩
            · rw [if_neg (by decide)] at hnp1
              subst hnp1
              exact ⟨kh, _, rfl, .inr ⟨nh, ⟨_, lh⟩, "h", fun _ => rfl, .inr (.inl ⟨rfl, rfl⟩), jh, hA3 _ _ hh1, hF3 _ _ hh2⟩⟩
            · rw [if_neg (by decide)] at hnp1
              exact ⟨0, _, rfl, .inl ⟨rfl, rfl, hnp1⟩⟩
            · rw [if_neg (by decide)] at hnp1
              subst hnp1
              exact ⟨kf, _, rfl, .inr ⟨nf, ⟨_, lf⟩, "f", fun _ => rfl, .inr (.inr ⟨rfl, rfl⟩), jf, hf1, hf2⟩⟩
          have hfsl : (fs ++ new1 ++ new2 ++ new3).length ≤ 100 + 3 * (i + 1) := by simp only [List.length_append]; omega
          clear hx12 hl12 hpl8 hpl9 hpl10 hpl11 W W1 W2 W3 S9 S10 S11 hyd hin hmf hyd1 hin1 hmf1 hyd2 hin2 hmf2 k9 k10 k11 k12 hno hno1 hno2
          generalize fs ++ new1 ++ new2 ++ new3 = fs4 at *
          obtain ⟨cvs, ck, hcl4, hcc4⟩ := W4.cells
          have R4 := W4.rep
          repeat walk_at "c"
          refine c_cellName ok (lk hsc (by with_unfolding_all rfl)) (by rw [hce]; rfl) W4.cell ?_
          repeat walk_at "c"
          have hcvl := hcc4.1
          have hvl := V.len
          have hat : ∀ (j q : Nat), ps[j]? = some q → ∃ v d, cvs[q]? = some v ∧ ts[q]? = some d ∧ IsCell H12 v d := fun j q e => by
            have hq := hpsi q (List.mem_of_getElem? e)
            have h1 : cvs[q]? = some (cvs[q]'(by omega)) := by simp
            have h2 : ts[q]? = some (ts[q]'(by omega)) := by simp
            exact ⟨_, _, h1, h2, hcc4.2 q _ _ h1 h2⟩
          obtain ⟨ys, hys⟩ : ∃ ys, ys = ps.map fun q => cvs.getD q .none := ⟨_, rfl⟩
          obtain ⟨ds, hds⟩ : ∃ ds, ds = ps.map fun q => ts.getD q (0, 0) := ⟨_, rfl⟩
          have hysl : ys.length = ps.length := by rw [hys, List.length_map]
          have hdsl : ds.length = ps.length := by rw [hds, List.length_map]
          have hyat : ∀ (j q : Nat), ps[j]? = some q → ∃ v, cvs[q]? = some v ∧ ys[j]? = some v := fun j q e => by
            obtain ⟨v, d, h1, h2, -⟩ := hat j q e
            exact ⟨v, h1, by rw [hys, List.getElem?_map, e]; simp [List.getD, h1]⟩
          have hpd : PartsAre ts ps ds := ⟨hdsl, fun j q e => by
            obtain ⟨v, d, h1, h2, -⟩ := hat j q e
            exact ⟨d, h2, by rw [hds, List.getElem?_map, e]; simp [List.getD, h2]⟩⟩
          have hyd4 : CellsAre H12 ys ds := ⟨by omega, fun j v d e e' => by
            have hj := (List.getElem?_eq_some_iff.mp e).1
            have hp : ps[j]? = some (ps[j]'(by omega)) := by simp
            obtain ⟨v', d', h1, h2, h3⟩ := hat j _ hp
            obtain ⟨v'', h4, h5⟩ := hyat j _ hp
            obtain ⟨d'', h6, h7⟩ := hpd.2 j _ hp
            rw [h1] at h4; cases h4
            rw [h2] at h6; cases h6
            rw [e] at h5; cases h5
            rw [e'] at h7; cases h7
            exact h3⟩
          clear hys hds
          refine c_comp (c := c) (cl := cl) (pl := pl) (ys := ys) (ns := ps) ok hce (lk hsc (by with_unfolding_all rfl)) (lk hsc (by with_unfolding_all rfl)) (by walk_at "look") W4.cell hcl4 hpl12 hps hysl hyat (by omega) (fun q hq => by have := hpsi q hq; omega) fun H13 D k13 nD hD => ?_
          dsimp only at k13 nD
          have W5 := W4.mono k13
          have R5 := W5.rep
          have hyd5 := hyd4.mono k13
          have hDl : D ≠ a.hl := fun q => W4.fresh nD (by simp [q])
          repeat walk_at "c"
          refine c_call (s_new_struct ok (by omega) (by exact R5) V4.wf (by exact hD) (by exact hyd5) hDl (fun d hd => V4.cell' (let ⟨_, hj⟩ := List.getElem?_of_mem hd; V4.part hpd hj)) (fun q => by rw [q] at hdsl; simp at hdsl; omega) (by omega) (by
            rcases hfv with ⟨e, -, e2⟩ | ⟨e, ⟨x, e2⟩, -⟩
            · exact .inl ⟨by omega, by omega⟩
            · have := (List.getElem?_eq_some_iff.mp e2).1
              exact .inr ⟨by omega, by omega, x, by rw [show ((fv : Nat) : Int).toNat = fv by omega, e2, hdsl, hpsl]⟩) fun H14 v14 k14 R14 hv14 => ?_)
          dsimp only at k14
          have W6 := W5.sto' k14 R14
          have hpl14 := k14 _ _ (k13 _ _ hpl12) (fun q => plf (by simp [q]))
          obtain ⟨cvs6, ck6, hcl6, hcc6⟩ := W6.cells
          have := hcc6.1
          have := sizeLine_eq
          repeat walk_at "c"
          have e7 : ck6 = ck ∧ cvs6 = cvs := by
            have q := k14 _ _ (k13 _ _ hcl4) (fun q => dis_of W4.dis [11] [2] rfl rfl rfl cl (by simp) (by simp [q]))
            rw [hcl6] at q
            injection q with q; injection q with q1 q2 q3; injection q3 with q3 q4
            exact ⟨q4, by simpa using q3⟩
          obtain ⟨rfl, rfl⟩ := e7
          refine c_append hcl6 (by omega) ?_
          refine ⟨rfl, ?_⟩
          have k15 : LeBut cl H14 (H14.put cl (lstO (cvs6 ++ [v14]) (ck6 + 1))) := leBut_put
          have hpl15 := k15 _ _ hpl14 (fun q => plf (by simp [q]))
          have hV : ∃ t, t = (if (fv : Int) = 0 then 3 else 2, (cs.length : Int)) ∧ TInv A3 F3 (cs ++ (if (fv : Int) = 0 then ds else (6, (fv : Int)) :: ds)) (nds ++ [⟨kdOf way t, ps⟩]) (ts ++ [t]) := by
            refine ⟨_, rfl, ?_⟩
            rcases hfv with ⟨f0, f1, e2⟩ | ⟨e, -, s, e2, e3, e4⟩
            · subst f1
              subst f0
              rw [if_pos (by rfl), if_pos (by rfl)]
              exact V4.dot' (by omega) hpd (by omega)
            · rw [if_neg (by omega), if_neg (by omega), e2]
              rw [← hpsl] at e3 e4
              exact V4.str' (by omega) hpd e3 e4
          obtain ⟨t, rfl, hV⟩ := hV
          repeat walk_at "c"
          exact ⟨rfl, (hJ2 _).mpr ⟨hm1, hm2, hm3, hm4, ⟨t12, by walk_at "look"⟩, by walk_at "look", _, ps, pvs, pk, _, _, n3, A3, F3, hpl15, hps, W6.cl' k15 (Hp.put_self ..) ((hcc6.app hv14).keep hcl6 list_not_tuple k15), hV, by omega, hfsl⟩⟩
      · have hw4 : 4 ≤ way := by have := of_decide_eq_false e; omega
        have hcnew : ∀ m7 H7 v7 t7 cs7 (W7 : LW C.w a b ua sl cl nl c Zf H7 cs7 fs n A F ts nds), H7 pl = some (lstO [] 0) → IsCell H7 v7 t7 → TInv A F cs7 (nds ++ [⟨kdOf way t7, []⟩]) (ts ++ [t7]) → m7 "urn" = some (.ref ua) → m7 "store" = some (.ref a.st) → m7 "book" = some (.ref b.sy) → m7 "nodes" = some (.ref nl) → Way (m7 "way") way → m7 "parts" = some (.ref pl) →
            wpC C (call (.builtin "list.append") [.ref cl, v7]) (fun v st' => v = .none ∧ J2 st') ⟨m7, H7⟩ := fun m7 H7 v7 t7 cs7 W7 hp7 hv7 hV q1 q2 q3 q4 q5 q6 => by
          obtain ⟨cvs7, ck7, hcl7, hcc7⟩ := W7.cells
          have := hcc7.1
          have := sizeLine_eq
          have := V.len
          refine c_append hcl7 (by omega) ?_
          have k15 : LeBut cl H7 (H7.put cl (lstO (cvs7 ++ [v7]) (ck7 + 1))) := leBut_put
          exact ⟨rfl, (hJ2 _).mpr ⟨q1, q2, q3, q4, q5, q6, t7, [], [], 0, cs7, fs, n, A, F, k15 _ _ hp7 (fun q => plf (by simp [q])), ⟨rfl, fun i v n e => by simp at e⟩, W7.cl' k15 (Hp.put_self ..) ((hcc7.app hv7).keep hcl7 list_not_tuple k15), hV, by omega, by omega⟩⟩
        repeat walk_at "c"
        refine ⟨fun e4 => ?_, fun e4 => ?_⟩
        · have hw : way = 4 := by have := eq_of_beq e4; omega
          subst hw
          repeat walk_at "c"
          refine c_cellName ok (lk hsc (by with_unfolding_all rfl)) (by rw [hce]; rfl) W.cell ?_
          obtain ⟨cvs7, ck7, hcl7, hcc7⟩ := W.cells
          repeat walk_at "c"
          refine c_newTupleG (by rw [sizeLine_eq]; simp) fun H7 p7 k7 np7 hp7 => ?_
          dsimp only at k7
          repeat walk_at "c"
          refine' wpC.mono (hcnew _ H7 _ (4, 0) _ (W.mono k7) (k7 _ _ hpl) ⟨p7, _, _, rfl, hp7⟩ (V.nil' (by omega)) hm1 hm2 hm3 hm4 ⟨t10, hm6⟩ ?lk) ?_
          case lk => walk_at "look"
          rintro v st' ⟨e, q⟩
          refine ⟨e, ?_⟩
          repeat walk_at "c"
          exact ⟨rfl, q⟩
        · have hw : way ≠ 4 := fun q => by subst q; simp at e4
          repeat walk_at "c"
          refine ⟨fun e5 => ?_, fun e5 => ?_⟩
          · have hw : way = 5 := by have := eq_of_beq e5; omega
            subst hw
            repeat walk_at "c"
            refine c_cellName ok (lk hsc (by with_unfolding_all rfl)) (by rw [hce]; rfl) W.cell ?_
            obtain ⟨cvs7, ck7, hcl7, hcc7⟩ := W.cells
            repeat walk_at "c"
            refine c_pow (by decide) (by decide) (by decide) fun t11 => ?_
            repeat walk_at "c"
            refine c_call (s_pick ok (by omega) (by exact W.urn) hua (by decide) (by rw [Nat.log2_lt (by decide)]; exact Nat.lt_of_lt_of_le (show _ < 2 ^ 67 by decide) (Nat.pow_le_pow_right (by decide) (by decide))) fun H7 r7 u7 k7 U7 hr0 hr7 => ?_)
            dsimp only at k7
            have W7 := W.urn' k7 U7
            have hpl7 := k7 _ _ hpl (fun q => plf (by simp [q]))
            repeat walk_at "c"
            refine c_newTupleG (by rw [sizeLine_eq]; simp) fun H8 p8 k8 np8 hp8 => ?_
            dsimp only at k8
            repeat walk_at "c"
            refine' wpC.mono (hcnew _ H8 _ (5, r7) _ (W7.mono k8) (k8 _ _ hpl7) ⟨p8, _, _, rfl, hp8⟩ (V.int' (by omega) r7) hm1 hm2 hm3 hm4 ⟨t10, hm6⟩ ?lk) ?_
            case lk => walk_at "look"
            rintro v st' ⟨e, q⟩
            refine ⟨e, ?_⟩
            repeat walk_at "c"
            exact ⟨rfl, q⟩
          · have hw6 : way = 6 := by
              have : way ≠ 5 := fun q => by subst q; simp at e5
              omega
            subst hw6
            repeat walk_at "c"
            refine c_cellName ok (lk hsc (by with_unfolding_all rfl)) (by rw [hce]; rfl) W.cell ?_
            obtain ⟨cvs7, ck7, hcl7, hcc7⟩ := W.cells
            have R7 := W.rep
            repeat walk_at "c"
            have := V.size
            refine c_call (s_new_var ok (by omega) (by exact R7) (by omega) fun H7 v7 k7 R8 hv7 => ?_)
            dsimp only at k7
            have hpl7 := k7 _ _ hpl (fun q => plf (by simp [q]))
            repeat walk_at "c"
            refine' wpC.mono (hcnew _ H7 _ (0, (cs.length : Int)) _ (W.sto' k7 R8) hpl7 hv7 (V.var' (by omega)) hm1 hm2 hm3 hm4 ⟨t10, hm6⟩ ?lk) ?_
            case lk => walk_at "look"
            rintro v st' ⟨e, q⟩
            refine ⟨e, ?_⟩
            repeat walk_at "c"
            exact ⟨rfl, q⟩
    · rintro ⟨m7, H7⟩ hj
      obtain ⟨hm1, hm2, hm3, hm4, ⟨t12, hm6⟩, hm7, t, ps, pvs, pk, cs, fs, n, A, F, hpl7, hps, W7, V7, hn7, hfs7⟩ := (hJ2 _).mp hj
      clear hj hJ2 J2
      dsimp only at hm1 hm2 hm3 hm4 hm6 hm7 hpl7 W7
      clear W hpl V
      obtain ⟨cvs8, ck8, hcl8, hcc8⟩ := W7.cells
      obtain ⟨nvs8, nk8, hnl8, hnl8', hnl8''⟩ := W7.nodes
      repeat walk_at "c"
      refine c_cellName ok (lk hsc (by with_unfolding_all rfl)) (by rw [hce]; rfl) W7.cell ?_
      repeat walk_at "c"
      have hcvl := hcc8.1
      have hts : ts.length = i := by have := V7.len; simp at this; omega
      rw [List.length_append, List.length_singleton] at hcvl
      have htl : (ts ++ [t])[cvs8.length - 1]? = some t := by rw [hcvl, Nat.add_sub_cancel]; simp
      have hvl : cvs8[cvs8.length - 1]? = some (cvs8[cvs8.length - 1]'(by omega)) := by simp
      have hvc := hcc8.2 _ _ _ hvl htl
      refine c_itemNeg hcl8 hvl ?_
      generalize cvs8[cvs8.length - 1]'_ = vl at *
      repeat walk_at "c"
      refine c_newListG (by rw [sizeLine_eq]; simp) fun H9 l9 k9 nl9 hl9 => ?_
      dsimp only at k9 nl9
      have W9 := W7.mono k9
      repeat walk_at "c"
      refine c_itemIx hl9 (by simp; omega) (by omega) fun x9 hx9 => ?_
      have hkd : ∀ Hz : Hp, IsCell Hz vl t → KdIs Hz x9 (kdOf way t) := fun Hz hz => by
        rcases (by omega : way = 0 ∨ way = 1 ∨ way = 2 ∨ way = 3 ∨ way = 4 ∨ way = 5 ∨ way = 6) with rfl | rfl | rfl | rfl | rfl | rfl | rfl <;> cases hx9
        · exact ⟨_, rfl⟩
        · exact ⟨_, rfl⟩
        · exact ⟨_, rfl⟩
        · exact ⟨_, rfl⟩
        · exact ⟨_, rfl⟩
        · exact hz
        · exact ⟨_, rfl⟩
      clear hx9
      repeat walk_at "c"
      refine c_newListG (by rw [sizeLine_eq]; simp) fun H10 d k10 nd hd => ?_
      dsimp only at k10 nd
      have W10 := W9.mono k10
      have df := W9.fresh nd
      have hpl10 := k10 _ _ (k9 _ _ hpl7)
      obtain ⟨p, tp, up, rfl, hp⟩ := hvc
      have hp10 := k10 _ _ (k9 _ _ hp)
      have hnl10 := k10 _ _ (k9 _ _ hnl8)
      repeat walk_at "c"
      have := sizeLine_eq
      refine c_append hnl10 (by omega) ?_
      refine ⟨rfl, ?_⟩
      have k11 : LeBut nl H10 (H10.put nl (lstO (nvs8 ++ [.ref d]) (nk8 + 1))) := leBut_put
      -- the new objects are frozen
      obtain ⟨Zn, hZn⟩ : ∃ Zn : Hp, Zn = fun y => if y ∈ [pl, d, p] then H10 y else Zf y := ⟨_, rfl⟩
      have zin : ∀ y ∈ [pl, d, p], ∀ o, H10 y = some o → Zn y = some o := fun y hy o e => by rw [hZn]; show (if _ then _ else _) = _; rw [if_pos hy, e]
      have zk : Le Zf Zn := fun y o e => by
        rw [hZn]
        show (if _ then _ else _) = _
        split
        · exact W10.zle y o e
        · exact e
      have W11 := W10.frz zk (fun y o e => by
        rw [hZn] at e
        have e : (if y ∈ [pl, d, p] then H10 y else Zf y) = some o := e
        split at e
        · exact e
        · exact W10.zle y o e) (fun x hx => by
        rw [hZn]
        show (if _ then _ else _) = _
        have hn : x ∉ [pl, d, p] := fun q => by
          have sub : x ∈ [a.st, a.sd, a.hl, b.sy, b.yd, b.tx, b.ad, b.fl, b.fd, ua, sl, cl, nl, c] := by
            simp only [List.mem_cons, List.not_mem_nil, or_false] at hx ⊢
            rcases hx with h | h | h | h | h | h | h | h <;> simp [h]
          simp only [List.mem_cons, List.not_mem_nil, or_false] at q
          rcases q with rfl | rfl | rfl
          · exact plf sub
          · exact df sub
          · exact not_tup_list W10 _ hx _ hp10 rfl
        rw [if_neg hn]
        exact W10.zno x hx)
      obtain ⟨nvs12, nk12, hq1, hq2, hq3⟩ := W11.nodes
      have e12 : nvs12 = nvs8 := by
        rw [hnl10] at hq1
        injection hq1 with q; injection q with q1 q2 q3; injection q3 with q3 q4
        simpa using q3.symm
      subst e12
      repeat walk_at "c"
      refine (hJ _ _).mpr ⟨hm1, hm2, hm3, hm4, Zn, cs, fs, n, A, F, _, nds ++ [⟨kdOf way t, ps⟩], W11.nl' k11 (Hp.put_self ..) ⟨by simp [hnl8'], fun j v nd' e e' => ?_⟩, V7, by simp [hnl], by omega, by omega⟩
      rcases nth_app e with e1 | ⟨e1, rfl⟩ <;> rcases nth_app e' with e2 | ⟨e2, rfl⟩
      · exact hq3 j v nd' e1 e2
      · have := (List.getElem?_eq_some_iff.mp e1).1; omega
      · have := (List.getElem?_eq_some_iff.mp e2).1; omega
      · exact ⟨d, x9, pl, 0, pvs, pk, rfl, zin d (by simp) _ hd, hkd Zn ⟨p, tp, up, rfl, zin p (by simp) _ hp10⟩, zin pl (by simp) _ hpl10, hps⟩
  · rintro ⟨m', H'⟩ hj
    obtain ⟨hm1, hm2, hm3, hm4, Zf, cs, fs, n, A, F, ts, nds, W, V, hnl, hn, hfs⟩ := (hJ _ _).mp hj
    dsimp only at hm1 hm2 hm3 hm4 W
    repeat walk_at "c"
    refine c_cellName ok (lk hsc (by with_unfolding_all rfl)) (by rw [hce]; rfl) W.cell ?_
    repeat walk_at "c"
    refine c_newTupleG (by rw [sizeLine_eq]; simp) fun H5 r5 k5 nr5 hr5 => ?_
    dsimp only at k5
    repeat walk_at "c"
    rw [hw] at W
    exact h H5 r5 cl nl c Zf cs fs n A F ts nds hr5 (W.mono k5) V (by omega) (by omega) (by omega) ncl0 nnl0
end

-- the plain law: unify
def Cmpd (x : Cell) : Prop := x.1 = 2 ∨ x.1 = 3
def cnt (S : Int → Bool) : Nat → Nat
  | 0 => 0
  | n + 1 => cnt S n + if S n then 0 else 1
theorem cnt_add {S : Int → Bool} {k : Int} (h0 : 0 ≤ k) (hS : S k = false) : ∀ n : Nat, cnt (fun j => S j || decide (j = k)) n + (if k < n then 1 else 0) = cnt S n
  | 0 => by simp [cnt]; omega
  | n + 1 => by
    have ih := cnt_add h0 hS n
    unfold cnt
    by_cases e : (n : Int) = k
    · have e1 : (S (n : Int) || decide ((n : Int) = k)) = true := by rw [decide_eq_true e, Bool.or_true]
      have e2 : S (n : Int) = false := e ▸ hS
      have q1 : ¬ k < (n : Int) := by omega
      have q2 : k < ((n + 1 : Nat) : Int) := by omega
      rw [if_neg q1] at ih
      rw [if_pos q2, if_pos e1, e2, if_neg (by decide)]
      omega
    · have e1 : (S (n : Int) || decide ((n : Int) = k)) = S (n : Int) := by rw [decide_eq_false e, Bool.or_false]
      rw [e1]
      by_cases q : k < (n : Int)
      · have q2 : k < ((n + 1 : Nat) : Int) := by omega
        rw [if_pos q] at ih
        rw [if_pos q2]; omega
      · have q2 : ¬ k < ((n + 1 : Nat) : Int) := by omega
        rw [if_neg q] at ih
        rw [if_neg q2]; omega
theorem cnt_le (S : Int → Bool) : ∀ n : Nat, cnt S n ≤ n
  | 0 => Nat.le_refl _
  | n + 1 => by have := cnt_le S n; unfold cnt; split <;> omega
theorem cnt_none : ∀ n : Nat, cnt (fun _ => false) n = n
  | 0 => rfl
  | n + 1 => by unfold cnt; rw [cnt_none n]; rfl

section
variable {c0 fs cs : List Cell} {T : Cell → Prop}
def GoodV (c0 fs : List Cell) (T : Cell → Prop) (v : Cell → Cell) : Prop := ∀ x y, T x → T y → v x = v y → x.1 ≠ 0 → y.1 ≠ 0 → x = y ∨ (Cmpd x ∧ Shape c0 x y ∧ ∀ j < wid c0 fs x, v (argAt c0 x j) = v (argAt c0 y j))
def Compat (T : Cell → Prop) (cs : List Cell) (v : Cell → Cell) : Prop := ∀ x, T x → v x = v (deref cs x)
def IsBis (c0 fs : List Cell) (T : Cell → Prop) (cs : List Cell) (B : Cell → Cell → Prop) : Prop := ∀ x y, T x → T y → B x y → deref cs x = deref cs y ∨ (Cmpd (deref cs x) ∧ Shape c0 (deref cs x) (deref cs y) ∧ ∀ j < wid c0 fs (deref cs x), B (argAt c0 (deref cs x) j) (argAt c0 (deref cs y) j))
def Ext (T : Cell → Prop) (cs cs' : List Cell) : Prop := (∀ x y, T x → T y → deref cs x = deref cs y → deref cs' x = deref cs' y) ∧ ∀ x, T x → (deref cs x).1 ≠ 0 → deref cs' x = deref cs x
theorem Ext.refl (cs : List Cell) : Ext T cs cs := ⟨fun _ _ _ _ h => h, fun _ _ _ => rfl⟩
theorem Ext.trans {a b c : List Cell} (h : Ext T a b) (k : Ext T b c) : Ext T a c :=
  ⟨fun x y hx hy e => k.1 x y hx hy (h.1 x y hx hy e), fun x hx e => by
    have := h.2 x hx e
    rw [k.2 x hx (by rw [this]; exact e), this]⟩
theorem Cmpd.shape {x y : Cell} (h : Cmpd x) (s : Shape c0 x y) : Cmpd y := by have := s.1; unfold Cmpd at *; omega
/-- the span keeps the pairs of compounds apart -/
theorem cmpd_addr (G : Gr c0 fs T) {x : Cell} (hx : T x) (hc : Cmpd x) : 0 ≤ x.2 ∧ x.2 < c0.length := by
  obtain ⟨-, ⟨h0, h1⟩, h2⟩ := G.cmp x hx hc
  refine ⟨h0, ?_⟩
  rcases h1 with ⟨h3, hw⟩ | ⟨h3, f, k, hf, -⟩
  · have := (h2 0 (by omega)).1
    unfold bas at this
    rw [if_pos h3] at this
    omega
  · have := (List.getElem?_eq_some_iff.mp hf).1
    omega
theorem cmpd_inj (G : Gr c0 fs T) {x y : Cell} (hx : T x) (hy : T y) (cx : Cmpd x) (cy : Cmpd y) (h : x.2 = y.2) : x = y := by
  refine Prod.ext ?_ h
  have key : ∀ x y : Cell, T x → T y → x.1 = 2 → y.1 = 3 → x.2 = y.2 → False := fun x y hx hy h2 h3 e => by
    obtain ⟨-, ⟨-, ⟨q, -⟩ | ⟨-, f, k, hf, -⟩⟩, -⟩ := G.cmp x hx (.inl h2)
    · omega
    · obtain ⟨-, ⟨h0, -⟩, ha⟩ := G.cmp y hy (.inr h3)
      obtain ⟨a, b, c⟩ := ha 0 (by unfold Mine.wid; rw [if_pos h3]; omega)
      have e1 : argAt c0 y 0 = (6, f) := by
        unfold argAt
        rw [if_pos h3, ← e, Nat.add_zero, hf]; rfl
      rw [e1] at b
      have := G.tag _ b
      simp at this
  rcases cx with cx | cx <;> rcases cy with cy | cy
  · omega
  · exact (key x y hx hy cx cy h).elim
  · exact (key y x hy hx cy cx h.symm).elim
  · omega
theorem num_inj (G : Gr c0 fs T) {a b c d : Cell} (ha : T a) (hb : T b) (hc : T c) (hd : T d) (ca : Cmpd a) (cb : Cmpd b) (cc : Cmpd c) (cd : Cmpd d) (h : num (c0.length + 1) a b = num (c0.length + 1) c d) : a = c ∧ b = d := by
  have a1 := cmpd_addr G ha ca
  have b1 := cmpd_addr G hb cb
  have c1 := cmpd_addr G hc cc
  have d1 := cmpd_addr G hd cd
  unfold num at h
  have far : ∀ p q : Int, p < q → p * ((c0.length : Int) + 1) + ((c0.length : Int) + 1) ≤ q * ((c0.length : Int) + 1) := fun p q hpq => by
    have := Int.mul_le_mul_of_nonneg_right (show p + 1 ≤ q by omega) (show (0 : Int) ≤ (c0.length : Int) + 1 by omega)
    rw [Int.add_mul, Int.one_mul] at this
    exact this
  have e1 : a.2 = c.2 := by
    rcases Int.lt_trichotomy a.2 c.2 with q | q | q
    · have := far _ _ q; omega
    · exact q
    · have := far _ _ q; omega
  have e2 : b.2 = d.2 := by rw [e1] at h; omega
  exact ⟨cmpd_inj G ha hc ca cc e1, cmpd_inj G hb hd cb cd e2⟩
theorem num_lt (G : Gr c0 fs T) {a b : Cell} (ha : T a) (hb : T b) (ca : Cmpd a) (cb : Cmpd b) : 0 ≤ num (c0.length + 1) a b ∧ num (c0.length + 1) a b < (((c0.length + 1) * (c0.length + 1) : Nat) : Int) := by
  have a1 := cmpd_addr G ha ca
  have b1 := cmpd_addr G hb cb
  unfold num
  have h1 : 0 ≤ a.2 * ((c0.length : Int) + 1) := Int.mul_nonneg a1.1 (by omega)
  have h2 : a.2 * ((c0.length : Int) + 1) ≤ (c0.length - 1) * ((c0.length : Int) + 1) := Int.mul_le_mul_of_nonneg_right (by omega) (by omega)
  refine ⟨by omega, ?_⟩
  rw [Int.natCast_mul]
  have h3 : ((c0.length : Int) - 1) * ((c0.length : Int) + 1) + 2 * ((c0.length : Int) + 1) = ((c0.length : Int) + 1) * ((c0.length : Int) + 1) := by rw [← Int.add_mul]; congr 1; omega
  have h4 : (((c0.length + 1 : Nat)) : Int) = (c0.length : Int) + 1 := by omega
  rw [h4]
  omega
end

section
variable {c0 fs cs : List Cell} {T : Cell → Prop}
/-- what unify's end says -/
structure UEnd (c0 fs : List Cell) (T : Cell → Prop) (cs : List Cell) (c d : Cell) (b : Bool) (cs' : List Cell) : Prop where
  now : Now c0 T cs'
  no : b = false → ∀ v, GoodV c0 fs T v → Compat T cs v → v c = v d → False
  noB : b = false → ∀ B, IsBis c0 fs T cs B → B c d → False
  ext : b = true → Ext T cs cs'
  val : b = true → ∀ v, GoodV c0 fs T v → Compat T cs v → v c = v d → Compat T cs' v
  bis : b = true → ∃ B, IsBis c0 fs T cs' B ∧ B c d
  same : b = true → ∀ B, IsBis c0 fs T cs B → B c d → cs' = cs
def Owed (cs : List Cell) (mp wk : List (Cell × Cell)) (x y : Cell) : Prop := deref cs x = deref cs y ∨ (deref cs x, deref cs y) ∈ mp ∨ (x, y) ∈ wk
structure UI (c0 fs : List Cell) (T : Cell → Prop) (cs : List Cell) (c d : Cell) (mp : List (Cell × Cell)) (m : Nat) (u : US) : Prop where
  cT : T c
  dT : T d
  now : Now c0 T u.cs
  wkT : ∀ p ∈ u.wk, T p.1 ∧ T p.2
  m_eq : m = 3 * cnt u.met ((c0.length + 1) * (c0.length + 1)) + u.wk.length
  m_le : m ≤ 3 * ((c0.length + 1) * (c0.length + 1)) + 1
  n_eq : u.n + cnt u.met ((c0.length + 1) * (c0.length + 1)) = (c0.length + 1) * (c0.length + 1)
  ext : Ext T cs u.cs
  val : ∀ v, GoodV c0 fs T v → Compat T cs v → v c = v d → Compat T u.cs v ∧ ∀ p ∈ u.wk, v p.1 = v p.2
  mpT : ∀ p ∈ mp, T p.1 ∧ T p.2 ∧ Cmpd p.1 ∧ Shape c0 p.1 p.2
  met : ∀ k, u.met k = true → ∃ p ∈ mp, k = num (c0.length + 1) p.1 p.2
  owed : Owed u.cs mp u.wk c d
  args : ∀ p ∈ mp, ∀ j < wid c0 fs p.1, Owed u.cs mp u.wk (argAt c0 p.1 j) (argAt c0 p.2 j)
  same : ∀ B, IsBis c0 fs T cs B → B c d → u.cs = cs ∧ ∀ p ∈ u.wk, B p.1 p.2
theorem Owed.pop {cs : List Cell} {mp wk : List (Cell × Cell)} {l r x y : Cell} (h : Owed cs mp ((l, r) :: wk) x y) (s : deref cs l = deref cs r ∨ (deref cs l, deref cs r) ∈ mp) : Owed cs mp wk x y := by
  rcases h with h | h | h
  · exact .inl h
  · exact .inr (.inl h)
  · rcases List.mem_cons.mp h with h | h
    · injection h with h1 h2
      subst h1 h2
      exact s.elim .inl fun s => .inr (.inl s)
    · exact .inr (.inr h)
theorem argT (G : Gr c0 fs T) {x : Cell} (hx : T x) (hc : Cmpd x) {j : Nat} (hj : j < wid c0 fs x) : T (argAt c0 x j) := ((G.cmp x hx hc).2.2 j hj).2.1
section
variable {c d : Cell} {mp : List (Cell × Cell)} {m : Nat} {u : US} {l r : Cell} {wk : List (Cell × Cell)}
/-- the top pair goes -/
theorem UI.pop (I : UI c0 fs T cs c d mp m u) (hw : u.wk = (l, r) :: wk) (s : deref u.cs l = deref u.cs r ∨ (deref u.cs l, deref u.cs r) ∈ mp) : UI c0 fs T cs c d mp (m - 1) { u with wk := wk } := by
  have hm := I.m_eq
  rw [hw, List.length_cons] at hm
  refine ⟨I.cT, I.dT, I.now, fun p hp => I.wkT p (by rw [hw]; exact .tail _ hp), by dsimp only; omega, by have := I.m_le; omega, I.n_eq, I.ext, fun v a b e => ?_, I.mpT, I.met, ?_, fun p hp j hj => ?_, fun B hB e => ?_⟩
  · obtain ⟨x, y⟩ := I.val v a b e
    exact ⟨x, fun p hp => y p (by rw [hw]; exact .tail _ hp)⟩
  · have := I.owed; rw [hw] at this; exact this.pop s
  · have := I.args p hp j hj; rw [hw] at this; exact this.pop s
  · obtain ⟨x, y⟩ := I.same B hB e
    exact ⟨x, fun p hp => y p (by rw [hw]; exact .tail _ hp)⟩
theorem UI.pos (I : UI c0 fs T cs c d mp m u) (hw : u.wk = (l, r) :: wk) : m - 1 < m := by
  have hm := I.m_eq
  rw [hw, List.length_cons] at hm
  omega
/-- a variable is bound: L to R -/
theorem UI.bind (G : Gr c0 fs T) (I : UI c0 fs T cs c d mp m u) (hw : u.wk = (l, r) :: wk) {L R : Cell} (hLR : (L = deref u.cs l ∧ R = deref u.cs r) ∨ (L = deref u.cs r ∧ R = deref u.cs l)) (hne : L ≠ R) (h0 : L.1 = 0) (hlt : R.1 = 0 → R.2 < L.2) :
    UI c0 fs T cs c d mp (m - 1) { u with cs := u.cs.set L.2.toNat R, wk := wk } := by
  have N := I.now
  obtain ⟨hTl, hTr⟩ := I.wkT (l, r) (by rw [hw]; exact .head _)
  dsimp only at hTl hTr
  have hTL : T L := by rcases hLR with ⟨h, -⟩ | ⟨h, -⟩ <;> rw [h] <;> exact deref_T G N ‹_›
  have hTR : T R := by rcases hLR with ⟨-, h⟩ | ⟨-, h⟩ <;> rw [h] <;> exact deref_T G N ‹_›
  have hFL : Fin u.cs L := by rcases hLR with ⟨h, -⟩ | ⟨h, -⟩ <;> rw [h] <;> exact deref_fin G N ‹_›
  have hFR : Fin u.cs R := by rcases hLR with ⟨-, h⟩ | ⟨-, h⟩ <;> rw [h] <;> exact deref_fin G N ‹_›
  have hd : ∀ x, T x → deref (u.cs.set L.2.toNat R) x = if deref u.cs x = L then R else deref u.cs x := fun x hx => deref_bind G N hTL h0 hFL hTR hFR (Ne.symm hne) hlt hx
  have hd1 : ∀ x y, T x → T y → deref u.cs x = deref u.cs y → deref (u.cs.set L.2.toNat R) x = deref (u.cs.set L.2.toNat R) y := fun x y hx hy e => by rw [hd x hx, hd y hy, e]
  have hd2 : ∀ x, T x → (deref u.cs x).1 ≠ 0 → deref (u.cs.set L.2.toNat R) x = deref u.cs x := fun x hx e => by rw [hd x hx, if_neg (fun q => e (by rw [q]; exact h0))]
  have hlr : deref (u.cs.set L.2.toNat R) l = deref (u.cs.set L.2.toNat R) r := by
    rw [hd l hTl, hd r hTr]
    rcases hLR with ⟨h1, h2⟩ | ⟨h1, h2⟩
    · rw [← h1, ← h2, if_pos rfl, if_neg (Ne.symm hne)]
    · rw [← h1, ← h2, if_pos rfl, if_neg (Ne.symm hne)]
  have ow : ∀ x y, T x → T y → Owed u.cs mp u.wk x y → Owed (u.cs.set L.2.toNat R) mp wk x y := fun x y hx hy h => by
    rcases h with h | h | h
    · exact .inl (hd1 x y hx hy h)
    · obtain ⟨-, -, h3, h4⟩ := I.mpT _ h
      dsimp only at h3 h4
      have e1 := hd2 x hx (by rcases h3 with h | h <;> omega)
      have e2 := hd2 y hy (by have := h4.1; rcases h3 with h | h <;> omega)
      exact .inr (.inl (by rw [e1, e2]; exact h))
    · rw [hw] at h
      rcases List.mem_cons.mp h with h | h
      · injection h with h1 h2
        subst h1 h2
        exact .inl hlr
      · exact .inr (.inr h)
  have hm := I.m_eq
  rw [hw, List.length_cons] at hm
  refine ⟨I.cT, I.dT, N.bind G hTL h0 hTR hlt, fun p hp => I.wkT p (by rw [hw]; exact .tail _ hp), by dsimp only; omega, by have := I.m_le; omega, I.n_eq, I.ext.trans ⟨hd1, hd2⟩, fun v a b e => ?_, I.mpT, I.met, ow _ _ I.cT I.dT I.owed, fun p hp j hj => ?_, fun B hB e => ?_⟩
  · obtain ⟨x, y⟩ := I.val v a b e
    have e2 := y (l, r) (by rw [hw]; exact .head _)
    dsimp only at e2
    have e3 : v L = v R := by
      rcases hLR with ⟨h1, h2⟩ | ⟨h1, h2⟩
      · rw [h1, h2, ← x l hTl, ← x r hTr, e2]
      · rw [h1, h2, ← x l hTl, ← x r hTr, e2]
    refine ⟨fun z hz => ?_, fun p hp => y p (by rw [hw]; exact .tail _ hp)⟩
    rw [hd z hz]
    split
    · rename_i q; rw [← e3, ← q]; exact x z hz
    · exact x z hz
  · obtain ⟨h1, h2, h3, h4⟩ := I.mpT p hp
    exact ow _ _ (argT G h1 h3 hj) (argT G h2 (h3.shape h4) (by rw [← h4.wid]; exact hj)) (I.args p hp j hj)
  · obtain ⟨x, y⟩ := I.same B hB e
    have z := hB l r hTl hTr (y (l, r) (by rw [hw]; exact .head _))
    rw [← x] at z
    exfalso
    rcases z with z | ⟨z, z', -⟩
    · rcases hLR with ⟨h1, h2⟩ | ⟨h1, h2⟩
      · exact hne (by rw [h1, h2, z])
      · exact hne (by rw [h1, h2, z])
    · have := z'.1
      rcases hLR with ⟨h1, h2⟩ | ⟨h1, h2⟩
      · rw [← h1] at z; rcases z with z | z <;> omega
      · rw [← h1] at this; rcases z with z | z <;> omega
theorem UI.push (G : Gr c0 fs T) (I : UI c0 fs T cs c d mp m u) (hw : u.wk = (l, r) :: wk) (hne : deref u.cs l ≠ deref u.cs r) (hc : Cmpd (deref u.cs l)) (hs : Shape c0 (deref u.cs l) (deref u.cs r)) (hf : u.met (num (c0.length + 1) (deref u.cs l) (deref u.cs r)) = false) :
    ∃ m' < m, UI c0 fs T cs c d ((deref u.cs l, deref u.cs r) :: mp) m' { cs := u.cs, wk := pairsOf c0 (deref u.cs l) (deref u.cs r) (wid c0 fs (deref u.cs l)) ++ wk, met := u.add (num (c0.length + 1) (deref u.cs l) (deref u.cs r)), n := u.n + 1 } := by
  have N := I.now
  obtain ⟨hTl, hTr⟩ := I.wkT (l, r) (by rw [hw]; exact .head _)
  dsimp only at hTl hTr
  have hTL := deref_T G N hTl
  have hTR := deref_T G N hTr
  obtain ⟨n0, n1⟩ := num_lt G hTL hTR hc (hc.shape hs)
  have hcn := cnt_add n0 hf ((c0.length + 1) * (c0.length + 1))
  rw [if_pos n1] at hcn
  have hcn : cnt (u.add (num (c0.length + 1) (deref u.cs l) (deref u.cs r))) ((c0.length + 1) * (c0.length + 1)) + 1 = cnt u.met ((c0.length + 1) * (c0.length + 1)) := hcn
  have hm := I.m_eq
  rw [hw, List.length_cons] at hm
  have hwid := (G.cmp _ hTL hc).1
  have hpl : (pairsOf c0 (deref u.cs l) (deref u.cs r) (wid c0 fs (deref u.cs l))).length = wid c0 fs (deref u.cs l) := by unfold pairsOf; simp
  have hin : ∀ j < wid c0 fs (deref u.cs l), (argAt c0 (deref u.cs l) j, argAt c0 (deref u.cs r) j) ∈ pairsOf c0 (deref u.cs l) (deref u.cs r) (wid c0 fs (deref u.cs l)) := fun j hj => List.mem_map.mpr ⟨j, List.mem_range.mpr hj, rfl⟩
  have hout : ∀ p ∈ pairsOf c0 (deref u.cs l) (deref u.cs r) (wid c0 fs (deref u.cs l)), ∃ j < wid c0 fs (deref u.cs l), p = (argAt c0 (deref u.cs l) j, argAt c0 (deref u.cs r) j) := fun p hp => by
    obtain ⟨j, hj, e⟩ := List.mem_map.mp hp
    exact ⟨j, List.mem_range.mp hj, e.symm⟩
  have hle := I.m_le
  have hnn := I.n_eq
  have ow : ∀ x y, Owed u.cs mp u.wk x y → Owed u.cs ((deref u.cs l, deref u.cs r) :: mp) (pairsOf c0 (deref u.cs l) (deref u.cs r) (wid c0 fs (deref u.cs l)) ++ wk) x y := fun x y h => by
    rcases h with h | h | h
    · exact .inl h
    · exact .inr (.inl (.tail _ h))
    · rw [hw] at h
      rcases List.mem_cons.mp h with h | h
      · injection h with h1 h2
        subst h1 h2
        exact .inr (.inl (.head _))
      · exact .inr (.inr (List.mem_append_right _ h))
  refine ⟨3 * cnt (u.add (num (c0.length + 1) (deref u.cs l) (deref u.cs r))) ((c0.length + 1) * (c0.length + 1)) + (wid c0 fs (deref u.cs l) + wk.length), by omega, I.cT, I.dT, N, fun p hp => ?_, by dsimp only; rw [List.length_append, hpl], by omega, by dsimp only; omega, I.ext, fun v a b e => ?_, fun p hp => ?_, fun k hk => ?_, ow _ _ I.owed, fun p hp j hj => ?_, fun B hB e => ?_⟩
  · rcases List.mem_append.mp hp with hp | hp
    · obtain ⟨j, hj, rfl⟩ := hout p hp
      exact ⟨argT G hTL hc hj, argT G hTR (hc.shape hs) (by rw [← hs.wid]; exact hj)⟩
    · exact I.wkT p (by rw [hw]; exact .tail _ hp)
  · obtain ⟨x, y⟩ := I.val v a b e
    have e2 := y (l, r) (by rw [hw]; exact .head _)
    dsimp only at e2
    refine ⟨x, fun p hp => ?_⟩
    rcases List.mem_append.mp hp with hp | hp
    · obtain ⟨j, hj, rfl⟩ := hout p hp
      have hs1 := hs.1
      rcases a _ _ hTL hTR (by rw [← x l hTl, ← x r hTr, e2]) (by rcases hc with h | h <;> omega) (by rcases hc with h | h <;> omega) with q | ⟨-, -, q⟩
      · exact absurd q hne
      · exact q j hj
    · exact y p (by rw [hw]; exact .tail _ hp)
  · rcases List.mem_cons.mp hp with rfl | hp
    · exact ⟨hTL, hTR, hc, hs⟩
    · exact I.mpT p hp
  · have hk : (u.met k || decide (k = num (c0.length + 1) (deref u.cs l) (deref u.cs r))) = true := hk
    rcases Bool.or_eq_true _ _ ▸ hk with hk | hk
    · obtain ⟨p, h1, h2⟩ := I.met k hk
      exact ⟨p, .tail _ h1, h2⟩
    · exact ⟨_, .head _, of_decide_eq_true hk⟩
  · rcases List.mem_cons.mp hp with rfl | hp
    · exact .inr (.inr (List.mem_append_left _ (hin j hj)))
    · exact ow _ _ (I.args p hp j hj)
  · obtain ⟨x, y⟩ := I.same B hB e
    refine ⟨x, fun p hp => ?_⟩
    rcases List.mem_append.mp hp with hp | hp
    · obtain ⟨j, hj, rfl⟩ := hout p hp
      have z := hB l r hTl hTr (y (l, r) (by rw [hw]; exact .head _))
      rw [← x] at z
      rcases z with z | ⟨-, -, z⟩
      · exact absurd z hne
      · exact z j hj
    · exact y p (by rw [hw]; exact .tail _ hp)
theorem UI.hit (G : Gr c0 fs T) (I : UI c0 fs T cs c d mp m u) (hw : u.wk = (l, r) :: wk) (hc : Cmpd (deref u.cs l)) (hs : Shape c0 (deref u.cs l) (deref u.cs r)) (hf : u.met (num (c0.length + 1) (deref u.cs l) (deref u.cs r)) = true) : (deref u.cs l, deref u.cs r) ∈ mp := by
  have N := I.now
  obtain ⟨hTl, hTr⟩ := I.wkT (l, r) (by rw [hw]; exact .head _)
  obtain ⟨p, hp, e⟩ := I.met _ hf
  obtain ⟨h1, h2, h3, h4⟩ := I.mpT p hp
  obtain ⟨a, b⟩ := num_inj G (deref_T G N hTl) (deref_T G N hTr) h1 h2 hc (hc.shape hs) h3 (h3.shape h4) e
  dsimp only at a b
  rw [a, b]
  exact hp
end
theorem u_inv (G : Gr c0 fs T) {c d : Cell} (hc : T c) (hd : T d) : UInv c0 fs T (c0.length + 1) (fun m u => ∃ mp, UI c0 fs T cs c d mp m u) (UEnd c0 fs T cs c d) where
  good := fun m u ⟨mp, I⟩ => by
    have hl := G.wf.len
    have h1 := I.m_eq
    have h2 := I.m_le
    have h3 := I.n_eq
    have hK : (c0.length + 1) * (c0.length + 1) ≤ 41 * 41 := Nat.mul_le_mul (by omega) (by omega)
    generalize (c0.length + 1) * (c0.length + 1) = K at *
    exact ⟨I.now, I.wkT, by omega, by omega⟩
  fin := fun m u ⟨mp, I⟩ hw => by
    refine ⟨I.now, fun e => absurd e (by decide), fun e => absurd e (by decide), fun _ => I.ext, fun _ v a b e => (I.val v a b e).1, fun _ => ⟨fun x y => deref u.cs x = deref u.cs y ∨ (deref u.cs x, deref u.cs y) ∈ mp, fun x y hx hy h => ?_, ?_⟩, fun _ B hB e => (I.same B hB e).1⟩
    · rcases h with h | h
      · exact .inl h
      · obtain ⟨-, -, h3, h4⟩ := I.mpT _ h
        refine .inr ⟨h3, h4, fun j hj => ?_⟩
        have := I.args _ h j hj
        rw [hw] at this
        rcases this with q | q | q
        · exact .inl q
        · exact .inr q
        · cases q
    · have := I.owed
      rw [hw] at this
      rcases this with q | q | q
      · exact .inl q
      · exact .inr q
      · cases q
  eq := fun m u l r wk ⟨mp, I⟩ hw e => ⟨m - 1, I.pos hw, mp, I.pop hw (.inl e)⟩
  bindL := fun m u l r wk ⟨mp, I⟩ hw hne h0 hlt => ⟨m - 1, I.pos hw, mp, I.bind G hw (.inl ⟨rfl, rfl⟩) hne h0 hlt⟩
  bindR := fun m u l r wk ⟨mp, I⟩ hw hne h0 hlt => ⟨m - 1, I.pos hw, mp, I.bind G hw (.inr ⟨rfl, rfl⟩) (Ne.symm hne) h0 hlt⟩
  met := fun m u l r wk ⟨mp, I⟩ hw hne hc hs hf => ⟨m - 1, I.pos hw, mp, I.pop hw (.inr (I.hit G hw hc hs hf))⟩
  push := fun m u l r wk ⟨mp, I⟩ hw hne hc hs hf => let ⟨m', h1, h2⟩ := I.push G hw hne hc hs hf; ⟨m', h1, _, h2⟩
  fail := fun m u l r wk ⟨mp, I⟩ hw hne h1 h2 hn => by
    have N := I.now
    obtain ⟨hTl, hTr⟩ := I.wkT (l, r) (by rw [hw]; exact .head _)
    dsimp only at hTl hTr
    refine ⟨N, fun _ v a b e => ?_, fun _ B hB e => ?_, fun e => absurd e (by decide), fun e => absurd e (by decide), fun e => absurd e (by decide), fun e => absurd e (by decide)⟩
    · obtain ⟨x, y⟩ := I.val v a b e
      have e2 := y (l, r) (by rw [hw]; exact .head _)
      dsimp only at e2
      rcases a _ _ (deref_T G N hTl) (deref_T G N hTr) (by rw [← x l hTl, ← x r hTr, e2]) h1 h2 with q | ⟨q1, q2, -⟩
      · exact hne q
      · exact hn ⟨q1, q2⟩
    · obtain ⟨x, y⟩ := I.same B hB e
      have z := hB l r hTl hTr (y (l, r) (by rw [hw]; exact .head _))
      rw [← x] at z
      rcases z with z | ⟨q1, q2, -⟩
      · exact hne z
      · exact hn ⟨q1, q2⟩
theorem u_start (N : Now c0 T cs) {c d : Cell} (hc : T c) (hd : T d) : ∃ mp, UI c0 fs T cs c d mp (3 * ((c0.length + 1) * (c0.length + 1)) + 1) ⟨cs, [(c, d)], fun _ => false, 0⟩ :=
  ⟨[], hc, hd, N, fun p hp => by rw [List.mem_singleton] at hp; subst hp; exact ⟨hc, hd⟩, by dsimp only; rw [cnt_none]; rfl, Nat.le_refl _, by dsimp only; rw [cnt_none, Nat.zero_add], Ext.refl _, fun v a b e => ⟨b, fun p hp => by rw [List.mem_singleton] at hp; subst hp; exact e⟩, fun p hp => (by cases hp), fun k e => absurd e (by simp), .inr (.inr (.head _)), fun p hp => (by cases hp),
    fun B hB e => ⟨rfl, fun p hp => by rw [List.mem_singleton] at hp; subst hp; exact e⟩⟩
end

section
variable {c0 fs cs : List Cell} {T : Cell → Prop} {B : Cell → Cell → Prop}
structure CI (c0 : List Cell) (T : Cell → Prop) (cs : List Cell) (B : Cell → Cell → Prop) (m : Nat) (u : US) : Prop where
  cs_eq : u.cs = cs
  wkT : ∀ p ∈ u.wk, T p.1 ∧ T p.2
  wkB : ∀ p ∈ u.wk, B p.1 p.2
  m_eq : m = 3 * cnt u.met ((c0.length + 1) * (c0.length + 1)) + u.wk.length
  m_le : m ≤ 3 * ((c0.length + 1) * (c0.length + 1)) + 1
  n_eq : u.n + cnt u.met ((c0.length + 1) * (c0.length + 1)) = (c0.length + 1) * (c0.length + 1)
theorem CI.pop {m : Nat} {u : US} {l r : Cell} {wk : List (Cell × Cell)} (I : CI c0 T cs B m u) (hw : u.wk = (l, r) :: wk) : ∃ m' < m, CI c0 T cs B m' { u with wk := wk } := by
  have hm := I.m_eq
  rw [hw, List.length_cons] at hm
  exact ⟨m - 1, by omega, I.cs_eq, fun p hp => I.wkT p (by rw [hw]; exact .tail _ hp), fun p hp => I.wkB p (by rw [hw]; exact .tail _ hp), by dsimp only; omega, by have := I.m_le; omega, I.n_eq⟩
theorem cmp_inv (G : Gr c0 fs T) (N : Now c0 T cs) (hB : IsBis c0 fs T cs B) : CInv c0 fs T (c0.length + 1) cs (CI c0 T cs B) where
  good := fun m u I => by
    have hl := G.wf.len
    have h1 := I.m_eq
    have h2 := I.m_le
    have h3 := I.n_eq
    have hK : (c0.length + 1) * (c0.length + 1) ≤ 41 * 41 := Nat.mul_le_mul (by omega) (by omega)
    generalize (c0.length + 1) * (c0.length + 1) = K at *
    exact ⟨I.cs_eq, I.wkT, by omega, by omega⟩
  eq := fun m u l r wk I hw _ => I.pop hw
  cmp := fun m u l r wk I hw hne => by
    obtain ⟨hTl, hTr⟩ := I.wkT (l, r) (by rw [hw]; exact .head _)
    rcases hB l r hTl hTr (I.wkB (l, r) (by rw [hw]; exact .head _)) with q | ⟨q1, q2, -⟩
    · exact absurd q hne
    · exact ⟨q1, q2⟩
  met := fun m u l r wk I hw _ _ => I.pop hw
  push := fun m u l r wk I hw hne hf => by
    obtain ⟨hTl, hTr⟩ := I.wkT (l, r) (by rw [hw]; exact .head _)
    dsimp only at hTl hTr
    rcases hB l r hTl hTr (I.wkB (l, r) (by rw [hw]; exact .head _)) with q | ⟨hc, hs, hargs⟩
    · exact absurd q hne
    have hTL := deref_T G N hTl
    have hTR := deref_T G N hTr
    obtain ⟨n0, n1⟩ := num_lt G hTL hTR hc (hc.shape hs)
    have hcn := cnt_add n0 hf ((c0.length + 1) * (c0.length + 1))
    rw [if_pos n1] at hcn
    have hcn : cnt (u.add (num (c0.length + 1) (deref cs l) (deref cs r))) ((c0.length + 1) * (c0.length + 1)) + 1 = cnt u.met ((c0.length + 1) * (c0.length + 1)) := hcn
    have hm := I.m_eq
    rw [hw, List.length_cons] at hm
    have hwid := (G.cmp _ hTL hc).1
    have hpl : (pairsOf c0 (deref cs l) (deref cs r) (wid c0 fs (deref cs l))).length = wid c0 fs (deref cs l) := by unfold pairsOf; simp
    have hle := I.m_le
    have hnn := I.n_eq
    refine ⟨3 * cnt (u.add (num (c0.length + 1) (deref cs l) (deref cs r))) ((c0.length + 1) * (c0.length + 1)) + (wid c0 fs (deref cs l) + wk.length), by omega, I.cs_eq, fun p hp => ?_, fun p hp => ?_, by dsimp only; rw [List.length_append, hpl], by omega, by dsimp only; omega⟩
    · rcases List.mem_append.mp hp with hp | hp
      · obtain ⟨j, hj, rfl⟩ := List.mem_map.mp hp
        have hj := List.mem_range.mp hj
        exact ⟨argT G hTL hc hj, argT G hTR (hc.shape hs) (by rw [← hs.wid]; exact hj)⟩
      · exact I.wkT p (by rw [hw]; exact .tail _ hp)
    · rcases List.mem_append.mp hp with hp | hp
      · obtain ⟨j, hj, rfl⟩ := List.mem_map.mp hp
        exact hargs j (List.mem_range.mp hj)
      · exact I.wkB p (by rw [hw]; exact .tail _ hp)
theorem cmp_start {c d : Cell} (hc : T c) (hd : T d) (hB : B c d) : CI c0 T cs B (3 * ((c0.length + 1) * (c0.length + 1)) + 1) ⟨cs, [(c, d)], fun _ => false, 0⟩ :=
  ⟨rfl, fun p hp => by rw [List.mem_singleton] at hp; subst hp; exact ⟨hc, hd⟩, fun p hp => by rw [List.mem_singleton] at hp; subst hp; exact hB, by dsimp only; rw [cnt_none]; rfl, Nat.le_refl _, by dsimp only; rw [cnt_none, Nat.zero_add]⟩
end

-- the plain law: joined
section
variable {nds : List Node}
def GoodU {α : Type} (nds : List Node) (u : Nat → α) : Prop := ∀ i j, i < nds.length → j < nds.length → u i = u j → kdAt nds i ≠ .str "" → kdAt nds j ≠ .str "" →
  kdAt nds i = kdAt nds j ∧ ∀ (k p q : Nat), (ptAt nds i)[k]? = some p → (ptAt nds j)[k]? = some q → u p = u q
def CompU {α : Type} (N : Nat) (rt : Nat → Nat) (u : Nat → α) : Prop := ∀ i < N, u i = u (rt i)
def VarR (nds : List Node) (rt : Nat → Nat) : Prop := ∀ i < nds.length, kdAt nds (rt i) = .str "" → kdAt nds i = .str ""
/-- what joined's end says -/
structure JEnd (nds : List Node) (rt0 : Nat → Nat) (x0 y0 : Nat) (b : Bool) (L : List Nat) : Prop where
  fo : ∃ rt, Fo L rt ∧ (b = true → VarR nds rt ∧ GoodU nds rt ∧ rt x0 = rt y0 ∧ CompU nds.length rt0 rt) ∧ (∀ u : Nat → (Cell → Prop), GoodU nds u → CompU nds.length rt0 u → u x0 = u y0 → b = true ∧ CompU nds.length rt u)
def rootsS (L : List Nat) : Int → Bool := fun k => decide (L[k.toNat]? ≠ some k.toNat)
structure JI (nds : List Node) (rt0 : Nat → Nat) (x0 y0 : Nat) (rt : Nat → Nat) (m : Nat) (L : List Nat) (wk : List (Nat × Nat)) : Prop where
  fo : Fo L rt
  len : L.length = nds.length
  wkN : ∀ p ∈ wk, p.1 < L.length ∧ p.2 < L.length
  m_eq : m = 3 * cnt (rootsS L) L.length + wk.length
  m_le : m ≤ 3 * nds.length + 1
  var : VarR nds rt
  co : CompU nds.length rt0 rt
  good : ∀ u : Nat → Nat, CompU nds.length rt u → (∀ p ∈ wk, u p.1 = u p.2) → (u x0 = u y0) ∧ ∀ i j, i < nds.length → j < nds.length → rt i = rt j → kdAt nds i ≠ .str "" → kdAt nds j ≠ .str "" →
    kdAt nds i = kdAt nds j ∧ ∀ (k p q : Nat), (ptAt nds i)[k]? = some p → (ptAt nds j)[k]? = some q → u p = u q
  only : ∀ u : Nat → (Cell → Prop), GoodU nds u → CompU nds.length rt0 u → u x0 = u y0 → CompU nds.length rt u ∧ ∀ p ∈ wk, u p.1 = u p.2
/-- one root is put under another -/
def link (rt : Nat → Nat) (a b : Nat) : Nat → Nat := fun x => if rt x = a then b else rt x
theorem Fo.rr {L : List Nat} {rt : Nat → Nat} (F : Fo L rt) {i : Nat} (h : i < L.length) : rt (rt i) = rt i := F.self _ (F.root i h)
theorem Fo.link {L : List Nat} {rt : Nat → Nat} (F : Fo L rt) {a b : Nat} (ha : a < L.length) (hb : b < L.length) (ra : rt a = a) (rb : rt b = b) (hne : a ≠ b) : Fo (L.set a b) (link rt a b) := by
  obtain ⟨ht, hht⟩ := F.ht
  have get : ∀ (i j : Nat), (L.set a b)[i]? = some j → (i = a ∧ j = b) ∨ (i ≠ a ∧ L[i]? = some j) := fun i j h => by
    rw [List.getElem?_set] at h
    split at h
    · rename_i q
      first
        | (cases h; exact .inl ⟨q.symm, rfl⟩)
        | (split at h <;> first | (cases h; exact .inl ⟨q.symm, rfl⟩) | cases h)
    · rename_i q; exact .inr ⟨fun e => q e.symm, h⟩
  refine ⟨fun i hi => ?_, fun i j h => ?_, fun i h => ?_, fun i j h hn => ?_, fun i hi => ?_, ⟨fun x => if rt x = a then ht x + ht b + 1 else ht x, fun i j h hn => ?_⟩⟩
  · rw [List.length_set] at hi ⊢
    unfold Mine.link
    split
    · exact hb
    · exact F.lt i hi
  · rw [List.length_set]
    rcases get i j h with ⟨-, rfl⟩ | ⟨-, h⟩
    · exact hb
    · exact F.in_ i j h
  · unfold Mine.link
    rcases get i i h with ⟨e1, e2⟩ | ⟨h1, h2⟩
    · exact absurd (e1.symm.trans e2) hne
    · rw [F.self i h2, if_neg h1]
  · unfold Mine.link
    rcases get i j h with ⟨rfl, rfl⟩ | ⟨h1, h2⟩
    · rw [ra, if_pos rfl, rb, if_neg (Ne.symm hne)]
    · rw [F.step i j h2 hn]
  · rw [List.length_set] at hi
    unfold Mine.link
    by_cases q : rt i = a
    · rw [if_pos q, List.getElem?_set_ne hne]
      have := F.root b hb
      rw [rb] at this
      exact this
    · rw [if_neg q, List.getElem?_set_ne (Ne.symm q)]
      exact F.root i hi
  · rcases get i j h with ⟨rfl, rfl⟩ | ⟨h1, h2⟩
    · dsimp only
      rw [ra, if_pos rfl, rb, if_neg (Ne.symm hne)]; omega
    · have := hht i j h2 hn
      dsimp only
      rw [F.step i j h2 hn]
      split <;> omega
theorem roots_link {L : List Nat} {a b : Nat} (ha : a < L.length) (hr : L[a]? = some a) (hne : a ≠ b) : cnt (rootsS (L.set a b)) (L.set a b).length + 1 = cnt (rootsS L) L.length := by
  have h0 : rootsS L (a : Int) = false := by
    unfold rootsS
    exact decide_eq_false (fun q => q (by rw [show ((a : Nat) : Int).toNat = a by omega]; exact hr))
  have := cnt_add (S := rootsS L) (k := (a : Int)) (by omega) h0 L.length
  rw [if_pos (by omega)] at this
  rw [← this, List.length_set]
  congr 1
  have e : ∀ n : Nat, cnt (rootsS (L.set a b)) n = cnt (fun j => rootsS L j || decide (j = (a : Int))) n := fun n => by
    induction n with
    | zero => rfl
    | succ n ih =>
      unfold cnt
      rw [ih]
      have : rootsS (L.set a b) (n : Int) = (rootsS L (n : Int) || decide ((n : Int) = (a : Int))) := by
        unfold rootsS
        rw [show ((n : Nat) : Int).toNat = n by omega]
        by_cases q : n = a
        · subst q
          have e1 : (L.set n b)[n]? = some b := by rw [List.getElem?_set]; simp [ha]
          rw [e1]
          simp [Ne.symm hne]
        · rw [List.getElem?_set_ne (Ne.symm q)]
          have : ¬ ((n : Int) = (a : Int)) := by omega
          simp [this]
      rw [this]
  exact e _
theorem link_co {rt : Nat → Nat} {a b : Nat} {α : Type} {u : Nat → α} {N : Nat} (ra : rt a = a) (rb : rt b = b) (ha : a < N) (hne : a ≠ b) (hlt : ∀ i < N, rt i < N) (rr : ∀ i < N, rt (rt i) = rt i) (h : CompU N (link rt a b) u) : CompU N rt u ∧ u a = u b := by
  have hab : u a = u b := by
    have := h a ha
    unfold link at this
    rw [ra, if_pos rfl] at this
    exact this
  refine ⟨fun i hi => ?_, hab⟩
  have h1 := h i hi
  unfold link at h1
  by_cases q : rt i = a
  · rw [if_pos q] at h1
    rw [h1, q, hab]
  · rw [if_neg q] at h1
    exact h1
theorem co_link {rt : Nat → Nat} {a b : Nat} {α : Type} {u : Nat → α} {N : Nat} (h : CompU N rt u) (hab : u a = u b) : CompU N (link rt a b) u := fun i hi => by
  unfold link
  split
  · rename_i q; rw [h i hi, q, hab]
  · exact h i hi
theorem co_trans {rt0 rt : Nat → Nat} {a b : Nat} {N : Nat} (h : CompU N rt0 rt) : CompU N rt0 (link rt a b) := fun i hi => by
  unfold link
  rw [← h i hi]
section
variable {rt0 : Nat → Nat} {x0 y0 : Nat} {rt : Nat → Nat} {m : Nat} {L : List Nat} {wk : List (Nat × Nat)} {x y : Nat}
/-- the new root's class -/
theorem JI.link (I : JI nds rt0 x0 y0 rt m L ((x, y) :: wk)) {a b : Nat} (hab : (a = rt x ∧ b = rt y) ∨ (a = rt y ∧ b = rt x)) (hne : rt x ≠ rt y) {new : List (Nat × Nat)} (hnew : new.length ≤ 2) (hnewN : ∀ p ∈ new, p.1 < nds.length ∧ p.2 < nds.length)
    (hP : ∀ i j, i < nds.length → j < nds.length → kdAt nds i = kdAt nds j → (ptAt nds i).length = (ptAt nds j).length) (hv : kdAt nds b = .str "" → kdAt nds a = .str "")
    (hk : kdAt nds a = .str "" ∨ (kdAt nds a = kdAt nds b ∧ ∀ (k p q : Nat), (ptAt nds (rt x))[k]? = some p → (ptAt nds (rt y))[k]? = some q → (p, q) ∈ new))
    (ho : ∀ u : Nat → (Cell → Prop), GoodU nds u → u (rt x) = u (rt y) → ∀ p ∈ new, u p.1 = u p.2) :
    ∃ m' < m, JI nds rt0 x0 y0 (Mine.link rt a b) m' (L.set a b) (new ++ wk) := by
  have F := I.fo
  obtain ⟨hx, hy⟩ := I.wkN _ (.head _)
  dsimp only at hx hy
  have hla := I.len
  have ha : a < L.length := by rcases hab with ⟨h, -⟩ | ⟨h, -⟩ <;> rw [h] <;> exact F.lt _ ‹_›
  have hb : b < L.length := by rcases hab with ⟨-, h⟩ | ⟨-, h⟩ <;> rw [h] <;> exact F.lt _ ‹_›
  have ra : rt a = a := by rcases hab with ⟨h, -⟩ | ⟨h, -⟩ <;> rw [h] <;> exact F.rr ‹_›
  have rb : rt b = b := by rcases hab with ⟨-, h⟩ | ⟨-, h⟩ <;> rw [h] <;> exact F.rr ‹_›
  have nab : a ≠ b := by rcases hab with ⟨h1, h2⟩ | ⟨h1, h2⟩ <;> rw [h1, h2]; exact hne; exact Ne.symm hne
  have hroot : L[a]? = some a := by have := F.root a ha; rw [ra] at this; exact this
  have hcn := roots_link ha hroot nab
  have hm := I.m_eq
  rw [List.length_cons] at hm
  have hle := I.m_le
  refine ⟨3 * cnt (rootsS (L.set a b)) (L.set a b).length + (new ++ wk).length, by rw [List.length_append]; omega, F.link ha hb ra rb nab, by rw [List.length_set]; exact I.len, fun p hp => ?_, rfl, by rw [List.length_append]; omega, fun i hi h => ?_, co_trans I.co, fun u hu hw => ?_, fun u hg hc he => ?_⟩
  · rw [List.length_set]
    rcases List.mem_append.mp hp with hp | hp
    · rw [I.len]; exact hnewN p hp
    · exact I.wkN p (.tail _ hp)
  · unfold Mine.link at h
    split at h
    · rename_i q
      exact I.var i hi (by rw [q]; exact hv h)
    · exact I.var i hi h
  · obtain ⟨hu1, hu2⟩ := link_co ra rb (by omega) nab (fun i hi => by have := F.lt i (by omega); omega) (fun i hi => F.rr (by omega)) hu
    have hxy : u x = u y := by
      rw [hu1 x (by omega), hu1 y (by omega)]
      rcases hab with ⟨h1, h2⟩ | ⟨h1, h2⟩
      · rw [← h1, ← h2]; exact hu2
      · rw [← h1, ← h2]; exact hu2.symm
    have hold := I.good u hu1 (fun p hp => by
      rcases List.mem_cons.mp hp with rfl | hp
      · exact hxy
      · exact hw p (List.mem_append_right _ hp))
    refine ⟨hold.1, ?_⟩
    have key : ∀ i j, i < nds.length → j < nds.length → rt i = a → rt j = b → kdAt nds i ≠ .str "" → kdAt nds j ≠ .str "" → kdAt nds i = kdAt nds j ∧ ∀ (k p q : Nat), (ptAt nds i)[k]? = some p → (ptAt nds j)[k]? = some q → u p = u q := fun i j hi hj h1 h2 n1 n2 => by
      have na : kdAt nds a ≠ .str "" := fun e => n1 (I.var i hi (by rw [h1]; exact e))
      have nb : kdAt nds b ≠ .str "" := fun e => n2 (I.var j hj (by rw [h2]; exact e))
      rcases hk with hk | ⟨hk1, hk2⟩
      · exact absurd hk na
      · obtain ⟨e1, e2⟩ := hold.2 i a hi (by omega) (by rw [h1, ra]) n1 na
        obtain ⟨e3, e4⟩ := hold.2 b j (by omega) hj (by rw [h2, rb]) nb n2
        refine ⟨e1.trans (hk1.trans e3), fun k p q hp hq => ?_⟩
        have hk1' := (List.getElem?_eq_some_iff.mp hp).1
        have l1 := hP i a hi (by omega) e1
        have l2 := hP a b (by omega) (by omega) hk1
        have pa : (ptAt nds a)[k]? = some ((ptAt nds a)[k]'(by omega)) := by simp
        have pb : (ptAt nds b)[k]? = some ((ptAt nds b)[k]'(by omega)) := by simp
        rw [e2 k _ _ hp pa, ← e4 k _ _ pb hq]
        rcases hab with ⟨h3, h4⟩ | ⟨h3, h4⟩
        · exact hw _ (List.mem_append_left _ (hk2 k _ _ (by rw [← h3]; exact pa) (by rw [← h4]; exact pb)))
        · exact (hw _ (List.mem_append_left _ (hk2 k _ _ (by rw [← h4]; exact pb) (by rw [← h3]; exact pa)))).symm
    intro i j hi hj h n1 n2
    unfold Mine.link at h
    by_cases q1 : rt i = a <;> by_cases q2 : rt j = a
    · exact hold.2 i j hi hj (by rw [q1, q2]) n1 n2
    · rw [if_pos q1, if_neg q2] at h
      exact key i j hi hj q1 h.symm n1 n2
    · rw [if_neg q1, if_pos q2] at h
      obtain ⟨e1, e2⟩ := key j i hj hi q2 h n2 n1
      exact ⟨e1.symm, fun k p q hp hq => (e2 k q p hq hp).symm⟩
    · rw [if_neg q1, if_neg q2] at h
      exact hold.2 i j hi hj h n1 n2
  · obtain ⟨hc', hw⟩ := I.only u hg hc he
    have e : u (rt x) = u (rt y) := by
      rw [← hc' x (by omega), ← hc' y (by omega)]
      exact hw (x, y) (.head _)
    refine ⟨co_link hc' ?_, fun p hp => ?_⟩
    · rcases hab with ⟨h1, h2⟩ | ⟨h1, h2⟩
      · rw [h1, h2]; exact e
      · rw [h1, h2]; exact e.symm
    · rcases List.mem_append.mp hp with hp | hp
      · exact ho u hg e p hp
      · exact hw p (.tail _ hp)
end
theorem nds_len (O : NdsOk nds) : ∀ i j, i < nds.length → j < nds.length → kdAt nds i = kdAt nds j → (ptAt nds i).length = (ptAt nds j).length := fun i j hi hj h => by
  have ei : nds[i]? = some nds[i] := by simp [hi]
  have ej : nds[j]? = some nds[j] := by simp [hj]
  unfold kdAt at h
  unfold ptAt
  rw [ei, ej] at h ⊢
  exact O.len i j _ _ ei ej h
theorem nds_lt (O : NdsOk nds) {i : Nat} (hi : i < nds.length) : ∀ p ∈ ptAt nds i, p < nds.length := fun p hp => by
  have ei : nds[i]? = some nds[i] := by simp [hi]
  unfold ptAt at hp
  rw [ei] at hp
  exact O.lt i _ ei p hp
theorem nds_two (O : NdsOk nds) {i : Nat} (hi : i < nds.length) : (ptAt nds i).length ≤ 2 := by
  have ei : nds[i]? = some nds[i] := by simp [hi]
  unfold ptAt
  rw [ei]
  exact O.two i _ ei
theorem j_inv (O : NdsOk nds) {rt0 : Nat → Nat} {x0 y0 : Nat} : JInv nds (fun m L wk => ∃ rt, JI nds rt0 x0 y0 rt m L wk) (JEnd nds rt0 x0 y0) := by
  have uniq : ∀ {L : List Nat} {r1 r2 : Nat → Nat}, Fo L r1 → Fo L r2 → ∀ i < L.length, r1 i = r2 i := fun {L r1 r2} f1 f2 => by
    obtain ⟨ht, hht⟩ := f1.ht
    have : ∀ n i, i < L.length → ht i < n → r1 i = r2 i := fun n => by
      induction n with
      | zero => intro i _ h; omega
      | succ n ih =>
        intro i hi h
        have ei : L[i]? = some L[i] := by simp [hi]
        by_cases q : L[i] = i
        · rw [q] at ei; rw [f1.self i ei, f2.self i ei]
        · rw [← f1.step i _ ei q, ← f2.step i _ ei q]
          have := hht i _ ei q
          exact ih _ (f1.in_ i _ ei) (by omega)
    exact fun i hi => this _ i hi (Nat.lt_succ_self _)
  have sm := O.small
  refine ⟨fun m L wk ⟨rt, I⟩ => ?_, fun m L ⟨rt, I⟩ => ?_, fun m L x y wk rt' ⟨rt, I⟩ F' e => ?_, fun m L x y wk rt' ⟨rt, I⟩ F' hne h1 => ?_, fun m L x y wk rt' ⟨rt, I⟩ F' hne h1 h2 => ?_, fun m L x y wk rt' ⟨rt, I⟩ F' hne h1 h2 h3 => ?_, fun m L x y wk rt' ⟨rt, I⟩ F' hne h1 h2 => ?_⟩
  · have := I.m_eq
    have := I.m_le
    exact ⟨⟨rt, I.fo⟩, I.len, I.wkN, by omega⟩
  · refine ⟨rt, I.fo, fun _ => ?_, fun u a b e => ⟨rfl, (I.only u a b e).1⟩⟩
    have hrr : CompU nds.length rt rt := fun i hi => (I.fo.rr (by rw [I.len]; exact hi)).symm
    obtain ⟨h1, h2⟩ := I.good rt hrr (fun p hp => by cases hp)
    exact ⟨I.var, fun i j hi hj e n1 n2 => h2 i j hi hj e n1 n2, h1, I.co⟩
  · obtain ⟨hx, hy⟩ := I.wkN _ (.head _)
    dsimp only at hx hy
    rw [uniq F' I.fo x hx, uniq F' I.fo y hy] at e
    have hm := I.m_eq
    rw [List.length_cons] at hm
    have hla := I.len
    refine ⟨m - 1, by omega, rt, I.fo, I.len, fun p hp => I.wkN p (.tail _ hp), by omega, by have := I.m_le; omega, I.var, I.co, fun u hu hw => I.good u hu fun p hp => ?_, fun u a b e => ?_⟩
    · rcases List.mem_cons.mp hp with rfl | hp
      · show u x = u y
        rw [hu x (by omega), hu y (by omega), e]
      · exact hw p hp
    · obtain ⟨q1, q2⟩ := I.only u a b e
      exact ⟨q1, fun p hp => q2 p (.tail _ hp)⟩
  · obtain ⟨hx, hy⟩ := I.wkN _ (.head _)
    dsimp only at hx hy
    rw [uniq F' I.fo x hx, uniq F' I.fo y hy] at hne ⊢
    rw [uniq F' I.fo x hx] at h1
    obtain ⟨m', q1, q2⟩ := I.link (.inl ⟨rfl, rfl⟩) hne (new := []) (by simp) (fun p hp => by cases hp) (nds_len O) (fun _ => h1) (.inl h1) (fun u _ _ p hp => by cases hp)
    exact ⟨m', q1, _, q2⟩
  · obtain ⟨hx, hy⟩ := I.wkN _ (.head _)
    dsimp only at hx hy
    rw [uniq F' I.fo x hx, uniq F' I.fo y hy] at hne ⊢
    rw [uniq F' I.fo x hx] at h1
    rw [uniq F' I.fo y hy] at h2
    obtain ⟨m', q1, q2⟩ := I.link (.inr ⟨rfl, rfl⟩) hne (new := []) (by simp) (fun p hp => by cases hp) (nds_len O) (fun q => absurd q h1) (.inl h2) (fun u _ _ p hp => by cases hp)
    exact ⟨m', q1, _, q2⟩
  · obtain ⟨hx, hy⟩ := I.wkN _ (.head _)
    dsimp only at hx hy
    rw [uniq F' I.fo x hx, uniq F' I.fo y hy] at hne h3
    rw [uniq F' I.fo x hx] at h1
    rw [uniq F' I.fo y hy] at h2
    have hla := I.len
    have lx := I.fo.lt x hx
    have ly := I.fo.lt y hy
    refine ⟨rt, I.fo, fun e => absurd e (by decide), fun u a b e => ?_⟩
    obtain ⟨q1, q2⟩ := I.only u a b e
    have := q2 (x, y) (.head _)
    dsimp only at this
    rw [q1 x (by omega), q1 y (by omega)] at this
    exact absurd (a _ _ (by omega) (by omega) this h1 h2).1 h3
  · obtain ⟨hx, hy⟩ := I.wkN _ (.head _)
    dsimp only at hx hy
    rw [uniq F' I.fo x hx, uniq F' I.fo y hy] at hne h2 ⊢
    rw [uniq F' I.fo x hx] at h1
    have hla := I.len
    have lx := I.fo.lt x hx
    have ly := I.fo.lt y hy
    have tx := nds_two O (i := rt x) (by omega)
    obtain ⟨m', q1, q2⟩ := I.link (.inl ⟨rfl, rfl⟩) hne (new := ((ptAt nds (rt x)).zip (ptAt nds (rt y))).reverse) (by rw [List.length_reverse, List.length_zip]; omega) (fun p hp => by
        have := List.of_mem_zip (List.mem_reverse.mp hp)
        exact ⟨nds_lt O (by omega) _ this.1, nds_lt O (by omega) _ this.2⟩) (nds_len O) (fun q => by rw [h2]; exact q)
      (.inr ⟨h2, fun k p q hp hq => List.mem_reverse.mpr (List.mem_of_getElem? (i := k) (by rw [List.getElem?_zip_eq_some]; exact ⟨hp, hq⟩))⟩)
      (fun u hg e p hp => by
        obtain ⟨k, hk⟩ := List.getElem?_of_mem (List.mem_reverse.mp hp)
        rw [List.getElem?_zip_eq_some] at hk
        exact (hg _ _ (by omega) (by omega) e h1 (by rw [← h2]; exact h1)).2 k _ _ hk.1 hk.2)
    exact ⟨m', q1, _, q2⟩
theorem j_start (O : NdsOk nds) {rt0 : Nat → Nat} {x0 y0 : Nat} {L : List Nat} (F : Fo L rt0) (hl : L.length = nds.length) (hx : x0 < nds.length) (hy : y0 < nds.length) (hv : VarR nds rt0) (hg : GoodU nds rt0) : ∃ m rt, JI nds rt0 x0 y0 rt m L [(x0, y0)] := by
  refine ⟨3 * cnt (rootsS L) L.length + 1, rt0, F, hl, fun p hp => by rw [List.mem_singleton] at hp; subst hp; omega, rfl, by have := cnt_le (rootsS L) L.length; omega, hv, fun i hi => (F.rr (by omega)).symm, fun u hu hw => ⟨hw _ (.head _), fun i j hi hj e n1 n2 => ?_⟩, fun u a b e => ⟨b, fun p hp => by rw [List.mem_singleton] at hp; subst hp; exact e⟩⟩
  obtain ⟨q1, q2⟩ := hg i j hi hj e n1 n2
  refine ⟨q1, fun k p q hp hq => ?_⟩
  rw [hu p (nds_lt O hi p (List.mem_of_getElem? hp)), hu q (nds_lt O hj q (List.mem_of_getElem? hq)), q2 k p q hp hq]
end

-- the things and the graph
section
variable {A : Str → Option Nat} {F : Cell → Option Nat} {cs : List Cell} {nds : List Node} {ts : List Cell} {fs : List Cell}
theorem kd_at {i : Nat} {nd : Node} (h : nds[i]? = some nd) : kdAt nds i = nd.kd := by unfold kdAt; rw [h]; rfl
theorem pt_at {i : Nat} {nd : Node} (h : nds[i]? = some nd) : ptAt nds i = nd.parts := by unfold ptAt; rw [h]; rfl
/-- what a thing is -/
theorem TInv.at (V : TInv A F cs nds ts) {i : Nat} (hi : i < nds.length) : ∃ nd t, nds[i]? = some nd ∧ ts[i]? = some t ∧ Thing cs A F ts i nd t :=
  have h1 : nds[i]? = some nds[i] := by simp [hi]
  have h2 : ts[i]? = some (ts[i]'(by rw [V.len]; exact hi)) := by simp
  ⟨_, _, h1, h2, V.th i _ _ h1 h2⟩
structure Sok (A : Str → Option Nat) (F : Cell → Option Nat) (fs : List Cell) : Prop where
  inj : ∀ t t' k, A t = some k → A t' = some k → t = t'
  okF : ∀ c k, F c = some k → fs[k]? = some c
  small : fs.length ≤ 900
theorem bas2 {x : Cell} (h : x.1 = 2) (h0 : 0 ≤ x.2) : bas x = x.2.toNat + 1 := by unfold bas; rw [if_neg (by omega)]; omega
theorem bas3 {x : Cell} (h : x.1 = 3) : bas x = x.2.toNat := by unfold bas; rw [if_pos h]
theorem arg_of {x y : Cell} {j : Nat} (h : cs[bas x + j]? = some y) : argAt cs x j = y := by
  unfold argAt
  show (cs[bas x + j]?).getD _ = _
  rw [h]; rfl
/-- the compound things: width and arguments -/
theorem TInv.comp (V : TInv A F cs nds ts) (S : Sok A F fs) {i : Nat} {nd : Node} {t : Cell} (hn : nds[i]? = some nd) (ht : ts[i]? = some t) (hc : Cmpd t) : wid cs fs t = nd.parts.length ∧ nd.parts.length ≤ 2 ∧ Wid cs fs t nd.parts.length ∧
    ∀ (j q : Nat), nd.parts[j]? = some q → q < i ∧ bas t + j < cs.length ∧ ts[q]? = some (argAt cs t j) ∧ argAt cs t j ≠ (0, ((bas t + j : Nat) : Int)) := by
  have := V.th i nd t hn ht
  cases this with
  | var p e => unfold Cmpd at hc; simp at hc
  | nil => unfold Cmpd at hc; simp at hc
  | int v => unfold Cmpd at hc; simp at hc
  | dot p ps hl h =>
    have hb : bas ((3, (p : Int)) : Cell) = p := by rw [bas3 rfl]; simp
    refine ⟨by unfold wid; simp [hl], by simp [hl], ⟨by simp, .inl ⟨rfl, hl⟩⟩, fun j q e => ?_⟩
    obtain ⟨h1, y, h2, h3, h4⟩ := h j q e
    have h5 : argAt cs (3, (p : Int)) j = y := arg_of (by rw [hb]; exact h2)
    rw [h5, hb]
    exact ⟨h1, (List.getElem?_eq_some_iff.mp h2).1, h3, h4⟩
  | str s p ps f hs hf hp h =>
    have hb : bas ((2, (p : Int)) : Cell) = p + 1 := by rw [bas2 rfl (by simp)]; simp
    obtain ⟨j0, -, h0⟩ := hf
    have h1 := S.okF _ _ h0
    have h1' := (List.getElem?_eq_some_iff.mp h1).1
    have hsm := S.small
    refine ⟨by unfold wid; simp [hp, h1], by rcases hs with ⟨-, h⟩ | ⟨-, h⟩ | ⟨-, h⟩ <;> simp [h], ⟨by simp, .inr ⟨rfl, f, j0, by simpa using hp, by omega, by omega, by simpa using h1⟩⟩, fun j q e => ?_⟩
    obtain ⟨h1, y, h2, h3, h4⟩ := h j q e
    have h5 : argAt cs (2, (p : Int)) j = y := arg_of (by rw [hb]; exact h2)
    rw [h5, hb]
    exact ⟨h1, (List.getElem?_eq_some_iff.mp h2).1, h3, h4⟩
theorem TInv.gr (V : TInv A F cs nds ts) (S : Sok A F fs) : Gr cs fs (· ∈ ts) := by
  have at' : ∀ x ∈ ts, ∃ i nd, nds[i]? = some nd ∧ ts[i]? = some x ∧ Thing cs A F ts i nd x := fun x hx => by
    obtain ⟨i, hi⟩ := List.getElem?_of_mem hx
    have h := (List.getElem?_eq_some_iff.mp hi).1
    obtain ⟨nd, t, a, b, c⟩ := V.at (i := i) (by rw [← V.len]; exact h)
    rw [hi] at b; cases b
    exact ⟨i, nd, a, hi, c⟩
  refine ⟨V.wf, fun x hx => ?_, fun x hx h0 => ?_, fun x hx hc => ?_, V.home⟩
  · obtain ⟨i, nd, -, -, h⟩ := at' x hx
    cases h <;> simp
  · obtain ⟨i, nd, -, -, h⟩ := at' x hx
    cases h with
    | var p e => exact ⟨by simp, by simpa using e⟩
    | nil => simp at h0
    | int v => simp at h0
    | dot p ps hl h => simp at h0
    | str s p ps f hs hf hp h => simp at h0
  · obtain ⟨i, nd, hn, ht, h⟩ := at' x hx
    obtain ⟨h1, h2, h3, h4⟩ := V.comp S hn ht hc
    rw [h1]
    refine ⟨h2, h3, fun j hj => ?_⟩
    have e : nd.parts[j]? = some nd.parts[j] := by simp [hj]
    obtain ⟨q1, q2, q3, q4⟩ := h4 j _ e
    exact ⟨q2, List.mem_of_getElem? q3, q4⟩
/-- one kind, one shape -/
theorem TInv.shape (V : TInv A F cs nds ts) (S : Sok A F fs) {i j : Nat} {nd nd' : Node} {t t' : Cell} (hn : nds[i]? = some nd) (ht : ts[i]? = some t) (hn' : nds[j]? = some nd') (ht' : ts[j]? = some t') (hc : Cmpd t) : Shape cs t t' ↔ (nd.kd = nd'.kd ∧ Cmpd t') := by
  have h1 := V.th i nd t hn ht
  have h2 := V.th j nd' t' hn' ht'
  unfold Cmpd at hc ⊢
  unfold Shape
  cases h1 with
  | var p e => simp at hc
  | nil => simp at hc
  | int v => simp at hc
  | dot p ps hl h =>
    cases h2 with
    | var p e => simp
    | nil => simp
    | int v => simp
    | dot p' ps' hl' h' => simp
    | str s p' ps' f hs hf hp h' => rcases hs with ⟨rfl, -⟩ | ⟨rfl, -⟩ | ⟨rfl, -⟩ <;> simp <;> decide
  | str s p ps f hs hf hp h =>
    cases h2 with
    | var p e => simp
    | nil => simp
    | int v => simp
    | dot p' ps' hl' h' => rcases hs with ⟨rfl, -⟩ | ⟨rfl, -⟩ | ⟨rfl, -⟩ <;> simp <;> decide
    | str s' p' ps' f' hs' hf' hp' h' =>
      obtain ⟨j1, a1, b1⟩ := hf
      obtain ⟨j2, a2, b2⟩ := hf'
      constructor
      · rintro ⟨-, q | q⟩
        · simp at q
        · simp only [Int.toNat_natCast] at q
          rw [hp, hp'] at q
          injection q with q
          injection q with _ q
          have q : f = f' := by omega
          subst q
          have z1 := S.okF _ _ b1
          have z2 := S.okF _ _ b2
          rw [z1] at z2
          injection z2 with z2
          injection z2 with z2 _
          have z3 : j1 = j2 := by omega
          subst z3
          have := S.inj _ _ _ a1 a2
          subst this
          exact ⟨rfl, .inl rfl⟩
      · rintro ⟨q, -⟩
        injection q with q
        subst q
        have hl : ps.length = ps'.length := by
          rcases hs with ⟨rfl, l1⟩ | ⟨rfl, l1⟩ | ⟨rfl, l1⟩ <;> rcases hs' with ⟨q, l2⟩ | ⟨q, l2⟩ | ⟨q, l2⟩ <;> first | omega | (exact absurd q (by decide))
        rw [a1] at a2
        cases a2
        rw [hl, b2] at b1
        cases b1
        refine ⟨rfl, .inr ?_⟩
        simp only [Int.toNat_natCast]
        rw [hp, hp']
end

section
variable {c0 fs cs cs' : List Cell} {T : Cell → Prop}
def Bs (c0 fs : List Cell) (T : Cell → Prop) (cs : List Cell) (x y : Cell) : Prop := ∃ B, IsBis c0 fs T cs B ∧ B x y
theorem bs_is : IsBis c0 fs T cs (Bs c0 fs T cs) := fun x y hx hy ⟨B, hB, h⟩ => (hB x y hx hy h).imp id fun ⟨a, b, c⟩ => ⟨a, b, fun j hj => ⟨B, hB, c j hj⟩⟩
theorem bs_refl (x : Cell) : Bs c0 fs T cs x x := ⟨fun x y => x = y, fun x y _ _ e => .inl (by rw [e]), rfl⟩
theorem Shape.symm {x y : Cell} (h : Shape c0 x y) : Shape c0 y x := ⟨h.1.symm, by rcases h.2 with q | q; exact .inl (by rw [← h.1]; exact q); exact .inr q.symm⟩
theorem bs_symm {x y : Cell} (h : Bs c0 fs T cs x y) : Bs c0 fs T cs y x := by
  obtain ⟨B, hB, h⟩ := h
  refine ⟨fun x y => B y x, fun x y hx hy e => ?_, h⟩
  rcases hB y x hy hx e with q | ⟨q1, q2, q3⟩
  · exact .inl q.symm
  · exact .inr ⟨q1.shape q2, q2.symm, fun j hj => q3 j (by rw [q2.wid]; exact hj)⟩
theorem Shape.trans {x y z : Cell} (h : Shape c0 x y) (k : Shape c0 y z) : Shape c0 x z := ⟨h.1.trans k.1, by
  rcases h.2 with q | q
  · exact .inl q
  · rcases k.2 with r | r
    · exact .inl (by rw [h.1]; exact r)
    · exact .inr (q.trans r)⟩
theorem bs_trans (G : Gr c0 fs T) (N : Now c0 T cs) {x y z : Cell} (hy : T y) (h : Bs c0 fs T cs x y) (k : Bs c0 fs T cs y z) : Bs c0 fs T cs x z := by
  refine ⟨fun x z => ∃ y, T y ∧ Bs c0 fs T cs x y ∧ Bs c0 fs T cs y z, fun x z hx hz ⟨y, hy, h, k⟩ => ?_, y, hy, h, k⟩
  rcases bs_is x y hx hy h with q | ⟨q1, q2, q3⟩ <;> rcases bs_is y z hy hz k with r | ⟨r1, r2, r3⟩
  · exact .inl (q.trans r)
  · rw [q]
    exact .inr ⟨r1, r2, fun j hj => ⟨_, argT G (deref_T G N hy) r1 hj, bs_refl _, r3 j hj⟩⟩
  · rw [← r]
    exact .inr ⟨q1, q2, fun j hj => ⟨_, argT G (deref_T G N hy) (q1.shape q2) (by rw [← q2.wid]; exact hj), q3 j hj, bs_refl _⟩⟩
  · exact .inr ⟨q1, q2.trans r2, fun j hj => ⟨_, argT G (deref_T G N hy) r1 (by rw [← q2.wid]; exact hj), q3 j hj, r3 j (by rw [← q2.wid]; exact hj)⟩⟩
theorem bs_ext (e : Ext T cs cs') {x y : Cell} (h : Bs c0 fs T cs x y) : Bs c0 fs T cs' x y := by
  obtain ⟨B, hB, h⟩ := h
  refine ⟨B, fun x y hx hy k => ?_, h⟩
  rcases hB x y hx hy k with q | ⟨q1, q2, q3⟩
  · exact .inl (e.1 x y hx hy q)
  · have e1 := e.2 x hx (by rcases q1 with q | q <;> omega)
    have e2 := e.2 y hy (by have := q2.1; rcases q1 with q | q <;> omega)
    rw [e1, e2]
    exact .inr ⟨q1, q2, q3⟩
end

section
variable {A : Str → Option Nat} {F : Cell → Option Nat} {c0 fs : List Cell} {nds : List Node} {ts : List Cell}
def tAt (ts : List Cell) (i : Nat) : Cell := (ts[i]?).getD (0, 0)
theorem t_at (V : TInv A F c0 nds ts) {i : Nat} (hi : i < nds.length) : ts[i]? = some (tAt ts i) := by
  obtain ⟨nd, t, -, h, -⟩ := V.at hi
  unfold tAt
  rw [h]; rfl
theorem t_mem (V : TInv A F c0 nds ts) {i : Nat} (hi : i < nds.length) : tAt ts i ∈ ts := List.mem_of_getElem? (t_at V hi)
/-- variables and constants by their kinds -/
theorem kd_var (V : TInv A F c0 nds ts) {i : Nat} (hi : i < nds.length) : kdAt nds i = .str "" ↔ (tAt ts i).1 = 0 := by
  obtain ⟨nd, t, h1, h2, h3⟩ := V.at hi
  rw [t_at V hi] at h2
  injection h2 with h2
  rw [kd_at h1, h2]
  cases h3 with
  | var p e => simp
  | nil => simp; decide
  | int v => simp
  | dot p ps hl h => simp; decide
  | str s p ps f hs hf hp h => rcases hs with ⟨rfl, -⟩ | ⟨rfl, -⟩ | ⟨rfl, -⟩ <;> simp <;> decide
theorem kd_const (V : TInv A F c0 nds ts) {i j : Nat} (hi : i < nds.length) (hj : j < nds.length) (h : kdAt nds i = kdAt nds j) (hc : (tAt ts i).1 = 4 ∨ (tAt ts i).1 = 5) : tAt ts i = tAt ts j := by
  obtain ⟨nd, t, h1, h2, h3⟩ := V.at hi
  obtain ⟨nd', t', h1', h2', h3'⟩ := V.at hj
  rw [t_at V hi] at h2
  rw [t_at V hj] at h2'
  injection h2 with h2
  injection h2' with h2'
  rw [kd_at h1, kd_at h1'] at h
  rw [h2] at hc
  rw [h2, h2']
  cases h3 with
  | var p e => simp at hc
  | dot p ps hl h => simp at hc
  | str s p ps f hs hf hp h => simp at hc
  | nil =>
    cases h3' with
    | var p e => exact absurd h (by simp; decide)
    | nil => rfl
    | int v => exact absurd h (by simp)
    | dot p ps hl h' => exact absurd h (by simp; decide)
    | str s p ps f hs hf hp h' => rcases hs with ⟨rfl, -⟩ | ⟨rfl, -⟩ | ⟨rfl, -⟩ <;> exact absurd h (by simp; decide)
  | int v =>
    cases h3' with
    | var p e => exact absurd h (by simp)
    | nil => exact absurd h (by simp)
    | int v' => injection h
    | dot p ps hl h' => exact absurd h (by simp)
    | str s p ps f hs hf hp h' => exact absurd h (by simp)
theorem const_kd (V : TInv A F c0 nds ts) {i j : Nat} (hi : i < nds.length) (hj : j < nds.length) (h : tAt ts i = tAt ts j) (hc : (tAt ts i).1 = 4 ∨ (tAt ts i).1 = 5) : kdAt nds i = kdAt nds j ∧ ptAt nds i = [] ∧ ptAt nds j = [] := by
  obtain ⟨nd, t, h1, h2, h3⟩ := V.at hi
  obtain ⟨nd', t', h1', h2', h3'⟩ := V.at hj
  rw [t_at V hi] at h2
  rw [t_at V hj] at h2'
  injection h2 with h2
  injection h2' with h2'
  rw [kd_at h1, kd_at h1', pt_at h1, pt_at h1']
  rw [h2, h2'] at h
  rw [h2] at hc
  subst h
  cases h3 with
  | var p e => simp at hc
  | dot p ps hl h => simp at hc
  | str s p ps f hs hf hp h => simp at hc
  | nil => cases h3'; exact ⟨rfl, rfl, rfl⟩
  | int v => cases h3'; exact ⟨rfl, rfl, rfl⟩
theorem tag_kd (V : TInv A F c0 nds ts) {i : Nat} (hi : i < nds.length) (h : kdAt nds i ≠ .str "") : ((tAt ts i).1 = 4 ∨ (tAt ts i).1 = 5) ∨ Cmpd (tAt ts i) := by
  obtain ⟨nd, t, h1, h2, h3⟩ := V.at hi
  rw [t_at V hi] at h2
  injection h2 with h2
  rw [kd_at h1] at h
  rw [h2]
  unfold Cmpd
  cases h3 <;> simp at h ⊢
def plen (k : Kd) : Nat := if k = .str "." then 2 else if k = .str "g" then 1 else if k = .str "h" then 2 else if k = .str "f" then 2 else 0
theorem Thing.plen {k : Nat} {nd : Node} {t : Cell} (h : Thing c0 A F ts k nd t) : nd.parts.length = plen nd.kd ∧ (Cmpd t ↔ plen nd.kd ≠ 0) := by
  unfold Cmpd
  cases h with
  | var p e => exact ⟨by decide, by simp; decide⟩
  | nil => exact ⟨by decide, by simp; decide⟩
  | int v => exact ⟨by simp [Mine.plen], by simp [Mine.plen]⟩
  | dot p ps hl h => exact ⟨by rw [hl]; show 2 = Mine.plen (.str "."); decide, by simp; decide⟩
  | str s p ps f hs hf hp h =>
    rcases hs with ⟨rfl, q⟩ | ⟨rfl, q⟩ | ⟨rfl, q⟩
    · exact ⟨by rw [q]; show 1 = Mine.plen (.str "g"); decide, by simp; decide⟩
    · exact ⟨by rw [q]; show 2 = Mine.plen (.str "h"); decide, by simp; decide⟩
    · exact ⟨by rw [q]; show 2 = Mine.plen (.str "f"); decide, by simp; decide⟩
theorem TInv.ndsOk (V : TInv A F c0 nds ts) (h7 : nds.length ≤ 7) : NdsOk nds := by
  have lt : ∀ (i : Nat) nd, nds[i]? = some nd → ∀ (k p : Nat), nd.parts[k]? = some p → p < nds.length := fun i nd h k p hp => by
    have hi := (List.getElem?_eq_some_iff.mp h).1
    obtain ⟨nd', t, h1, h2, h3⟩ := V.at hi
    rw [h] at h1; cases h1
    cases h3 with
    | var p e => simp at hp
    | nil => simp at hp
    | int v => simp at hp
    | dot p0 ps hl h' => have := (h' k p hp).1; omega
    | str s p0 ps f hs hf hp0 h' => have := (h' k p hp).1; omega
  refine ⟨fun i nd h p hp => ?_, fun i j a b ha hb hk => ?_, fun i nd h => ?_, by omega⟩
  · obtain ⟨k, hk⟩ := List.getElem?_of_mem hp
    exact lt i nd h k p hk
  · obtain ⟨nd, t, h1, h2, h3⟩ := V.at (List.getElem?_eq_some_iff.mp ha).1
    obtain ⟨nd', t', h1', h2', h3'⟩ := V.at (List.getElem?_eq_some_iff.mp hb).1
    rw [ha] at h1; cases h1
    rw [hb] at h1'; cases h1'
    rw [h3.plen.1, h3'.plen.1, hk]
  · obtain ⟨nd', t, h1, h2, h3⟩ := V.at (List.getElem?_eq_some_iff.mp h).1
    rw [h] at h1; cases h1
    cases h3 with
    | var p e => simp
    | nil => simp
    | int v => simp
    | dot p0 ps hl h' => simp [hl]
    | str s p0 ps f hs hf hp0 h' => rcases hs with ⟨-, q⟩ | ⟨-, q⟩ | ⟨-, q⟩ <;> simp [q]
/-- all equations so far hold -/
structure LI (c0 fs : List Cell) (ts : List Cell) (nds : List Node) (L : List Nat) (rt : Nat → Nat) (cs : List Cell) : Prop where
  fo : Fo L rt
  len : L.length = nds.length
  var : VarR nds rt
  good : GoodU nds rt
  now : Now c0 (· ∈ ts) cs
  co : ∀ v : Cell → Cell, (∀ i < nds.length, v (tAt ts i) = tAt ts (rt i)) → Compat (· ∈ ts) cs v
  lead : ∀ i < nds.length, Bs c0 fs (· ∈ ts) cs (tAt ts i) (tAt ts (rt i))
section
variable {rt : Nat → Nat} {L : List Nat}
theorem root_const (V : TInv A F c0 nds ts) (hF : Fo L rt) (hl : L.length = nds.length) (hv : VarR nds rt) (hg : GoodU nds rt) {i : Nat} (hi : i < nds.length) (hc : (tAt ts i).1 = 4 ∨ (tAt ts i).1 = 5) : tAt ts (rt i) = tAt ts i := by
  have hr : rt i < nds.length := by have := hF.lt i (by omega); omega
  have h1 : kdAt nds i ≠ .str "" := fun e => by have := (kd_var V hi).mp e; omega
  have h2 : kdAt nds (rt i) ≠ .str "" := fun e => h1 (hv i hi e)
  have := (hg i (rt i) hi hr (hF.rr (by omega)).symm h1 h2).1
  exact (kd_const V hi hr this hc).symm
theorem well (V : TInv A F c0 nds ts) (hF : Fo L rt) (hl : L.length = nds.length) (hv : VarR nds rt) (hg : GoodU nds rt) {i j : Nat} (hi : i < nds.length) (hj : j < nds.length) (h : tAt ts i = tAt ts j) : tAt ts (rt i) = tAt ts (rt j) := by
  rcases V.inj i j (tAt ts i) (t_at V hi) (by rw [t_at V hj, h]) with q | q
  · rw [q]
  · rw [root_const V hF hl hv hg hi q, root_const V hF hl hv hg hj (by rw [← h]; exact q), h]
theorem v_ex (V : TInv A F c0 nds ts) (hF : Fo L rt) (hl : L.length = nds.length) (hv : VarR nds rt) (hg : GoodU nds rt) : ∃ v : Cell → Cell, ∀ i < nds.length, v (tAt ts i) = tAt ts (rt i) := by
  classical
  refine ⟨fun c => if h : ∃ i, i < nds.length ∧ tAt ts i = c then tAt ts (rt h.choose) else c, fun i hi => ?_⟩
  have h : ∃ j, j < nds.length ∧ tAt ts j = tAt ts i := ⟨i, hi, rfl⟩
  dsimp only
  rw [dif_pos h]
  exact well V hF hl hv hg h.choose_spec.1 hi h.choose_spec.2
theorem mem_t (V : TInv A F c0 nds ts) {x : Cell} (hx : x ∈ ts) : ∃ i, i < nds.length ∧ tAt ts i = x := by
  obtain ⟨i, hi⟩ := List.getElem?_of_mem hx
  have := (List.getElem?_eq_some_iff.mp hi).1
  exact ⟨i, by rw [← V.len]; exact this, by unfold tAt; rw [hi]; rfl⟩
theorem comp_args (V : TInv A F c0 nds ts) (S : Sok A F fs) {i : Nat} (hi : i < nds.length) (hc : Cmpd (tAt ts i)) : wid c0 fs (tAt ts i) = (ptAt nds i).length ∧ ∀ (j q : Nat), (ptAt nds i)[j]? = some q → q < nds.length ∧ argAt c0 (tAt ts i) j = tAt ts q := by
  obtain ⟨nd, t, h1, h2, h3⟩ := V.at hi
  have h4 := V.comp S h1 (t_at V hi) hc
  rw [pt_at h1]
  refine ⟨h4.1, fun j q hq => ?_⟩
  obtain ⟨a, b, c, d⟩ := h4.2.2.2 j q hq
  exact ⟨by omega, by unfold tAt at c ⊢; rw [c]; rfl⟩
theorem v_good (V : TInv A F c0 nds ts) (S : Sok A F fs) (hF : Fo L rt) (hl : L.length = nds.length) (hv : VarR nds rt) (hg : GoodU nds rt) {v : Cell → Cell} (hvv : ∀ i < nds.length, v (tAt ts i) = tAt ts (rt i)) : GoodV c0 fs (· ∈ ts) v := by
  intro x y hx hy e nx ny
  obtain ⟨i, hi, rfl⟩ := mem_t V hx
  obtain ⟨j, hj, rfl⟩ := mem_t V hy
  rw [hvv i hi, hvv j hj] at e
  have hri : rt i < nds.length := by have := hF.lt i (by omega); omega
  have hrj : rt j < nds.length := by have := hF.lt j (by omega); omega
  have ki : kdAt nds i ≠ .str "" := fun q => nx ((kd_var V hi).mp q)
  have kj : kdAt nds j ≠ .str "" := fun q => ny ((kd_var V hj).mp q)
  have kri : kdAt nds (rt i) ≠ .str "" := fun q => ki (hv i hi q)
  have krj : kdAt nds (rt j) ≠ .str "" := fun q => kj (hv j hj q)
  have gi := hg i (rt i) hi hri (hF.rr (by omega)).symm ki kri
  have gj := hg j (rt j) hj hrj (hF.rr (by omega)).symm kj krj
  rcases V.inj (rt i) (rt j) (tAt ts (rt i)) (t_at V hri) (by rw [t_at V hrj, e]) with q | q
  · obtain ⟨g1, g2⟩ := hg i j hi hj q ki kj
    rcases tag_kd V hi ki with hc | hc
    · exact .inl (kd_const V hi hj g1 hc)
    · have hcj : Cmpd (tAt ts j) := by
        obtain ⟨nd, t, h1, h2, h3⟩ := V.at hi
        obtain ⟨nd', t', h1', h2', h3'⟩ := V.at hj
        rw [t_at V hi] at h2
        rw [t_at V hj] at h2'
        injection h2 with h2
        injection h2' with h2'
        rw [kd_at h1, kd_at h1'] at g1
        rw [h2] at hc
        rw [h2']
        exact h3'.plen.2.mpr (by rw [← g1]; exact h3.plen.2.mp hc)
      obtain ⟨nd, t, h1, h2, h3⟩ := V.at hi
      obtain ⟨nd', t', h1', h2', h3'⟩ := V.at hj
      have hs : Shape c0 (tAt ts i) (tAt ts j) := (V.shape S h1 (t_at V hi) h1' (t_at V hj) hc).mpr ⟨by rw [← kd_at h1, ← kd_at h1']; exact g1, hcj⟩
      refine .inr ⟨hc, hs, fun k hk => ?_⟩
      obtain ⟨w1, a1⟩ := comp_args V S hi hc
      obtain ⟨w2, a2⟩ := comp_args V S hj hcj
      have l1 : k < (ptAt nds i).length := by omega
      have l2 : k < (ptAt nds j).length := by rw [← w2, ← hs.wid]; exact hk
      obtain ⟨p1, p2⟩ := a1 k _ (List.getElem?_eq_getElem l1)
      obtain ⟨p3, p4⟩ := a2 k _ (List.getElem?_eq_getElem l2)
      rw [p2, p4, hvv _ p1, hvv _ p3, g2 k _ _ (List.getElem?_eq_getElem l1) (List.getElem?_eq_getElem l2)]
  · have e1 := kd_const V hri hi gi.1.symm q
    have e2 := kd_const V hrj hj gj.1.symm (by rw [← e]; exact q)
    exact .inl (by rw [← e1, ← e2, e])
theorem u_good (V : TInv A F c0 nds ts) (S : Sok A F fs) {cs : List Cell} (N : Now c0 (· ∈ ts) cs) : GoodU nds fun i c => Bs c0 fs (· ∈ ts) cs (tAt ts i) c := by
  intro i j hi hj e ki kj
  have G := V.gr S
  have hb : Bs c0 fs (· ∈ ts) cs (tAt ts i) (tAt ts j) := (congrFun e (tAt ts j)).mpr (bs_refl _)
  have ni : (tAt ts i).1 ≠ 0 := fun q => ki ((kd_var V hi).mpr q)
  have nj : (tAt ts j).1 ≠ 0 := fun q => kj ((kd_var V hj).mpr q)
  have z := bs_is _ _ (t_mem V hi) (t_mem V hj) hb
  rw [deref_val ni, deref_val nj] at z
  rcases z with z | ⟨hc, hs, ha⟩
  · rcases V.inj i j (tAt ts i) (t_at V hi) (by rw [t_at V hj, z]) with q | q
    · subst q
      exact ⟨rfl, fun k p q hp hq => by rw [hp] at hq; cases hq; rfl⟩
    · obtain ⟨q1, q2, q3⟩ := const_kd V hi hj z q
      exact ⟨q1, fun k p q hp hq => by rw [q2] at hp; simp at hp⟩
  · have hcj := hc.shape hs
    obtain ⟨nd, t, h1, h2, h3⟩ := V.at hi
    obtain ⟨nd', t', h1', h2', h3'⟩ := V.at hj
    have hk := ((V.shape S h1 (t_at V hi) h1' (t_at V hj) hc).mp hs).1
    refine ⟨by rw [kd_at h1, kd_at h1']; exact hk, fun k p q hp hq => ?_⟩
    obtain ⟨w1, a1⟩ := comp_args V S hi hc
    obtain ⟨w2, a2⟩ := comp_args V S hj hcj
    obtain ⟨p1, p2⟩ := a1 k p hp
    obtain ⟨p3, p4⟩ := a2 k q hq
    have z := ha k (by rw [w1]; exact (List.getElem?_eq_some_iff.mp hp).1)
    rw [p2, p4] at z
    funext c
    exact propext ⟨fun h => bs_trans G N (t_mem V p1) (bs_symm z) h, fun h => bs_trans G N (t_mem V p3) z h⟩
/-- the start: nothing joined, nothing bound -/
theorem li_start (V : TInv A F c0 nds ts) (S : Sok A F fs) : LI c0 fs ts nds (List.range nds.length) id c0 := by
  have G := V.gr S
  have F0 : Fo (List.range nds.length) id := by
    have get : ∀ (i j : Nat), (List.range nds.length)[i]? = some j → i < nds.length ∧ j = i := fun i j h => by
      have hi := (List.getElem?_eq_some_iff.mp h).1
      rw [List.length_range] at hi
      rw [List.getElem?_range hi] at h
      cases h
      exact ⟨hi, rfl⟩
    refine ⟨fun i hi => hi, fun i j h => ?_, fun i h => rfl, fun i j h hn => absurd (get i j h).2 hn, fun i hi => ?_, ⟨fun _ => 0, fun i j h hn => absurd (get i j h).2 hn⟩⟩
    · obtain ⟨a, b⟩ := get i j h
      rw [List.length_range, b]; exact a
    · rw [List.length_range] at hi
      exact List.getElem?_range hi
  refine ⟨F0, List.length_range, fun i _ h => h, fun i j hi hj e ki kj => ?_, G.self, fun v hv x hx => ?_, fun i hi => bs_refl _⟩
  · have : i = j := e
    subst this
    exact ⟨rfl, fun k p q hp hq => by rw [hp] at hq; cases hq; rfl⟩
  · obtain ⟨i, hi, rfl⟩ := mem_t V hx
    have : Fin c0 (tAt ts i) := fun h0 => (G.var _ hx h0).2
    rw [deref_of_fin this]
/-- one equation: joined and unify say the same -/
theorem li_step (V : TInv A F c0 nds ts) (S : Sok A F fs) {cs cs' : List Cell} (I : LI c0 fs ts nds L rt cs) {x y : Nat} (hx : x < nds.length) (hy : y < nds.length) {b b' : Bool} {L' : List Nat} (J : JEnd nds rt x y b L') (hl' : L'.length = nds.length)
    (U : UEnd c0 fs (· ∈ ts) cs (tAt ts x) (tAt ts y) b' cs') : b' = b ∧ (b = true → (∃ rt', LI c0 fs ts nds L' rt' cs') ∧ Ext (· ∈ ts) cs cs' ∧ Bs c0 fs (· ∈ ts) cs' (tAt ts x) (tAt ts y)) := by
  have G := V.gr S
  obtain ⟨rt', hF', hT, hU⟩ := J.fo
  have N' := U.now
  cases b with
  | true =>
    obtain ⟨hv', hg', hxy, hco⟩ := hT rfl
    obtain ⟨v, hv⟩ := v_ex V hF' hl' hv' hg'
    have hgv := v_good V S hF' hl' hv' hg' hv
    have hcv : Compat (· ∈ ts) cs v := by
      obtain ⟨w, hw⟩ := v_ex V I.fo I.len I.var I.good
      have hcw := I.co w hw
      intro z hz
      have hd := deref_T G I.now hz
      obtain ⟨i, hi, rfl⟩ := mem_t V hz
      obtain ⟨j, hj, hjd⟩ := mem_t V hd
      have e := hcw _ hz
      rw [← hjd, hw i hi, hw j hj] at e
      rw [← hjd, hv i hi, hv j hj]
      have hri : rt i < nds.length := by have := I.fo.lt i (by have := I.len; omega); have := I.len; omega
      have hrj : rt j < nds.length := by have := I.fo.lt j (by have := I.len; omega); have := I.len; omega
      have := well V hF' hl' hv' hg' hri hrj e
      rw [hco i hi, hco j hj]
      exact this
    have hvxy : v (tAt ts x) = v (tAt ts y) := by rw [hv x hx, hv y hy, hxy]
    cases b' with
    | false => exact (U.no rfl v hgv hcv hvxy).elim
    | true =>
      refine ⟨rfl, fun _ => ?_⟩
      have hext := U.ext rfl
      obtain ⟨B, hB, hBxy⟩ := U.bis rfl
      have hb : Bs c0 fs (· ∈ ts) cs' (tAt ts x) (tAt ts y) := ⟨B, hB, hBxy⟩
      have hgu := u_good V S N'
      have huc : CompU nds.length rt fun i c => Bs c0 fs (· ∈ ts) cs' (tAt ts i) c := fun i hi => by
        have hri : rt i < nds.length := by have := I.fo.lt i (by have := I.len; omega); have := I.len; omega
        have z := bs_ext hext (I.lead i hi)
        funext c
        exact propext ⟨fun h => bs_trans G N' (t_mem V hi) (bs_symm z) h, fun h => bs_trans G N' (t_mem V hri) z h⟩
      have hue : (fun i c => Bs c0 fs (· ∈ ts) cs' (tAt ts i) c) x = (fun i c => Bs c0 fs (· ∈ ts) cs' (tAt ts i) c) y := by
        funext c
        exact propext ⟨fun h => bs_trans G N' (t_mem V hx) (bs_symm hb) h, fun h => bs_trans G N' (t_mem V hy) hb h⟩
      obtain ⟨-, huc'⟩ := hU _ hgu huc hue
      refine ⟨⟨rt', hF', hl', hv', hg', N', fun v' hv'' => ?_, fun i hi => ?_⟩, hext, hb⟩
      · have e : ∀ i < nds.length, v' (tAt ts i) = v (tAt ts i) := fun i hi => by rw [hv'' i hi, hv i hi]
        have h1 := U.val rfl v hgv hcv hvxy
        intro z hz
        obtain ⟨i, hi, rfl⟩ := mem_t V hz
        obtain ⟨j, hj, hjd⟩ := mem_t V (deref_T G N' hz)
        have := h1 _ hz
        rw [← hjd] at this ⊢
        rw [e i hi, e j hj, this]
      · have := congrFun (huc' i hi) (tAt ts (rt' i))
        exact this.mpr (bs_refl _)
  | false =>
    cases b' with
    | false => exact ⟨rfl, fun q => absurd q (by decide)⟩
    | true =>
      exfalso
      have hext := U.ext rfl
      obtain ⟨B, hB, hBxy⟩ := U.bis rfl
      have hb : Bs c0 fs (· ∈ ts) cs' (tAt ts x) (tAt ts y) := ⟨B, hB, hBxy⟩
      have hgu := u_good V S N'
      have huc : CompU nds.length rt fun i c => Bs c0 fs (· ∈ ts) cs' (tAt ts i) c := fun i hi => by
        have hri : rt i < nds.length := by have := I.fo.lt i (by have := I.len; omega); have := I.len; omega
        have z := bs_ext hext (I.lead i hi)
        funext c
        exact propext ⟨fun h => bs_trans G N' (t_mem V hi) (bs_symm z) h, fun h => bs_trans G N' (t_mem V hri) z h⟩
      have hue : (fun i c => Bs c0 fs (· ∈ ts) cs' (tAt ts i) c) x = (fun i c => Bs c0 fs (· ∈ ts) cs' (tAt ts i) c) y := by
        funext c
        exact propext ⟨fun h => bs_trans G N' (t_mem V hx) (bs_symm hb) h, fun h => bs_trans G N' (t_mem V hy) hb h⟩
      exact absurd (hU _ hgu huc hue).1 (by decide)
/-- free exactly where the company has variables alone -/
theorem li_free (V : TInv A F c0 nds ts) (S : Sok A F fs) {cs : List Cell} (I : LI c0 fs ts nds L rt cs) {i : Nat} (hi : i < nds.length) : (deref cs (tAt ts i)).1 = 0 ↔ kdAt nds (rt i) = .str "" := by
  have G := V.gr S
  have hri : rt i < nds.length := by have := I.fo.lt i (by have := I.len; omega); have := I.len; omega
  constructor
  · intro h
    by_cases q : kdAt nds (rt i) = .str ""
    · exact q
    · exfalso
      have nr : (tAt ts (rt i)).1 ≠ 0 := fun e => q ((kd_var V hri).mpr e)
      have z := bs_is _ _ (t_mem V hi) (t_mem V hri) (I.lead i hi)
      rw [deref_val nr] at z
      rcases z with z | ⟨z, -⟩
      · rw [z] at h; exact nr h
      · rcases z with z | z <;> omega
  · intro h
    obtain ⟨v, hv⟩ := v_ex V I.fo I.len I.var I.good
    have e := I.co v hv _ (t_mem V hi)
    obtain ⟨j, hj, hjd⟩ := mem_t V (deref_T G I.now (t_mem V hi))
    rw [← hjd, hv i hi, hv j hj] at e
    have hrj : rt j < nds.length := by have := I.fo.lt j (by have := I.len; omega); have := I.len; omega
    rw [← hjd]
    have h0 := (kd_var V hri).mp h
    rw [e] at h0
    exact (kd_var V hj).mp (I.var j hj ((kd_var V hrj).mpr h0))
/-- one free cell, one company -/
theorem li_one (V : TInv A F c0 nds ts) (S : Sok A F fs) {cs : List Cell} (I : LI c0 fs ts nds L rt cs) {i j : Nat} (hi : i < nds.length) (hj : j < nds.length) (h : deref cs (tAt ts i) = deref cs (tAt ts j)) (h0 : (deref cs (tAt ts i)).1 = 0) : rt i = rt j := by
  have G := V.gr S
  obtain ⟨v, hv⟩ := v_ex V I.fo I.len I.var I.good
  have e1 := I.co v hv _ (t_mem V hi)
  have e2 := I.co v hv _ (t_mem V hj)
  rw [← h, ← e1, hv i hi, hv j hj] at e2
  have hri : rt i < nds.length := by have := I.fo.lt i (by have := I.len; omega); have := I.len; omega
  have hrj : rt j < nds.length := by have := I.fo.lt j (by have := I.len; omega); have := I.len; omega
  have hk := (kd_var V hri).mp ((li_free V S I hi).mp h0)
  rcases V.inj (rt i) (rt j) (tAt ts (rt i)) (t_at V hri) (by rw [t_at V hrj, e2]) with q | q
  · exact q
  · omega
end
end

section
variable {C : Ctx} {st : St}
theorem Holds.moreNew {h₀ : Heap} {Z : Hp} {s : Shared} {h' : Heap} {o : Obj} (h : Holds C h₀ Z st s) (hk : ∀ b o, s.heap.get? b = some o → h'.get? b = some o) (hn : h'.get? s.heap.objs.size = some o) : Holds C h₀ Z ⟨st.m, st.H.put s.heap.objs.size o⟩ { s with heap := h' } := by
  have z := h.more (h' := h') hk
  refine ⟨z.F, fun a o' e => ?_, fun a o' e => ?_, h.g, h.os⟩
  · have e : (st.H.put s.heap.objs.size o) a = some o' := e
    by_cases q : a = s.heap.objs.size
    · subst q
      rw [Hp.put_self] at e; cases e
      exact ⟨hn, h.neL, h.new0⟩
    · rw [Hp.put_ne _ _ q] at e
      exact z.N a o' e
  · have y := z.Z a o' e
    refine ⟨y.1, y.2.1, y.2.2.1, ?_⟩
    show (st.H.put s.heap.objs.size o) a = none
    rw [Hp.put_ne _ _ (fun q => by rw [q, h.newZ] at e; cases e)]
    exact y.2.2.2
theorem c_listRange {r : Addr} {n : Nat} {u t v : Tok} {Q : Value → St → Prop} (ok : C.Ok) (hr : st.H r = some (rngO 0 n 1 u t v)) (hn : n ≤ 1000) (h : ∀ H' a vs k, Le st.H H' → st.H a = none → H' a = some (lstO vs k) → NatsAre vs (List.range n) → Q (.ref a) ⟨st.m, H'⟩) : wpC C (call (.type "list") [.ref r]) Q st :=
  fun h₀ Z s o hs => PySem.call_list_range ok.hh (hs.N _ _ hr).1 (small_up hn) (size_up n) (by omega) fun h' tk acc' c' hk hS' hacc => by
    refine ⟨_, (hs.moreNew hk hS').tk _, h _ _ acc'.toList c' (le_put hs.new) hs.new (by simpa using Hp.put_self ..) ⟨by rw [List.length_range]; simpa using hacc.1, fun i w m e e' => ?_⟩⟩
    obtain ⟨t', rfl⟩ := hacc.2 i w (by simpa using e)
    have hi := (List.getElem?_eq_some_iff.mp e').1
    rw [List.length_range] at hi
    rw [List.getElem?_range hi] at e'
    cases e'
    exact ⟨t', by congr 1; omega⟩
theorem c_listCopy {l : Addr} {vs : List Value} {n : Nat} {Q : Value → St → Prop} (hl : st.H l = some (lstO vs n)) (hsz : vs.length ≤ 1000) (h : ∀ H' a k, Le st.H H' → st.H a = none → H' a = some (lstO vs k) → Q (.ref a) ⟨st.m, H'⟩) : wpC C (call (.type "list") [.ref l]) Q st :=
  fun h₀ Z s o hs => PySem.call_list_seq l (T := "list") (.inl rfl) (hs.N _ _ hl).1 rfl rfl (fun h' c' hk hS' => ⟨_, hs.moreNew hk hS', h _ _ c' (le_put hs.new) hs.new (Hp.put_self ..)⟩) (by rw [sizeLine_eq]; simp; omega)
theorem c_slice {e : Expr} {k kk : Nat} {p pos pk : Pos} {l : Addr} {vs : List Value} {Q : Value → St → Prop} (hG : ∀ h₀, C.G h₀ → h₀.IsList l vs.toArray) (hsz : vs.length ≤ 1000)
    (he : wpC C (eval e C.env) (fun v st' => v = .ref l ∧ st' = st) st) (h : ∀ H' a n, Le st.H H' → st.H a = none → H' a = some (lstO (vs.take k) n) → Q (.ref a) ⟨st.m, H'⟩) (ht : ∀ o r, letTemporaryGo e o r = Pure.pure () := by intro _ _; rfl) :
    wpC C (eval (.Subscript e (.Slice none (some (.Constant (.int k) kk pk)) none p) pos) C.env) Q st := fun h₀ Z s o hs => by
  refine wpAny_Subscript_list_slice ((he.go o hs fun v s' st' hs' ⟨e1, e2⟩ => ?_)) ht
  subst e1 e2
  refine wpAny_evalPart_none (wpAny_evalPart_some (wpAny_Constant_int ?_))
  obtain ⟨ol, hol, r⟩ := hG h₀ o.gh
  refine ⟨l, vs.toArray, none, some (k : Int), rfl, ⟨ol, hs'.F.keep _ _ hol, r⟩, by rw [sizeLine_eq]; simp; omega, .none, .int _ _, ?_⟩
  rw [slicePick_upto']
  have hs2 := (hs'.push { cls := .type "slice", data := .fields #[.none, .int (k : Int) s'.toks, .none] })
  have hs3 := hs2.push (lstO (vs.take k) 0)
  have e3 : (s'.heap.push { cls := .type "slice", data := .fields #[.none, .int (k : Int) s'.toks, .none] }).objs.size = s'.heap.objs.size + 1 := Heap.size_push ..
  dsimp only at hs3
  rw [e3] at hs3
  have n1 : st'.H (s'.heap.objs.size + 1) = none := by
    cases q : st'.H (s'.heap.objs.size + 1) with
    | none => rfl
    | some o => exact absurd (hs'.lt q) (Nat.not_lt.mpr (Nat.le_succ _))
  refine ⟨⟨st'.m, _⟩, hs3.tk (s'.toks + 1), h _ _ 0 ((le_put hs'.new).put n1) n1 (Hp.put_self ..)⟩
/-- two lists of the same cells do not differ -/
theorem c_neLists {l l' : Addr} {vs vs' : List Value} {n n' : Nat} {cs : List Cell} {Q : Value → St → Prop} (ok : C.Ok) (hlev : C.lev ≤ 30) (hl : st.H l = some (lstO vs n)) (hl' : st.H l' = some (lstO vs' n')) (h1 : CellsAre st.H vs cs) (h2 : CellsAre st.H vs' cs) (h : Q (.bool false) st) : wpC C (compareOp .NotEq (.ref l) (.ref l')) Q st := by
  refine c_neAt (k := false) (fun h₀ Z s o hs => ?_) h
  have hlen : vs.length = vs'.length := by rw [h1.1, h2.1]
  have k := PySem.SeqAt.RcNeAt.lists (A := C.A) (s := s) (items := vs.toArray) (items2 := vs'.toArray) (e := fun _ => true) ⟨_, (hs.N _ _ hl).1, rfl, _, rfl⟩ ⟨_, (hs.N _ _ hl').1, rfl, _, rfl⟩ (by simp [hlen]) (units_ok ok (by omega)) (fun j p1 p2 => ?_)
  · have : (!(List.range vs.toArray.size).all fun _ => true) = false := by simp
    rw [this] at k
    exact k
  · have q1 : j < vs.length := by simpa using p1
    have q2 : j < vs'.length := by simpa using p2
    have a1 : vs[j]? = some vs[j] := by simp [q1]
    have a2 : vs'[j]? = some vs'[j] := by simp [q2]
    have hc : cs[j]? = some (cs[j]'(by rw [← h1.1]; exact q1)) := by simp
    have b1 := h1.2 j _ _ a1 hc
    have b2 := h2.2 j _ _ a2 hc
    generalize cs[j]'_ = c at *
    show PySem.SeqAt.EqAt C.A.in1 s vs[j] vs'[j] true
    obtain ⟨x, t, u, e1, b1'⟩ := id b1
    obtain ⟨y, t', u', e2, b2'⟩ := id b2
    rw [e1] at b1 ⊢
    rw [e2] at b2 ⊢
    by_cases q : x = y
    · subst q; exact PySem.SeqAt.EqAt.same _
    · refine PySem.SeqAt.EqAt.of_refs q ?_
      have k := PySem.SeqAt.RcAt.tuples (A := C.A.in1) (s := s) (items := #[.int c.1 t, .int c.2 u]) (items2 := #[.int c.1 t', .int c.2 u']) (e := fun _ => true) ⟨_, (hs.N _ _ b1').1, rfl, _, rfl⟩ ⟨_, (hs.N _ _ b2').1, rfl, _, rfl⟩ (by have := ok.un; show C.A.units + 1 < 9900; omega) (fun j h1 h2 => by
        match j, h1 with
        | 0, _ => have := PySem.SeqAt.EqAt.int_int (A := C.A.in1.in1) (s := s) c.1 t c.1 t'; simpa using this
        | 1, _ => have := PySem.SeqAt.EqAt.int_int (A := C.A.in1.in1) (s := s) c.2 u c.2 u'; simpa using this)
      exact k
end

/-- the state of law's loops -/
structure LS (a : StoA) (ua sl ll rl : Addr) (fs : List Cell) (Hb H : Hp) (L : List Nat) (cs : List Cell) (rws : List (Nat × Nat)) : Prop where
  out : LeOut [a.hl, ua, ll, rl] Hb H
  rep : Rep a H cs fs
  urn : UrnR H ua sl
  lead : ∃ lvs k, H ll = some (lstO lvs k) ∧ NatsAre lvs L
  rows : ∃ rvs k, H rl = some (lstO rvs k) ∧ CellsAre H rvs (rws.map castP)
/-- the lists lie apart -/
structure Apart (a : StoA) (ua sl ll rl : Addr) : Prop where
  hul : ua ≠ a.hl
  huf : ua ≠ a.fl
  hlh : ll ≠ a.hl
  hlf : ll ≠ a.fl
  hrh : rl ≠ a.hl
  hrf : rl ≠ a.fl
  hlu : ll ≠ ua
  hru : rl ≠ ua
  hls : ll ≠ sl
  hrs : rl ≠ sl
  hhs : a.hl ≠ sl
  hlr : ll ≠ rl
section
variable {a : StoA} {ua sl ll rl : Addr} {fs : List Cell} {Hb H H' : Hp} {L : List Nat} {cs : List Cell} {rws : List (Nat × Nat)}
theorem LS.mono (S : LS a ua sl ll rl fs Hb H L cs rws) (k : Le H H') : LS a ua sl ll rl fs Hb H' L cs rws := by
  obtain ⟨lvs, lk, h1, h2⟩ := S.lead
  obtain ⟨rvs, rk, h3, h4⟩ := S.rows
  exact ⟨S.out.trans k.out, S.rep.mono k, S.urn.keep fun x o e _ => k _ _ e, ⟨lvs, lk, k _ _ h1, h2⟩, ⟨rvs, rk, k _ _ h3, h4.mono k⟩⟩
theorem UrnR.list {H : Hp} {ua sl : Addr} (h : UrnR H ua sl) : ∃ vs n, H ua = some (lstO vs n) := let ⟨_, _, _, _, _, _, _, h, _⟩ := h; ⟨_, _, h⟩
theorem LS.urn' (S : LS a ua sl ll rl fs Hb H L cs rws) (P : Apart a ua sl ll rl) (k : LeBut ua H H') (u : UrnR H' ua sl) : LS a ua sl ll rl fs Hb H' L cs rws := by
  obtain ⟨lvs, lk, h1, h2⟩ := S.lead
  obtain ⟨rvs, rk, h3, h4⟩ := S.rows
  obtain ⟨uv, un, h5⟩ := S.urn.list
  exact ⟨S.out.trans (k.out (by simp)), S.rep.list h5 P.hul P.huf k, u, ⟨lvs, lk, k _ _ h1 P.hlu, h2⟩, ⟨rvs, rk, k _ _ h3 P.hru, h4.keep h5 list_not_tuple k⟩⟩
/-- a row more -/
theorem LS.row' (S : LS a ua sl ll rl fs Hb H L cs rws) (P : Apart a ua sl ll rl) (k : LeBut rl H H') {rws' : List (Nat × Nat)} (hr : ∃ rvs k, H' rl = some (lstO rvs k) ∧ CellsAre H' rvs (rws'.map castP)) : LS a ua sl ll rl fs Hb H' L cs rws' := by
  obtain ⟨lvs, lk, h1, h2⟩ := S.lead
  obtain ⟨rvs, rk, h3, h4⟩ := S.rows
  exact ⟨S.out.trans (k.out (by simp)), S.rep.list h3 P.hrh P.hrf k, S.urn.keep fun x o e q => k _ _ e (by rcases q with rfl | rfl; exact Ne.symm P.hru; exact Ne.symm P.hrs), ⟨lvs, lk, k _ _ h1 P.hlr, h2⟩, hr⟩
/-- other leads -/
theorem LS.lead' (S : LS a ua sl ll rl fs Hb H L cs rws) (P : Apart a ua sl ll rl) (k : LeBut ll H H') {L' : List Nat} (hr : ∃ lvs k, H' ll = some (lstO lvs k) ∧ NatsAre lvs L') : LS a ua sl ll rl fs Hb H' L' cs rws := by
  obtain ⟨lvs, lk, h1, h2⟩ := S.lead
  obtain ⟨rvs, rk, h3, h4⟩ := S.rows
  exact ⟨S.out.trans (k.out (by simp)), S.rep.list h1 P.hlh P.hlf k, S.urn.keep fun x o e q => k _ _ e (by rcases q with rfl | rfl; exact Ne.symm P.hlu; exact Ne.symm P.hls), hr, ⟨rvs, rk, k _ _ h3 (Ne.symm P.hlr), h4.keep h1 list_not_tuple k⟩⟩
/-- another store -/
theorem LS.sto' (S : LS a ua sl ll rl fs Hb H L cs rws) (P : Apart a ua sl ll rl) (k : LeBut a.hl H H') {cs' : List Cell} (R : Rep a H' cs' fs) : LS a ua sl ll rl fs Hb H' L cs' rws := by
  obtain ⟨lvs, lk, h1, h2⟩ := S.lead
  obtain ⟨rvs, rk, h3, h4⟩ := S.rows
  obtain ⟨hv, hk, h5, _⟩ := S.rep.heap
  exact ⟨S.out.trans (k.out (by simp)), R, S.urn.keep fun x o e q => k _ _ e (by rcases q with rfl | rfl; exact P.hul; exact Ne.symm P.hhs), ⟨lvs, lk, k _ _ h1 P.hlh, h2⟩, ⟨rvs, rk, k _ _ h3 P.hrh, h4.keep h5 list_not_tuple k⟩⟩
end

theorem intsAre_ex {vs : List Value} {ns : List Int} (h : IntsAre vs ns) : (∀ v ∈ vs, ∃ i t, v = Value.int i t) ∧ vs.length = ns.length := by
  induction h with
  | nil => exact ⟨fun v h => (by cases h), rfl⟩
  | cons _ _ _ ih => exact ⟨fun v h => by
      rcases List.mem_cons.mp h with rfl | h
      · exact ⟨_, _, rfl⟩
      · exact ih.1 v h, by simp [ih.2]⟩
theorem enter_law {w : World} {s₁ : Shared} {h₁ : Heap} {fa l : Addr} {cd : Value} {tk : Nat} {m : Str → Option Value} {p : Program} {loose : List Str} {mean : ExcName → Option Value} {mg mb : Str → Option Value} {vs : List Value} {qn : Str} {sc : Scope} {body : List Stmt}
    (hwalk : ∀ (C : Ctx), C.Ok → C.lev = 0 → C.sc = sc → (∀ h, C.G h → h.IsList l vs.toArray) → wpC C (execs body C.env) (fun f _ => f = .ret (.bool true)) ⟨m, fun _ => none⟩)
    (hk : sc.kind = .function) (KX : (hd.heap_1 w.params).In s₁.heap) (T : Top p loose mean mg mb s₁.heap) (K0 : Below callerA s₁.heap [] s₁.heap) (F : Fr s₁.heap s₁.heap.objs.size h₁ m) (hL : s₁.heap.IsList l vs.toArray)
    {Q : Flow → Shared → Prop} {E : Value → Shared → Prop} (hq : ∀ s', (∀ b o, s₁.heap.get? b = some o → s'.heap.get? b = some o) → s'.os = s₁.os → s'.gens = s₁.gens → Q (.ret (.bool true)) s') :
    wpAny (model pw w) (callerA.deeper (envOf qn sc s₁.heap.objs.size fa cd)) (execs body (envOf qn sc s₁.heap.objs.size fa cd)) Q E { s₁ with heap := h₁, toks := tk } := by
  let C : Ctx := { w := w, A := callerA.deeper (envOf qn sc s₁.heap.objs.size fa cd), L := s₁.heap.objs.size, qn := qn, sc := sc, fa := fa, cd := cd, g := s₁.gens, os := s₁.os, lev := 0, G := fun h => h.IsList l vs.toArray }
  have ok : C.Ok := ⟨rfl, by show callerA.depth + 1 ≤ 310; decide, by show callerA.units + 3 ≤ 10; decide, hk⟩
  have oh : OkH C s₁.heap := ⟨KX, ⟨callerA, s₁.heap, [], p, loose, mean, mg, mb, K0, T, rfl⟩, hL⟩
  have hh : Holds C s₁.heap (fun _ => none) ⟨m, fun _ => none⟩ { s₁ with heap := h₁, toks := tk } := ⟨F, fun a o e => (by cases e), fun a o e => (by cases e), rfl, rfl⟩
  refine wpAny_mono (hwalk C ok rfl rfl (fun _ h => h) s₁.heap (fun _ => none) _ oh hh) (fun f s' ⟨st', hs', e⟩ => ?_) fun _ _ e => e.elim
  subst e
  exact hq s' hs'.F.keep hs'.os hs'.g
theorem dis_start {w : World} {H0 H1 H2 : Hp} {a : StoA} {b : SyA} {ua sl : Addr} {n : Nat} {A : Str → Option Nat} {F : Cell → Option Nat} {fs : List Cell} (U : UrnR H0 ua sl) (hne : ua ≠ sl) (S : SymR w b H1 n A F fs) (k01 : Le H0 H1) (fr : ∀ x ∈ [b.tx, b.ad, b.fl, b.fd], H0 x = none)
    (R : Rep a H2 [] fs) (fr2 : ∀ x ∈ [a.st, a.sd, a.hl, a.sl, a.tr], H1 x = none) : [a.st, a.sd, a.hl, b.sy, b.yd, b.tx, b.ad, b.fl, b.fd, ua, sl].Nodup := by
  obtain ⟨_, _, _, _, _, _, _, u1, _, u2, _⟩ := U
  obtain ⟨_, _, s1, _⟩ := S.dict
  obtain ⟨_, _, s2, _⟩ := S.tx
  obtain ⟨_, _, s3, s3', _⟩ := S.ad
  obtain ⟨_, _, s4, _⟩ := S.fl
  obtain ⟨_, _, s5, s5', _⟩ := S.fd
  have s0 := S.inst
  obtain ⟨_, _, r1, _⟩ := R.heap
  obtain ⟨_, _, _, _, _, r2, _⟩ := R.dict
  have r0 := R.inst
  have u1' := k01 _ _ u1
  have u2' := k01 _ _ u2
  have key : ∀ {y : Addr} {o : Obj}, H1 y = some o → H1 y ≠ none := fun e q => by rw [e] at q; cases q
  have some1 : ∀ x ∈ [b.sy, b.yd, b.tx, b.ad, b.fl, b.fd, ua, sl], H1 x ≠ none := by
    intro x hx
    simp only [List.mem_cons, List.not_mem_nil, or_false] at hx
    rcases hx with rfl | rfl | rfl | rfl | rfl | rfl | rfl | rfl <;> first | exact key s0 | exact key s1 | exact key s2 | exact key s3 | exact key s4 | exact key s5 | exact key u1' | exact key u2'
  have dl : ∀ {o : Obj} {vs : List Value} {n : Nat}, o.cls = .type "dict" → o.cls ≠ (lstO vs n).cls := dict_ne_list
  have il : ∀ {K dx : Addr} {vs : List Value} {n : Nat}, (instObj K dx).cls ≠ (lstO vs n).cls := by intro K dx vs n q; cases q
  have id' : ∀ {K dx : Addr} {o : Obj}, o.cls = .type "dict" → (instObj K dx).cls ≠ o.cls := by intro K dx o h q; rw [h] at q; cases q
  have f1 := fr b.tx (by simp)
  have f2 := fr b.ad (by simp)
  have f3 := fr b.fl (by simp)
  have f4 := fr b.fd (by simp)
  show ([a.st, a.sd, a.hl] ++ ([b.sy, b.yd, b.tx, b.ad, b.fl, b.fd] ++ [ua, sl])).Nodup
  refine List.nodup_append.mpr ⟨?_, List.nodup_append.mpr ⟨?_, by simp [hne], ?_⟩, ?_⟩
  · have a1 : a.st ≠ a.sd := ne_cls r0 r2 (id' rfl)
    have a2 : a.st ≠ a.hl := ne_cls r0 r1 il
    have a3 : a.sd ≠ a.hl := ne_cls r2 r1 (dl rfl)
    simp [a1, a2, a3]
  · have b1 : b.sy ≠ b.yd := ne_cls s0 s1 (id' rfl)
    have b2 : b.sy ≠ b.tx := ne_cls s0 s2 il
    have b3 : b.sy ≠ b.ad := ne_cls s0 s3 (id' (sd_cls s3'))
    have b4 : b.sy ≠ b.fl := ne_cls s0 s4 il
    have b5 : b.sy ≠ b.fd := ne_cls s0 s5 (id' s5'.1.1)
    have b6 : b.yd ≠ b.tx := ne_cls s1 s2 (dl rfl)
    have b7 : b.yd ≠ b.fl := ne_cls s1 s4 (dl rfl)
    have b8 : b.tx ≠ b.ad := Ne.symm (ne_cls s3 s2 (dl (sd_cls s3')))
    have b9 : b.tx ≠ b.fd := Ne.symm (ne_cls s5 s2 (dl s5'.1.1))
    have b10 : b.ad ≠ b.fl := ne_cls s3 s4 (dl (sd_cls s3'))
    have b11 : b.fl ≠ b.fd := Ne.symm (ne_cls s5 s4 (dl s5'.1.1))
    simp [b1, b2, b3, b4, b5, b6, b7, b8, b9, b10, b11, S.ne, S.ne1, S.ne2, S.ne3]
  · intro x hx y hy e
    subst e
    simp only [List.mem_cons, List.not_mem_nil, or_false] at hx hy
    have c1 : b.sy ≠ ua := ne_cls s0 u1' il
    have c2 : b.sy ≠ sl := ne_cls s0 u2' il
    have c3 : b.yd ≠ ua := ne_cls s1 u1' (dl rfl)
    have c4 : b.yd ≠ sl := ne_cls s1 u2' (dl rfl)
    rcases hx with rfl | rfl | rfl | rfl | rfl | rfl <;> rcases hy with e | e <;> first | exact c1 e | exact c2 e | exact c3 e | exact c4 e | (rw [e, u1] at f1; cases f1) | (rw [e, u2] at f1; cases f1) | (rw [e, u1] at f2; cases f2) | (rw [e, u2] at f2; cases f2) | (rw [e, u1] at f3; cases f3) | (rw [e, u2] at f3; cases f3) | (rw [e, u1] at f4; cases f4) | (rw [e, u2] at f4; cases f4)
  · intro x hx y hy e
    subst e
    refine some1 x (by simpa using hy) (fr2 x ?_)
    simp only [List.mem_cons, List.not_mem_nil, or_false] at hx ⊢
    rcases hx with h | h | h <;> simp [h]
set_option hygiene false in
local macro_rules | `(tactic| k_qdec) => `(tactic| skip)
theorem en : PySem.Challenge.rw_rr0028_01.Holds := by
  refine Mine.hd ?_
  k_go0
  rename_i w s₀ s₁ mg mb G Y fa o pm doc kV ho hg KX X V T B TE TW a1 a2 M a3 a4 hcd ns hs hlay hL1 hr1 hl2 a5 a6 l vs as hL ra w1 r0 hI hr hc1 hc2 K0 hD h₁ F N0
  obtain ⟨hvs, hvl⟩ := intsAre_ex hI
  have hv63 : vs.length ≤ 63 := by omega
  refine enter_law (m := _) (l := l) (vs := vs) ?_ rfl KX T K0 F hL fun s' k1 k2 k3 => ?_
  · clear T K0 F hL X V B TE TW M hcd hD N0 w1 r0 hI ra G Y KX
    intro C ok hlev hsc hG
    walk_at "c"
    walk_at "c"
    walk_at "c"
    walk_at "c"
    walk_at "c"
    walk_at "c"
    refine c_slice (l := l) (vs := vs) hG (by omega) ?_ fun H1 sl n1 k1 nsl hsl => ?_
    · repeat walk_at "c"
      exact ⟨rfl, rfl⟩
    dsimp only at k1 nsl
    repeat walk_at "c"
    refine c_newListG (by rw [sizeLine_eq]; simp) fun H2 ua k2 nua hua => ?_
    dsimp only at k2 nua
    have hus : ua ≠ sl := Ne.symm (ne_new hsl nua)
    have U2 : UrnR H2 ua sl := ⟨0, _, 0, _, 0, _, _, hua, Int.le_refl _, k2 _ _ hsl, fun v hv => hvs v (List.mem_of_mem_take hv), by rw [List.length_take]; omega⟩
    repeat walk_at "c"
    refine s_Symbols ok (by omega) fun H3 b n A F fs k3 S3 hn hfs dot fr3 => ?_
    dsimp only at k3 fr3
    repeat walk_at "c"
    refine s_Store ok (by omega) (by exact S3) fun H4 a k4 R4 e1 e2 e3 fr4 => ?_
    dsimp only at k4 fr4
    have dis := dis_start U2 hus S3 k3 fr3 R4 fr4
    have S4 := k4.symR S3
    have U4 := U2.keep fun x o e _ => k4 _ _ (k3 _ _ e)
    repeat walk_at "c"
    refine c_AssignTup ?_
    repeat walk_at "c"
    refine c_call (s_things ok (by omega) (by exact R4) (by exact S4) (by exact U4) hn hfs dot dis e1 e2 e3 fun H5 r5 cl nl c Zf cs fs' n' A' F' ts nds hr5 W V h3 h7 hfs' ncl nnl => ?_)
    clear U2 U4 S3 S4 R4 k1 k2 k3 k4 fr3 fr4
    refine c_assignP (lk hsc (by with_unfolding_all rfl)) (lk hsc (by with_unfolding_all rfl)) ok (by exact hr5) ?_
    have SK : Sok A' F' fs' := ⟨W.sym.injA, W.sym.okF, by omega⟩
    have G0 := V.gr SK
    have NO := V.ndsOk h7
    obtain ⟨cvs, ck, hcl, hcc⟩ := W.cells
    have hcvl := hcc.1
    have htl := V.len
    obtain ⟨nvs, nk, hnl, hnvl, hnodes⟩ := W.nodes
    have znl : Zf nl = none := W.zno nl (by simp)
    have hN : NodesR (Zf.put nl (lstO nvs nk)) nl nds := ⟨nvs, nk, Hp.put_self .., hnvl, fun i v nd e e' => (hnodes i v nd e e').mono (le_put znl)⟩
    have hZ5 : Le (Zf.put nl (lstO nvs nk)) H5 := fun y o e => by
      by_cases q : y = nl
      · subst q; rw [Hp.put_self] at e; cases e; exact hnl
      · rw [Hp.put_ne _ _ q] at e; exact W.zle y o e
    have zhl : (Zf.put nl (lstO nvs nk)) a.hl = none := by
      rw [Hp.put_ne _ _ (fun q => dis_of W.dis [2] [12] rfl rfl rfl a.hl (by simp) (by simp [q]))]; exact W.zno a.hl (by simp)
    have zua : (Zf.put nl (lstO nvs nk)) ua = none := by
      rw [Hp.put_ne _ _ (fun q => dis_of W.dis [9] [12] rfl rfl rfl ua (by simp) (by simp [q]))]; exact W.zno ua (by simp)
    generalize Zf.put nl (lstO nvs nk) = Zn at *
    have hsz := sizeLine_eq
    repeat walk_at "c"
    refine c_len hcl (by omega) fun t6 => ?_
    repeat walk_at "c"
    refine c_range1 fun rg v1 v2 nrg => ?_
    have k6 : Le H5 (H5.put rg (rngO 0 (cvs.length : Nat) 1 v1 t6 v2)) := le_put nrg
    repeat walk_at "c"
    refine c_listRange ok (Hp.put_self ..) (by omega) fun H6 ll lvs lk6 k7 nll hll hlv => ?_
    dsimp only at k7 nll
    have k56 : Le H5 H6 := k6.trans k7
    have nll5 : H5 ll = none := Le.new k6 nll
    repeat walk_at "c"
    refine c_newListG (by rw [sizeLine_eq]; simp) fun H7 rl k8 nrl hrl => ?_
    dsimp only at k8 nrl
    have k57 : Le H5 H7 := k56.trans k8
    have nrl5 : H5 rl = none := Le.new k56 nrl
    have hlr : ll ≠ rl := ne_new hll nrl
    have hll7 := k8 _ _ hll
    have W7 := W.mono k57
    have fll := W.fresh nll5
    have frl := W.fresh nrl5
    have hcl7 := k57 _ _ hcl
    have hcc7 := hcc.mono k57
    have hZ7 := hZ5.trans k57
    have zll := Le.new hZ5 nll5
    have zrl := Le.new hZ5 nrl5
    rw [hcvl, htl] at hlv
    have I0 := li_start V SK
    clear hcl hcc k6 k7 k8 hnl hZ5
    repeat walk_at "c"
    refine c_call (s_pick ok (by omega) (by exact W7.urn) hus (by decide) (by decide) fun H8 r8 u8 k8 U8 hr0 hr4 => ?_)
    dsimp only at k8
    obtain ⟨M, hM, hM7⟩ : ∃ M : Nat, (1 + r8 : Int) = M ∧ M ≤ 4 := ⟨(1 + r8).toNat, by omega, by omega⟩
    refine c_add fun u9 => ?_
    rw [hM]
    repeat walk_at "c"
    refine c_range1 fun rg2 v3 v4 nrg2 => ?_
    have n4 : ∀ x ∈ [a.hl, ua, ll, rl], ∀ o, H7 x = some o → o.cls ≠ .type "tuple" := fun x hx o e => by
      simp only [List.mem_cons, List.not_mem_nil, or_false] at hx
      rcases hx with rfl | rfl | rfl | rfl
      · exact not_tup_list W7 _ (by simp) _ e
      · exact not_tup_list W7 _ (by simp) _ e
      · rw [hll7] at e; cases e; exact list_not_tuple
      · rw [hrl] at e; cases e; exact list_not_tuple
    have z4 : ∀ x ∈ [a.hl, ua, ll, rl], Zn x = none := fun x hx => by
      simp only [List.mem_cons, List.not_mem_nil, or_false] at hx
      rcases hx with rfl | rfl | rfl | rfl
      · exact zhl
      · exact zua
      · exact zll
      · exact zrl
    have c4 : cl ∉ [a.hl, ua, ll, rl] := fun hx => by
      simp only [List.mem_cons, List.not_mem_nil, or_false] at hx
      rcases hx with h | h | h | h
      · exact dis_of W.dis [11] [2] rfl rfl rfl cl (by simp) (by simp [h])
      · exact dis_of W.dis [11] [9] rfl rfl rfl cl (by simp) (by simp [h])
      · exact fll (by simp [h])
      · exact frl (by simp [h])
    have hul : ua ≠ a.hl := fun h => dis_of W.dis [9] [2] rfl rfl rfl ua (by simp) (by simp [h])
    have huf : ua ≠ a.fl := fun h => dis_of W.dis [9] [7] rfl rfl rfl ua (by simp) (by simp [W.e3, h])
    have hlh : ll ≠ a.hl := fun h => fll (by simp [h])
    have hlf : ll ≠ a.fl := fun h => fll (by simp [W.e3, h])
    have hrh : rl ≠ a.hl := fun h => frl (by simp [h])
    have hrf : rl ≠ a.fl := fun h => frl (by simp [W.e3, h])
    have hlu : ll ≠ ua := fun h => fll (by simp [h])
    have hru : rl ≠ ua := fun h => frl (by simp [h])
    have hls : ll ≠ sl := fun h => fll (by simp [h])
    have hrs : rl ≠ sl := fun h => frl (by simp [h])
    have hhs : a.hl ≠ sl := fun h => dis_of W.dis [2] [10] rfl rfl rfl a.hl (by simp) (by simp [h])
    have P : Apart a ua sl ll rl := ⟨hul, huf, hlh, hlf, hrh, hrf, hlu, hru, hls, hrs, hhs, hlr⟩
    have tup4 : ∀ H', LeOut [a.hl, ua, ll, rl] H7 H' → ∀ y o, H7 y = some o → o.cls = .type "tuple" → H' y = some o := fun H' k y o e h => k y o e fun q => n4 y q o e h
    have cl4 : ∀ H', LeOut [a.hl, ua, ll, rl] H7 H' → H' cl = some (lstO cvs ck) ∧ CellsAre H' cvs ts := fun H' k => ⟨k _ _ hcl7 c4, hcc7.core (tup4 H' k)⟩
    have S7 : LS a ua sl ll rl fs' H7 H7 (List.range nds.length) cs [] := ⟨LeOut.refl _ _, W7.rep, W7.urn, ⟨_, _, hll7, hlv⟩, ⟨_, _, hrl, rfl, fun i v c e => by simp at e⟩⟩
    have S8 := (S7.urn' P k8 U8).mono (le_put (o := rngO 0 (M : Nat) 1 v3 u9 v4) nrg2)
    obtain ⟨J, hJ1⟩ : ∃ J : Nat → St → Prop, ∀ i st', J i st' ↔ (st'.m "urn" = some (.ref ua) ∧ st'.m "store" = some (.ref a.st) ∧ st'.m "cells" = some (.ref cl) ∧ st'.m "nodes" = some (.ref nl) ∧ st'.m "leads" = some (.ref ll) ∧ st'.m "rows" = some (.ref rl) ∧
      ∃ L rt cs' rws, LS a ua sl ll rl fs' H7 st'.H L cs' rws ∧ LI cs fs' ts nds L rt cs' ∧ rws.length ≤ i ∧ ∀ p ∈ rws, p.1 < nds.length ∧ p.2 < nds.length ∧ Bs cs fs' (· ∈ ts) cs' (tAt ts p.1) (tAt ts p.2)) := ⟨_, fun _ _ => Iff.rfl⟩
    refine src_range (n := M) J ok (Hp.put_self ..) (small_up (by omega)) (size_up M)
      ((hJ1 _ _).mpr ⟨by walk_at "look", by walk_at "look", by walk_at "look", by walk_at "look", by walk_at "look", by walk_at "look", _, _, _, [], S8, I0, Nat.le_refl _, fun p hp => (by cases hp)⟩) ?_ ?_
    · rintro i ⟨m', H'⟩ hi hj t8
      obtain ⟨hm1, hm2, hm3, hm4, hm5, hm6, L, rt, cs', rws, S, I, hrw, hbs⟩ := (hJ1 _ _).mp hj
      clear hj S7 S8 I0
      dsimp only at hm1 hm2 hm3 hm4 hm5 hm6 S
      have hlogN : ((cvs.length : Nat) : Int).natAbs.log2 < 9000 := by
        rw [Nat.log2_lt (by omega)]
        exact Nat.lt_of_lt_of_le (show ((cvs.length : Nat) : Int).natAbs < 2 ^ 4 by omega) (Nat.pow_le_pow_right (by decide) (by decide))
      refine c_assignN (lk hsc rfl) ok ?_
      repeat walk_at "C"
      refine c_len (cl4 _ S.out).1 (by omega) fun t9 => ?_
      repeat walk_at "C"
      refine c_call (s_pick ok (by omega) (by exact S.urn) hus (by omega) hlogN fun H9 r9 u9 k9 U9 q0 q1 => ?_)
      dsimp only at k9
      have S := S.urn' P k9 U9
      obtain ⟨x, rfl⟩ : ∃ x : Nat, r9 = x := ⟨r9.toNat, by omega⟩
      repeat walk_at "C"
      refine c_len (cl4 _ S.out).1 (by omega) fun t10 => ?_
      repeat walk_at "C"
      refine c_call (s_pick ok (by omega) (by exact S.urn) hus (by omega) hlogN fun H10 r10 u10 k10 U10 q2 q3 => ?_)
      dsimp only at k10
      have S := S.urn' P k10 U10
      obtain ⟨y, rfl⟩ : ∃ y : Nat, r10 = y := ⟨r10.toNat, by omega⟩
      have hx : x < nds.length := by omega
      have hy : y < nds.length := by omega
      obtain ⟨rvs, rk, hrl10, hrc10⟩ := S.rows
      have hrvl := hrc10.1
      rw [List.length_map] at hrvl
      repeat walk_at "C"
      refine c_newTupleG (by rw [sizeLine_eq]; simp) fun H11 pp k11 npp hpp => ?_
      dsimp only at k11
      have S := S.mono k11
      have hrl11 := k11 _ _ hrl10
      repeat walk_at "C"
      refine c_append hrl11 (by omega) ?_
      refine ⟨rfl, ?_⟩
      walk_at "C"
      refine c_put fun H12 k12 hrl12 => ?_
      dsimp only at k12
      have S := S.row' P k12 (rws' := rws ++ [(x, y)]) ⟨_, _, hrl12, by rw [List.map_append]; exact ((hrc10.mono k11).app ⟨pp, _, _, rfl, hpp⟩).keep hrl11 list_not_tuple k12⟩
      obtain ⟨lvs2, lk2, hl2, hlv2⟩ := S.lead
      obtain ⟨m0, rt1, hJ⟩ := j_start NO I.fo I.len hx hy I.var I.good
      repeat walk_at "C"
      refine c_call (s_joined (Z := Zn) ok (by omega) (by exact zle_out hZ7 S.out z4) hN zll NO (by exact hl2) hlv2 (j_inv NO) ⟨rt1, hJ⟩ fun b H13 L' lvs' k' k13 h13 n13 hE hL' => ?_)
      dsimp only at k13
      have S := S.lead' P k13 ⟨_, _, h13, n13⟩
      obtain ⟨hcl13, hcc13⟩ := cl4 _ S.out
      have hxv : cvs[x]? = some (cvs[x]'(by omega)) := by simp
      have hyv : cvs[y]? = some (cvs[y]'(by omega)) := by simp
      have hxc := hcc13.2 x _ _ hxv (t_at V hx)
      have hyc := hcc13.2 y _ _ hyv (t_at V hy)
      repeat walk_at "C"
      refine c_item hcl13 (by omega) (by omega) (by rw [show ((x : Nat) : Int).toNat = x by omega]; exact hxv) ?_
      repeat walk_at "C"
      refine c_item hcl13 (by omega) (by omega) (by rw [show ((y : Nat) : Int).toNat = y by omega]; exact hyv) ?_
      repeat walk_at "C"
      refine c_call (s_unify ok (by omega) (by exact S.rep) G0 (by exact hxc) (by exact hyc) (u_inv G0 (t_mem V hx) (t_mem V hy)) I.now (u_start I.now (t_mem V hx) (t_mem V hy)) fun b' H14 cs2 k14 R14 hU N14 => ?_)
      dsimp only at k14
      have S := S.sto' P k14 R14
      obtain ⟨hbb, hgo⟩ := li_step V SK I hx hy hE hL' hU
      subst hbb
      repeat walk_at "C"
      refine c_neBool ?_
      repeat walk_at "C"
      refine ⟨fun e => absurd e (by cases b' <;> decide), fun _ => ?_⟩
      repeat walk_at "C"
      cases b' with
      | false =>
        repeat walk_at "C"
        refine ⟨fun _ => ?_, fun e => absurd e (by decide)⟩
        repeat walk_at "C"
        exact rfl
      | true =>
        obtain ⟨⟨rt2, I2⟩, hext, hbxy⟩ := hgo rfl
        repeat walk_at "C"
        refine ⟨fun e => absurd e (by decide), fun _ => ?_⟩
        repeat walk_at "C"
        refine (hJ1 _ _).mpr ⟨hm1, hm2, hm3, hm4, hm5, hm6, L', rt2, cs2, rws ++ [(x, y)], S, I2, by simp; omega, fun p hp => ?_⟩
        rcases List.mem_append.mp hp with hp | hp
        · obtain ⟨q1, q2, q3⟩ := hbs p hp
          exact ⟨q1, q2, bs_ext hext q3⟩
        · rw [List.mem_singleton] at hp
          subst hp
          exact ⟨hx, hy, hbxy⟩
    · rintro ⟨m', H'⟩ hj
      obtain ⟨hm1, hm2, hm3, hm4, hm5, hm6, L, rt, cs', rws, S, I, hrw, hbs⟩ := (hJ1 _ _).mp hj
      clear hj hJ1 J S7 S8 I0
      dsimp only at hm1 hm2 hm3 hm4 hm5 hm6 S
      have R := S.rep
      obtain ⟨hvv, hvk, hhl, hhc⟩ := R.heap
      have hhlen := hhc.1
      have hcs40 := (I.now.wf G0).len
      have hTI := fun {i : Nat} (hi : i < nds.length) => t_mem V hi
      repeat walk_at "C"
      refine c_listCopy hhl (by omega) fun H8 hp hk8 k9 nhp hhp => ?_
      dsimp only at k9 nhp
      have S := S.mono k9
      have hhp0 := hhc.mono k9
      obtain ⟨rvs, rk, hrl8, hrc8⟩ := S.rows
      have hrvl := hrc8.1
      rw [List.length_map] at hrvl
      have nph : hp ≠ a.hl := Ne.symm (ne_new hhl nhp)
      repeat walk_at "C"
      obtain ⟨J2, hJ2⟩ : ∃ J : Nat → St → Prop, ∀ i st', J i st' ↔ (st'.m "store" = some (.ref a.st) ∧ st'.m "cells" = some (.ref cl) ∧ st'.m "nodes" = some (.ref nl) ∧ st'.m "leads" = some (.ref ll) ∧ st'.m "heap" = some (.ref hp) ∧ st'.H rl = some (lstO rvs rk) ∧
        LS a ua sl ll rl fs' H7 st'.H L cs' rws ∧ ∃ hv' hk', st'.H hp = some (lstO hv' hk') ∧ CellsAre st'.H hv' cs') := ⟨_, fun _ _ => Iff.rfl⟩
      refine src_list (vs := rvs) (n := rk) J2 ok hrl8 (fun i st' h => ((hJ2 _ _).mp h).2.2.2.2.2.1) ((hJ2 _ _).mpr ⟨by walk_at "look", by walk_at "look", by walk_at "look", by walk_at "look", by walk_at "look", hrl8, S, _, _, hhp, hhp0⟩) ?_ ?_ (.inr ⟨_, _, _, rfl, fun v hv => ?_⟩)
      · rintro i ⟨m2, H2⟩ v hv hj
        obtain ⟨g1, g2, g3, g4, g5, g6, S2, hv2, hk2, ghp, ghc⟩ := (hJ2 _ _).mp hj
        clear hj
        dsimp only at g1 g2 g3 g4 g5 g6 S2 ghp ghc
        have hi := (List.getElem?_eq_some_iff.mp hv).1
        obtain ⟨⟨x, y⟩, hxy⟩ : ∃ p, rws[i]? = some p := ⟨rws[i]'(by omega), by simp⟩
        obtain ⟨hx, hy, hB⟩ := hbs _ (List.mem_of_getElem? hxy)
        dsimp only at hx hy hB
        obtain ⟨rvs2, rk2, hrl2, hrc2⟩ := S2.rows
        rw [g6] at hrl2
        cases hrl2
        obtain ⟨pa, t1, t2, rfl, hpa⟩ := hrc2.2 i v (castP (x, y)) hv (by rw [List.getElem?_map, hxy]; rfl)
        refine c_assignP (lk hsc rfl) (lk hsc rfl) ok hpa ?_
        obtain ⟨hcl2, hcc2⟩ := cl4 _ S2.out
        have hxv : cvs[x]? = some (cvs[x]'(by omega)) := by simp
        have hyv : cvs[y]? = some (cvs[y]'(by omega)) := by simp
        have hxc := hcc2.2 x _ _ hxv (t_at V hx)
        have hyc := hcc2.2 y _ _ hyv (t_at V hy)
        repeat walk_at "C"
        refine c_item hcl2 (by dsimp only [castP]; omega) (by dsimp only [castP]; omega) (by rw [show (castP (x, y)).1.toNat = x by dsimp only [castP]; omega]; exact hxv) ?_
        repeat walk_at "C"
        refine c_item hcl2 (by dsimp only [castP]; omega) (by dsimp only [castP]; omega) (by rw [show (castP (x, y)).2.toNat = y by dsimp only [castP]; omega]; exact hyv) ?_
        repeat walk_at "C"
        refine c_call (s_unify ok (by omega) (by exact S2.rep) G0 (by exact hxc) (by exact hyc) (u_inv G0 (t_mem V hx) (t_mem V hy)) I.now (u_start I.now (t_mem V hx) (t_mem V hy)) fun b' H14 cs2 k14 R14 hU N14 => ?_)
        dsimp only at k14
        cases b' with
        | false => exact absurd (hU.noB rfl _ bs_is hB) id
        | true =>
          obtain rfl := hU.same rfl _ bs_is hB
          obtain ⟨ov, ok2, hhl2, _⟩ := S2.rep.heap
          have g6' := k14 _ _ g6 P.hrh
          have ghp' := k14 _ _ ghp nph
          have ghc' := ghc.keep hhl2 list_not_tuple k14
          have S3 := S2.sto' P k14 R14
          repeat walk_at "C"
          refine ⟨fun e => absurd e (by decide), fun _ => ?_⟩
          repeat walk_at "C"
          exact (hJ2 _ _).mpr ⟨g1, g2, g3, g4, g5, g6', S3, _, _, ghp', ghc'⟩
      · rintro ⟨m2, H2⟩ hj
        obtain ⟨g1, g2, g3, g4, g5, g6, S2, hv2, hk2, ghp, ghc⟩ := (hJ2 _ _).mp hj
        clear hj hJ2 J2
        dsimp only at g1 g2 g3 g4 g5 g6 S2 ghp ghc
        have R2 := S2.rep
        obtain ⟨hv3, hk3, hhl3, hhc3⟩ := R2.heap
        obtain ⟨lvs3, lk3, hll3, hlv3⟩ := S2.lead
        repeat walk_at "C"
        refine c_neLists ok (by omega) hhl3 ghp hhc3 ghc ?_
        repeat walk_at "C"
        obtain ⟨hcl2, hcc2⟩ := cl4 _ S2.out
        have hN2 := hN.mono (zle_out hZ7 S2.out z4)
        refine c_newDict fun fd o nfd lod _ hID => ?_
        dsimp only at nfd
        have kf : Le H2 (H2.put fd o) := le_put nfd
        have hfd : (H2.put fd o) fd = some o := Hp.put_self ..
        generalize H2.put fd o = HF at *
        repeat walk_at "C"
        refine c_len (kf _ _ hcl2) (by omega) fun t11 => ?_
        repeat walk_at "C"
        refine c_range1 fun rg3 v5 v6 nrg3 => ?_
        obtain ⟨J3, hJ3⟩ : ∃ J : Nat → St → Prop, ∀ i st', J i st' ↔ (st'.m "store" = some (.ref a.st) ∧ st'.m "cells" = some (.ref cl) ∧ st'.m "nodes" = some (.ref nl) ∧ st'.m "leads" = some (.ref ll) ∧ st'.m "free" = some (.ref fd) ∧ Le H2 st'.H ∧
          ∃ o kvs, st'.H fd = some o ∧ ID C.w o kvs ∧ kvs.length ≤ i ∧ ∀ k v, valueAt kvs k = some v → ∃ j, j < nds.length ∧ (deref cs' (tAt ts j)).1 = 0 ∧ (deref cs' (tAt ts j)).2 = k ∧ ∃ t, v = .int (rt j : Nat) t) := ⟨_, fun _ _ => Iff.rfl⟩
        refine src_range (n := cvs.length) J3 ok (Hp.put_self ..) (small_up (by omega)) (size_up _)
          ((hJ3 _ _).mpr ⟨by walk_at "look", by walk_at "look", by walk_at "look", by walk_at "look", by walk_at "look", kf.trans (le_put nrg3), o, [], (le_put nrg3) _ _ hfd, hID, Nat.le_refl _, fun k v e => by cases e⟩) ?_ ?_
        · rintro i ⟨m3, H3⟩ hi hj t12
          obtain ⟨f1, f2, f3, f4, f5, gl, o3, kvs, gfd, gD, gn, gv⟩ := (hJ3 _ _).mp hj
          clear hj
          dsimp only at f1 f2 f3 f4 f5 gl gfd
          rw [show (0 : Int) + (i : Int) * 1 = (i : Nat) by omega]
          have hLn := I.len
          have hi' : i < nds.length := by omega
          have hri : rt i < nds.length := by have := I.fo.lt i (by omega); omega
          have hiv : cvs[i]? = some (cvs[i]'(by omega)) := by simp
          have hrv : cvs[rt i]? = some (cvs[rt i]'(by omega)) := by simp
          have hic := hcc2.2 i _ _ hiv (t_at V hi')
          have hrc := hcc2.2 (rt i) _ _ hrv (t_at V hri)
          have hcl3 := gl _ _ hcl2
          refine c_assignN (lk hsc rfl) ok ?_
          repeat walk_at "C"
          refine c_call (s_leader ok (by omega) (by exact gl _ _ hll3) hlv3 I.fo (by omega) (by omega) fun u12 => ?_)
          repeat walk_at "C"
          refine c_item hcl3 (by omega) (by omega) (by rw [show ((i : Nat) : Int).toNat = i by omega]; exact hiv) ?_
          repeat walk_at "C"
          refine c_item hcl3 (by omega) (by omega) (by rw [show ((rt i : Nat) : Int).toNat = rt i by omega]; exact hrv) ?_
          repeat walk_at "C"
          refine c_call (s_identical ok (by omega) (by exact R2.mono gl) G0 (by exact hic.mono gl) (by exact hrc.mono gl) (cmp_inv G0 I.now bs_is) I.now (cmp_start (t_mem V hi') (t_mem V hri) (I.lead i hi')) fun H4 k4 => ?_)
          dsimp only at k4
          have gl := gl.trans k4
          have gfd := k4 _ _ gfd
          have hcl3 := k4 _ _ hcl3
          have WF := I.now.wf G0
          have R4 := R2.mono gl
          repeat walk_at "C"
          refine ⟨fun e => absurd e (by decide), fun _ => ?_⟩
          repeat walk_at "C"
          refine c_item hcl3 (by omega) (by omega) (by rw [show ((i : Nat) : Int).toNat = i by omega]; exact hiv) ?_
          repeat walk_at "C"
          refine c_call (s_deref ok (by omega) (by exact R4) WF (by exact hic.mono gl) (G0.ok I.now (t_mem V hi')) fun r hr => ?_)
          have hdT := deref_T G0 I.now (t_mem V hi')
          obtain ⟨nd, hnd⟩ : ∃ nd, nds[rt i]? = some nd := ⟨nds[rt i]'hri, by simp⟩
          have hkd : kdAt nds (rt i) = nd.kd := by unfold kdAt; rw [hnd]; rfl
          have hfree : decide ((deref cs' (tAt ts i)).1 = 0 ∧ cs'[(deref cs' (tAt ts i)).2.toNat]? = some (deref cs' (tAt ts i))) = decide (nd.kd = .str "") := decide_eq_decide.mpr
            ⟨fun q => hkd ▸ (li_free V SK I hi').mp q.1, fun q => by have q0 := (li_free V SK I hi').mpr (hkd.trans q); exact ⟨q0, deref_fin G0 I.now (t_mem V hi') q0⟩⟩
          have hone := fun j hj => li_one V SK I (i := j) (j := i) hj hi'
          have hf0 := (li_free V SK I hi')
          rw [hkd] at hf0
          generalize hid : deref cs' (tAt ts i) = d at *
          repeat walk_at "C"
          refine c_call (s_is_unbound ok (by omega) (by exact R4) WF (by exact hr) (G0.ok I.now hdT) ?_)
          rw [hfree]
          repeat walk_at "C"
          refine c_nodeItem (hN2.mono gl) hnd (by omega) fun v hv => ?_
          repeat walk_at "C"
          refine c_node0 hv fun kv hkv => ?_
          repeat walk_at "C"
          refine c_kdEq ok (by omega) hkv ?_
          repeat walk_at "C"
          refine c_neBool ?_
          rw [bne_self_eq_false]
          repeat walk_at "C"
          refine c_call (s_is_unbound ok (by omega) (by exact R4) WF (by exact hr) (G0.ok I.now hdT) ?_)
          rw [hfree]
          repeat walk_at "C"
          refine ⟨fun e => ?_, fun e => ?_⟩
          · have e0 := hf0.mpr (of_decide_eq_true e)
            repeat walk_at "C"
            refine c_dMeth PySem.F.slot_dict_setdefault PySem.F.type_dict_setdefault gfd gD ?_
            repeat walk_at "C"
            refine c_dSetdef lod gfd gD (intKind_is _ _ _ _) (by rw [sizeLine_eq]; omega) (fun v hv => ?_) fun hno o4 hD4 => ?_
            · obtain ⟨j, hj, h0, h2, t13, rfl⟩ := gv _ _ hv
              have hjr := hone j hj (Prod.ext (h0.trans e0.symm) h2) h0
              repeat walk_at "C"
              rw [hjr, bne_self_eq_false]
              repeat walk_at "C"
              exact (hJ3 _ _).mpr ⟨f1, f2, f3, f4, f5, gl, o3, kvs, gfd, gD, by omega, gv⟩
            · have gl5 : Le H2 (H4.put fd o4) := fun x o e => by rw [Hp.put_ne _ _ (fun q => by rw [q, nfd] at e; cases e)]; exact gl x o e
              repeat walk_at "C"
              rw [bne_self_eq_false]
              repeat walk_at "C"
              refine (hJ3 _ _).mpr ⟨f1, f2, f3, f4, f5, gl5, o4, _, Hp.put_self .., hD4, Nat.le_trans (stored_length_le _ _ _) (by omega), fun k v e => ?_⟩
              rw [valueAt_new hno] at e
              by_cases hk : k = d.2
              · rw [if_pos hk] at e
                cases e
                exact ⟨i, hi', by rw [hid]; exact e0, by rw [hid]; exact hk.symm, _, rfl⟩
              · rw [if_neg hk] at e
                exact gv k v e
          · repeat walk_at "C"
            exact (hJ3 _ _).mpr ⟨f1, f2, f3, f4, f5, gl, o3, kvs, gfd, gD, by omega, gv⟩
        · rintro ⟨m3, H3⟩ -
          repeat walk_at "C"
          exact rfl
      · obtain ⟨i, hi⟩ := List.mem_iff_getElem?.mp hv
        have hi2 := (List.getElem?_eq_some_iff.mp hi).1
        obtain ⟨p, hp2⟩ : ∃ p, rws[i]? = some p := ⟨rws[i]'(by omega), by simp⟩
        obtain ⟨pa, t1, t2, q, -⟩ := hrc8.2 i v (castP p) hi (by rw [List.getElem?_map, hp2]; rfl)
        exact ⟨pa, q⟩
  · exact ⟨.inl ⟨.bool true, _, [], rfl, fun _ => rfl, .bool true, by first | kernel_rfl | with_unfolding_all rfl | decide, fun _ => ⟨List.nodup_nil, fun a h => by cases h⟩⟩, k1, k2, by rw [k3]; exact hg⟩

end Mine

theorem PySem.Challenge.cw_rr0028_01_holds : PySem.Challenge.rw_rr0028_01.Holds :=
  Mine.en
