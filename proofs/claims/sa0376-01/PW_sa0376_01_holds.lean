import PyProof.Rows.All
import Wide.All
import OpenK.AllK
import Wide.FinOn
import PySem.Challenge.RW_sa0376_01
open PySem PySem.W PyProof.Rows PySem.Calls PySem.Spec
set_option Elab.async false
set_option compiler.extract_closed false
set_option maxRecDepth 100000
set_option maxHeartbeats 0
namespace Mine
def q : Program := { PySem.Challenge.pw_sa0376_01 with main := { PySem.Challenge.pw_sa0376_01.main with body := PySem.Challenge.pw_sa0376_01.main.body.drop 136 } }
def loose : List Str := let n := PySem.Challenge.pw_sa0376_01.main.scope.names.map Prod.fst; n.take 18 ++ (n.drop 19).take 5 ++ (n.drop 25).take 100
abbrev row := PySem.Challenge.rw_sa0376_01.row
theorem warm : (PySem.Challenge.pw_sa0376_01.main.body.length == 137) = true := by k_qdec
def evens : List Obj → List Obj
  | [] => []
  | [a] => [a]
  | a :: _ :: r => a :: evens r
def build : Nat → List Obj → BT
  | 0, _ => .nil
  | _ + 1, [] => .nil
  | n + 1, o :: r => .node o (build n (evens r)) (build n (evens (r.drop 1)))
noncomputable def T0 (P : Params) : BT := build 6 (boot_heap P).objs.toList
theorem T0_abs (P : Params) : absHeap (T0 P) 11 (boot_heap P).life = boot_heap P := by kernel_rfl
theorem through_eq (t : Thread) : through t = (endAt 0 t).isSome := by
  obtain ⟨cur, code, pos, stack⟩ := t
  cases stack with
  | nil => cases cur <;> first | rfl | (rename_i x; cases x <;> rfl)
  | cons a r => rfl
theorem run_eq {tb : String → Option Builtin} {p : Program} {w : World} {n₀ : Nat} {ann : Option Value} :
    ∀ (n : Nat) (s : Shared) (t : Thread), topRun tb p w n₀ ann n s t = (segRun tb p w n₀ ann 0 n s t).map fun r => r.2.1
  | 0, _, _ => rfl
  | n + 1, s, t => by
    unfold segRun topRun
    rw [through_eq t]
    cases endAt 0 t with
    | some x => rfl
    | none => cases stepOk n₀ ann t with
      | false => rfl
      | true => cases step (denote tb) p w s t with
        | halt _ _ => rfl
        | go s' t' => exact run_eq n s' t'
noncomputable def topT (p : Program) (N : Nat) (w : World) (os : OsState) : Option (Flow × SharedT × Code × Pos) :=
  segRunT treeTable p w 11 ((boot_heap w.params).nsMap mainGlobals "__annotations__") 0 N ⟨T0 w.params, 11, (boot_heap w.params).life, Array.mk [], boot_drawn, boot_toks, os⟩ (topStub p)
def okEnd (p : Program) (h₀ : Heap) (s : Shared) : Bool := staticsOk (importedModules p.main.body) h₀ s.heap && namesBound p s.heap && gensDone s && laidKept h₀ s.heap
theorem left_of {p tp q : Program} {loose : List Str} {Xt : Shared → Bool} {α : Type} {Yf : Shared → α} {Ya : World → α} {N : Nat} (hp : p = tp)
    (ok : ∀ w os, (topT tp N w os).bind (fun r => match okEnd tp (boot_heap w.params) r.2.1.abs with | true => some (openSeen q loose (importedModules tp.main.body) Xt true r.2.1.abs) | false => none) = some (openGood q loose))
    (e : opening p = plainProg p.main.scope.names) (hN : Nat.ble 600 N = true) (f : ∀ s, fenceModules? p s = some s)
    (h0 : ∀ w : World, (boot_heap w.params).isNs mainGlobals = true)
    (h : ∀ w os, (topT tp N w os).map (fun r => Yf r.2.1.abs) = some (Ya w)) :
    LeftO p q loose Xt Yf Ya N := by
  subst hp
  intro w
  have hb := boot_open e hN f w
  obtain ⟨s, hs, hv⟩ := Option.map_eq_some_iff.mp hb
  unfold openEnds
  rw [hs]
  obtain ⟨heap, gens, drawn, toks, os⟩ := s
  simp only [Prod.mk.injEq] at hv
  obtain ⟨rfl, rfl, rfl, rfl⟩ := hv
  have hy := h w os
  obtain ⟨⟨fl, s', c, ps⟩, hs', hv⟩ := Option.bind_eq_some_iff.mp (ok w os)
  rw [hs'] at hy
  have hy' : Yf s'.abs = Ya w := Option.some.inj hy
  have r := (run_eq _ _ _).trans (congrArg (Option.map fun r => r.2.1) (segRun_of hs'))
  unfold SharedT.abs at r
  rw [T0_abs] at r
  have hsz : (boot_heap w.params).objs.size = 11 := by rw [← T0_abs w.params]; exact absHeap_size _ _ _
  show Option.map _ (topFrom _ _ _ _ _) = _
  unfold topFrom
  simp only [h0, hsz]
  show Option.map _ (Option.bind (topRun _ _ _ _ _ _ _ _) _) = _
  rw [r]
  show Option.map _ (match okEnd p (boot_heap w.params) (SharedT.abs s') with | true => some (SharedT.abs s') | false => none) = _
  revert hv
  show (match okEnd p (boot_heap w.params) (SharedT.abs s') with | true => _ | false => _) = _ → _
  cases okEnd p (boot_heap w.params) (SharedT.abs s') with
  | true => intro hv; exact (congrArg some (congr (congrArg Prod.mk (Option.some.inj hv)) hy'))
  | false => intro hv; cases hv
def Xt (s : Shared) : Bool := xlAt q [] s && recOk (RowW.records row.toRowW) s
theorem seen_ok (w : World) (os : OsState) : (topT PySem.W.Fast.tw16032893584706763450 7586 w os).bind (fun r => match okEnd PySem.W.Fast.tw16032893584706763450 (boot_heap w.params) r.2.1.abs with | true => some (openSeen q loose (importedModules PySem.W.Fast.tw16032893584706763450.main.body) Xt true r.2.1.abs) | false => none) = some (openGood q loose) := by
  unfold topT
  rewrite [PySem.W.Fast.te10110043849684766642, PySem.W.Fast.te14364793385576792824, PySem.W.Fast.te4187177175401517315]; kernel_rfl
end Mine
namespace Mine
def head_of (H : Hook) (h : ∀ w os, (topT PySem.W.Fast.tw16032893584706763450 7586 w os).map (fun r => H.obs r.2.1.abs) = some (H.val w)) (hs : OpenRow.wellSaid row = true) :=
  holds_open (r := row) (q := q) (loose := loose) (Xt := Xt) (XP := XL q []) (Yf := H.obs) (Ya := H.val) (YP := H.says) (N := 7586) (left_of PySem.W.Fast.te16032893584706763450 seen_ok (by kernel_rfl) (by kernel_rfl) (fun _ => by kernel_rfl) (fun _ => by kernel_rfl) h) H.of H.keeps (fun s e => xl_of s (Bool.and_eq_true_iff.mp e).1) XL.keeps (by rfl) (by rfl) (by rfl) (fun s e => recFacts_of (Bool.and_eq_true_iff.mp e).2) (by rfl) hs (by decide +kernel) ⟨rfl, rfl, rfl, rfl, rfl, by decide +kernel⟩
end Mine
local macro_rules | `(tactic| o_head $H) => `(tactic| (apply Mine.head_of $H (by intro w os; unfold Mine.topT; rewrite [PySem.W.Fast.te10110043849684766642, PySem.W.Fast.te14364793385576792824]; kernel_rfl) (by assumption)))
namespace Mine
open_top hd for PySem.Challenge.rw_sa0376_01
end Mine
namespace Mine
def Kept (h h' : Heap) (P : Prop) : Prop := (∀ b o, h.get? b = some o → h'.get? b = some o) → P

/-- a def that turns nothing that stood: what it hands back, told of the heap before and behind -/
abbrev Ok (w : World) (D : Nat) (f : Addr) (vs : List Value) (pre : Prop) (Out : Heap → Heap → Value → Prop) : Prop :=
  ∀ (p : Program) (loose : List Str) (mean : ExcName → Option Value) (mg mb : Str → Option Value)
    (dp un : Nat) (gd : Option (List Code)) (cn : Str) (cs : Scope) (a : Addr) (ccd : Value) (cl : List (Str × Addr)) (outer : List Env) (A₀ : Around) (base h₀ : Heap) (L : Addr) (m : Str → Option Value) (s : Shared) (Q E : Value → Shared → Prop),
    Below A₀ base outer h₀ → Fr h₀ L s.heap m → (Mine.hd.heap_39 w.params).In h₀ → Top p loose mean mg mb h₀ → cs.kind = .function → pre → dp + D < recursionLimit → un + 8 * D < cLine →
    (∀ (v : Value) (h' : Heap) (tk' : Nat), (∀ b o, s.heap.get? b = some o → h'.get? b = some o) → Out s.heap h' v → Q v { s with heap := h', toks := tk' }) →
    wpAny (model PySem.Challenge.rw_sa0376_01.row.prog w) (ktrTop dp un gd cn cs L a ccd cl outer) (call (.ref f) vs) Q E s

abbrev outI (x : Int) : Heap → Heap → Value → Prop := fun _ _ v => ∃ t, v = .int x t
abbrev outB (x : Bool) : Heap → Heap → Value → Prop := fun _ _ v => v = .bool x
abbrev outS (x : Str) : Heap → Heap → Value → Prop := fun _ _ v => ∃ t, v = .str x t
abbrev outT (l : (Nat → Tok) → List Value) : Heap → Heap → Value → Prop := fun h h' v => ∃ (D : Addr) (ts : Nat → Tok) (c : Nat), v = .ref D ∧ h.get? D = none ∧ h'.get? D = some ({ cls := .type "tuple", data := .seq (l ts).toArray c } : Obj)

section
variable {prog : Program} {w : World} {A₀ A : Around} {s : Shared} {base h₀ : Heap} {outer : List Env} {L : Addr} {m : Str → Option Value} {env : Env} {K : Frag} {p : Program} {loose : List Str} {mean : ExcName → Option Value} {mg mb : Str → Option Value}
  {R : Result → Shared → Prop} {name qual : Str} {params : Arguments} {body : List Stmt} {scope : Scope} {dV kV doc pm cdv ct oc : Value} {an od : Option Addr} {osl : Array (Option Value)} {f : Addr} {args : Args} {binds : List (Str × Value)}
theorem enter (B : Below A₀ base outer h₀) (F : Fr h₀ L s.heap m) (X₀ : K.In h₀) (T : Top p loose mean mg mb h₀) (hA : A.frames = some (env :: outer)) (hf : env.frame = some L) (hke : env.scope.kind = .function)
    (ho : K.lookup f = some ⟨oc, od, .func (fnOf name qual params body scope dV kV doc pm an cdv ct), osl⟩) (hcd : codeIn K cdv qual = true) (hroom : A.depth < recursionLimit)
    (hbind : BindsTo s (fnOf name qual params body scope dV kV doc pm an cdv ct) args binds) (hloc : ∀ y ∈ binds, scope.names.lookup y.1 = some .local)
    (h : ∀ L' h₁, Fr s.heap L' h₁ (fun y => binds.reverse.lookup y) → News s.heap L' h₁ [] → Below A base (env :: outer) s.heap → K.In s.heap → Top p loose mean mg mb s.heap →
      wpAny (model prog w) (A.deeper (envOf qual scope L' f cdv)) (execs body (envOf qual scope L' f cdv))
        (fun fl s' => LeaveK h₀ L m s.heap (fun r s' => Kept s.heap s'.heap (R r s')) (match fl with | .ret v => v | _ => .none) s')
        (fun e s' => wpAny (model prog w) (A.deeper (envOf qual scope L' f cdv)) (leaving (envOf qual scope L' f cdv) e) (fun _ s'' => R (.error e) s'') (fun e' s'' => R (.error e') s'') s')
        { s with heap := h₁, toks := s.toks + binds.length })
    (hco : scope.isCoroutine = false) (hgen : scope.isGenerator = false) (hk : scope.kind = .function)
    (hcell : ∀ x ∈ scope.names, x.2 ≠ .cell) : codeAny (model prog w) A (.call (.ref f) args) R s := by
  obtain ⟨FG, BG, st, lv⟩ := groundX (R := fun r s' => Kept s.heap s'.heap (R r s')) B F News.nil hA hf hke
  refine codeAny_call_def (fd := fnX name qual params body scope [] dV kV doc pm an cdv ct) (body := body) (binds := binds) hroom ((X₀.keeps F.keep) _ _ ho) rfl (T.nolimit.keeps F.keep) (codeRec_of (X₀.keeps F.keep) hcd) rfl hbind hcell hloc (fun h₁ hns hk₁ => ?_) hco hgen hk
  exact wpAny_mono (h s.heap.objs.size h₁ ⟨hns, fun b o e => hk₁ b o e, Nat.le_refl _⟩ News.nil BG (X₀.keeps F.keep) (T.keeps F.keep))
    (fun fl s' hl => by
      have hl' := hl
      obtain ⟨L', m', news', F', N', k⟩ := hl'
      exact lv _ _ hl F'.keep) fun _ _ y => y
end

section
variable {w : World} {D : Nat} {f : Addr} {vs : List Value} {pre : Prop} {Out : Heap → Heap → Value → Prop}
    {p : Program} {loose : List Str} {mean : ExcName → Option Value} {mg mb : Str → Option Value} {news : List (Addr × Obj)}
    {dp un : Nat} {gd : Option (List Code)} {cn : Str} {cs : Scope} {a : Addr} {ccd : Value} {cl : List (Str × Addr)} {outer : List Env} {A₀ : Around} {base h₀ : Heap} {L : Addr} {m : Str → Option Value} {s : Shared} {Q E : Value → Shared → Prop}
theorem fr_keep {h h' : Heap} (F : Fr h₀ L h m) (k : ∀ b o, h.get? b = some o → h'.get? b = some o) : Fr h₀ L h' m := ⟨F.ns.keeps k, fun b o e => k b o (F.keep b o e), F.above⟩
theorem news_keep {h h' : Heap} (N : News h₀ L h news) (k : ∀ b o, h.get? b = some o → h'.get? b = some o) : News h₀ L h' news := fun p hp => ⟨k _ _ (N p hp).1, (N p hp).2⟩
theorem use_ (C : Ok w D f vs pre Out) (B : Below A₀ base outer h₀) (F : Fr h₀ L s.heap m) (X : (Mine.hd.heap_39 w.params).In h₀) (N : News h₀ L s.heap news) (T : Top p loose mean mg mb h₀) (hk : cs.kind = .function)
    (hp : pre) (hd : dp + D < recursionLimit) (hu : un + 8 * D < cLine)
    (hret : ∀ (v : Value) (h' : Heap) (tk' : Nat), Fr h₀ L h' m → News h₀ L h' news → (∀ b o, s.heap.get? b = some o → h'.get? b = some o) → Out s.heap h' v → Q v { s with heap := h', toks := tk' }) :
    wpAny (model PySem.Challenge.rw_sa0376_01.row.prog w) (ktrTop dp un gd cn cs L a ccd cl outer) (call (.ref f) vs) Q E s :=
  C p loose mean mg mb dp un gd cn cs a ccd cl outer A₀ base h₀ L m s Q E B F X T hk hp hd hu fun v h' tk' k o => hret v h' tk' (fr_keep F k) (news_keep N k) k o
theorem useI {x : Int} (C : Ok w D f vs pre (outI x)) (B : Below A₀ base outer h₀) (F : Fr h₀ L s.heap m) (X : (Mine.hd.heap_39 w.params).In h₀) (N : News h₀ L s.heap news) (T : Top p loose mean mg mb h₀) (hk : cs.kind = .function)
    (hp : pre) (hd : dp + D < recursionLimit) (hu : un + 8 * D < cLine)
    (hret : ∀ (t : Tok) (h' : Heap) (tk' : Nat), Fr h₀ L h' m → News h₀ L h' news → Q (.int x t) { s with heap := h', toks := tk' }) :
    wpAny (model PySem.Challenge.rw_sa0376_01.row.prog w) (ktrTop dp un gd cn cs L a ccd cl outer) (call (.ref f) vs) Q E s :=
  use_ C B F X N T hk hp hd hu fun v h' tk' F' N' _ o => by obtain ⟨t, rfl⟩ := o; exact hret t h' tk' F' N'
theorem useS {x : Str} (C : Ok w D f vs pre (outS x)) (B : Below A₀ base outer h₀) (F : Fr h₀ L s.heap m) (X : (Mine.hd.heap_39 w.params).In h₀) (N : News h₀ L s.heap news) (T : Top p loose mean mg mb h₀) (hk : cs.kind = .function)
    (hp : pre) (hd : dp + D < recursionLimit) (hu : un + 8 * D < cLine)
    (hret : ∀ (t : Tok) (h' : Heap) (tk' : Nat), Fr h₀ L h' m → News h₀ L h' news → Q (.str x t) { s with heap := h', toks := tk' }) :
    wpAny (model PySem.Challenge.rw_sa0376_01.row.prog w) (ktrTop dp un gd cn cs L a ccd cl outer) (call (.ref f) vs) Q E s :=
  use_ C B F X N T hk hp hd hu fun v h' tk' F' N' _ o => by obtain ⟨t, rfl⟩ := o; exact hret t h' tk' F' N'
theorem useB {x : Bool} (C : Ok w D f vs pre (outB x)) (B : Below A₀ base outer h₀) (F : Fr h₀ L s.heap m) (X : (Mine.hd.heap_39 w.params).In h₀) (N : News h₀ L s.heap news) (T : Top p loose mean mg mb h₀) (hk : cs.kind = .function)
    (hp : pre) (hd : dp + D < recursionLimit) (hu : un + 8 * D < cLine)
    (hret : ∀ (h' : Heap) (tk' : Nat), Fr h₀ L h' m → News h₀ L h' news → Q (.bool x) { s with heap := h', toks := tk' }) :
    wpAny (model PySem.Challenge.rw_sa0376_01.row.prog w) (ktrTop dp un gd cn cs L a ccd cl outer) (call (.ref f) vs) Q E s :=
  use_ C B F X N T hk hp hd hu fun v h' tk' F' N' _ o => by have o' : v = .bool x := o; subst o'; exact hret h' tk' F' N'
theorem useT {l : (Nat → Tok) → List Value} (C : Ok w D f vs pre (outT l)) (B : Below A₀ base outer h₀) (F : Fr h₀ L s.heap m) (X : (Mine.hd.heap_39 w.params).In h₀) (N : News h₀ L s.heap news) (T : Top p loose mean mg mb h₀) (hk : cs.kind = .function)
    (hp : pre) (hd : dp + D < recursionLimit) (hu : un + 8 * D < cLine)
    (hret : ∀ (T : Addr) (ts : Nat → Tok) (c : Nat) (h' : Heap) (tk' : Nat), Fr h₀ L h' m → News h₀ L h' ((T, ({ cls := .type "tuple", data := .seq (l ts).toArray c } : Obj)) :: news) → Q (.ref T) { s with heap := h', toks := tk' }) :
    wpAny (model PySem.Challenge.rw_sa0376_01.row.prog w) (ktrTop dp un gd cn cs L a ccd cl outer) (call (.ref f) vs) Q E s :=
  use_ C B F X N T hk hp hd hu fun v h' tk' F' N' k o => by
    obtain ⟨T, ts, c, rfl, e1, e2⟩ := o
    refine hret T ts c h' tk' F' fun p hp => ?_
    rcases List.mem_cons.mp hp with rfl | hp
    · refine ⟨e2, fun q => ?_, ?_⟩
      · obtain ⟨oL, _, _, hL, _⟩ := F.ns
        have e1' : s.heap.get? T = none := e1
        rw [show T = L from q, hL] at e1'
        cases e1'
      · cases q : h₀.get? T with
        | none => rfl
        | some o => have := F.keep _ _ q; rw [e1] at this; cases this
    · exact N' p hp
end

section
variable {h₀ h h' : Heap} {L : Addr} {s : Shared} {Q : Value → Shared → Prop} {t : Tok} {tk : Nat}
theorem endI {x y : Int} (hret : ∀ (v : Value) (h' : Heap) (tk' : Nat), (∀ b o, s.heap.get? b = some o → h'.get? b = some o) → outI x s.heap h' v → Q v { s with heap := h', toks := tk' }) (e : y = x) :
    Kept s.heap h' (Q (.int y t) { s with heap := h', toks := tk }) := fun k => hret _ _ _ k ⟨t, by rw [e]⟩
theorem endS {x y : Str} (hret : ∀ (v : Value) (h' : Heap) (tk' : Nat), (∀ b o, s.heap.get? b = some o → h'.get? b = some o) → outS x s.heap h' v → Q v { s with heap := h', toks := tk' }) (e : y = x) :
    Kept s.heap h' (Q (.str y t) { s with heap := h', toks := tk }) := fun k => hret _ _ _ k ⟨t, by rw [e]⟩
theorem endB {x y : Bool} (hret : ∀ (v : Value) (h' : Heap) (tk' : Nat), (∀ b o, s.heap.get? b = some o → h'.get? b = some o) → outB x s.heap h' v → Q v { s with heap := h', toks := tk' }) (e : y = x) :
    Kept s.heap h' (Q (.bool y) { s with heap := h', toks := tk }) := fun k => hret _ _ _ k (show Value.bool y = Value.bool x by rw [e])
theorem endT {l : (Nat → Tok) → List Value} {T : Addr} {news : List (Addr × Obj)} {o : Obj} (hret : ∀ (v : Value) (h' : Heap) (tk' : Nat), (∀ b o, s.heap.get? b = some o → h'.get? b = some o) → outT l s.heap h' v → Q v { s with heap := h', toks := tk' })
    (N : News s.heap L h' news) (hm : (T, o) ∈ news) (ts : Nat → Tok) (c : Nat) (e : o = ({ cls := .type "tuple", data := .seq (l ts).toArray c } : Obj)) :
    Kept s.heap h' (Q (.ref T) { s with heap := h', toks := tk }) := fun k => hret _ _ _ k ⟨T, ts, c, rfl, (N _ hm).2.2, e ▸ (N _ hm).1⟩
end
end Mine
namespace Mine
/-- the size of an int, in bits -/
def Bd (n : Nat) (x : Int) : Prop := x.natAbs < 2 ^ n
theorem Bd.mono {n k : Nat} {x : Int} (h : Bd n x) (hk : n ≤ k) : Bd k x := Nat.lt_of_lt_of_le h (Nat.pow_le_pow_right (by decide) hk)
theorem Bd.bits {n : Nat} {x : Int} (h : Bd n x) : Builtin.Int.intBits x ≤ n := intBits_le h
theorem two_pow_natAbs (n : Nat) : ((2 : Int) ^ n).natAbs = 2 ^ n := by
  rw [two_pow_cast, Int.natAbs_natCast]
theorem Bd.shift {n N : Nat} {x k : Int} (h : Bd n x) (hk : k ≤ N) : Bd (n + N) (x * 2 ^ k.toNat) := by
  unfold Bd at *
  rw [Int.natAbs_mul, two_pow_natAbs, Nat.pow_add]
  have h1 : 2 ^ k.toNat ≤ 2 ^ N := Nat.pow_le_pow_right (by decide) (by omega)
  have h2 : 0 < 2 ^ k.toNat := Nat.pow_pos (by decide)
  exact Nat.lt_of_lt_of_le (Nat.mul_lt_mul_of_pos_right h h2) (Nat.mul_le_mul_left _ h1)
theorem Bd.fdiv {n : Nat} {x y : Int} (h : Bd n x) (hx : 0 ≤ x) (hy : 1 ≤ y) : Bd n (x.fdiv y) := by
  unfold Bd at *
  have e : x.fdiv y = x / y := Int.fdiv_eq_ediv_of_nonneg _ (by omega)
  have h1 : 0 ≤ x / y := Int.ediv_nonneg hx (by omega)
  have h2 : x / y ≤ x := Int.ediv_le_self _ hx
  rw [e]
  omega
theorem fdiv_nonneg' {x y : Int} (hx : 0 ≤ x) (hy : 1 ≤ y) : 0 ≤ x.fdiv y := by
  rw [Int.fdiv_eq_ediv_of_nonneg _ (by omega)]
  exact Int.ediv_nonneg hx (by omega)
theorem Bd.mul {n k : Nat} {x y : Int} (hx : Bd n x) (hy : Bd k y) : Bd (n + k) (x * y) := by
  unfold Bd at *
  rw [Int.natAbs_mul, Nat.pow_add]
  exact Nat.mul_lt_mul'' hx hy
theorem Bd.abs {n : Nat} {x : Int} (h : Bd n x) : Bd n (if x < 0 then -x else x) := by
  unfold Bd at *
  split <;> omega
theorem abs_nonneg' (x : Int) : 0 ≤ (if x < 0 then -x else x) := by split <;> omega
theorem Bd.mulOk {n k : Nat} {x y : Int} (hx : Bd n x) (hy : Bd k y) (hn : n ≤ 2 ^ 20) (hk : k ≤ 2 ^ 20) : IntMulOk x y := IntMulOk.of_bits (Nat.le_trans hx.bits hn) (Nat.le_trans hy.bits hk)
theorem Bd.noPylong {n : Nat} {x y : Int} (hy : Bd n y) (hn : n ≤ 9000) (h0 : y ≠ 0) : Builtin.divisionGoesByPylong x y = false := by
  refine PyProof.noPylong_of_log2 ?_
  have h : y.natAbs < 2 ^ 9000 := Bd.mono hy hn
  exact (Nat.log2_lt (by omega)).mpr h
theorem pow_pos' (k : Nat) : (1 : Int) ≤ 2 ^ k := by
  rw [two_pow_cast]
  have : 0 < 2 ^ k := Nat.pow_pos (by decide)
  omega
theorem mul_pow_pos {x : Int} (k : Nat) (h : 1 ≤ x) : 1 ≤ x * 2 ^ k := by
  have h1 := pow_pos' k
  have h2 : x * 1 ≤ x * 2 ^ k := Int.mul_le_mul_of_nonneg_left h1 (by omega)
  omega
theorem mul_pow_nonneg {x : Int} (k : Nat) (h : 0 ≤ x) : 0 ≤ x * 2 ^ k := Int.mul_nonneg h (by have := pow_pos' k; omega)
section
variable {prog : Program} {w : World} {A : Around} {E : Value → Shared → Prop} {s : Shared} {a b n : Int} {t u : Tok} {Q : Value → Shared → Prop}
theorem lshiftB {k : Nat} (hb : Bd k a) (h0 : 0 ≤ n) (h1 : n ≤ 100000) (hk : k ≤ 100000) (h : Q (.int (a * 2 ^ n.toNat) s.toks) { s with toks := s.toks + 1 }) : wpAny (model prog w) A (binaryOp .LShift (.int a t) (.int n u)) Q E s :=
  lshift_int h0 (by have := hb.bits; omega) h
theorem floordivB {k : Nat} (hb : Bd k b) (h1 : 1 ≤ b) (hk : k ≤ 9000) (h : Q (.int (a.fdiv b) s.toks) { s with toks := s.toks + 1 }) : wpAny (model prog w) A (binaryOp .FloorDiv (.int a t) (.int b u)) Q E s :=
  floordiv_int (by omega) h (.inl (hb.noPylong hk (by omega)))
theorem modB (h1 : 1 ≤ b) (h : Q (.int (a.fmod b) s.toks) { s with toks := s.toks + 1 }) : wpAny (model prog w) A (binaryOp .Mod (.int a t) (.int b u)) Q E s := mod_int' (by omega) h
theorem mulB {k m : Nat} (ha : Bd k a) (hb : Bd m b) (hk : k ≤ 100000) (hm : m ≤ 100000) (h : Q (.int (a * b) s.toks) { s with toks := s.toks + 1 }) : wpAny (model prog w) A (binaryOp .Mult (.int a t) (.int b u)) Q E s :=
  mul_int h (ha.mulOk hb (by omega) (by omega))
end
section
variable {h' : Heap} {L : Addr} {s : Shared} {Q : Value → Shared → Prop} {tk c : Nat} {T : Addr} {news : List (Addr × Obj)}
theorem endT2 {x0 x1 y0 y1 : Int} {t0 t1 : Tok} (hret : ∀ (v : Value) (h' : Heap) (tk' : Nat), (∀ b o, s.heap.get? b = some o → h'.get? b = some o) → outT (fun ts => [.int y0 (ts 0), .int y1 (ts 1)]) s.heap h' v → Q v { s with heap := h', toks := tk' })
    (N : News s.heap L h' news) (hm : (T, ({ cls := .type "tuple", data := .seq #[.int x0 t0, .int x1 t1] c } : Obj)) ∈ news) (e0 : x0 = y0) (e1 : x1 = y1) :
    Kept s.heap h' (Q (.ref T) { s with heap := h', toks := tk }) := by
  subst e0; subst e1
  exact endT hret N hm (fun i => if i = 0 then t0 else t1) c rfl
theorem endT3 {x0 x1 x2 y0 y1 y2 : Int} {t0 t1 t2 : Tok} (hret : ∀ (v : Value) (h' : Heap) (tk' : Nat), (∀ b o, s.heap.get? b = some o → h'.get? b = some o) → outT (fun ts => [.int y0 (ts 0), .int y1 (ts 1), .int y2 (ts 2)]) s.heap h' v → Q v { s with heap := h', toks := tk' })
    (N : News s.heap L h' news) (hm : (T, ({ cls := .type "tuple", data := .seq #[.int x0 t0, .int x1 t1, .int x2 t2] c } : Obj)) ∈ news) (e0 : x0 = y0) (e1 : x1 = y1) (e2 : x2 = y2) :
    Kept s.heap h' (Q (.ref T) { s with heap := h', toks := tk }) := by
  subst e0; subst e1; subst e2
  exact endT hret N hm (fun i => if i = 0 then t0 else if i = 1 then t1 else t2) c rfl
theorem endT4 {x0 x1 x2 x3 y0 y1 y2 y3 : Int} {t0 t1 t2 t3 : Tok} (hret : ∀ (v : Value) (h' : Heap) (tk' : Nat), (∀ b o, s.heap.get? b = some o → h'.get? b = some o) → outT (fun ts => [.int y0 (ts 0), .int y1 (ts 1), .int y2 (ts 2), .int y3 (ts 3)]) s.heap h' v → Q v { s with heap := h', toks := tk' })
    (N : News s.heap L h' news) (hm : (T, ({ cls := .type "tuple", data := .seq #[.int x0 t0, .int x1 t1, .int x2 t2, .int x3 t3] c } : Obj)) ∈ news) (e0 : x0 = y0) (e1 : x1 = y1) (e2 : x2 = y2) (e3 : x3 = y3) :
    Kept s.heap h' (Q (.ref T) { s with heap := h', toks := tk }) := by
  subst e0; subst e1; subst e2; subst e3
  exact endT hret N hm (fun i => if i = 0 then t0 else if i = 1 then t1 else if i = 2 then t2 else t3) c rfl
end

/-- the same, where what is asked speaks of the heap at the call -/
abbrev OkH (w : World) (D : Nat) (f : Addr) (vs : List Value) (pre : Heap → Prop) (Out : Heap → Heap → Value → Prop) : Prop :=
  ∀ (p : Program) (loose : List Str) (mean : ExcName → Option Value) (mg mb : Str → Option Value)
    (dp un : Nat) (gd : Option (List Code)) (cn : Str) (cs : Scope) (a : Addr) (ccd : Value) (cl : List (Str × Addr)) (outer : List Env) (A₀ : Around) (base h₀ : Heap) (L : Addr) (m : Str → Option Value) (s : Shared) (Q E : Value → Shared → Prop),
    Below A₀ base outer h₀ → Fr h₀ L s.heap m → (Mine.hd.heap_39 w.params).In h₀ → Top p loose mean mg mb h₀ → cs.kind = .function → pre s.heap → dp + D < recursionLimit → un + 8 * D < cLine →
    (∀ (v : Value) (h' : Heap) (tk' : Nat), (∀ b o, s.heap.get? b = some o → h'.get? b = some o) → Out s.heap h' v → Q v { s with heap := h', toks := tk' }) →
    wpAny (model PySem.Challenge.rw_sa0376_01.row.prog w) (ktrTop dp un gd cn cs L a ccd cl outer) (call (.ref f) vs) Q E s
section
variable {w : World} {D : Nat} {f : Addr} {vs : List Value} {pre : Heap → Prop} {Out : Heap → Heap → Value → Prop}
    {p : Program} {loose : List Str} {mean : ExcName → Option Value} {mg mb : Str → Option Value} {news : List (Addr × Obj)}
    {dp un : Nat} {gd : Option (List Code)} {cn : Str} {cs : Scope} {a : Addr} {ccd : Value} {cl : List (Str × Addr)} {outer : List Env} {A₀ : Around} {base h₀ : Heap} {L : Addr} {m : Str → Option Value} {s : Shared} {Q E : Value → Shared → Prop}
theorem useTH {l : (Nat → Tok) → List Value} (C : OkH w D f vs pre (outT l)) (B : Below A₀ base outer h₀) (F : Fr h₀ L s.heap m) (X : (Mine.hd.heap_39 w.params).In h₀) (N : News h₀ L s.heap news) (T : Top p loose mean mg mb h₀) (hk : cs.kind = .function)
    (hp : pre s.heap) (hd : dp + D < recursionLimit) (hu : un + 8 * D < cLine)
    (hret : ∀ (T : Addr) (ts : Nat → Tok) (c : Nat) (h' : Heap) (tk' : Nat), Fr h₀ L h' m → News h₀ L h' ((T, ({ cls := .type "tuple", data := .seq (l ts).toArray c } : Obj)) :: news) → Q (.ref T) { s with heap := h', toks := tk' }) :
    wpAny (model PySem.Challenge.rw_sa0376_01.row.prog w) (ktrTop dp un gd cn cs L a ccd cl outer) (call (.ref f) vs) Q E s :=
  C p loose mean mg mb dp un gd cn cs a ccd cl outer A₀ base h₀ L m s Q E B F X T hk hp hd hu fun v h' tk' k o => by
    obtain ⟨T, ts, c, rfl, e1, e2⟩ := o
    refine hret T ts c h' tk' (fr_keep F k) fun p hp => ?_
    rcases List.mem_cons.mp hp with rfl | hp
    · refine ⟨e2, fun q => ?_, ?_⟩
      · obtain ⟨oL, _, _, hL, _⟩ := F.ns
        have e1' : s.heap.get? T = none := e1
        rw [show T = L from q, hL] at e1'
        cases e1'
      · cases q : h₀.get? T with
        | none => rfl
        | some o => have := F.keep _ _ q; rw [e1] at this; cases this
    · exact news_keep N k p hp
end

theorem Bd.log2 {n : Nat} {x : Int} (h : Bd n x) (hn : 0 < n) : x.natAbs.log2 < n := by
  by_cases h0 : x.natAbs = 0
  · rw [h0]; exact hn
  · exact (Nat.log2_lt h0).mpr h
theorem Bd.pow10 {N : Nat} {k : Int} (h : k ≤ N) : Bd (4 * N + 1) ((10 : Int) ^ k.toNat) := by
  unfold Bd
  rw [Int.natAbs_pow]
  show 10 ^ k.toNat < 2 ^ (4 * N + 1)
  have h1 : 10 ^ k.toNat ≤ 16 ^ k.toNat := Nat.pow_le_pow_left (by decide) _
  have h2 : (16 : Nat) ^ k.toNat = 2 ^ (4 * k.toNat) := by rw [show (16 : Nat) = 2 ^ 4 from rfl, ← Nat.pow_mul]
  have h3 : 2 ^ (4 * k.toNat) < 2 ^ (4 * N + 1) := Nat.pow_lt_pow_right (by decide) (by omega)
  omega
theorem pow10_pos (k : Nat) : (1 : Int) ≤ 10 ^ k := by
  have h : (10 : Int) ^ k = ((10 ^ k : Nat) : Int) := by simp
  have : 0 < 10 ^ k := Nat.pow_pos (by decide)
  omega
theorem mul_pos1 {x y : Int} (hx : 1 ≤ x) (hy : 1 ≤ y) : 1 ≤ x * y := by
  have h2 : x * 1 ≤ x * y := Int.mul_le_mul_of_nonneg_left hy (by omega)
  omega
def dl (x : Int) : Int := ((Str.ofString (toString x)).length : Int)
theorem dl_range {n : Nat} {x : Int} (h : Bd n x) (hn : 0 < n) : 0 ≤ dl x ∧ dl x ≤ n + 1 := by
  have h1 := int_text_length_le hn (h.log2 hn)
  have e : dl x = ((toString x).length : Int) := by
    unfold dl
    rw [PySem.ofString_length]
  omega
theorem strB {prog : Program} {w : World} {A : Around} {E : Value → Shared → Prop} {s : Shared} {x : Int} {t : Tok} {Q : Value → Shared → Prop} {k : Nat} (hb : Bd k x) (hk : k ≤ 1920) (h : Q (.str (toString x) s.toks) { s with toks := s.toks + 1 }) : wpAny (model prog w) A (call (.type "str") [.int x t]) Q E s :=
  PySem.P.str_of_int ((hb.mono hk).log2 (by decide)) h
theorem Bd.add {n : Nat} {x y : Int} (hx : Bd n x) (hy : Bd n y) : Bd (n + 1) (x + y) := by
  unfold Bd at *
  rw [Nat.pow_succ]
  omega
theorem txt_len {n : Nat} {x : Int} (h : Bd n x) (hn : 0 < n) : (Str.ofString (toString x)).length ≤ n + 1 := by
  rw [PySem.ofString_length]
  exact int_text_length_le hn (h.log2 hn)
end Mine
local macro_rules | `(tactic| wrow_close) => `(tactic| fail "no close here")
local macro_rules | `(tactic| walk_at "mine go") => `(tactic| repeat' (first | (k_unfold; (try dsimp only)) | walk1 | (dsimp only; walk1) | (dsimp only; k_unfold; (try dsimp only)) | (leave1; walk_say "STEP leave1"; try dsimp only) | fail "no step"))
local macro_rules | `(tactic| walk_at "mine bd") => `(tactic| first | assumption | exact Mine.Bd.mono (by assumption) (by decide) | (show Mine.Bd 4000 1; exact (by unfold Mine.Bd; decide)) | exact Mine.Bd.mono (Mine.Bd.shift (N := 1074) (by assumption) (by omega)) (by decide) | exact Mine.Bd.mono (Mine.Bd.shift (n := 1) (N := 1074) (by unfold Mine.Bd; decide) (by omega)) (by decide) | exact Mine.Bd.mono (Mine.Bd.abs (by assumption)) (by decide) | exact Mine.Bd.abs (by assumption) | exact Mine.Bd.shift (N := 4012) (by assumption) (by omega) | exact Mine.Bd.mul (k := 3) (by assumption) (by unfold Mine.Bd; decide) | exact Mine.Bd.shift (N := 1074) (Mine.Bd.mul (k := 3) (by assumption) (by unfold Mine.Bd; decide)) (by omega) | exact Mine.Bd.pow10 (N := 1210) (by omega) | (exact (show Mine.Bd 4 10 from (by unfold Mine.Bd; decide))))
local macro_rules | `(tactic| walk_at "mine pos") => `(tactic| first | assumption | omega | exact Mine.mul_pow_pos _ (by first | assumption | omega) | exact Mine.mul_pow_nonneg _ (by first | assumption | omega) | exact Mine.abs_nonneg' _)
local macro_rules | `(tactic| walk_at "mine pre") => `(tactic| first | trivial | assumption | ((repeat' (refine And.intro ?_ ?_)) <;> first | assumption | omega | exact News.isTup (by k_asm) (by k_mem) | walk_at "mine pos" | walk_at "mine bd"))
local macro_rules | `(tactic| walk_at "binaryOp LShift int int") => `(tactic| (k_here; k_dflt (refine' Mine.lshiftB ?b ?h0 ?h1 ?hk ?_; (case b => walk_at "mine bd"); (case h0 => omega); (case h1 => omega); (case hk => decide); k_whole)))
local macro_rules | `(tactic| walk_at "binaryOp FloorDiv int int") => `(tactic| (k_here; k_dflt (refine' Mine.floordivB ?b ?h1 ?hk ?_; (case b => walk_at "mine bd"); (case h1 => walk_at "mine pos"); (case hk => decide); k_whole)))
local macro_rules | `(tactic| walk_at "binaryOp Mod int int") => `(tactic| (k_here; k_dflt (refine' Mine.modB ?h1 ?_; (case h1 => walk_at "mine pos"); k_whole)))
local macro_rules | `(tactic| walk_at "eval Call") => `(tactic| (k_here; k_dflt (refine Call_ ?_)))
local macro_rules | `(tactic| walk_at "call type:str") => `(tactic| (k_here; (with_reducible show wpAny _ _ (call (Value.type "str") [Value.int _ _]) _ _ _); k_dflt (refine' Mine.strB ?b ?hk ?_; (case b => walk_at "mine bd"); (case hk => decide); k_whole)))
local macro_rules | `(tactic| walk_at "binaryOp Mult int int") => `(tactic| (k_here; k_dflt (refine' Mine.mulB ?a ?b ?hk ?hm ?_; (case a => walk_at "mine bd"); (case b => walk_at "mine bd"); (case hk => decide); (case hm => decide); k_whole)))
local macro_rules | `(tactic| walk_at "mine in") => `(tactic| (k_whole; intros; (rename News _ _ _ _ => N9); (try dsimp only at N9); (try dsimp only); (try k_fold)))
local macro_rules | `(tactic| walk_at "mine sides") => `(tactic| (k_dflt ((any_goals (show Below _ _ _ _; k_asm)); (any_goals (show Fr _ _ _ _; k_asm)); (any_goals (show PySem.W.Frag.In _ _; k_asm)); (any_goals (show News _ _ _ _; k_asm)); (any_goals (show Top _ _ _ _ _ _; k_asm)); (first | exact rfl | assumption); walk_at "mine pre"; ktr_room; ktr_units); walk_at "mine in"))
namespace Mine
section
theorem isNan_c (w : World) (b : Int) (t : Tok) : Ok w 1 169 [.int b t] True (outB (decide (9218868437227405312 < Builtin.bitAnd b (9223372036854775808 - 1)))) := by
  (w_on; dsimp only [Ok, OkH]; k_fill; intro p loose mean mg mb dp un gd cn cs a ccd cl outer A₀ base h₀ L m s Q E hB hF hX hT hcs hpre hdp hun hret; refine wpAny_call ?_; k_dflt (refine Mine.enter hB hF hX hT (by exact rfl) (by exact rfl) (by assumption) (by k_is) (by k_is) (by ktr_room) (by exact BindsTo.of_eq rfl) (by exact locs rfl) ?_ (by exact rfl) (by exact rfl) (by exact rfl) (by decide)); k_whole; intro L' h' F' N' B' X' T'; (try dsimp only); (try k_fold))
  walk_at "mine go"
  all_goals exact endB hret rfl
theorem isInf_c (w : World) (b : Int) (t : Tok) : Ok w 1 176 [.int b t] True (outB (Builtin.bitAnd b (9223372036854775808 - 1) == 9218868437227405312)) := by
  (w_on; dsimp only [Ok, OkH]; k_fill; intro p loose mean mg mb dp un gd cn cs a ccd cl outer A₀ base h₀ L m s Q E hB hF hX hT hcs hpre hdp hun hret; refine wpAny_call ?_; k_dflt (refine Mine.enter hB hF hX hT (by exact rfl) (by exact rfl) (by assumption) (by k_is) (by k_is) (by ktr_room) (by exact BindsTo.of_eq rfl) (by exact locs rfl) ?_ (by exact rfl) (by exact rfl) (by exact rfl) (by decide)); k_whole; intro L' h' F' N' B' X' T'; (try dsimp only); (try k_fold))
  walk_at "mine go"
  all_goals exact endB hret rfl
theorem isZero_c (w : World) (b : Int) (t : Tok) : Ok w 1 190 [.int b t] True (outB (Builtin.bitAnd b (9223372036854775808 - 1) == 0)) := by
  (w_on; dsimp only [Ok, OkH]; k_fill; intro p loose mean mg mb dp un gd cn cs a ccd cl outer A₀ base h₀ L m s Q E hB hF hX hT hcs hpre hdp hun hret; refine wpAny_call ?_; k_dflt (refine Mine.enter hB hF hX hT (by exact rfl) (by exact rfl) (by assumption) (by k_is) (by k_is) (by ktr_room) (by exact BindsTo.of_eq rfl) (by exact locs rfl) ?_ (by exact rfl) (by exact rfl) (by exact rfl) (by decide)); k_whole; intro L' h' F' N' B' X' T'; (try dsimp only); (try k_fold))
  walk_at "mine go"
  all_goals exact endB hret rfl
theorem isNeg_c (w : World) (b : Int) (t : Tok) : Ok w 1 162 [.int b t] True (outB (b.fdiv (2 ^ Int.toNat 63) == 1)) := by
  (w_on; dsimp only [Ok, OkH]; k_fill; intro p loose mean mg mb dp un gd cn cs a ccd cl outer A₀ base h₀ L m s Q E hB hF hX hT hcs hpre hdp hun hret; refine wpAny_call ?_; k_dflt (refine Mine.enter hB hF hX hT (by exact rfl) (by exact rfl) (by assumption) (by k_is) (by k_is) (by ktr_room) (by exact BindsTo.of_eq rfl) (by exact locs rfl) ?_ (by exact rfl) (by exact rfl) (by exact rfl) (by decide)); k_whole; intro L' h' F' N' B' X' T'; (try dsimp only); (try k_fold))
  walk_at "mine go"
  all_goals exact endB hret rfl
def sgnF (x b : Int) : Int := Builtin.bitOr (Builtin.bitAnd b (9223372036854775808 - 1)) (x * 2 ^ Int.toNat 63)
theorem signed_c (w : World) (x b : Int) (t u : Tok) : Ok w 1 197 [.int x t, .int b u] (0 ≤ x ∧ x ≤ 1) (outI (sgnF x b)) := by
  (w_on; dsimp only [Ok, OkH]; k_fill; intro p loose mean mg mb dp un gd cn cs a ccd cl outer A₀ base h₀ L m s Q E hB hF hX hT hcs hpre hdp hun hret; refine wpAny_call ?_; k_dflt (refine Mine.enter hB hF hX hT (by exact rfl) (by exact rfl) (by assumption) (by k_is) (by k_is) (by ktr_room) (by exact BindsTo.of_eq rfl) (by exact locs rfl) ?_ (by exact rfl) (by exact rfl) (by exact rfl) (by decide)); k_whole; intro L' h' F' N' B' X' T'; (try dsimp only); (try k_fold))
  obtain ⟨h1, h2⟩ := hpre
  walk_at "mine go"
  all_goals exact endI hret rfl
def packF (x b c : Int) : Int := Builtin.bitOr (Builtin.bitOr (x * 2 ^ Int.toNat 63) (b * 2 ^ Int.toNat 52)) c
theorem pack_c (w : World) (x b c : Int) (t u v : Tok) : Ok w 1 155 [.int x t, .int b u, .int c v] (0 ≤ x ∧ x ≤ 1 ∧ 0 ≤ b ∧ b ≤ 2047) (outI (packF x b c)) := by
  (w_on; dsimp only [Ok, OkH]; k_fill; intro p loose mean mg mb dp un gd cn cs a ccd cl outer A₀ base h₀ L m s Q E hB hF hX hT hcs hpre hdp hun hret; refine wpAny_call ?_; k_dflt (refine Mine.enter hB hF hX hT (by exact rfl) (by exact rfl) (by assumption) (by k_is) (by k_is) (by ktr_room) (by exact BindsTo.of_eq rfl) (by exact locs rfl) ?_ (by exact rfl) (by exact rfl) (by exact rfl) (by decide)); k_whole; intro L' h' F' N' B' X' T'; (try dsimp only); (try k_fold))
  obtain ⟨h1, h2, h3, h4⟩ := hpre
  walk_at "mine go"
  all_goals exact endI hret rfl
end
end Mine
namespace Mine
section
def qT (x c : Int) : Int := if 0 ≤ c then x else x * 2 ^ (-c).toNat
def qB (y c : Int) : Int := if 0 ≤ c then y * 2 ^ c.toNat else y
local macro_rules | `(tactic| walk_at "mine pad") => `(tactic| fail)
theorem quotient_c (w : World) (x y c : Int) (t u v : Tok) : Ok w 1 211 [.int x t, .int y u, .int c v] (0 ≤ x ∧ Bd 4000 x ∧ 1 ≤ y ∧ Bd 4000 y ∧ -1074 ≤ c ∧ c ≤ 4012)
    (outT fun ts => [.int ((qT x c).fdiv (qB y c)) (ts 0), .int ((qT x c).fmod (qB y c)) (ts 1), .int (qB y c) (ts 2)]) := by
  (w_on; dsimp only [Ok, OkH]; k_fill; intro p loose mean mg mb dp un gd cn cs a ccd cl outer A₀ base h₀ L m s Q E hB hF hX hT hcs hpre hdp hun hret; refine wpAny_call ?_; k_dflt (refine Mine.enter hB hF hX hT (by exact rfl) (by exact rfl) (by assumption) (by k_is) (by k_is) (by ktr_room) (by exact BindsTo.of_eq rfl) (by exact locs rfl) ?_ (by exact rfl) (by exact rfl) (by exact rfl) (by decide)); k_whole; intro L' h' F' N' B' X' T'; (try dsimp only); (try k_fold))
  obtain ⟨h1, h2, h3, h4, h5, h6⟩ := hpre
  walk_at "mine go"
  all_goals (refine endT3 hret (by assumption) (by k_mem) ?_ ?_ ?_ <;> (simp only [qT, qB]; (repeat' split) <;> first | rfl | (exfalso; omega)))
end
end Mine
namespace Mine
section
/-- the halvings of the last stretch, step by step -/
def wN (s n : Int) : Int := if 2 ^ s.toNat ≤ n then n.fdiv (2 ^ s.toNat) else n
def wC (s n c : Int) : Int := if 2 ^ s.toNat ≤ n then c + s else c
def wT : List Int → Int → Int
  | [], n => n
  | s :: r, n => if 2 ^ s.toNat ≤ n then s + wT r (n.fdiv (2 ^ s.toNat)) else wT r n
theorem fdiv64 {n : Int} (h : 2 ^ 64 ≤ n) : (n.fdiv (2 ^ 64)).toNat < n.toNat := by
  have h1 := fdiv_fmod_facts n (2 ^ 64)
  omega
def wF (n : Int) : Int := if h : 2 ^ 64 ≤ n then 64 + wF (n.fdiv (2 ^ 64)) else wT [32, 16, 8, 4, 2, 1] n
termination_by n.toNat
decreasing_by exact fdiv64 h
theorem wF_step {n : Int} (h : 2 ^ 64 ≤ n) : wF n = 64 + wF (n.fdiv (2 ^ 64)) := by rw [wF, dif_pos h]
theorem wF_last {n : Int} (h : ¬ 2 ^ 64 ≤ n) : wF n = wT [32, 16, 8, 4, 2, 1] n := by rw [wF, dif_neg h]
theorem wT_cons (c s n : Int) (r : List Int) : c + wT (s :: r) n = wC s n c + wT r (wN s n) := by
  rw [wT]
  unfold wC wN
  split
  · omega
  · rfl
theorem wN_t {s n : Int} (h : 1 * 2 ^ s.toNat ≤ n) : n.fdiv (2 ^ s.toNat) = wN s n := (if_pos (by omega)).symm
theorem wN_f {s n : Int} (h : ¬ 1 * 2 ^ s.toNat ≤ n) : n = wN s n := (if_neg (by omega)).symm
theorem wC_t {s n c : Int} (h : 1 * 2 ^ s.toNat ≤ n) : c + s = wC s n c := (if_pos (by omega)).symm
theorem wC_f {s n c : Int} (h : ¬ 1 * 2 ^ s.toNat ≤ n) : c = wC s n c := (if_neg (by omega)).symm
theorem p64 : (1 * 2 ^ Int.toNat 64 : Int) = 2 ^ 64 := by decide
theorem p64' : (2 ^ Int.toNat 64 : Int) = 2 ^ 64 := by decide
structure JMark : Prop where
theorem jMark : JMark := JMark.mk
structure Join2 (x y : Str) (v u : Int) (h₀ : Heap) (L : Addr) (m : Str → Option Value) (news : List (Addr × Obj)) (s : Shared) (f : Flow) (s' : Shared) : Prop where
  at_ : f = .next ∧ ∃ (h' : Heap) (tk' : Nat) (t1 t2 : Tok) (m' : Str → Option Value), s' = { s with heap := h', toks := tk' } ∧ Fr h₀ L h' m' ∧ News h₀ L h' news ∧ m' x = some (.int v t1) ∧ m' y = some (.int u t2) ∧ ∀ z, z ≠ x → z ≠ y → m' z = m z
theorem join2_end {x y : Str} {v u v' u' : Int} {t1 t2 : Tok} {h₀ : Heap} {L : Addr} {m m' : Str → Option Value} {news : List (Addr × Obj)} {s : Shared} {h' : Heap} {tk' : Nat}
    (F : Fr h₀ L h' m') (N : News h₀ L h' news) (e1 : m' x = some (.int v' t1)) (e2 : m' y = some (.int u' t2)) (e3 : ∀ z, z ≠ x → z ≠ y → m' z = m z) (ev : v' = v) (eu : u' = u) :
    Join2 x y v u h₀ L m news s .next { s with heap := h', toks := tk' } := ⟨rfl, h', tk', t1, t2, m', rfl, F, N, ev ▸ e1, eu ▸ e2, e3⟩
theorem join2 {M : Model} {A : Around} {E : Value → Shared → Prop} {s : Shared} {env : Env} {st : Stmt} {h₀ : Heap} {L : Addr} {m : Str → Option Value} {news : List (Addr × Obj)} {Q : Flow → Shared → Prop} (x y z : Str) {v u c : Int} {t1 t2 t3 : Tok}
    (F : Fr h₀ L s.heap m) (N : News h₀ L s.heap news) (hx : m x = some (.int v t1)) (hy : m y = some (.int u t2)) (hz : m z = some (.int c t3))
    (hA : wpAny M A (exec st env) (fun f s' => Join2 x y (wN c v) (wC c v u) h₀ L m news s f s') E s)
    (hk : ∀ h' tk' t1 t2, Fr h₀ L h' (fun w => if w = x then some (.int (wN c v) t1) else if w = y then some (.int (wC c v u) t2) else m w) → News h₀ L h' news → Q .next { s with heap := h', toks := tk' }) :
    wpAny M A (exec st env) Q E s := by
  refine wpAny_mono hA (fun f s' hj => ?_) fun _ _ e => e
  obtain ⟨rfl, h', tk', t1, t2, m', rfl, F', N', e1, e2, e3⟩ := hj.at_
  refine hk h' tk' t1 t2 ?_ N'
  have e : m' = fun w => if w = x then some (.int (wN c v) t1) else if w = y then some (.int (wC c v u) t2) else m w := by
    funext w
    by_cases hx : w = x
    · rw [if_pos hx, hx, e1]
    · rw [if_neg hx]
      by_cases hy : w = y
      · rw [if_pos hy, hy, e2]
      · rw [if_neg hy, e3 w hx hy]
  exact e ▸ F'
section
local macro_rules | `(tactic| walk_at "exec If") => `(tactic| (k_here; (show wpAny _ _ (exec (Stmt.If (Expr.Compare (Expr.Name (Str.ofString "n") _) [CmpOp.GtE] _ _) [_, _] [] _) _) _ _ _); (fail_if_success (with_reducible rename JMark => jNo)); (with_reducible rename Fr _ _ _ _ => jF); (with_reducible rename News _ _ _ _ => jN); refine' join2 (Str.ofString "n") (Str.ofString "many") (Str.ofString "step") jF jN ?hx ?hy ?hz ?_ ?_; (case hx => with_unfolding_all rfl); (case hy => with_unfolding_all rfl); (case hz => with_unfolding_all rfl); (have jM := jMark); (try k_fold); rotate_left 1; clear jF jN; intro h' tk' t1 t2 F' N'; (try dsimp only)))
theorem wF_state0 {n : Int} (h : 0 ≤ n) : 0 ≤ n ∧ wF n = 0 + wF n := ⟨h, by omega⟩
theorem wF_state1 {n k many : Int} (h1 : 0 ≤ k) (h : wF n = many + wF k) (h2 : 1 * 2 ^ Int.toNat 64 ≤ k) : 0 ≤ k.fdiv (2 ^ Int.toNat 64) ∧ wF n = many + 64 + wF (k.fdiv (2 ^ Int.toNat 64)) := by
  rw [p64] at h2
  rw [p64']
  refine ⟨?_, ?_⟩
  · have h1 := fdiv_fmod_facts k (2 ^ 64)
    omega
  · rw [h, wF_step h2]; omega
theorem wF_less {k : Int} (h2 : 1 * 2 ^ Int.toNat 64 ≤ k) : (k.fdiv (2 ^ Int.toNat 64)).toNat < k.toNat := by
  rw [p64] at h2
  rw [p64']
  exact fdiv64 h2
theorem wF_end {n k many : Int} (h : wF n = many + wF k) (h2 : ¬ 1 * 2 ^ Int.toNat 64 ≤ k) :
    wC 1 (wN 2 (wN 4 (wN 8 (wN 16 (wN 32 k))))) (wC 2 (wN 4 (wN 8 (wN 16 (wN 32 k)))) (wC 4 (wN 8 (wN 16 (wN 32 k))) (wC 8 (wN 16 (wN 32 k)) (wC 16 (wN 32 k) (wC 32 k many))))) + wN 1 (wN 2 (wN 4 (wN 8 (wN 16 (wN 32 k))))) = wF n := by
  rw [p64] at h2
  rw [h, wF_last h2, wT_cons, wT_cons, wT_cons, wT_cons, wT_cons, wT_cons]
  rfl
local macro_rules | `(tactic| walk_at "mine pad") => `(tactic| fail)
theorem width_c (w : World) (n : Int) (t : Tok) : Ok w 1 148 [.int n t] (0 ≤ n) (outI (wF n)) := by
  (w_on; dsimp only [Ok, OkH]; k_fill; intro p loose mean mg mb dp un gd cn cs a ccd cl outer A₀ base h₀ L m s Q E hB hF hX hT hcs hpre hdp hun hret; refine wpAny_call ?_; k_dflt (refine Mine.enter hB hF hX hT (by exact rfl) (by exact rfl) (by assumption) (by k_is) (by k_is) (by ktr_room) (by exact BindsTo.of_eq rfl) (by exact locs rfl) ?_ (by exact rfl) (by exact rfl) (by exact rfl) (by decide)); k_whole; intro L' h' F' N' B' X' T'; (try dsimp only); (try k_fold))
  k_with "exec While Compare cons nil" => k_while (fun _ k many => 0 ≤ k ∧ wF n = many + wF k) (fun _ k _ => k.toNat) "n" "many"
  k_with "measure" => exact wF_less (by assumption)
  k_with "state" => first | exact wF_state0 (by assumption) | exact wF_state1 (by assumption) (by assumption) (by assumption)
  walk_at "mine go"
  all_goals first
    | ((show Join2 _ _ _ _ _ _ _ _ _ _ _)
       (refine join2_end (by assumption) (by assumption) (by with_unfolding_all rfl) (by with_unfolding_all rfl) ?_ ?_ ?_)
       · (intro z h1 h2; first | rfl | (show (if _ then _ else if _ then _ else _) = _; rw [if_neg h2, if_neg h1]))
       · first | exact wN_t (by assumption) | exact wN_f (by assumption)
       · first | exact wC_t (by assumption) | exact wC_f (by assumption))
    | (show Kept _ _ _; exact endI hret (wF_end (by assumption) (by assumption)))
end
end
end Mine
namespace Mine
section
local macro_rules | `(tactic| walk_at "call ref") => `(tactic| (k_here; k_dflt (refine' Mine.useI (signed_c _ _ _ _ _) ?_ ?_ ?_ ?_ ?_ ?_ ?_ ?_ ?_ ?_); walk_at "mine sides"))
local macro_rules | `(tactic| walk_at "call ref") => `(tactic| (k_here; k_dflt (refine' Mine.useI (pack_c _ _ _ _ _ _ _) ?_ ?_ ?_ ?_ ?_ ?_ ?_ ?_ ?_ ?_); walk_at "mine sides"))
def asm1 (x wh p : Int) : Int := if wh < 4503599627370496 then Builtin.bitOr (x * 2 ^ Int.toNat 63) wh else if 2047 ≤ p + 1075 then sgnF x 9218868437227405312 else packF x (p + 1075) (wh - 4503599627370496)
def asmF (x wh p : Int) : Int := if wh = 4503599627370496 * 2 ^ Int.toNat 1 then asm1 x 4503599627370496 (p + 1) else asm1 x wh p
local macro_rules | `(tactic| walk_at "mine pad") => `(tactic| fail)
theorem asm_c (w : World) (x wh p : Int) (t u v : Tok) : Ok w 2 225 [.int x t, .int wh u, .int p v] (0 ≤ x ∧ x ≤ 1 ∧ -1074 ≤ p) (outI (asmF x wh p)) := by
  (w_on; dsimp only [Ok, OkH]; k_fill; intro p loose mean mg mb dp un gd cn cs a ccd cl outer A₀ base h₀ L m s Q E hB hF hX hT hcs hpre hdp hun hret; refine wpAny_call ?_; k_dflt (refine Mine.enter hB hF hX hT (by exact rfl) (by exact rfl) (by assumption) (by k_is) (by k_is) (by ktr_room) (by exact BindsTo.of_eq rfl) (by exact locs rfl) ?_ (by exact rfl) (by exact rfl) (by exact rfl) (by decide)); k_whole; intro L' h' F' N' B' X' T'; (try dsimp only); (try k_fold))
  obtain ⟨h1, h2, h3⟩ := hpre
  walk_at "mine go"
  all_goals (refine endI hret ?_; (simp only [asmF, asm1]; (repeat' split) <;> first | rfl | (exfalso; omega) | (subst_vars; rfl)))
end
end Mine
namespace Mine
section
local macro_rules | `(tactic| walk_at "call ref") => `(tactic| (k_here; k_dflt (refine' Mine.useI (width_c _ _ _) ?_ ?_ ?_ ?_ ?_ ?_ ?_ ?_ ?_ ?_); walk_at "mine sides"))
local macro_rules | `(tactic| walk_at "call ref") => `(tactic| (k_here; k_dflt (refine' Mine.useT (quotient_c _ _ _ _ _ _ _) ?_ ?_ ?_ ?_ ?_ ?_ ?_ ?_ ?_ ?_); walk_at "mine sides"))
local macro_rules | `(tactic| walk_at "call ref") => `(tactic| (k_here; k_dflt (refine' Mine.useI (asm_c _ _ _ _ _ _ _) ?_ ?_ ?_ ?_ ?_ ?_ ?_ ?_ ?_ ?_); walk_at "mine sides"))
def rr2 (x whole rest unit p : Int) : Int := asmF x (if unit < 2 * rest ∨ (2 * rest = unit ∧ whole.fmod 2 = 1) then whole + 1 else whole) p
def rr1 (x y z p : Int) : Int := rr2 x ((qT y p).fdiv (qB z p)) ((qT y p).fmod (qB z p)) (qB z p) p
def rrP (y z : Int) : Int := if -1074 > wF y - wF z - 53 then -1074 else wF y - wF z - 53
def rrF (x y z : Int) : Int := if y = 0 then x * 2 ^ Int.toNat 63 else if 4503599627370496 * 2 ^ Int.toNat 1 ≤ (qT y (rrP y z)).fdiv (qB z (rrP y z)) then rr1 x y z (rrP y z + 1) else rr1 x y z (rrP y z)
section
variable {x y z p : Int}
theorem rr_zero (h : y = 0) : x * 2 ^ Int.toNat 63 = rrF x y z := by unfold rrF; rw [if_pos h]
theorem rr_big (h0 : y ≠ 0) (h : 4503599627370496 * 2 ^ Int.toNat 1 ≤ (qT y (rrP y z)).fdiv (qB z (rrP y z))) : rrF x y z = rr1 x y z (rrP y z + 1) := by unfold rrF; rw [if_neg h0, if_pos h]
theorem rr_small (h0 : y ≠ 0) (h : ¬ 4503599627370496 * 2 ^ Int.toNat 1 ≤ (qT y (rrP y z)).fdiv (qB z (rrP y z))) : rrF x y z = rr1 x y z (rrP y z) := by unfold rrF; rw [if_neg h0, if_neg h]
theorem rr_up (e : rrF x y z = rr1 x y z p) (h : qB z p < 2 * (qT y p).fmod (qB z p)) : asmF x ((qT y p).fdiv (qB z p) + 1) p = rrF x y z := by
  rw [e]; unfold rr1 rr2; rw [if_pos (.inl h)]
theorem rr_half (e : rrF x y z = rr1 x y z p) (h : 2 * (qT y p).fmod (qB z p) = qB z p) (h2 : ((qT y p).fdiv (qB z p)).fmod 2 = 1) : asmF x ((qT y p).fdiv (qB z p) + 1) p = rrF x y z := by
  rw [e]; unfold rr1 rr2; rw [if_pos (.inr ⟨h, h2⟩)]
theorem rr_down (e : rrF x y z = rr1 x y z p) (h1 : ¬ qB z p < 2 * (qT y p).fmod (qB z p)) (h : 2 * (qT y p).fmod (qB z p) ≠ qB z p) : asmF x ((qT y p).fdiv (qB z p)) p = rrF x y z := by
  rw [e]; unfold rr1 rr2; rw [if_neg (fun q => q.elim h1 fun q => h q.1)]
theorem rr_even (e : rrF x y z = rr1 x y z p) (h1 : ¬ qB z p < 2 * (qT y p).fmod (qB z p)) (h : ((qT y p).fdiv (qB z p)).fmod 2 ≠ 1) : asmF x ((qT y p).fdiv (qB z p)) p = rrF x y z := by
  rw [e]; unfold rr1 rr2; rw [if_neg (fun q => q.elim h1 fun q => h q.2)]
end
theorem wT_nonneg : ∀ (l : List Int) (n : Int), 0 ≤ n → (∀ s ∈ l, 0 ≤ s) → 0 ≤ wT l n := by
  intro l
  induction l with
  | nil => intro n h _; exact h
  | cons s r ih =>
    intro n h hs
    rw [wT]
    have h1 := hs s (List.mem_cons_self ..)
    split
    · have h2 := ih (n.fdiv (2 ^ s.toNat)) (fdiv_nonneg' h (pow_pos' _)) fun q hq => hs q (List.mem_cons_of_mem _ hq)
      omega
    · exact ih n h fun q hq => hs q (List.mem_cons_of_mem _ hq)
theorem fdiv_lt' {n a b : Int} (h0 : 0 ≤ n) (hb : 0 < b) (h : n < a * b) : n.fdiv b < a := by
  rw [Int.fdiv_eq_ediv_of_nonneg _ (by omega)]
  exact Int.ediv_lt_of_lt_mul hb h
theorem wN_lt {s n m : Int} (h0 : 0 ≤ n) (h : n < m * 2 ^ s.toNat) (hm : 2 ^ s.toNat ≤ m) : 0 ≤ wN s n ∧ wN s n < m := by
  have hp := pow_pos' s.toNat
  unfold wN
  split
  · exact ⟨fdiv_nonneg' h0 hp, fdiv_lt' h0 (by omega) h⟩
  · exact ⟨h0, by omega⟩
theorem wC_le {s n c d : Int} (hs : 0 ≤ s) (h : c ≤ d) : wC s n c ≤ d + s := by
  unfold wC
  split <;> omega
theorem wT_last {n : Int} (h0 : 0 ≤ n) (h : n < 2 ^ 64) : wT [32, 16, 8, 4, 2, 1] n ≤ 64 := by
  have e : wT [32, 16, 8, 4, 2, 1] n = 0 + wT [32, 16, 8, 4, 2, 1] n := by omega
  rw [e, wT_cons, wT_cons, wT_cons, wT_cons, wT_cons, wT_cons]
  have a1 := wN_lt (s := 32) (m := 2 ^ 32) h0 (by have q : (2 : Int) ^ 32 * 2 ^ Int.toNat 32 = 2 ^ 64 := by decide
                                                  omega) (by decide)
  have a2 := wN_lt (s := 16) (m := 2 ^ 16) a1.1 (by have q : (2 : Int) ^ 16 * 2 ^ Int.toNat 16 = 2 ^ 32 := by decide
                                                    omega) (by decide)
  have a3 := wN_lt (s := 8) (m := 2 ^ 8) a2.1 (by have q : (2 : Int) ^ 8 * 2 ^ Int.toNat 8 = 2 ^ 16 := by decide
                                                  omega) (by decide)
  have a4 := wN_lt (s := 4) (m := 2 ^ 4) a3.1 (by have q : (2 : Int) ^ 4 * 2 ^ Int.toNat 4 = 2 ^ 8 := by decide
                                                  omega) (by decide)
  have a5 := wN_lt (s := 2) (m := 2 ^ 2) a4.1 (by have q : (2 : Int) ^ 2 * 2 ^ Int.toNat 2 = 2 ^ 4 := by decide
                                                  omega) (by decide)
  have a6 := wN_lt (s := 1) (m := 2 ^ 1) a5.1 (by have q : (2 : Int) ^ 1 * 2 ^ Int.toNat 1 = 2 ^ 2 := by decide
                                                  omega) (by decide)
  have b1 := wC_le (s := 32) (n := n) (c := 0) (d := 0) (by decide) (by omega)
  have b2 := wC_le (s := 16) (n := wN 32 n) (by decide) b1
  have b3 := wC_le (s := 8) (n := wN 16 (wN 32 n)) (by decide) b2
  have b4 := wC_le (s := 4) (n := wN 8 (wN 16 (wN 32 n))) (by decide) b3
  have b5 := wC_le (s := 2) (n := wN 4 (wN 8 (wN 16 (wN 32 n)))) (by decide) b4
  have b6 := wC_le (s := 1) (n := wN 2 (wN 4 (wN 8 (wN 16 (wN 32 n))))) (by decide) b5
  show _ + wN 1 (wN 2 (wN 4 (wN 8 (wN 16 (wN 32 n))))) ≤ 64
  omega
theorem wF_bound : ∀ (k : Nat) (n : Int), 0 ≤ n → n < 2 ^ (64 * k + 64) → 0 ≤ wF n ∧ wF n ≤ 64 * k + 64 := by
  intro k
  induction k with
  | zero =>
    intro n h0 h
    have h' : n < 2 ^ 64 := h
    rw [wF_last (by omega)]
    exact ⟨wT_nonneg _ _ h0 (by decide), wT_last h0 h'⟩
  | succ k ih =>
    intro n h0 h
    by_cases hb : 2 ^ 64 ≤ n
    · rw [wF_step hb]
      have h2 : n < 2 ^ (64 * k + 64) * 2 ^ 64 := by
        rw [← Int.pow_add]
        exact h
      have h1 := ih (n.fdiv (2 ^ 64)) (fdiv_nonneg' h0 (by decide)) (fdiv_lt' h0 (by decide) h2)
      omega
    · rw [wF_last hb]
      have h1 := wT_last h0 (by omega)
      exact ⟨wT_nonneg _ _ h0 (by decide), by omega⟩
theorem wF_bd {n : Int} (h0 : 0 ≤ n) (h : Bd 4000 n) : 0 ≤ wF n ∧ wF n ≤ 4064 := by
  have h1 : n.natAbs < 2 ^ 4000 := h
  have h2 : n < 2 ^ (64 * 62 + 64) := by
    have h3 : (2 : Nat) ^ 4000 ≤ 2 ^ (64 * 62 + 64) := Nat.pow_le_pow_right (by decide) (by decide)
    have h4 : n.natAbs < 2 ^ (64 * 62 + 64) := Nat.lt_of_lt_of_le h1 h3
    rw [two_pow_cast]
    omega
  have h5 := wF_bound 62 n h0 h2
  omega
local macro_rules | `(tactic| walk_at "mine pad") => `(tactic| fail)
theorem round_c (w : World) (x y z : Int) (t u v : Tok) : Ok w 3 218 [.int x t, .int y u, .int z v] (0 ≤ x ∧ x ≤ 1 ∧ 0 ≤ y ∧ Bd 4000 y ∧ 1 ≤ z ∧ Bd 4000 z) (outI (rrF x y z)) := by
  (w_on; dsimp only [Ok, OkH]; k_fill; intro p loose mean mg mb dp un gd cn cs a ccd cl outer A₀ base h₀ L m s Q E hB hF hX hT hcs hpre hdp hun hret; refine wpAny_call ?_; k_dflt (refine Mine.enter hB hF hX hT (by exact rfl) (by exact rfl) (by assumption) (by k_is) (by k_is) (by ktr_room) (by exact BindsTo.of_eq rfl) (by exact locs rfl) ?_ (by exact rfl) (by exact rfl) (by exact rfl) (by decide)); k_whole; intro L' h' F' N' B' X' T'; (try dsimp only); (try k_fold))
  obtain ⟨h1, h2, h3, h4, h5, h6⟩ := hpre
  have w1 : 0 ≤ wF y ∧ wF y ≤ 4064 := wF_bd h3 h4
  have w2 : 0 ≤ wF z ∧ wF z ≤ 4064 := wF_bd (by omega) h6
  obtain ⟨w11, w12⟩ := w1
  obtain ⟨w21, w22⟩ := w2
  walk_at "mine go"
  all_goals first
    | exact endI hret (rr_zero (by assumption))
    | exact endI hret (rr_up (rr_big (by assumption) (by assumption)) (by assumption))
    | exact endI hret (rr_up (rr_small (by assumption) (by assumption)) (by assumption))
    | exact endI hret (rr_half (rr_big (by assumption) (by assumption)) (by assumption) (by assumption))
    | exact endI hret (rr_half (rr_small (by assumption) (by assumption)) (by assumption) (by assumption))
    | exact endI hret (rr_down (rr_big (by assumption) (by assumption)) (by assumption) (by assumption))
    | exact endI hret (rr_down (rr_small (by assumption) (by assumption)) (by assumption) (by assumption))
    | exact endI hret (rr_even (rr_big (by assumption) (by assumption)) (by assumption) (by assumption))
    | exact endI hret (rr_even (rr_small (by assumption) (by assumption)) (by assumption) (by assumption))
end
end Mine
namespace Mine
section
local macro_rules | `(tactic| walk_at "call ref") => `(tactic| (k_here; k_dflt (refine' Mine.useI (width_c _ _ _) ?_ ?_ ?_ ?_ ?_ ?_ ?_ ?_ ?_ ?_); walk_at "mine sides"))
local macro_rules | `(tactic| walk_at "call ref") => `(tactic| (k_here; k_dflt (refine' Mine.useI (signed_c _ _ _ _ _) ?_ ?_ ?_ ?_ ?_ ?_ ?_ ?_ ?_ ?_); walk_at "mine sides"))
local macro_rules | `(tactic| walk_at "call ref") => `(tactic| (k_here; k_dflt (refine' Mine.useI (round_c _ _ _ _ _ _ _) ?_ ?_ ?_ ?_ ?_ ?_ ?_ ?_ ?_ ?_); walk_at "mine sides"))
def rsF (x m p : Int) : Int := if m = 0 ∨ wF m + p ≤ -1074 - 1 then x * 2 ^ Int.toNat 63 else if 1024 < wF m + p then sgnF x 9218868437227405312 else if 0 ≤ p then rrF x (m * 2 ^ p.toNat) 1 else rrF x m (1 * 2 ^ (-p).toNat)
theorem scaledRound_c (w : World) (x y z : Int) (t u v : Tok) : Ok w 4 232 [.int x t, .int y u, .int z v] (0 ≤ x ∧ x ≤ 1 ∧ 0 ≤ y ∧ Bd 2200 y ∧ -1074 ≤ z ∧ z ≤ 972) (outI (rsF x y z)) := by
  (w_on; dsimp only [Ok, OkH]; k_fill; intro p loose mean mg mb dp un gd cn cs a ccd cl outer A₀ base h₀ L m s Q E hB hF hX hT hcs hpre hdp hun hret; refine wpAny_call ?_; k_dflt (refine Mine.enter hB hF hX hT (by exact rfl) (by exact rfl) (by assumption) (by k_is) (by k_is) (by ktr_room) (by exact BindsTo.of_eq rfl) (by exact locs rfl) ?_ (by exact rfl) (by exact rfl) (by exact rfl) (by decide)); k_whole; intro L' h' F' N' B' X' T'; (try dsimp only); (try k_fold))
  obtain ⟨h1, h2, h3, h4, h5, h6⟩ := hpre
  obtain ⟨w11, w12⟩ := wF_bd h3 (h4.mono (by decide))
  walk_at "mine go"
  all_goals (refine endI hret ?_; unfold rsF; (repeat' split) <;> first | rfl | (exfalso; omega) | skip)
def fiF (x : Int) : Int := rrF (if x < 0 then 1 else 0) (if x < 0 then -x else x) 1
theorem fromInt_c (w : World) (x : Int) (t : Tok) : Ok w 4 239 [.int x t] (Bd 64 x) (outI (fiF x)) := by
  (w_on; dsimp only [Ok, OkH]; k_fill; intro p loose mean mg mb dp un gd cn cs a ccd cl outer A₀ base h₀ L m s Q E hB hF hX hT hcs hpre hdp hun hret; refine wpAny_call ?_; k_dflt (refine Mine.enter hB hF hX hT (by exact rfl) (by exact rfl) (by assumption) (by k_is) (by k_is) (by ktr_room) (by exact BindsTo.of_eq rfl) (by exact locs rfl) ?_ (by exact rfl) (by exact rfl) (by exact rfl) (by decide)); k_whole; intro L' h' F' N' B' X' T'; (try dsimp only); (try k_fold))
  walk_at "mine go"
  all_goals (refine endI hret ?_; unfold fiF; (repeat' split) <;> first | rfl | (exfalso; omega))
def pE0 (x : Int) : Int := Builtin.bitAnd (x.fdiv (2 ^ Int.toNat 52)) 2047
def pS (x : Int) : Int := x.fdiv (2 ^ Int.toNat 63)
def pM (x : Int) : Int := if pE0 x = 0 then Builtin.bitAnd x 4503599627370495 else Builtin.bitOr (Builtin.bitAnd x 4503599627370495) 4503599627370496
def pP (x : Int) : Int := if pE0 x = 0 then -1074 else pE0 x - 1075
theorem pE0_range (x : Int) : 0 ≤ pE0 x ∧ pE0 x ≤ 2047 := bitAnd_range _ (by decide)
theorem pP_range (x : Int) : -1074 ≤ pP x ∧ pP x ≤ 972 := by
  have h := pE0_range x
  unfold pP
  split <;> omega
theorem pM_range (x : Int) : 0 ≤ pM x ∧ pM x < 9007199254740992 := by
  have h1 := bitAnd_range x (y := 4503599627370495) (by decide)
  have h2 := bitAnd_range (Builtin.bitAnd x 4503599627370495) (y := 4503599627370496) (by decide)
  unfold pM
  split
  · omega
  · rw [bitOr_and]; omega
theorem pM_bd (x : Int) : Bd 53 (pM x) := by
  have h := pM_range x
  unfold Bd
  omega
theorem pM_0 {x : Int} (h : Builtin.bitAnd (x.fdiv (2 ^ Int.toNat 52)) 2047 = 0) : Builtin.bitAnd x 4503599627370495 = pM x := (if_pos h).symm
theorem pM_1 {x : Int} (h : ¬ Builtin.bitAnd (x.fdiv (2 ^ Int.toNat 52)) 2047 = 0) : Builtin.bitOr (Builtin.bitAnd x 4503599627370495) 4503599627370496 = pM x := (if_neg h).symm
theorem pP_0 {x : Int} (h : Builtin.bitAnd (x.fdiv (2 ^ Int.toNat 52)) 2047 = 0) : -1074 = pP x := (if_pos h).symm
theorem pP_1 {x : Int} (h : ¬ Builtin.bitAnd (x.fdiv (2 ^ Int.toNat 52)) 2047 = 0) : Builtin.bitAnd (x.fdiv (2 ^ Int.toNat 52)) 2047 - 1075 = pP x := (if_neg h).symm
theorem parts_c (w : World) (x : Int) (t : Tok) : Ok w 1 204 [.int x t] True (outT fun ts => [.int (pS x) (ts 0), .int (pM x) (ts 1), .int (pP x) (ts 2)]) := by
  (w_on; dsimp only [Ok, OkH]; k_fill; intro p loose mean mg mb dp un gd cn cs a ccd cl outer A₀ base h₀ L m s Q E hB hF hX hT hcs hpre hdp hun hret; refine wpAny_call ?_; k_dflt (refine Mine.enter hB hF hX hT (by exact rfl) (by exact rfl) (by assumption) (by k_is) (by k_is) (by ktr_room) (by exact BindsTo.of_eq rfl) (by exact locs rfl) ?_ (by exact rfl) (by exact rfl) (by exact rfl) (by decide)); k_whole; intro L' h' F' N' B' X' T'; (try dsimp only); (try k_fold))
  walk_at "mine go"
  all_goals first
    | exact endT3 hret (by assumption) (by k_mem) rfl (pM_0 (by assumption)) (pP_0 (by assumption))
    | exact endT3 hret (by assumption) (by k_mem) rfl (pM_1 (by assumption)) (pP_1 (by assumption))
end
end Mine
namespace Mine
section
local macro_rules | `(tactic| walk_at "call ref") => `(tactic| (k_here; k_dflt (refine' Mine.useB (isNan_c _ _ _) ?_ ?_ ?_ ?_ ?_ ?_ ?_ ?_ ?_ ?_); walk_at "mine sides"))
local macro_rules | `(tactic| walk_at "call ref") => `(tactic| (k_here; k_dflt (refine' Mine.useB (isInf_c _ _ _) ?_ ?_ ?_ ?_ ?_ ?_ ?_ ?_ ?_ ?_); walk_at "mine sides"))
local macro_rules | `(tactic| walk_at "call ref") => `(tactic| (k_here; k_dflt (refine' Mine.useB (isZero_c _ _ _) ?_ ?_ ?_ ?_ ?_ ?_ ?_ ?_ ?_ ?_); walk_at "mine sides"))
local macro_rules | `(tactic| walk_at "call ref") => `(tactic| (k_here; k_dflt (refine' Mine.useT (parts_c _ _ _) ?_ ?_ ?_ ?_ ?_ ?_ ?_ ?_ ?_ ?_); walk_at "mine sides"))
local macro_rules | `(tactic| walk_at "call ref") => `(tactic| (k_here; k_dflt (refine' Mine.useI (scaledRound_c _ _ _ _ _ _ _) ?_ ?_ ?_ ?_ ?_ ?_ ?_ ?_ ?_ ?_); walk_at "mine sides"))
def smP (p1 p2 : Int) : Int := if p2 < p1 then p2 else p1
def smV (s m p q : Int) : Int := if s = 1 then -(m * 2 ^ (p - q).toNat) else m * 2 ^ (p - q).toNat
theorem smP_range {p1 p2 : Int} (h1 : -1074 ≤ p1 ∧ p1 ≤ 972) (h2 : -1074 ≤ p2 ∧ p2 ≤ 972) : -1074 ≤ smP p1 p2 ∧ smP p1 p2 ≤ 972 ∧ 0 ≤ p1 - smP p1 p2 ∧ p1 - smP p1 p2 ≤ 2046 ∧ 0 ≤ p2 - smP p1 p2 ∧ p2 - smP p1 p2 ≤ 2046 := by
  unfold smP
  split <;> omega
theorem smV_bd {s m p q : Int} (h : Bd 53 m) (h2 : p - q ≤ 2046) : Bd 2099 (smV s m p q) := by
  have h1 : Bd 2099 (m * 2 ^ (p - q).toNat) := Bd.shift (N := 2046) h h2
  unfold smV
  split
  · unfold Bd at *; rw [Int.natAbs_neg]; exact h1
  · exact h1
section
local macro_rules | `(tactic| walk_at "subscriptTail") => `(tactic| (k_here; (with_reducible show wpAny _ _ (subscriptTail _ _ (Value.ref _) (Value.int _ _)) _ _ _); k_dflt (refine' item_tupleT ?t ?a ?b ?c ?d ?_; (case t => exact IsTup.keeps (by assumption) (Fr.keep (by k_asm))); (case a => decide); (case b => decide); (case c => rfl); (case d => rfl); k_whole)))
local macro_rules | `(tactic| walk_at "binaryOp LShift int int") => `(tactic| (k_here; k_dflt (refine' Mine.lshiftB (k := 53) ?b ?h0 ?h1 ?hk ?_; (case b => assumption); (case h0 => (split <;> omega)); (case h1 => (split <;> omega)); (case hk => decide); k_whole)))
theorem summed_c (w : World) (T1 T2 : Addr) (s1 m1 p1 s2 m2 p2 : Int) (t1 u1 v1 t2 u2 v2 : Tok) : OkH w 1 449 [.ref T1, .ref T2]
    (fun h => IsTup h T1 [.int s1 t1, .int m1 u1, .int p1 v1].toArray ∧ IsTup h T2 [.int s2 t2, .int m2 u2, .int p2 v2].toArray ∧ Bd 53 m1 ∧ Bd 53 m2 ∧ (-1074 ≤ p1 ∧ p1 ≤ 972) ∧ (-1074 ≤ p2 ∧ p2 ≤ 972))
    (outT fun ts => [.int (smV s1 m1 p1 (smP p1 p2) + smV s2 m2 p2 (smP p1 p2)) (ts 0), .int (smP p1 p2) (ts 1)]) := by
  (w_on; dsimp only [Ok, OkH]; k_fill; intro p loose mean mg mb dp un gd cn cs a ccd cl outer A₀ base h₀ L m s Q E hB hF hX hT hcs hpre hdp hun hret; refine wpAny_call ?_; k_dflt (refine Mine.enter hB hF hX hT (by exact rfl) (by exact rfl) (by assumption) (by k_is) (by k_is) (by ktr_room) (by exact BindsTo.of_eq rfl) (by exact locs rfl) ?_ (by exact rfl) (by exact rfl) (by exact rfl) (by decide)); k_whole; intro L' h' F' N' B' X' T'; (try dsimp only); (try k_fold))
  obtain ⟨h1, h2, h3, h4, ⟨h5, h6⟩, h7, h8⟩ := hpre
  walk_at "mine go"
  all_goals (refine endT2 hret (by assumption) (by k_mem) ?_ ?_ <;> unfold smP <;> (try unfold smV) <;> (first | rfl | ((repeat' split) <;> first | rfl | (exfalso; omega))))
end
end
end Mine
namespace Mine
section
local macro_rules | `(tactic| walk_at "call ref") => `(tactic| (k_here; k_dflt (refine' Mine.useB (isNan_c _ _ _) ?_ ?_ ?_ ?_ ?_ ?_ ?_ ?_ ?_ ?_); walk_at "mine sides"))
local macro_rules | `(tactic| walk_at "call ref") => `(tactic| (k_here; k_dflt (refine' Mine.useB (isInf_c _ _ _) ?_ ?_ ?_ ?_ ?_ ?_ ?_ ?_ ?_ ?_); walk_at "mine sides"))
local macro_rules | `(tactic| walk_at "call ref") => `(tactic| (k_here; k_dflt (refine' Mine.useB (isZero_c _ _ _) ?_ ?_ ?_ ?_ ?_ ?_ ?_ ?_ ?_ ?_); walk_at "mine sides"))
local macro_rules | `(tactic| walk_at "call ref") => `(tactic| (k_here; k_dflt (refine' Mine.useT (parts_c _ _ _) ?_ ?_ ?_ ?_ ?_ ?_ ?_ ?_ ?_ ?_); walk_at "mine sides"))
local macro_rules | `(tactic| walk_at "call ref") => `(tactic| (k_here; k_dflt (refine' Mine.useI (scaledRound_c _ _ _ _ _ _ _) ?_ ?_ ?_ ?_ ?_ ?_ ?_ ?_ ?_ ?_); walk_at "mine sides"))
local macro_rules | `(tactic| walk_at "call ref") => `(tactic| (k_here; k_dflt (refine' Mine.useTH (summed_c _ _ _ _ _ _ _ _ _ _ _ _ _ _ _) ?_ ?_ ?_ ?_ ?_ ?_ ?_ ?_ ?_ ?_; rotate_left 22); walk_at "mine sides"))
def addV (x y : Int) : Int := smV (pS x) (pM x) (pP x) (smP (pP x) (pP y)) + smV (pS y) (pM y) (pP y) (smP (pP x) (pP y))
def addR (x y : Int) : Int := if addV x y < 0 then rsF 1 (if addV x y < 0 then -addV x y else addV x y) (smP (pP x) (pP y)) else rsF 0 (if addV x y < 0 then -addV x y else addV x y) (smP (pP x) (pP y))
def addF (x y : Int) : Int :=
  if 9218868437227405312 < Builtin.bitAnd x (9223372036854775808 - 1) then 9221120237041090560
  else if 9218868437227405312 < Builtin.bitAnd y (9223372036854775808 - 1) then 9221120237041090560
  else if Builtin.bitAnd x (9223372036854775808 - 1) = 9218868437227405312 then
    (if Builtin.bitAnd y (9223372036854775808 - 1) = 9218868437227405312 then (if x = y then x else 9221120237041090560) else x)
  else if Builtin.bitAnd y (9223372036854775808 - 1) = 9218868437227405312 then y
  else if Builtin.bitAnd x (9223372036854775808 - 1) = 0 then (if Builtin.bitAnd y (9223372036854775808 - 1) = 0 then Builtin.bitAnd x y else addR x y)
  else addR x y
theorem addR_neg {x y : Int} (h : addV x y < 0) : rsF 1 (if addV x y < 0 then -addV x y else addV x y) (smP (pP x) (pP y)) = addR x y := (if_pos h).symm
theorem addR_pos {x y : Int} (h : ¬ addV x y < 0) : rsF 0 (if addV x y < 0 then -addV x y else addV x y) (smP (pP x) (pP y)) = addR x y := (if_neg h).symm
theorem add_c (w : World) (x y : Int) (t u : Tok) : Ok w 6 442 [.int x t, .int y u] True (outI (addF x y)) := by
  (w_on; dsimp only [Ok, OkH]; k_fill; intro p loose mean mg mb dp un gd cn cs a ccd cl outer A₀ base h₀ L m s Q E hB hF hX hT hcs hpre hdp hun hret; refine wpAny_call ?_; k_dflt (refine Mine.enter hB hF hX hT (by exact rfl) (by exact rfl) (by assumption) (by k_is) (by k_is) (by ktr_room) (by exact BindsTo.of_eq rfl) (by exact locs rfl) ?_ (by exact rfl) (by exact rfl) (by exact rfl) (by decide)); k_whole; intro L' h' F' N' B' X' T'; (try dsimp only); (try k_fold))
  have b1 := pP_range x
  have b2 := pP_range y
  have b5 := pM_bd x
  have b6 := pM_bd y
  have b7 := smP_range b1 b2
  obtain ⟨b71, b72, b73, b74, b75, b76⟩ := b7
  have b8 : Bd 2100 (smV (pS x) (pM x) (pP x) (smP (pP x) (pP y)) + smV (pS y) (pM y) (pP y) (smP (pP x) (pP y))) := Bd.add (smV_bd b5 b74) (smV_bd b6 b76)
  walk_at "mine go"
  all_goals (refine endI hret ?_)
  all_goals first
    | (refine (addR_neg (by assumption)).trans ?_; unfold addF; (repeat' split) <;> first | rfl | contradiction)
    | (refine (addR_pos (by assumption)).trans ?_; unfold addF; (repeat' split) <;> first | rfl | contradiction)
    | (unfold addF; (repeat' split) <;> first | rfl | contradiction)
end
end Mine
namespace Mine
section
def scQ (m p a b : Int) : Int := if m = 4503599627370496 then (if -1074 < p then a else b) else b
def scN (m p : Int) : Int := if 0 ≤ p then m * scQ m p 4 2 * 2 ^ p.toNat else m * scQ m p 4 2
def scA (m p : Int) : Int := if 0 ≤ p then scQ m p 2 1 * 2 ^ p.toNat else scQ m p 2 1
def scB (p : Int) : Int := if 0 ≤ p then 1 * 2 ^ p.toNat else 1
def scU (m p : Int) : Int := if 0 ≤ p then scQ m p 4 2 else scQ m p 4 2 * 2 ^ (0 - p).toNat
theorem scaled_c (w : World) (x y : Int) (t u : Tok) : Ok w 1 337 [.int x t, .int y u] (0 ≤ x ∧ Bd 53 x ∧ -1074 ≤ y ∧ y ≤ 972) (outT fun ts => [.int (scN x y) (ts 0), .int (scA x y) (ts 1), .int (scB y) (ts 2), .int (scU x y) (ts 3)]) := by
  (w_on; dsimp only [Ok, OkH]; k_fill; intro p loose mean mg mb dp un gd cn cs a ccd cl outer A₀ base h₀ L m s Q E hB hF hX hT hcs hpre hdp hun hret; refine wpAny_call ?_; k_dflt (refine Mine.enter hB hF hX hT (by exact rfl) (by exact rfl) (by assumption) (by k_is) (by k_is) (by ktr_room) (by exact BindsTo.of_eq rfl) (by exact locs rfl) ?_ (by exact rfl) (by exact rfl) (by exact rfl) (by decide)); k_whole; intro L' h' F' N' B' X' T'; (try dsimp only); (try k_fold))
  obtain ⟨h1, h2, h3, h4⟩ := hpre
  walk_at "mine go"
  all_goals (refine endT4 hret (by assumption) (by k_mem) ?_ ?_ ?_ ?_ <;> (try unfold scN) <;> (try unfold scA) <;> (try unfold scB) <;> (try unfold scU) <;> (try unfold scQ) <;> ((repeat' split) <;> first | rfl | contradiction | (exfalso; omega)))
end
end Mine
namespace Mine
section
def dpF (x y : Int) : Int :=
  if 0 ≤ dl x - dl y then (if y * 10 ^ (dl x - dl y).toNat ≤ x then dl x - dl y + 1 else dl x - dl y)
  else (if y ≤ x * 10 ^ (0 - (dl x - dl y)).toNat then dl x - dl y + 1 else dl x - dl y)
local macro_rules | `(tactic| walk_at "mine pad") => `(tactic| fail)
theorem decPlace_c (w : World) (x y : Int) (t u : Tok) : Ok w 1 344 [.int x t, .int y u] (0 ≤ x ∧ Bd 1200 x ∧ 1 ≤ y ∧ Bd 1200 y) (outI (dpF x y)) := by
  (w_on; dsimp only [Ok, OkH]; k_fill; intro p loose mean mg mb dp un gd cn cs a ccd cl outer A₀ base h₀ L m s Q E hB hF hX hT hcs hpre hdp hun hret; refine wpAny_call ?_; k_dflt (refine Mine.enter hB hF hX hT (by exact rfl) (by exact rfl) (by assumption) (by k_is) (by k_is) (by ktr_room) (by exact BindsTo.of_eq rfl) (by exact locs rfl) ?_ (by exact rfl) (by exact rfl) (by exact rfl) (by decide)); k_whole; intro L' h' F' N' B' X' T'; (try dsimp only); (try k_fold))
  obtain ⟨h1, h2, h3, h4⟩ := hpre
  obtain ⟨h5, h6⟩ := dl_range h2 (by decide)
  obtain ⟨h7, h8⟩ := dl_range h4 (by decide)
  unfold dl at h5 h6 h7 h8
  walk_at "mine go"
  all_goals (refine endI hret ?_; unfold dpF dl; (repeat' split) <;> first | rfl | contradiction)
theorem dpF_range {x y : Int} (hx : Bd 1200 x) (hy : Bd 1200 y) : -1201 ≤ dpF x y ∧ dpF x y ≤ 1202 := by
  have h5 := dl_range hx (by decide)
  have h7 := dl_range hy (by decide)
  unfold dpF
  (repeat' split) <;> omega
section
local macro_rules | `(tactic| walk_at "call ref") => `(tactic| (k_here; k_dflt (refine' Mine.useI (decPlace_c _ _ _ _ _) ?_ ?_ ?_ ?_ ?_ ?_ ?_ ?_ ?_ ?_); walk_at "mine sides"))
def fpF (n a u : Int) (e : Bool) : Int :=
  if 0 ≤ dpF n u then (if u * 10 ^ (dpF n u).toNat < n + a then dpF n u + 1 else if e = true then (if n + a = u * 10 ^ (dpF n u).toNat then dpF n u + 1 else dpF n u) else dpF n u)
  else (if u < (n + a) * 10 ^ (0 - dpF n u).toNat then dpF n u + 1 else if e = true then (if (n + a) * 10 ^ (0 - dpF n u).toNat = u then dpF n u + 1 else dpF n u) else dpF n u)
theorem fpF_range {n a u : Int} {e : Bool} (hx : Bd 1200 n) (hy : Bd 1200 u) : -1201 ≤ fpF n a u e ∧ fpF n a u e ≤ 1203 := by
  have h5 := dpF_range hx hy
  unfold fpF
  (repeat' split) <;> omega
theorem firstPlace_c (w : World) (n y z : Int) (e : Bool) (t u v : Tok) : Ok w 2 351 [.int n t, .int y u, .int z v, .bool e] (0 ≤ n ∧ Bd 1200 n ∧ 0 ≤ y ∧ Bd 1200 y ∧ 1 ≤ z ∧ Bd 1200 z) (outI (fpF n y z e)) := by
  (w_on; dsimp only [Ok, OkH]; k_fill; intro p loose mean mg mb dp un gd cn cs a ccd cl outer A₀ base h₀ L m s Q E hB hF hX hT hcs hpre hdp hun hret; refine wpAny_call ?_; k_dflt (refine Mine.enter hB hF hX hT (by exact rfl) (by exact rfl) (by assumption) (by k_is) (by k_is) (by ktr_room) (by exact BindsTo.of_eq rfl) (by exact locs rfl) ?_ (by exact rfl) (by exact rfl) (by exact rfl) (by decide)); k_whole; intro L' h' F' N' B' X' T'; (try dsimp only); (try k_fold))
  obtain ⟨h1, h2, h3, h4, h5, h6⟩ := hpre
  obtain ⟨h7, h8⟩ := dpF_range h2 h6
  have h9 : Bd 1201 (n + y) := Bd.add h2 h4
  walk_at "mine go"
  all_goals (refine endI hret ?_; unfold fpF; (repeat' split) <;> first | rfl | contradiction | (exfalso; simp_all; done))
end
end
end Mine
namespace Mine
section
-- what the four of the scaled are
theorem scQ_bd {m p a b : Int} (ha : Bd 3 a) (hb : Bd 3 b) : Bd 3 (scQ m p a b) := by
  unfold scQ
  (repeat' split) <;> assumption
theorem scQ_pos {m p a b : Int} (ha : 1 ≤ a) (hb : 1 ≤ b) : 1 ≤ scQ m p a b := by
  unfold scQ
  (repeat' split) <;> assumption
theorem bd4 : Bd 3 4 := by unfold Bd; decide
theorem bd2 : Bd 3 2 := by unfold Bd; decide
theorem bd1 : Bd 3 1 := by unfold Bd; decide
theorem scN_facts {m p : Int} (h : 0 ≤ m) (hm : Bd 53 m) (h1 : -1074 ≤ p) (h2 : p ≤ 972) : 0 ≤ scN m p ∧ Bd 1200 (scN m p) := by
  have q := scQ_bd (m := m) (p := p) bd4 bd2
  have q1 := scQ_pos (m := m) (p := p) (a := 4) (b := 2) (by decide) (by decide)
  have q2 : 0 ≤ m * scQ m p 4 2 := Int.mul_nonneg h (by omega)
  unfold scN
  split
  · exact ⟨mul_pow_nonneg _ q2, (Bd.shift (N := 972) (hm.mul q) h2).mono (by decide)⟩
  · exact ⟨q2, (hm.mul q).mono (by decide)⟩
theorem scA_facts {m p : Int} (h1 : -1074 ≤ p) (h2 : p ≤ 972) : 1 ≤ scA m p ∧ Bd 1200 (scA m p) := by
  have q := scQ_bd (m := m) (p := p) bd2 bd1
  have q1 := scQ_pos (m := m) (p := p) (a := 2) (b := 1) (by decide) (by decide)
  unfold scA
  split
  · exact ⟨mul_pow_pos _ q1, (Bd.shift (N := 972) q h2).mono (by decide)⟩
  · exact ⟨q1, q.mono (by decide)⟩
theorem scB_facts {p : Int} (h1 : -1074 ≤ p) (h2 : p ≤ 972) : 1 ≤ scB p ∧ Bd 1200 (scB p) := by
  unfold scB
  split
  · exact ⟨mul_pow_pos _ (by decide), (Bd.shift (N := 972) bd1 h2).mono (by decide)⟩
  · exact ⟨by decide, bd1.mono (by decide)⟩
theorem scU_facts {m p : Int} (h1 : -1074 ≤ p) (h2 : p ≤ 972) : 1 ≤ scU m p ∧ Bd 1200 (scU m p) := by
  have q := scQ_bd (m := m) (p := p) bd4 bd2
  have q1 := scQ_pos (m := m) (p := p) (a := 4) (b := 2) (by decide) (by decide)
  unfold scU
  split
  · exact ⟨q1, q.mono (by decide)⟩
  · exact ⟨mul_pow_pos _ q1, (Bd.shift (N := 1074) q (by omega)).mono (by decide)⟩
-- the decimal place is right
theorem toString_len_le {x : Int} {k : Nat} (hx : 0 ≤ x) (hk : 0 < k) : (toString x).length ≤ k ↔ x < 10 ^ k := by
  obtain ⟨n, rfl⟩ := Int.eq_ofNat_of_zero_le hx
  have e : toString ((n : Int)) = Nat.repr n := rfl
  rw [e, Nat.length_repr_le_iff hk]
  have e2 : ((10 : Int) ^ k) = ((10 ^ k : Nat) : Int) := by simp
  rw [e2]
  omega
theorem dl_eq (x : Int) : dl x = ((toString x).length : Int) := by
  unfold dl
  rw [PySem.ofString_length]
theorem dl_pos {x : Int} (hx : 0 ≤ x) : 1 ≤ dl x := by
  rw [dl_eq]
  obtain ⟨n, rfl⟩ := Int.eq_ofNat_of_zero_le hx
  have e : toString ((n : Int)) = Nat.repr n := rfl
  rw [e]
  have h : 0 < (Nat.repr n).length := Nat.length_repr_pos
  omega
theorem lt_dl {x : Int} (hx : 0 ≤ x) : x < 10 ^ (dl x).toNat := by
  have h1 := dl_pos hx
  rw [dl_eq] at *
  exact (toString_len_le hx (by omega)).mp (by omega)
theorem dl_le {x : Int} (hx : 1 ≤ x) : 10 ^ (dl x - 1).toNat ≤ x := by
  have h1 := dl_pos (x := x) (by omega)
  by_cases h : dl x = 1
  · rw [h]; simpa using hx
  · rcases Int.lt_or_le x (10 ^ (dl x - 1).toNat) with q | q
    · have h2 := (toString_len_le (x := x) (by omega) (k := (dl x - 1).toNat) (by omega)).mpr q
      rw [dl_eq] at h1 h h2
      omega
    · exact q
theorem pow10_add (a b : Nat) : (10 : Int) ^ (a + b) = 10 ^ a * 10 ^ b := Int.pow_add ..
theorem pow10_mono {a b : Nat} (h : a ≤ b) : (10 : Int) ^ a ≤ 10 ^ b := by
  have e : b = a + (b - a) := by omega
  rw [e, pow10_add]
  have h1 := pow10_pos (b - a)
  have h2 := pow10_pos a
  have h3 : (10 : Int) ^ a * 1 ≤ 10 ^ a * 10 ^ (b - a) := Int.mul_le_mul_of_nonneg_left h1 (by omega)
  omega
/-- x < y * 10 ^ d, where d may lie below nought -/
def Under (x y d : Int) : Prop := if 0 ≤ d then x < y * 10 ^ d.toNat else x * 10 ^ (0 - d).toNat < y
theorem dpF_under {x y : Int} (hx : 0 ≤ x) (hy : 1 ≤ y) : Under x y (dpF x y) := by
  have a1 := lt_dl hx
  have a2 := dl_le hy
  have a3 := dl_pos hx
  have a4 := dl_pos (x := y) (by omega)
  unfold dpF
  split
  · split
    · unfold Under
      rw [if_pos (by omega)]
      have e : (dl x).toNat = (dl y - 1).toNat + (dl x - dl y + 1).toNat := by omega
      rw [e, pow10_add] at a1
      have p := pow10_pos (dl x - dl y + 1).toNat
      have q := Int.mul_le_mul_of_nonneg_right a2 (show (0 : Int) ≤ 10 ^ (dl x - dl y + 1).toNat by omega)
      omega
    · unfold Under
      rw [if_pos (by assumption)]
      omega
  · split
    · unfold Under
      split
      · rename_i h1 h2 h3
        have e0 : dl x - dl y + 1 = 0 := by omega
        rw [e0]
        have e : (dl x).toNat = (dl y - 1).toNat := by omega
        rw [e] at a1
        simpa using (by omega : x < y)
      · have e : (dl y - 1).toNat = (dl x).toNat + (0 - (dl x - dl y + 1)).toNat := by omega
        rw [e, pow10_add] at a2
        have p := pow10_pos (0 - (dl x - dl y + 1)).toNat
        have q := Int.mul_lt_mul_of_pos_right a1 (show (0 : Int) < 10 ^ (0 - (dl x - dl y + 1)).toNat by omega)
        omega
    · unfold Under
      rw [if_neg (by assumption)]
      omega
theorem Under.up {x y d : Int} (hx : 0 ≤ x) (hy : 1 ≤ y) (h : Under x y d) : Under x y (d + 1) := by
  unfold Under at *
  split at h
  · rw [if_pos (by omega)]
    have e : (d + 1).toNat = d.toNat + 1 := by omega
    have m := pow10_mono (a := d.toNat) (b := d.toNat + 1) (by omega)
    have q := Int.mul_le_mul_of_nonneg_left m (show 0 ≤ y by omega)
    rw [e]
    omega
  · split
    · have e0 : d = -1 := by omega
      subst e0
      have e : (0 - (-1 : Int)).toNat = 1 := by decide
      rw [e] at h
      simp
      omega
    · have e : (0 - d).toNat = (0 - (d + 1)).toNat + 1 := by omega
      have m := pow10_mono (a := (0 - (d + 1)).toNat) (b := (0 - (d + 1)).toNat + 1) (by omega)
      have q := Int.mul_le_mul_of_nonneg_left m hx
      rw [e] at h
      omega
theorem fpF_under {n a u : Int} {e : Bool} (hn : 0 ≤ n) (hu : 1 ≤ u) : Under n u (fpF n a u e) := by
  have h := dpF_under hn hu
  have h2 := h.up hn hu
  unfold fpF
  (repeat' split) <;> assumption
end
end Mine
namespace Mine
section
def lfF (x y z : Int) (l h : Bool) : Int :=
  if l = true then (if h = true then (if 2 * y = z then x + x.fmod 2 else x + if decide (z < 2 * y) = true then 1 else 0) else x + if h = true then 1 else 0) else x + if h = true then 1 else 0
theorem lastFig_c (w : World) (x y z : Int) (l h : Bool) (t u v : Tok) : Ok w 1 365 [.int x t, .int y u, .int z v, .bool l, .bool h] (Bd 6200 x ∧ Bd 6200 y) (outI (lfF x y z l h)) := by
  (w_on; dsimp only [Ok, OkH]; k_fill; intro p loose mean mg mb dp un gd cn cs a ccd cl outer A₀ base h₀ L m s Q E hB hF hX hT hcs hpre hdp hun hret; refine wpAny_call ?_; k_dflt (refine Mine.enter hB hF hX hT (by exact rfl) (by exact rfl) (by assumption) (by k_is) (by k_is) (by ktr_room) (by exact BindsTo.of_eq rfl) (by exact locs rfl) ?_ (by exact rfl) (by exact rfl) (by exact rfl) (by decide)); k_whole; intro L' h' F' N' B' X' T'; (try dsimp only); (try k_fold))
  obtain ⟨h1, h2⟩ := hpre
  walk_at "mine go"
  all_goals (refine endI hret ?_; unfold lfF; (repeat' split) <;> first | rfl | contradiction | (exfalso; simp_all; done))
end
end Mine
namespace Mine
section
def seF (x : Int) : Str := (if x < 0 then Str.ofString "e" ++ Str.ofString "-" else Str.ofString "e" ++ Str.ofString "+") ++ Str.ofString (toString (if x < 0 then -x else x))
theorem seF_len {x : Int} (h : Bd 64 x) : (seF x).length ≤ 67 := by
  have hl := txt_len (Bd.abs h) (by decide)
  have e1 : (Str.ofString "e" ++ Str.ofString "-").length = 2 := by decide +kernel
  have e2 : (Str.ofString "e" ++ Str.ofString "+").length = 2 := by decide +kernel
  have key : ∀ q : Str, q.length ≤ 65 → ((if x < 0 then Str.ofString "e" ++ Str.ofString "-" else Str.ofString "e" ++ Str.ofString "+") ++ q).length ≤ 67 := by
    intro q hq
    rw [Str.length_append]
    split <;> omega
  exact key _ hl
local macro_rules | `(tactic| walk_at "mine pad") => `(tactic| fail)
theorem signedExp_c (w : World) (x : Int) (t : Tok) : Ok w 1 372 [.int x t] (Bd 64 x) (outS (seF x)) := by
  (w_on; dsimp only [Ok, OkH]; k_fill; intro p loose mean mg mb dp un gd cn cs a ccd cl outer A₀ base h₀ L m s Q E hB hF hX hT hcs hpre hdp hun hret; refine wpAny_call ?_; k_dflt (refine Mine.enter hB hF hX hT (by exact rfl) (by exact rfl) (by assumption) (by k_is) (by k_is) (by ktr_room) (by exact BindsTo.of_eq rfl) (by exact locs rfl) ?_ (by exact rfl) (by exact rfl) (by exact rfl) (by decide)); k_whole; intro L' h' F' N' B' X' T'; (try dsimp only); (try k_fold))
  have hl := txt_len (Bd.abs hpre) (by decide)
  walk_at "mine go"
  all_goals first
    | exact endS hret (congrArg (· ++ _) (if_pos (by assumption)).symm)
    | exact endS hret (congrArg (· ++ _) (if_neg (by assumption)).symm)
local macro_rules | `(tactic| walk_at "call ref") => `(tactic| (k_here; k_dflt (refine' Mine.useS (signedExp_c _ _ _) ?_ ?_ ?_ ?_ ?_ ?_ ?_ ?_ ?_ ?_); walk_at "mine sides"))
def weF (x : Str) (y : Int) : Str := Txt.slice x none (some 1) ++ (if 1 < (x.length : Int) then Str.ofString "." ++ Txt.slice x (some 1) none else Str.ofString "") ++ seF y
theorem weF_len {x : Str} {y : Int} (h : Bd 64 y) (hx : x.length ≤ 70000) : (weF x y).length ≤ 140070 := by
  have h1 := seF_len h
  have h2 := PyProof.Txt.length_slice_le x none (some 1)
  have h3 := PyProof.Txt.length_slice_le x (some 1) none
  have e1 : (Str.ofString ".").length = 1 := by decide +kernel
  have e2 : (Str.ofString "").length = 0 := by decide +kernel
  unfold weF
  rw [Str.length_append, Str.length_append]
  split
  · rw [Str.length_append]; omega
  · omega
theorem withExp_c (w : World) (x : Str) (y : Int) (t u : Tok) : Ok w 2 379 [.str x t, .int y u] (Bd 64 y ∧ x.length ≤ 70000) (outS (weF x y)) := by
  (w_on; dsimp only [Ok, OkH]; k_fill; intro p loose mean mg mb dp un gd cn cs a ccd cl outer A₀ base h₀ L m s Q E hB hF hX hT hcs hpre hdp hun hret; refine wpAny_call ?_; k_dflt (refine Mine.enter hB hF hX hT (by exact rfl) (by exact rfl) (by assumption) (by k_is) (by k_is) (by ktr_room) (by exact BindsTo.of_eq rfl) (by exact locs rfl) ?_ (by exact rfl) (by exact rfl) (by exact rfl) (by decide)); k_whole; intro L' h' F' N' B' X' T'; (try dsimp only); (try k_fold))
  obtain ⟨h1, h2⟩ := hpre
  have h3 := seF_len h1
  walk_at "mine go"
  all_goals first
    | exact endS hret (by unfold weF; rw [if_pos (by assumption)])
    | exact endS hret (by unfold weF; rw [if_neg (by assumption)])
local macro_rules | `(tactic| walk_at "call ref") => `(tactic| (k_here; k_dflt (refine' Mine.useS (withExp_c _ _ _ _ _) ?_ ?_ ?_ ?_ ?_ ?_ ?_ ?_ ?_ ?_); walk_at "mine sides"))
def loF (x : Str) (y : Int) : Str :=
  if (x.length : Int) ≤ y ∧ y ≤ 21 then x ++ Txt.mul (Str.ofString "0") (y - x.length)
  else if 0 < y ∧ y ≤ 21 then Txt.slice x none (some y) ++ Str.ofString "." ++ Txt.slice x (some y) none
  else if -6 < y ∧ y ≤ 0 then Str.ofString "0." ++ Txt.mul (Str.ofString "0") (0 - y) ++ x
  else weF x (y - 1)
theorem laidOut_c (w : World) (x : Str) (y : Int) (t u : Tok) : Ok w 3 386 [.str x t, .int y u] (Bd 60 y ∧ x.length ≤ 70000) (outS (loF x y)) := by
  (w_on; dsimp only [Ok, OkH]; k_fill; intro p loose mean mg mb dp un gd cn cs a ccd cl outer A₀ base h₀ L m s Q E hB hF hX hT hcs hpre hdp hun hret; refine wpAny_call ?_; k_dflt (refine Mine.enter hB hF hX hT (by exact rfl) (by exact rfl) (by assumption) (by k_is) (by k_is) (by ktr_room) (by exact BindsTo.of_eq rfl) (by exact locs rfl) ?_ (by exact rfl) (by exact rfl) (by exact rfl) (by decide)); k_whole; intro L' h' F' N' B' X' T'; (try dsimp only); (try k_fold))
  obtain ⟨h1, h2⟩ := hpre
  have h3 : Bd 64 (y - 1) := by unfold Bd at *; omega
  walk_at "mine go"
  all_goals (refine endS hret ?_; unfold loF; (repeat' split) <;> first | rfl | (exfalso; omega))
end
end Mine
namespace Mine
section
def loN (n p : Int) : Int := if 0 ≤ p then n else n * 10 ^ (0 - p).toNat
def loU (u p : Int) : Int := if 0 ≤ p then u * 10 ^ p.toNat else u
def shE (x : Int) : Bool := (pM x).fmod 2 == 0
def shP (x : Int) : Int := fpF (scN (pM x) (pP x)) (scA (pM x) (pP x)) (scU (pM x) (pP x)) (shE x)
def shN (x : Int) : Int := loN (scN (pM x) (pP x)) (shP x)
def shA (x : Int) : Int := loN (scA (pM x) (pP x)) (shP x)
def shB (x : Int) : Int := loN (scB (pP x)) (shP x)
def shU (x : Int) : Int := loU (scU (pM x) (pP x)) (shP x)
structure Join4 (v1 v2 v3 v4 : Int) (h₀ : Heap) (L : Addr) (m : Str → Option Value) (news : List (Addr × Obj)) (s : Shared) (f : Flow) (s' : Shared) : Prop where
  at_ : f = .next ∧ ∃ (h' : Heap) (tk' : Nat) (t1 t2 t3 t4 : Tok) (m' : Str → Option Value), s' = { s with heap := h', toks := tk' } ∧ Fr h₀ L h' m' ∧ News h₀ L h' news ∧
    m' (Str.ofString "number") = some (.int v1 t1) ∧ m' (Str.ofString "above") = some (.int v2 t2) ∧ m' (Str.ofString "below") = some (.int v3 t3) ∧ m' (Str.ofString "unit") = some (.int v4 t4) ∧
    ∀ z, z ≠ Str.ofString "number" → z ≠ Str.ofString "above" → z ≠ Str.ofString "below" → z ≠ Str.ofString "unit" → z ≠ Str.ofString "factor" → m' z = m z
theorem join4_end {v1 v2 v3 v4 w1 w2 w3 w4 : Int} {t1 t2 t3 t4 : Tok} {h₀ : Heap} {L : Addr} {m m' : Str → Option Value} {news news' : List (Addr × Obj)} {s : Shared} {h' : Heap} {tk' : Nat}
    (F : Fr h₀ L h' m') (N : News h₀ L h' news') (hn : ∀ p ∈ news, p ∈ news') (e1 : m' (Str.ofString "number") = some (.int w1 t1)) (e2 : m' (Str.ofString "above") = some (.int w2 t2)) (e3 : m' (Str.ofString "below") = some (.int w3 t3)) (e4 : m' (Str.ofString "unit") = some (.int w4 t4))
    (e : ∀ z, z ≠ Str.ofString "number" → z ≠ Str.ofString "above" → z ≠ Str.ofString "below" → z ≠ Str.ofString "unit" → z ≠ Str.ofString "factor" → m' z = m z) (q1 : w1 = v1) (q2 : w2 = v2) (q3 : w3 = v3) (q4 : w4 = v4) :
    Join4 v1 v2 v3 v4 h₀ L m news s .next { s with heap := h', toks := tk' } := by
  subst q1; subst q2; subst q3; subst q4
  exact ⟨rfl, h', tk', t1, t2, t3, t4, m', rfl, F, fun p hp => N p (hn p hp), e1, e2, e3, e4, e⟩
theorem join4 {M : Model} {A : Around} {E : Value → Shared → Prop} {s : Shared} {env : Env} {st : Stmt} {h₀ : Heap} {L : Addr} {m : Str → Option Value} {news : List (Addr × Obj)} {Q : Flow → Shared → Prop} {n a b u p : Int} {t1 t2 t3 t4 t5 : Tok} (v1 v2 v3 v4 : Int) (q1 : loN n p = v1) (q2 : loN a p = v2) (q3 : loN b p = v3) (q4 : loU u p = v4)
    (F : Fr h₀ L s.heap m) (N : News h₀ L s.heap news) (hx : m (Str.ofString "number") = some (.int n t1)) (hy : m (Str.ofString "above") = some (.int a t2)) (hz : m (Str.ofString "below") = some (.int b t3)) (hu : m (Str.ofString "unit") = some (.int u t4)) (hp : m (Str.ofString "place") = some (.int p t5))
    (hA : wpAny M A (exec st env) (fun f s' => Join4 v1 v2 v3 v4 h₀ L m [] s f s') E s)
    (hk : ∀ h' tk' t1 t2 t3 t4 (fct : Option Value), Fr h₀ L h' (fun w => if w = Str.ofString "number" then some (.int v1 t1) else if w = Str.ofString "above" then some (.int v2 t2) else if w = Str.ofString "below" then some (.int v3 t3) else if w = Str.ofString "unit" then some (.int v4 t4) else if w = Str.ofString "factor" then fct else m w) → News h₀ L h' [] → Q .next { s with heap := h', toks := tk' }) :
    wpAny M A (exec st env) Q E s := by
  subst q1; subst q2; subst q3; subst q4
  refine wpAny_mono hA (fun f s' hj => ?_) fun _ _ e => e
  obtain ⟨rfl, h', tk', t1, t2, t3, t4, m', rfl, F', N', e1, e2, e3, e4, e5⟩ := hj.at_
  refine hk h' tk' t1 t2 t3 t4 (m' (Str.ofString "factor")) ?_ N'
  have e : m' = fun w => if w = Str.ofString "number" then some (.int (loN n p) t1) else if w = Str.ofString "above" then some (.int (loN a p) t2) else if w = Str.ofString "below" then some (.int (loN b p) t3) else if w = Str.ofString "unit" then some (.int (loU u p) t4) else if w = Str.ofString "factor" then m' (Str.ofString "factor") else m w := by
    funext w
    by_cases h1 : w = Str.ofString "number"
    · rw [if_pos h1, h1, e1]
    · rw [if_neg h1]
      by_cases h2 : w = Str.ofString "above"
      · rw [if_pos h2, h2, e2]
      · rw [if_neg h2]
        by_cases h3 : w = Str.ofString "below"
        · rw [if_pos h3, h3, e3]
        · rw [if_neg h3]
          by_cases h4 : w = Str.ofString "unit"
          · rw [if_pos h4, h4, e4]
          · rw [if_neg h4]
            by_cases h5 : w = Str.ofString "factor"
            · rw [if_pos h5, h5]
            · rw [if_neg h5, e5 w h1 h2 h3 h4 h5]
  exact e ▸ F'
structure J4 (n a b u p v1 v2 v3 v4 : Int) : Prop where
  q1 : loN n p = v1
  q2 : loN a p = v2
  q3 : loN b p = v3
  q4 : loU u p = v4
theorem join4J {M : Model} {A : Around} {E : Value → Shared → Prop} {s : Shared} {env : Env} {st : Stmt} {h₀ : Heap} {L : Addr} {m : Str → Option Value} {news : List (Addr × Obj)} {Q : Flow → Shared → Prop} {n a b u p v1 v2 v3 v4 : Int} {t1 t2 t3 t4 t5 : Tok} (J : J4 n a b u p v1 v2 v3 v4)
    (F : Fr h₀ L s.heap m) (N : News h₀ L s.heap news) (hx : m (Str.ofString "number") = some (.int n t1)) (hy : m (Str.ofString "above") = some (.int a t2)) (hz : m (Str.ofString "below") = some (.int b t3)) (hu : m (Str.ofString "unit") = some (.int u t4)) (hp : m (Str.ofString "place") = some (.int p t5))
    (hA : wpAny M A (exec st env) (fun f s' => Join4 v1 v2 v3 v4 h₀ L m [] s f s') E s)
    (hk : ∀ h' tk' t1 t2 t3 t4 (fct : Option Value), Fr h₀ L h' (fun w => if w = Str.ofString "number" then some (.int v1 t1) else if w = Str.ofString "above" then some (.int v2 t2) else if w = Str.ofString "below" then some (.int v3 t3) else if w = Str.ofString "unit" then some (.int v4 t4) else if w = Str.ofString "factor" then fct else m w) → News h₀ L h' [] → Q .next { s with heap := h', toks := tk' }) :
    wpAny M A (exec st env) Q E s := join4 v1 v2 v3 v4 J.q1 J.q2 J.q3 J.q4 F N hx hy hz hu hp hA hk
structure JoinB (v : Bool) (h₀ : Heap) (L : Addr) (m : Str → Option Value) (news : List (Addr × Obj)) (s : Shared) (r : Value) (s' : Shared) : Prop where
  at_ : r = .bool v ∧ ∃ (h' : Heap) (tk' : Nat), s' = { s with heap := h', toks := tk' } ∧ Fr h₀ L h' m ∧ News h₀ L h' news
theorem joinB_end {v w : Bool} {h₀ h' : Heap} {L : Addr} {m : Str → Option Value} {news : List (Addr × Obj)} {s : Shared} {tk' : Nat} (F : Fr h₀ L h' m) (N : News h₀ L h' news) (e : w = v) :
    JoinB v h₀ L m news s (.bool w) { s with heap := h', toks := tk' } := ⟨by rw [e], h', tk', rfl, F, N⟩
structure JMarkB : Prop where
theorem jMarkB : JMarkB := JMarkB.mk
def Stop (P : Prop) : Prop := P
theorem stopHere {P : Prop} (h : Stop P) : P := h
/-- the end of a turn of the loop over the figures -/
structure ShEnd (l : Addr) (vu : Int) (P : List Str → Int → Int → Int → Prop) (h₀ : Heap) (L : Addr) (m₀ : Str → Option Value) (s : Shared) (b : Int) (s' : Shared) : Prop where
  at_ : ∃ (h' : Heap) (tk' : Nat) (m' : Str → Option Value) (news' : List (Addr × Obj)) (vals' : List Value) (out' : List Str) (n' a' b' : Int) (c' : Nat) (t1 t2 t3 : Tok),
    s' = { s with heap := h', toks := tk' } ∧ Fr h₀ L h' m' ∧ News h₀ L h' news' ∧ (l, W.listOf vals'.toArray c') ∈ news' ∧ StrsAre vals' out' ∧
    m' (Str.ofString "number") = some (.int n' t1) ∧ m' (Str.ofString "above") = some (.int a' t2) ∧ m' (Str.ofString "below") = some (.int b' t3) ∧
    (∀ z, z ≠ Str.ofString "number" → z ≠ Str.ofString "above" → z ≠ Str.ofString "below" → z ≠ Str.ofString "figure" → z ≠ Str.ofString "is_low" → z ≠ Str.ofString "is_high" → m' z = m₀ z) ∧
    P out' n' a' b' ∧ (vu - b').toNat < (vu - b).toNat
def ShPost (l : Addr) (vu : Int) (P : List Str → Int → Int → Int → Prop) (h₀ : Heap) (L : Addr) (m₀ : Str → Option Value) (s : Shared) (b : Int) (Q : Flow → Shared → Prop) (f : Flow) (s' : Shared) : Prop :=
  match f with
  | .ret v => Q (.ret v) s'
  | .brk => Q .next s'
  | _ => ShEnd l vu P h₀ L m₀ s b s'
theorem shW {prog : Program} {w : World} {A : Around} {E : Value → Shared → Prop} {Q : Flow → Shared → Prop} {s : Shared} {env : Env} {h₀ : Heap} {L : Addr} {test : PySem.Expr} {body : List Stmt} {pos : Pos} {m₀ : Str → Option Value}
    {l : Addr} {vn va vb vu vp : Int} {e : Bool} {t1 t2 t3 t4 t5 : Tok} (P : List Str → Int → Int → Int → Prop)
    (F : Fr h₀ L s.heap m₀) (N : News h₀ L s.heap [(l, W.listOf #[] 0)])
    (e1 : m₀ (Str.ofString "number") = some (.int vn t1)) (e2 : m₀ (Str.ofString "above") = some (.int va t2)) (e3 : m₀ (Str.ofString "below") = some (.int vb t3)) (e4 : m₀ (Str.ofString "unit") = some (.int vu t4))
    (e5 : m₀ (Str.ofString "place") = some (.int vp t5)) (e6 : m₀ (Str.ofString "is_even") = some (.bool e)) (e7 : m₀ (Str.ofString "found") = some (.ref l))
    (h0 : P [] vn va vb)
    (turn : ∀ (M m₁ : Str → Option Value) (vals : List Value) (out : List Str) (n a b : Int) (c : Nat) (u1 u2 u3 : Tok) (u4 u5 u6 : Option Value) (h : Heap) (tk : Nat), M (Str.ofString "unit") = some (.int vu t4) → M (Str.ofString "place") = some (.int vp t5) → M (Str.ofString "is_even") = some (.bool e) → M (Str.ofString "found") = some (.ref l) → StrsAre vals out → P out n a b →
      (∀ z, z ≠ Str.ofString "number" → z ≠ Str.ofString "above" → z ≠ Str.ofString "below" → z ≠ Str.ofString "figure" → z ≠ Str.ofString "is_low" → z ≠ Str.ofString "is_high" → m₁ z = M z) →
      Fr h₀ L h (fun z => if z = Str.ofString "number" then some (.int n u1) else if z = Str.ofString "above" then some (.int a u2) else if z = Str.ofString "below" then some (.int b u3) else if z = Str.ofString "figure" then u4 else if z = Str.ofString "is_low" then u5 else if z = Str.ofString "is_high" then u6 else
        if z = Str.ofString "unit" then some (.int vu t4) else if z = Str.ofString "place" then some (.int vp t5) else if z = Str.ofString "is_even" then some (.bool e) else if z = Str.ofString "found" then some (.ref l) else M z) → News h₀ L h [(l, W.listOf vals.toArray c)] →
      wpAny (model prog w) A (isTrue test env (eval test env)) (fun bb s₂ =>
        if bb = true then wpAny (model prog w) A (execs body env) (ShPost l vu P h₀ L M s b Q) E s₂ else Q .next s₂) E { s with heap := h, toks := tk })
    (hE : PassesOwn (model prog w) A env E := by passes_own) :
    wpAny (model prog w) A (exec (.While test body [] pos) env) Q E s := by
  refine While_inv2 (fun k m nx => ∃ (vals : List Value) (out : List Str) (n a b : Int) (c : Nat) (u1 u2 u3 : Tok), nx = [(l, W.listOf vals.toArray c)] ∧ StrsAre vals out ∧
    m (Str.ofString "number") = some (.int n u1) ∧ m (Str.ofString "above") = some (.int a u2) ∧ m (Str.ofString "below") = some (.int b u3) ∧
    (∀ z, z ≠ Str.ofString "number" → z ≠ Str.ofString "above" → z ≠ Str.ofString "below" → z ≠ Str.ofString "figure" → z ≠ Str.ofString "is_low" → z ≠ Str.ofString "is_high" → m z = m₀ z) ∧ P out n a b ∧ k = (vu - b).toNat) (n₀ := (vu - vb).toNat) F N
    ⟨[], [], vn, va, vb, 0, t1, t2, t3, rfl, StrsAre.nil, e1, e2, e3, fun _ _ _ _ _ _ _ => rfl, h0, rfl⟩ ?_ hE
  rintro k m₁ nx h tk F₁ N₁ ⟨vals, out, n, a, b, c, u1, u2, u3, rfl, hv, q1, q2, q3, q4, hP, rfl⟩
  have em : m₁ = (fun z => if z = Str.ofString "number" then some (.int n u1) else if z = Str.ofString "above" then some (.int a u2) else if z = Str.ofString "below" then some (.int b u3) else if z = Str.ofString "figure" then m₁ (Str.ofString "figure") else if z = Str.ofString "is_low" then m₁ (Str.ofString "is_low") else if z = Str.ofString "is_high" then m₁ (Str.ofString "is_high") else
        if z = Str.ofString "unit" then some (.int vu t4) else if z = Str.ofString "place" then some (.int vp t5) else if z = Str.ofString "is_even" then some (.bool e) else if z = Str.ofString "found" then some (.ref l) else m₀ z) := by
    funext z
    by_cases k1 : z = Str.ofString "number"
    · rw [if_pos k1, k1, q1]
    rw [if_neg k1]
    by_cases k2 : z = Str.ofString "above"
    · rw [if_pos k2, k2, q2]
    rw [if_neg k2]
    by_cases k3 : z = Str.ofString "below"
    · rw [if_pos k3, k3, q3]
    rw [if_neg k3]
    by_cases k4 : z = Str.ofString "figure"
    · rw [if_pos k4, k4]
    rw [if_neg k4]
    by_cases k5 : z = Str.ofString "is_low"
    · rw [if_pos k5, k5]
    rw [if_neg k5]
    by_cases k6 : z = Str.ofString "is_high"
    · rw [if_pos k6, k6]
    rw [if_neg k6, q4 z k1 k2 k3 k4 k5 k6]
    by_cases k7 : z = Str.ofString "unit"
    · rw [if_pos k7, k7, e4]
    rw [if_neg k7]
    by_cases k8 : z = Str.ofString "place"
    · rw [if_pos k8, k8, e5]
    rw [if_neg k8]
    by_cases k9 : z = Str.ofString "is_even"
    · rw [if_pos k9, k9, e6]
    rw [if_neg k9]
    by_cases k10 : z = Str.ofString "found"
    · rw [if_pos k10, k10, e7]
    rw [if_neg k10]
  have F₂ := F₁
  rw [em] at F₂
  refine wpAny_mono (turn m₀ m₁ vals out n a b c u1 u2 u3 _ _ _ h tk e4 e5 e6 e7 hv hP q4 F₂ N₁) (fun bb s₂ p => ?_) fun _ _ x => x
  cases bb with
  | false => simpa using p
  | true =>
    simp only [if_true] at p ⊢
    refine wpAny_mono p (fun f s₃ q => ?_) fun _ _ x => x
    have key : ShEnd l vu P h₀ L m₀ s b s₃ → WhileStep2 h₀ L s (fun k m nx => ∃ (vals : List Value) (out : List Str) (n a b : Int) (c : Nat) (u1 u2 u3 : Tok), nx = [(l, W.listOf vals.toArray c)] ∧ StrsAre vals out ∧
    m (Str.ofString "number") = some (.int n u1) ∧ m (Str.ofString "above") = some (.int a u2) ∧ m (Str.ofString "below") = some (.int b u3) ∧
    (∀ z, z ≠ Str.ofString "number" → z ≠ Str.ofString "above" → z ≠ Str.ofString "below" → z ≠ Str.ofString "figure" → z ≠ Str.ofString "is_low" → z ≠ Str.ofString "is_high" → m z = m₀ z) ∧ P out n a b ∧ k = (vu - b).toNat) Q (vu - b).toNat .next s₃ := by
      rintro ⟨h', tk', m', news', vals', out', n', a', b', c', w1, w2, w3, rfl, F', N', hm, hv', x1, x2, x3, x4, hP', hlt⟩
      exact ⟨h', tk', m', [(l, W.listOf vals'.toArray c')], (vu - b').toNat, rfl, F', fun p hp => by rw [List.mem_singleton.mp hp]; exact N' _ hm, hlt, vals', out', n', a', b', c', w1, w2, w3, rfl, hv', x1, x2, x3, x4, hP', rfl⟩
    cases f with
    | ret v => exact q
    | brk => exact q
    | next => exact key q
    | cont => exact key q
structure JMark4 : Prop where
theorem jMark4 : JMark4 := JMark4.mk
def Pw (k : Nat) (b : Int) : Prop := 8 ^ k ≤ b
def Short (l : List Str) : Prop := ∀ q ∈ l, q.length ≤ 7
def lowF (n b : Int) (e : Bool) : Bool := decide (n < b) || (e && decide (n = b))
def highF (n a u : Int) (e : Bool) : Bool := decide (u < n + a) || (e && decide (n + a = u))
def Gl (u : Int) (e : Bool) (n a b : Int) : List Str :=
  if lowF ((n * 10).fmod u) (b * 10) e = true ∨ highF ((n * 10).fmod u) (a * 10) u e = true then
    [Str.ofString (toString (lfF ((n * 10).fdiv u) ((n * 10).fmod u) u (lowF ((n * 10).fmod u) (b * 10) e) (highF ((n * 10).fmod u) (a * 10) u e)))]
  else if h : (u - b * 10).toNat < (u - b).toNat then Str.ofString (toString ((n * 10).fdiv u)) :: Gl u e ((n * 10).fmod u) (a * 10) (b * 10)
  else []
termination_by (u - b).toNat
theorem loN_facts {n p : Int} (h : 0 ≤ n) (hb : Bd 1200 n) (hp : -1201 ≤ p) : 0 ≤ loN n p ∧ Bd 6100 (loN n p) := by
  unfold loN
  split
  · exact ⟨h, hb.mono (by decide)⟩
  · exact ⟨Int.mul_nonneg h (by have := pow10_pos (0 - p).toNat; omega), (hb.mul (Bd.pow10 (N := 1210) (by omega))).mono (by decide)⟩
theorem loN_pos {n p : Int} (h : 1 ≤ n) : 1 ≤ loN n p := by
  unfold loN
  split
  · exact h
  · exact mul_pos1 h (pow10_pos _)
theorem loU_facts {u p : Int} (h : 1 ≤ u) (hb : Bd 1200 u) (hp : p ≤ 1203) : 1 ≤ loU u p ∧ Bd 6100 (loU u p) := by
  unfold loU
  split
  · exact ⟨mul_pos1 h (pow10_pos _), (hb.mul (Bd.pow10 (N := 1210) (by omega))).mono (by decide)⟩
  · exact ⟨h, hb.mono (by decide)⟩
theorem lo_lt {n u p : Int} (h : Under n u p) : loN n p < loU u p := by
  unfold Under at h
  unfold loN loU
  by_cases hp : 0 ≤ p
  · rw [if_pos hp] at h
    rw [if_pos hp, if_pos hp]
    exact h
  · rw [if_neg hp] at h
    rw [if_neg hp, if_neg hp]
    exact h
theorem fig_bd {n u : Int} (h0 : 0 ≤ n) (h : n < u) : Bd 4 ((n * 10).fdiv u) := by
  have h1 : (n * 10).fdiv u < 10 := fdiv_lt' (by omega) (by omega) (by omega)
  have h2 : 0 ≤ (n * 10).fdiv u := fdiv_nonneg' (by omega) (by omega)
  unfold Bd
  omega
theorem fmod_rng {n u : Int} (hu : 1 ≤ u) : 0 ≤ n.fmod u ∧ n.fmod u < u := ⟨Int.fmod_nonneg_of_pos _ (by omega), Int.fmod_lt_of_pos _ (by omega)⟩
theorem fmod_bd {k : Nat} {n u : Int} (hu : 1 ≤ u) (hb : Bd k u) : Bd k (n.fmod u) := by
  have h := fmod_rng (n := n) hu
  unfold Bd at *
  omega
theorem lfF_bd {x y z : Int} {l h : Bool} (hx : Bd 4 x) : Bd 6 (lfF x y z l h) := by
  have h2 := fmod_rng (n := x) (u := 2) (by decide)
  unfold Bd at *
  unfold lfF
  (repeat' split) <;> omega
theorem short_sum : ∀ {l : List Str}, Short l → (l.map (·.length)).sum ≤ 7 * l.length
  | [], _ => by simp
  | q :: r, h => by
    have h1 := short_sum (l := r) fun z hz => h z (List.mem_cons_of_mem _ hz)
    have h2 := h q (List.mem_cons_self ..)
    simp only [List.map_cons, List.sum_cons, List.length_cons]
    omega
theorem short_join {l : List Str} {q : Str} (h : Short l) (hl : l.length ≤ 2040) (hq : q.length ≤ 7) : ((l ++ [q]).map (·.length)).sum + (l ++ [q]).length ≤ 1048576 := by
  have h1 := short_sum h
  simp only [List.map_append, List.map_cons, List.map_nil, List.sum_append, List.sum_cons, List.sum_nil, List.length_append, List.length_cons, List.length_nil]
  omega
theorem last_len {n u z : Int} {l h : Bool} (h0 : 0 ≤ n) (h1 : n < u) : (Str.ofString (toString (lfF ((n * 10).fdiv u) z u l h))).length ≤ 7 := by
  have := txt_len (lfF_bd (y := z) (z := u) (l := l) (h := h) (fig_bd h0 h1)) (by decide)
  omega
theorem joinLow {M : Model} {A : Around} {E : Value → Shared → Prop} {s : Shared} {env : Env} {ex : PySem.Expr} {h₀ : Heap} {L : Addr} {m : Str → Option Value} {news : List (Addr × Obj)} {Q : Value → Shared → Prop} {n b : Int} {e : Bool} {t1 t2 : Tok}
    (F : Fr h₀ L s.heap m) (N : News h₀ L s.heap news) (hx : m (Str.ofString "number") = some (.int n t1)) (hy : m (Str.ofString "below") = some (.int b t2)) (hz : m (Str.ofString "is_even") = some (.bool e))
    (hA : wpAny M A (eval ex env) (fun r s' => JoinB (lowF n b e) h₀ L m news s r s') E s)
    (hk : ∀ h' tk', Fr h₀ L h' m → News h₀ L h' news → Q (.bool (lowF n b e)) { s with heap := h', toks := tk' }) : wpAny M A (eval ex env) Q E s := by
  refine wpAny_mono hA (fun r s' hj => ?_) fun _ _ e => e
  obtain ⟨rfl, h', tk', rfl, F', N'⟩ := hj.at_
  exact hk h' tk' F' N'
theorem joinHigh {M : Model} {A : Around} {E : Value → Shared → Prop} {s : Shared} {env : Env} {ex : PySem.Expr} {h₀ : Heap} {L : Addr} {m : Str → Option Value} {news : List (Addr × Obj)} {Q : Value → Shared → Prop} {n a u : Int} {e : Bool} {t1 t2 t3 : Tok}
    (F : Fr h₀ L s.heap m) (N : News h₀ L s.heap news) (hx : m (Str.ofString "number") = some (.int n t1)) (hy : m (Str.ofString "above") = some (.int a t2)) (hu : m (Str.ofString "unit") = some (.int u t3)) (hz : m (Str.ofString "is_even") = some (.bool e))
    (hA : wpAny M A (eval ex env) (fun r s' => JoinB (highF n a u e) h₀ L m news s r s') E s)
    (hk : ∀ h' tk', Fr h₀ L h' m → News h₀ L h' news → Q (.bool (highF n a u e)) { s with heap := h', toks := tk' }) : wpAny M A (eval ex env) Q E s := by
  refine wpAny_mono hA (fun r s' hj => ?_) fun _ _ e => e
  obtain ⟨rfl, h', tk', rfl, F', N'⟩ := hj.at_
  exact hk h' tk' F' N'

structure ShP (vu : Int) (e : Bool) (vn va vb : Int) (out : List Str) (n a b : Int) : Prop where
  n0 : 0 ≤ n
  nu : n < vu
  a0 : 0 ≤ a
  ab : Bd 6100 a
  b0 : 1 ≤ b
  bb : Bd 6100 b
  pw : Pw out.length b
  len : out.length ≤ 2040
  sh : Short out
  eq : out ++ Gl vu e n a b = Gl vu e vn va vb
theorem pw_len {k : Nat} {b : Int} (h : Pw k b) (hb : Bd 6100 b) : k ≤ 2040 := by
  unfold Pw at h
  unfold Bd at hb
  have h1 : (8 : Int) ^ k = ((2 ^ (3 * k) : Nat) : Int) := by
    rw [Nat.pow_mul]
    simp
  rw [h1] at h
  have h2 : 2 ^ (3 * k) < 2 ^ 6100 := by
    refine Nat.lt_of_le_of_lt ?_ hb
    omega
  have h3 := (Nat.pow_lt_pow_iff_right (by decide)).mp h2
  omega
theorem sh_start {vn va vb vu : Int} {e : Bool} (h1 : 0 ≤ vn) (h2 : vn < vu) (h3 : 0 ≤ va) (h4 : Bd 6100 va) (h5 : 1 ≤ vb) (h6 : Bd 6100 vb) : ShP vu e vn va vb [] vn va vb :=
  ⟨h1, h2, h3, h4, h5, h6, by show (8 : Int) ^ 0 ≤ vb; omega, by decide, (fun _ h => nomatch h), rfl⟩
theorem fig_len {n u : Int} (h0 : 0 ≤ n) (h1 : n < u) : (Str.ofString (toString ((n * 10).fdiv u))).length ≤ 7 := by
  have := txt_len (fig_bd h0 h1) (by decide)
  omega
theorem sh_step {vn va vb vu n a b : Int} {e : Bool} {out : List Str} (p : ShP vu e vn va vb out n a b) (hu : Bd 6100 vu) (hl : ¬ lowF ((n * 10).fmod vu) (b * 10) e = true) (hh : ¬ highF ((n * 10).fmod vu) (a * 10) vu e = true) :
    ShP vu e vn va vb (out ++ [Str.ofString (toString ((n * 10).fdiv vu))]) ((n * 10).fmod vu) (a * 10) (b * 10) ∧ (vu - b * 10).toNat < (vu - b).toNat := by
  obtain ⟨n0, nu, a0, ab, b0, bb, pw, len, sh, eq⟩ := p
  have r := fmod_rng (n := n * 10) (u := vu) (by omega)
  have l1 : ¬ (n * 10).fmod vu < b * 10 := fun q => hl (by unfold lowF; simp [q])
  have l2 : ¬ vu < (n * 10).fmod vu + a * 10 := fun q => hh (by unfold highF; simp [q])
  have hm : (vu - b * 10).toNat < (vu - b).toNat := by omega
  have bA : Bd 6100 (a * 10) := by unfold Bd at *; omega
  have bB : Bd 6100 (b * 10) := by unfold Bd at *; omega
  have pw' : Pw (out ++ [Str.ofString (toString ((n * 10).fdiv vu))]).length (b * 10) := by
    unfold Pw at *
    rw [List.length_append, List.length_singleton, Int.pow_succ]
    omega
  refine ⟨⟨r.1, r.2, by omega, bA, by omega, bB, pw', pw_len pw' bB, ?_, ?_⟩, hm⟩
  · intro q hq
    rcases List.mem_append.mp hq with hq | hq
    · exact sh q hq
    · rw [List.mem_singleton.mp hq]
      exact fig_len n0 nu
  · rw [← eq, Gl.eq_def vu e n a b, if_neg (fun q => q.elim hl hh), dif_pos hm, List.append_assoc]
    rfl
theorem strs_push {vals : List Value} {out : List Str} {x : Str} {t : Tok} (h : StrsAre vals out) : StrsAre (vals.toArray.push (.str x t)).toList (out ++ [x]) := by
  rw [Array.toList_push]
  exact PyProof.Rows.StrsAre.append' h (.cons _ _ .nil)
theorem sh_last {vn va vb vu n a b : Int} {e : Bool} {out : List Str} (p : ShP vu e vn va vb out n a b) (h : lowF ((n * 10).fmod vu) (b * 10) e = true ∨ highF ((n * 10).fmod vu) (a * 10) vu e = true) :
    out ++ [Str.ofString (toString (lfF ((n * 10).fdiv vu) ((n * 10).fmod vu) vu (lowF ((n * 10).fmod vu) (b * 10) e) (highF ((n * 10).fmod vu) (a * 10) vu e)))] = Gl vu e vn va vb := by
  rw [← p.eq, Gl.eq_def vu e n a b, if_pos h]
/-- the figures' text -/
def figs (x : Int) : Str := Txt.join (Str.ofString "") (Gl (shU x) (shE x) (shN x) (shA x) (shB x))

theorem low1 {n b : Int} {e : Bool} (h : n < b) : decide (n < b) = lowF n b e := by unfold lowF; rw [decide_eq_true h]; rfl
theorem low2 {n b k : Int} (h : ¬ n < b) (hk : k = 0) : (n == b) = lowF n b (k == 0) := by
  unfold lowF
  rw [decide_eq_false h, hk]
  by_cases q : n = b <;> simp [q]
theorem low3 {n b k : Int} (h : ¬ n < b) (hk : k ≠ 0) : (k == 0) = lowF n b (k == 0) := by
  unfold lowF
  rw [decide_eq_false h]
  simp [hk]
theorem high1 {n a u : Int} {e : Bool} (h : u < n + a) : decide (u < n + a) = highF n a u e := by unfold highF; rw [decide_eq_true h]; rfl
theorem high2 {n a u k : Int} (h : ¬ u < n + a) (hk : k = 0) : (n + a == u) = highF n a u (k == 0) := by
  unfold highF
  rw [decide_eq_false h, hk]
  by_cases q : n + a = u <;> simp [q]
theorem high3 {n a u k : Int} (h : ¬ u < n + a) (hk : k ≠ 0) : (k == 0) = highF n a u (k == 0) := by
  unfold highF
  rw [decide_eq_false h]
  simp [hk]
section
variable {x : Int}
theorem shN_p (h : 0 ≤ shP x) : scN (pM x) (pP x) = shN x := (if_pos h).symm
theorem shA_p (h : 0 ≤ shP x) : scA (pM x) (pP x) = shA x := (if_pos h).symm
theorem shB_p (h : 0 ≤ shP x) : scB (pP x) = shB x := (if_pos h).symm
theorem shU_p (h : 0 ≤ shP x) : scU (pM x) (pP x) * 10 ^ (shP x).toNat = shU x := (if_pos h).symm
theorem shN_n (h : ¬ 0 ≤ shP x) : scN (pM x) (pP x) * 10 ^ (0 - shP x).toNat = shN x := (if_neg h).symm
theorem shA_n (h : ¬ 0 ≤ shP x) : scA (pM x) (pP x) * 10 ^ (0 - shP x).toNat = shA x := (if_neg h).symm
theorem shB_n (h : ¬ 0 ≤ shP x) : scB (pP x) * 10 ^ (0 - shP x).toNat = shB x := (if_neg h).symm
theorem shU_n (h : ¬ 0 ≤ shP x) : scU (pM x) (pP x) = shU x := (if_neg h).symm
end
theorem figs_end {x vn va vb vu n a b : Int} {out : List Str} (en : shN x = vn) (ea : shA x = va) (eb : shB x = vb) (eu : shU x = vu) (p : ShP vu (shE x) vn va vb out n a b)
    (h : lowF ((n * 10).fmod vu) (b * 10) (shE x) = true ∨ highF ((n * 10).fmod vu) (a * 10) vu (shE x) = true) :
    Txt.join (Str.ofString "") (out ++ [Str.ofString (toString (lfF ((n * 10).fdiv vu) ((n * 10).fmod vu) vu (lowF ((n * 10).fmod vu) (b * 10) (shE x)) (highF ((n * 10).fmod vu) (a * 10) vu (shE x))))]) = figs x := by
  rw [sh_last p h]
  unfold figs
  rw [en, ea, eb, eu]
theorem endTsi {h' : Heap} {L : Addr} {s : Shared} {Q : Value → Shared → Prop} {tk c : Nat} {T : Addr} {news : List (Addr × Obj)} {x0 y0 : Str} {x1 y1 : Int} {t0 t1 : Tok} (hret : ∀ (v : Value) (h' : Heap) (tk' : Nat), (∀ b o, s.heap.get? b = some o → h'.get? b = some o) → outT (fun ts => [.str y0 (ts 0), .int y1 (ts 1)]) s.heap h' v → Q v { s with heap := h', toks := tk' })
    (N : News s.heap L h' news) (hm : (T, ({ cls := .type "tuple", data := .seq #[.str x0 t0, .int x1 t1] c } : Obj)) ∈ news) (e0 : x0 = y0) (e1 : x1 = y1) :
    Kept s.heap h' (Q (.ref T) { s with heap := h', toks := tk }) := by
  subst e0; subst e1
  exact endT hret N hm (fun i => if i = 0 then t0 else t1) c rfl
theorem sh_end {l : Addr} {vu : Int} {P : List Str → Int → Int → Int → Prop} {h₀ h' : Heap} {L : Addr} {m₀ m' : Str → Option Value} {s : Shared} {b n' a' b' : Int} {tk' c' : Nat} {news' : List (Addr × Obj)} {vals : List Value} {out : List Str} {x : Str} {t t1 t2 t3 : Tok} {Q : Flow → Shared → Prop}
    (F : Fr h₀ L h' m') (N : News h₀ L h' news') (hm : (l, W.listOf (vals.toArray.push (.str x t)) c') ∈ news') (hv : StrsAre vals out)
    (e1 : m' (Str.ofString "number") = some (.int n' t1)) (e2 : m' (Str.ofString "above") = some (.int a' t2)) (e3 : m' (Str.ofString "below") = some (.int b' t3))
    (e : ∀ z, z ≠ Str.ofString "number" → z ≠ Str.ofString "above" → z ≠ Str.ofString "below" → z ≠ Str.ofString "figure" → z ≠ Str.ofString "is_low" → z ≠ Str.ofString "is_high" → m' z = m₀ z)
    (hp : P (out ++ [x]) n' a' b' ∧ (vu - b').toNat < (vu - b).toNat) : ShPost l vu P h₀ L m₀ s b Q .next { s with heap := h', toks := tk' } := by
  refine ⟨h', tk', m', news', vals ++ [.str x t], out ++ [x], n', a', b', c', t1, t2, t3, rfl, F, N, ?_, ?_, e1, e2, e3, e, hp.1, hp.2⟩
  · rw [List.push_toArray] at hm
    exact hm
  · exact PyProof.Rows.StrsAre.append' hv (.cons _ _ .nil)

theorem sh_rest {M : Str → Option Value} {z : Str} {v4 v5 v6 v7 : Option Value} (k4 : M (Str.ofString "unit") = v4) (k5 : M (Str.ofString "place") = v5) (k6 : M (Str.ofString "is_even") = v6) (k7 : M (Str.ofString "found") = v7) :
    (if z = Str.ofString "unit" then v4 else if z = Str.ofString "place" then v5 else if z = Str.ofString "is_even" then v6 else if z = Str.ofString "found" then v7 else M z) = M z := by
  by_cases h1 : z = Str.ofString "unit"
  · rw [if_pos h1, h1, k4]
  rw [if_neg h1]
  by_cases h2 : z = Str.ofString "place"
  · rw [if_pos h2, h2, k5]
  rw [if_neg h2]
  by_cases h3 : z = Str.ofString "is_even"
  · rw [if_pos h3, h3, k6]
  rw [if_neg h3]
  by_cases h4 : z = Str.ofString "found"
  · rw [if_pos h4, h4, k7]
  rw [if_neg h4]
end
end Mine
namespace Mine
section
theorem gl_facts (u : Int) (e : Bool) (hu : Bd 6100 u) : ∀ (m : Nat) (k : Nat) (n a b : Int), (u - b).toNat ≤ m → 0 ≤ n → n < u → 1 ≤ b → Bd 6100 b → Pw k b → (Gl u e n a b).length + k ≤ 2041 ∧ Short (Gl u e n a b) := by
  intro m
  induction m with
  | zero =>
    intro k n a b hm h0 h1 h2 h3 h4
    have hk := pw_len h4 h3
    rw [Gl.eq_def]
    split
    · refine ⟨by simp; omega, fun q hq => ?_⟩
      rw [List.mem_singleton.mp hq]
      exact last_len h0 h1
    · rw [dif_neg (by omega)]
      exact ⟨by simp; omega, fun q hq => nomatch hq⟩
  | succ m ih =>
    intro k n a b hm h0 h1 h2 h3 h4
    have hk := pw_len h4 h3
    rw [Gl.eq_def]
    split
    · refine ⟨by simp; omega, fun q hq => ?_⟩
      rw [List.mem_singleton.mp hq]
      exact last_len h0 h1
    · rename_i hno
      have r := fmod_rng (n := n * 10) (u := u) (by omega)
      have l1 : ¬ (n * 10).fmod u < b * 10 := fun q => hno (.inl (by unfold lowF; simp [q]))
      rw [dif_pos (by omega)]
      have bB : Bd 6100 (b * 10) := by unfold Bd at *; omega
      have pw' : Pw (k + 1) (b * 10) := by
        unfold Pw at *
        rw [Int.pow_succ]
        omega
      obtain ⟨i1, i2⟩ := ih (k + 1) ((n * 10).fmod u) (a * 10) (b * 10) (by omega) r.1 r.2 (by omega) bB pw'
      refine ⟨by rw [List.length_cons]; omega, fun q hq => ?_⟩
      rcases List.mem_cons.mp hq with rfl | hq
      · exact fig_len h0 h1
      · exact i2 q hq
theorem figs_len (x : Int) : (figs x).length ≤ 70000 := by
  obtain ⟨b1, b2⟩ := pP_range x
  obtain ⟨b3, b4⟩ := pM_range x
  have b5 := pM_bd x
  obtain ⟨n1, n2⟩ := scN_facts b3 b5 b1 b2
  obtain ⟨c1, c2⟩ := scB_facts b1 b2
  obtain ⟨u1, u2⟩ := scU_facts (m := pM x) b1 b2
  obtain ⟨p1, p2⟩ := fpF_range (n := scN (pM x) (pP x)) (a := scA (pM x) (pP x)) (u := scU (pM x) (pP x)) (e := shE x) n2 u2
  have hun : Under (scN (pM x) (pP x)) (scU (pM x) (pP x)) (shP x) := fpF_under n1 u1
  obtain ⟨g1, g2⟩ : 0 ≤ shN x ∧ Bd 6100 (shN x) := loN_facts n1 n2 p1
  obtain ⟨_, g5⟩ : 0 ≤ shB x ∧ Bd 6100 (shB x) := loN_facts (by omega) c2 p1
  have g6 : 1 ≤ shB x := loN_pos c1
  obtain ⟨g7, g8⟩ : 1 ≤ shU x ∧ Bd 6100 (shU x) := loU_facts u1 u2 p2
  have g9 : shN x < shU x := lo_lt hun
  obtain ⟨i1, i2⟩ := gl_facts (shU x) (shE x) g8 _ 0 (shN x) (shA x) (shB x) (Nat.le_refl _) g1 g9 g6 g5 (by show (8 : Int) ^ 0 ≤ _; omega)
  have h1 := short_sum i2
  have hw : PyProof.Rows.Weighs (Gl (shU x) (shE x) (shN x) (shA x) (shB x)) 16400 := by
    unfold PyProof.Rows.Weighs
    omega
  have h2 := PyProof.Rows.len_join_le (sep := Str.ofString "") hw (by decide +kernel)
  unfold figs
  omega
theorem shP_bd (x : Int) : Bd 60 (shP x) := by
  obtain ⟨b1, b2⟩ := pP_range x
  obtain ⟨b3, b4⟩ := pM_range x
  obtain ⟨n1, n2⟩ := scN_facts b3 (pM_bd x) b1 b2
  obtain ⟨u1, u2⟩ := scU_facts (m := pM x) b1 b2
  have h := fpF_range (n := scN (pM x) (pP x)) (a := scA (pM x) (pP x)) (u := scU (pM x) (pP x)) (e := shE x) n2 u2
  have e : shP x = fpF (scN (pM x) (pP x)) (scA (pM x) (pP x)) (scU (pM x) (pP x)) (shE x) := rfl
  rw [← e] at h
  unfold Bd
  omega
theorem loF_len {x : Str} {y : Int} (h : Bd 60 y) (hx : x.length ≤ 70000) : (loF x y).length ≤ 150000 := by
  have h3 : Bd 64 (y - 1) := by unfold Bd at *; omega
  have h4 := weF_len h3 hx
  have s1 := PyProof.Txt.length_slice_le x none (some y)
  have s2 := PyProof.Txt.length_slice_le x (some y) none
  have e0 : (Str.ofString "0").length = 1 := by decide +kernel
  have e1 : (Str.ofString ".").length = 1 := by decide +kernel
  have e2 : (Str.ofString "0.").length = 2 := by decide +kernel
  have m1 := PyProof.Rows.len_mul (Str.ofString "0") (y - x.length)
  have m2 := PyProof.Rows.len_mul (Str.ofString "0") (0 - y)
  rw [e0] at m1 m2
  unfold loF
  split
  · rename_i q
    rw [Str.length_append]
    split at m1 <;> omega
  · split
    · rw [Str.length_append, Str.length_append]
      omega
    · split
      · rw [Str.length_append, Str.length_append]
        split at m2 <;> omega
      · omega
def wfF (x : Int) : Option Str :=
  if 9218868437227405312 < Builtin.bitAnd x (9223372036854775808 - 1) then some (Str.ofString "NaN")
  else if Builtin.bitAnd x (9223372036854775808 - 1) = 9218868437227405312 then (if x.fdiv (2 ^ Int.toNat 63) = 1 then some (Str.ofString "-Infinity") else some (Str.ofString "Infinity"))
  else none
def showF (x : Int) : Str :=
  match wfF x with
  | some q => q
  | none => if Builtin.bitAnd x (9223372036854775808 - 1) = 0 then Str.ofString "0" else (if x.fdiv (2 ^ Int.toNat 63) = 1 then Str.ofString "-" else Str.ofString "") ++ loF (figs x) (shP x)
theorem wfF_len {x : Int} {q : Str} (h : wfF x = some q) : q.length ≤ 10 := by
  have e1 : (Str.ofString "NaN").length = 3 := by decide +kernel
  have e2 : (Str.ofString "-Infinity").length = 9 := by decide +kernel
  have e3 : (Str.ofString "Infinity").length = 8 := by decide +kernel
  unfold wfF at h
  split at h
  · cases h; omega
  · split at h
    · split at h
      · cases h; omega
      · cases h; omega
    · cases h
theorem showF_len (x : Int) : (showF x).length ≤ 150010 := by
  have e4 : (Str.ofString "0").length = 1 := by decide +kernel
  have e5 : (Str.ofString "-").length = 1 := by decide +kernel
  have e6 : (Str.ofString "").length = 0 := by decide +kernel
  have h := loF_len (shP_bd x) (figs_len x)
  unfold showF
  split
  · rename_i q hq
    have := wfF_len hq
    omega
  · split
    · omega
    · rw [Str.length_append]
      split <;> omega
abbrev outO (x : Option Str) : Heap → Heap → Value → Prop := fun _ _ v => match x with | none => v = .none | some q => ∃ t, v = .str q t
section
variable {w : World} {D : Nat} {f : Addr} {vs : List Value} {pre : Prop} {Out : Heap → Heap → Value → Prop}
    {p : Program} {loose : List Str} {mean : ExcName → Option Value} {mg mb : Str → Option Value} {news : List (Addr × Obj)}
    {dp un : Nat} {gd : Option (List Code)} {cn : Str} {cs : Scope} {a : Addr} {ccd : Value} {cl : List (Str × Addr)} {outer : List Env} {A₀ : Around} {base h₀ : Heap} {L : Addr} {m : Str → Option Value} {s : Shared} {Q E : Value → Shared → Prop}
theorem useO {x : Option Str} (C : Ok w D f vs pre (outO x)) (B : Below A₀ base outer h₀) (F : Fr h₀ L s.heap m) (X : (Mine.hd.heap_39 w.params).In h₀) (N : News h₀ L s.heap news) (T : Top p loose mean mg mb h₀) (hk : cs.kind = .function)
    (hp : pre) (hd : dp + D < recursionLimit) (hu : un + 8 * D < cLine)
    (hn : ∀ (h' : Heap) (tk' : Nat), x = none → Fr h₀ L h' m → News h₀ L h' news → Q .none { s with heap := h', toks := tk' })
    (hs : ∀ (q : Str) (t : Tok) (h' : Heap) (tk' : Nat), x = some q → Fr h₀ L h' m → News h₀ L h' news → Q (.str q t) { s with heap := h', toks := tk' }) :
    wpAny (model PySem.Challenge.rw_sa0376_01.row.prog w) (ktrTop dp un gd cn cs L a ccd cl outer) (call (.ref f) vs) Q E s :=
  use_ C B F X N T hk hp hd hu fun v h' tk' F' N' _ o => by
    cases x with
    | none =>
      have o' : v = .none := o
      subst o'
      exact hn h' tk' rfl F' N'
    | some q =>
      obtain ⟨t, rfl⟩ := o
      exact hs q t h' tk' rfl F' N'
end
theorem endOn {x : Option Str} {s : Shared} {h' : Heap} {tk : Nat} {Q : Value → Shared → Prop} (hret : ∀ (v : Value) (h' : Heap) (tk' : Nat), (∀ b o, s.heap.get? b = some o → h'.get? b = some o) → outO x s.heap h' v → Q v { s with heap := h', toks := tk' }) (e : x = none) :
    Kept s.heap h' (Q .none { s with heap := h', toks := tk }) := fun k => hret _ _ _ k (by subst e; rfl)
theorem endOs {x : Option Str} {s : Shared} {h' : Heap} {tk : Nat} {q : Str} {t : Tok} {Q : Value → Shared → Prop} (hret : ∀ (v : Value) (h' : Heap) (tk' : Nat), (∀ b o, s.heap.get? b = some o → h'.get? b = some o) → outO x s.heap h' v → Q v { s with heap := h', toks := tk' }) (e : x = some q) :
    Kept s.heap h' (Q (.str q t) { s with heap := h', toks := tk }) := fun k => hret _ _ _ k (by subst e; exact ⟨t, rfl⟩)
end
end Mine
namespace Mine
section
local macro_rules | `(tactic| walk_at "call ref") => `(tactic| (k_here; k_dflt (refine' Mine.useB (isNan_c _ _ _) ?_ ?_ ?_ ?_ ?_ ?_ ?_ ?_ ?_ ?_); walk_at "mine sides"))
local macro_rules | `(tactic| walk_at "call ref") => `(tactic| (k_here; k_dflt (refine' Mine.useB (isInf_c _ _ _) ?_ ?_ ?_ ?_ ?_ ?_ ?_ ?_ ?_ ?_); walk_at "mine sides"))
local macro_rules | `(tactic| walk_at "call ref") => `(tactic| (k_here; k_dflt (refine' Mine.useB (isNeg_c _ _ _) ?_ ?_ ?_ ?_ ?_ ?_ ?_ ?_ ?_ ?_); walk_at "mine sides"))
local macro_rules | `(tactic| walk_at "mine pad") => `(tactic| fail)
theorem without_c (w : World) (x : Int) (t : Tok) : Ok w 2 393 [.int x t] True (outO (wfF x)) := by
  (w_on; dsimp only [Ok, OkH]; k_fill; intro p loose mean mg mb dp un gd cn cs a ccd cl outer A₀ base h₀ L m s Q E hB hF hX hT hcs hpre hdp hun hret; refine wpAny_call ?_; k_dflt (refine Mine.enter hB hF hX hT (by exact rfl) (by exact rfl) (by assumption) (by k_is) (by k_is) (by ktr_room) (by exact BindsTo.of_eq rfl) (by exact locs rfl) ?_ (by exact rfl) (by exact rfl) (by exact rfl) (by decide)); k_whole; intro L' h' F' N' B' X' T'; (try dsimp only); (try k_fold))
  walk_at "mine go"
  all_goals first
    | (refine endOn hret ?_; unfold wfF; (repeat' split) <;> first | rfl | contradiction)
    | (refine endOs hret ?_; unfold wfF; (repeat' split) <;> first | rfl | contradiction)
end
end Mine
namespace Mine
section
local macro_rules | `(tactic| walk_at "call ref") => `(tactic| (k_here; k_dflt (refine' Mine.useT (parts_c _ _ _) ?_ ?_ ?_ ?_ ?_ ?_ ?_ ?_ ?_ ?_); walk_at "mine sides"))
local macro_rules | `(tactic| walk_at "call ref") => `(tactic| (k_here; k_dflt (refine' Mine.useT (scaled_c _ _ _ _ _) ?_ ?_ ?_ ?_ ?_ ?_ ?_ ?_ ?_ ?_); walk_at "mine sides"))
local macro_rules | `(tactic| walk_at "call ref") => `(tactic| (k_here; k_dflt (refine' Mine.useI (firstPlace_c _ _ _ _ _ _ _ _) ?_ ?_ ?_ ?_ ?_ ?_ ?_ ?_ ?_ ?_); walk_at "mine sides"))
local macro_rules | `(tactic| walk_at "call ref") => `(tactic| (k_here; k_dflt (refine' Mine.useI (lastFig_c _ _ _ _ _ _ _ _ _) ?_ ?_ ?_ ?_ ?_ ?_ ?_ ?_ ?_ ?_); walk_at "mine sides"))
section
local macro_rules | `(tactic| walk_at "exec If") => `(tactic| (k_here; (show wpAny _ _ (exec (Stmt.If (Expr.Compare (Expr.Name (Str.ofString "place") _) _ _ _) _ _ _) _) _ _ _); (fail_if_success (with_reducible rename JMark4 => jNo)); (with_reducible rename Fr _ _ _ _ => jF); (with_reducible rename News _ _ _ _ => jN); k_dflt (refine' join4J (by assumption) jF jN ?hx ?hy ?hz ?hu ?hp ?_ ?_); (case hx => with_unfolding_all rfl); (case hy => with_unfolding_all rfl); (case hz => with_unfolding_all rfl); (case hu => with_unfolding_all rfl); (case hp => with_unfolding_all rfl); (have jM := jMark4); (try k_fold); rotate_left 1; clear jF jN; intro h' tk' t1 t2 t3 t4 fct F' N'; (try dsimp only)))
local macro_rules | `(tactic| walk_at "mine bd") => `(tactic| first | exact Mine.Bd.mono (Mine.fig_bd (by assumption) (by assumption)) (by decide) | exact Mine.fig_bd (by assumption) (by assumption) | exact Mine.Bd.mono (Mine.fmod_bd (by assumption) (by assumption)) (by decide) | exact Mine.lfF_bd (Mine.fig_bd (by assumption) (by assumption)))
local macro_rules | `(tactic| walk_at "eval BoolOp") => `(tactic| (k_here; (show wpAny _ _ (eval (PySem.Expr.BoolOp _ (PySem.Expr.Compare (PySem.Expr.Name (Str.ofString "number") _) [CmpOp.Lt] _ _ :: _) _) _) _ _ _); (fail_if_success (with_reducible rename JMarkB => jNo)); (with_reducible rename Fr _ _ _ _ => jF); (with_reducible rename News _ _ _ _ => jN); k_dflt (refine' joinLow jF jN ?hx ?hy ?hz ?_ ?_); (case hx => with_unfolding_all rfl); (case hy => with_unfolding_all rfl); (case hz => with_unfolding_all rfl); (have jM := jMarkB); (try k_fold); rotate_left 1; clear jF jN; intro h' tk' F' N'; (try dsimp only)))
local macro_rules | `(tactic| walk_at "eval BoolOp") => `(tactic| (k_here; (show wpAny _ _ (eval (PySem.Expr.BoolOp _ (PySem.Expr.Compare _ [CmpOp.Gt] _ _ :: _) _) _) _ _ _); (fail_if_success (with_reducible rename JMarkB => jNo)); (with_reducible rename Fr _ _ _ _ => jF); (with_reducible rename News _ _ _ _ => jN); k_dflt (refine' joinHigh jF jN ?hx ?hy ?hu ?hz ?_ ?_); (case hx => with_unfolding_all rfl); (case hy => with_unfolding_all rfl); (case hu => with_unfolding_all rfl); (case hz => with_unfolding_all rfl); (have jM := jMarkB); (try k_fold); rotate_left 1; clear jF jN; intro h' tk' F' N'; (try dsimp only)))
local macro_rules | `(tactic| walk_at "call builtin:str.join") => `(tactic| (k_here; k_dflt (refine join_listW (by is_list) (Mine.strs_push (by assumption)) (by decide +kernel) (Mine.short_join (by assumption) (by assumption) (Mine.last_len (by assumption) (by assumption))) ?_); (try intro t9 tk9); (try dsimp only)))
local macro_rules | `(tactic| walk_at "call type:str") => `(tactic| (k_here; (with_reducible show wpAny _ _ (call (Value.type "str") [Value.int _ _]) _ _ _); k_dflt (refine Mine.strB (k := 6) (by first | exact Mine.lfF_bd (Mine.fig_bd (by assumption) (by assumption)) | exact Mine.Bd.mono (Mine.fig_bd (by assumption) (by assumption)) (by decide)) (by decide) ?_); k_whole))
local macro_rules | `(tactic| walk_at "exec While") => `(tactic| refine stopHere ?_)
set_option maxHeartbeats 6000000 in
theorem shortest_c (w : World) (x : Int) (t : Tok) : Ok w 5 358 [.int x t] True (outT fun ts => [.str (figs x) (ts 0), .int (shP x) (ts 1)]) := by
  (w_on; dsimp only [Ok, OkH]; k_fill; intro p loose mean mg mb dp un gd cn cs a ccd cl outer A₀ base h₀ L m s Q E hB hF hX hT hcs hpre hdp hun hret; refine wpAny_call ?_; k_dflt (refine Mine.enter hB hF hX hT (by exact rfl) (by exact rfl) (by assumption) (by k_is) (by k_is) (by ktr_room) (by exact BindsTo.of_eq rfl) (by exact locs rfl) ?_ (by exact rfl) (by exact rfl) (by exact rfl) (by decide)); k_whole; intro L' h' F' N' B' X' T'; (try dsimp only); (try k_fold))
  obtain ⟨b1, b2⟩ := pP_range x
  obtain ⟨b3, b4⟩ := pM_range x
  have b5 := pM_bd x
  obtain ⟨n1, n2⟩ := scN_facts b3 b5 b1 b2
  obtain ⟨a1, a2⟩ := scA_facts (m := pM x) b1 b2
  have a0 : 0 ≤ scA (pM x) (pP x) := by omega
  obtain ⟨c1, c2⟩ := scB_facts b1 b2
  obtain ⟨u1, u2⟩ := scU_facts (m := pM x) b1 b2
  obtain ⟨p1, p2⟩ := fpF_range (n := scN (pM x) (pP x)) (a := scA (pM x) (pP x)) (u := scU (pM x) (pP x)) (e := (pM x).fmod 2 == 0) n2 u2
  have hun : Under (scN (pM x) (pP x)) (scU (pM x) (pP x)) (shP x) := fpF_under n1 u1
  obtain ⟨g1, g2⟩ : 0 ≤ shN x ∧ Bd 6100 (shN x) := loN_facts n1 n2 p1
  obtain ⟨g3, g4⟩ : 0 ≤ shA x ∧ Bd 6100 (shA x) := loN_facts a0 a2 p1
  obtain ⟨_, g5⟩ : 0 ≤ shB x ∧ Bd 6100 (shB x) := loN_facts (by omega) c2 p1
  have g6 : 1 ≤ shB x := loN_pos c1
  obtain ⟨g7, g8⟩ : 1 ≤ shU x ∧ Bd 6100 (shU x) := loU_facts u1 u2 p2
  have g9 : shN x < shU x := lo_lt hun
  clear hun
  obtain ⟨vn, en⟩ : ∃ v, shN x = v := ⟨_, rfl⟩
  obtain ⟨va, ea⟩ : ∃ v, shA x = v := ⟨_, rfl⟩
  obtain ⟨vb, eb⟩ : ∃ v, shB x = v := ⟨_, rfl⟩
  obtain ⟨vu, eu⟩ : ∃ v, shU x = v := ⟨_, rfl⟩
  have j4 : J4 (scN (pM x) (pP x)) (scA (pM x) (pP x)) (scB (pP x)) (scU (pM x) (pP x)) (shP x) vn va vb vu := ⟨en, ea, eb, eu⟩
  rw [en] at g1 g2 g9
  rw [ea] at g3 g4
  rw [eb] at g5 g6
  rw [eu] at g7 g8 g9
  walk_at "mine go"
  any_goals
    (show Join4 _ _ _ _ _ _ _ _ _ _ _)
    first
    | (refine join4_end (by assumption) (by assumption) (fun p hp => nomatch hp) (by with_unfolding_all rfl) (by with_unfolding_all rfl) (by with_unfolding_all rfl) (by with_unfolding_all rfl) ?_ ((shN_p (by assumption)).trans en) ((shA_p (by assumption)).trans ea) ((shB_p (by assumption)).trans eb) ((shU_p (by assumption)).trans eu)
       intro z h1 h2 h3 h4 h5
       show (if _ then _ else _) = _
       rw [if_neg h4])
    | (refine join4_end (by assumption) (by assumption) (fun p hp => nomatch hp) (by with_unfolding_all rfl) (by with_unfolding_all rfl) (by with_unfolding_all rfl) (by with_unfolding_all rfl) ?_ ((shN_n (by assumption)).trans en) ((shA_n (by assumption)).trans ea) ((shB_n (by assumption)).trans eb) ((shU_n (by assumption)).trans eu)
       intro z h1 h2 h3 h4 h5
       show (if _ then _ else if _ then _ else if _ then _ else if _ then _ else _) = _
       rw [if_neg h3, if_neg h2, if_neg h1, if_neg h5])
  unfold Stop
  (rename Fr _ _ _ _ => F9); (rename News _ _ _ _ => N9)
  refine shW (vn := vn) (va := va) (vb := vb) (vu := vu) (vp := shP x) (e := (pM x).fmod 2 == 0) (ShP vu ((pM x).fmod 2 == 0) vn va vb) F9 N9 (by with_unfolding_all rfl) (by with_unfolding_all rfl) (by with_unfolding_all rfl) (by with_unfolding_all rfl) (by with_unfolding_all rfl) (by with_unfolding_all rfl) (by with_unfolding_all rfl) (sh_start g1 g9 g3 g4 g6 g5) ?_ (by passes_own)
  clear F9 N9
  clear b1 b2 b3 b4 b5 n1 n2 a1 a2 c1 c2 u1 u2 p1 p2
  intro M m₁ vals out n a b c u1 u2 u3 u4 u5 u6 h tk k4 k5 k6 k7 hv hP hm F8 N8
  obtain ⟨n0, nu, a0, ab, b0, bb, pw, len, sh, eq⟩ := id hP
  walk_at "mine go"
  any_goals
    (show JoinB _ _ _ _ _ _ _ _)
    first
    | exact joinB_end (by assumption) (by assumption) (low1 (by assumption))
    | exact joinB_end (by assumption) (by assumption) (low2 (by assumption) (by assumption))
    | exact joinB_end (by assumption) (by assumption) (low3 (by assumption) (by assumption))
    | exact joinB_end (by assumption) (by assumption) (high1 (by assumption))
    | exact joinB_end (by assumption) (by assumption) (high2 (by assumption) (by assumption))
    | exact joinB_end (by assumption) (by assumption) (high3 (by assumption) (by assumption))
  any_goals
    (show wpAny _ _ (call (Value.builtin "list.append") _) _ _ _)
    k_here
    k_dflt (refine W.append_K (by k_asm) (by k_asm) (by k_upd) ?_ (by size_fits))
    k_whole
    intro h' F' N'
    (try dsimp only)
    walk_at "mine go"
    refine sh_end F' N' (by k_mem) hv (by with_unfolding_all rfl) (by with_unfolding_all rfl) (by with_unfolding_all rfl) ?_ (sh_step hP g8 (Bool.eq_false_iff.mp (by assumption)) (Bool.eq_false_iff.mp (by assumption)))
    intro z h1 h2 h3 h4 h5 h6
    refine Eq.trans ?_ (sh_rest k4 k5 k6 k7)
    simp only [if_neg h1, if_neg h2, if_neg h3, if_neg h4, if_neg h5, if_neg h6]
  any_goals
    (show ShPost _ _ _ _ _ _ _ _ _ _ _)
    dsimp only [ShPost]
    walk_at "mine go"
    first
    | exact endTsi hret (by assumption) (by k_mem) (figs_end en ea eb eu hP (.inl (by assumption))) rfl
    | exact endTsi hret (by assumption) (by k_mem) (figs_end en ea eb eu hP (.inr (by assumption))) rfl
end
end
end Mine
namespace Mine
section
local macro_rules | `(tactic| walk_at "call ref") => `(tactic| (k_here; k_dflt (refine' Mine.useO (without_c _ _ _) ?k1 ?k2 ?k3 ?k4 ?k5 ?kK ?kp ?kd ?ku ?_ ?_; (case k1 => k_asm); (case k2 => k_asm); (case k3 => k_asm); (case k4 => k_asm); (case k5 => k_asm); (case kK => first | exact rfl | assumption); (case kp => walk_at "mine pre"); (case kd => ktr_room); (case ku => ktr_units); k_whole; rotate_left 1; k_whole; rotate_left 1; (intro h9 tk9 eO F9 N9; (try dsimp only at N9); (try dsimp only); (try k_fold)); rotate_left 1; (intro q9 t9 h9 tk9 eO F9 N9; (try dsimp only at N9); (try dsimp only); (try k_fold)); rotate_left 1)))
local macro_rules | `(tactic| walk_at "call ref") => `(tactic| (k_here; k_dflt (refine' Mine.useB (isZero_c _ _ _) ?_ ?_ ?_ ?_ ?_ ?_ ?_ ?_ ?_ ?_); walk_at "mine sides"))
local macro_rules | `(tactic| walk_at "call ref") => `(tactic| (k_here; k_dflt (refine' Mine.useT (shortest_c _ _ _) ?_ ?_ ?_ ?_ ?_ ?_ ?_ ?_ ?_ ?_); walk_at "mine sides"))
local macro_rules | `(tactic| walk_at "call ref") => `(tactic| (k_here; k_dflt (refine' Mine.useB (isNeg_c _ _ _) ?_ ?_ ?_ ?_ ?_ ?_ ?_ ?_ ?_ ?_); walk_at "mine sides"))
local macro_rules | `(tactic| walk_at "call ref") => `(tactic| (k_here; k_dflt (refine' Mine.useS (laidOut_c _ _ _ _ _) ?_ ?_ ?_ ?_ ?_ ?_ ?_ ?_ ?_ ?_); walk_at "mine sides"))
theorem showF_w {x : Int} {q : Str} (h : wfF x = some q) : q = showF x := by unfold showF; rw [h]
theorem showF_z {x : Int} (h : wfF x = none) (hz : Builtin.bitAnd x (9223372036854775808 - 1) = 0) : Str.ofString "0" = showF x := by unfold showF; rw [h]; exact (if_pos hz).symm
theorem showF_n {x : Int} (h : wfF x = none) (hz : Builtin.bitAnd x (9223372036854775808 - 1) ≠ 0) (hn : x.fdiv (2 ^ Int.toNat 63) = 1) : Str.ofString "-" ++ loF (figs x) (shP x) = showF x := by
  unfold showF; rw [h]
  show _ = if _ then _ else _
  rw [if_neg hz, if_pos hn]
theorem showF_p {x : Int} (h : wfF x = none) (hz : Builtin.bitAnd x (9223372036854775808 - 1) ≠ 0) (hn : x.fdiv (2 ^ Int.toNat 63) ≠ 1) : Str.ofString "" ++ loF (figs x) (shP x) = showF x := by
  unfold showF; rw [h]
  show _ = if _ then _ else _
  rw [if_neg hz, if_neg hn]
theorem show_c (w : World) (x : Int) (t : Tok) : Ok w 6 400 [.int x t] True (outS (showF x)) := by
  (w_on; dsimp only [Ok, OkH]; k_fill; intro p loose mean mg mb dp un gd cn cs a ccd cl outer A₀ base h₀ L m s Q E hB hF hX hT hcs hpre hdp hun hret; refine wpAny_call ?_; k_dflt (refine Mine.enter hB hF hX hT (by exact rfl) (by exact rfl) (by assumption) (by k_is) (by k_is) (by ktr_room) (by exact BindsTo.of_eq rfl) (by exact locs rfl) ?_ (by exact rfl) (by exact rfl) (by exact rfl) (by decide)); k_whole; intro L' h' F' N' B' X' T'; (try dsimp only); (try k_fold))
  have h1 := shP_bd x
  have h2 := figs_len x
  have h3 := loF_len h1 h2
  walk_at "mine go"
  all_goals first
    | exact endS hret (showF_w (by assumption))
    | exact endS hret (showF_z (by assumption) (by assumption))
    | exact endS hret (showF_n (by assumption) (by assumption) (by assumption))
    | exact endS hret (showF_p (by assumption) (by assumption) (by assumption))
end
end Mine
namespace Mine
section
inductive Dt where
  | none
  | null
  | bool (b : Bool)
  | int (x : Int)
  | str (q : Str)
def Vl : Dt → Value → Prop
  | .none, v => v = .none
  | .null, v => v = .ref 37
  | .bool b, v => v = .bool b
  | .int x, v => ∃ t, v = .int x t
  | .str q, v => ∃ t, v = .str q t
def Dt.isNull : Dt → Bool
  | .null => true
  | _ => false
def Dt.isNum : Dt → Bool
  | .int _ => true
  | _ => false
def Dt.isTxt : Dt → Bool
  | .str _ => true
  | _ => false

abbrev outE (x : Value) : Heap → Heap → Value → Prop := fun _ _ v => v = x
abbrev outV (d : Dt) : Heap → Heap → Value → Prop := fun _ _ v => Vl d v
section
variable {w : World} {D : Nat} {f : Addr} {vs : List Value} {pre : Prop} {Out : Heap → Heap → Value → Prop}
    {p : Program} {loose : List Str} {mean : ExcName → Option Value} {mg mb : Str → Option Value} {news : List (Addr × Obj)}
    {dp un : Nat} {gd : Option (List Code)} {cn : Str} {cs : Scope} {a : Addr} {ccd : Value} {cl : List (Str × Addr)} {outer : List Env} {A₀ : Around} {base h₀ : Heap} {L : Addr} {m : Str → Option Value} {s : Shared} {Q E : Value → Shared → Prop}
theorem useE {x : Value} (C : Ok w D f vs pre (outE x)) (B : Below A₀ base outer h₀) (F : Fr h₀ L s.heap m) (X : (Mine.hd.heap_39 w.params).In h₀) (N : News h₀ L s.heap news) (T : Top p loose mean mg mb h₀) (hk : cs.kind = .function)
    (hp : pre) (hd : dp + D < recursionLimit) (hu : un + 8 * D < cLine)
    (hret : ∀ (h' : Heap) (tk' : Nat), Fr h₀ L h' m → News h₀ L h' news → Q x { s with heap := h', toks := tk' }) :
    wpAny (model PySem.Challenge.rw_sa0376_01.row.prog w) (ktrTop dp un gd cn cs L a ccd cl outer) (call (.ref f) vs) Q E s :=
  use_ C B F X N T hk hp hd hu fun v h' tk' F' N' _ o => by have o' : v = x := o; subst o'; exact hret h' tk' F' N'
theorem useV {d : Dt} (C : Ok w D f vs pre (outV d)) (B : Below A₀ base outer h₀) (F : Fr h₀ L s.heap m) (X : (Mine.hd.heap_39 w.params).In h₀) (N : News h₀ L s.heap news) (T : Top p loose mean mg mb h₀) (hk : cs.kind = .function)
    (hp : pre) (hd : dp + D < recursionLimit) (hu : un + 8 * D < cLine)
    (hret : ∀ (v : Value) (h' : Heap) (tk' : Nat), Vl d v → Fr h₀ L h' m → News h₀ L h' news → Q v { s with heap := h', toks := tk' }) :
    wpAny (model PySem.Challenge.rw_sa0376_01.row.prog w) (ktrTop dp un gd cn cs L a ccd cl outer) (call (.ref f) vs) Q E s :=
  use_ C B F X N T hk hp hd hu fun v h' tk' F' N' _ o => hret v h' tk' o F' N'
end
section
variable {h₀ h h' : Heap} {L : Addr} {s : Shared} {Q : Value → Shared → Prop} {t : Tok} {tk : Nat}
theorem endE {x y : Value} (hret : ∀ (v : Value) (h' : Heap) (tk' : Nat), (∀ b o, s.heap.get? b = some o → h'.get? b = some o) → outE x s.heap h' v → Q v { s with heap := h', toks := tk' }) (e : y = x) :
    Kept s.heap h' (Q y { s with heap := h', toks := tk }) := fun k => hret _ _ _ k e
theorem endV {d : Dt} {y : Value} (hret : ∀ (v : Value) (h' : Heap) (tk' : Nat), (∀ b o, s.heap.get? b = some o → h'.get? b = some o) → outV d s.heap h' v → Q v { s with heap := h', toks := tk' }) (e : Vl d y) :
    Kept s.heap h' (Q y { s with heap := h', toks := tk }) := fun k => hret _ _ _ k e
end
def numF : Dt → Int
  | .none => 9221120237041090560
  | .null => 0
  | .bool b => if b then 4607182418800017408 else 0
  | .int x => x
  | .str _ => 0
def toldF : Dt → Str
  | .none => Str.ofString "undefined"
  | .null => Str.ofString "null"
  | .bool b => if b then Str.ofString "true" else Str.ofString "false"
  | .int x => showF x
  | .str q => q
theorem isNull_c (w : World) (d : Dt) (v : Value) (hv : Vl d v := by walk_at "mine vl") : Ok w 1 85 [v] (True) (outB d.isNull) := by
  cases d
  all_goals (obtain ⟨t, rfl⟩ := hv)
  all_goals ((w_on; dsimp only [Ok, OkH]; k_fill; intro p loose mean mg mb dp un gd cn cs a ccd cl outer A₀ base h₀ L m s Q E hB hF hX hT hcs hpre hdp hun hret; refine wpAny_call ?_; k_dflt (refine Mine.enter hB hF hX hT (by exact rfl) (by exact rfl) (by assumption) (by k_is) (by k_is) (by ktr_room) (by exact BindsTo.of_eq rfl) (by exact locs rfl) ?_ (by exact rfl) (by exact rfl) (by exact rfl) (by decide)); k_whole; intro L' h' F' N' B' X' T'; (try dsimp only); (try k_fold)); walk_at "mine go")
  all_goals first
    | exact endB hret rfl
theorem isNum_c (w : World) (d : Dt) (v : Value) (hv : Vl d v := by walk_at "mine vl") : Ok w 1 92 [v] (True) (outB d.isNum) := by
  cases d
  all_goals (obtain ⟨t, rfl⟩ := hv)
  all_goals ((w_on; dsimp only [Ok, OkH]; k_fill; intro p loose mean mg mb dp un gd cn cs a ccd cl outer A₀ base h₀ L m s Q E hB hF hX hT hcs hpre hdp hun hret; refine wpAny_call ?_; k_dflt (refine Mine.enter hB hF hX hT (by exact rfl) (by exact rfl) (by assumption) (by k_is) (by k_is) (by ktr_room) (by exact BindsTo.of_eq rfl) (by exact locs rfl) ?_ (by exact rfl) (by exact rfl) (by exact rfl) (by decide)); k_whole; intro L' h' F' N' B' X' T'; (try dsimp only); (try k_fold)); walk_at "mine go")
  all_goals first
    | exact endB hret rfl
theorem isTxt_c (w : World) (d : Dt) (v : Value) (hv : Vl d v := by walk_at "mine vl") : Ok w 1 99 [v] (True) (outB d.isTxt) := by
  cases d
  all_goals (obtain ⟨t, rfl⟩ := hv)
  all_goals ((w_on; dsimp only [Ok, OkH]; k_fill; intro p loose mean mg mb dp un gd cn cs a ccd cl outer A₀ base h₀ L m s Q E hB hF hX hT hcs hpre hdp hun hret; refine wpAny_call ?_; k_dflt (refine Mine.enter hB hF hX hT (by exact rfl) (by exact rfl) (by assumption) (by k_is) (by k_is) (by ktr_room) (by exact BindsTo.of_eq rfl) (by exact locs rfl) ?_ (by exact rfl) (by exact rfl) (by exact rfl) (by decide)); k_whole; intro L' h' F' N' B' X' T'; (try dsimp only); (try k_fold)); walk_at "mine go")
  all_goals first
    | exact endB hret rfl
theorem isObj_c (w : World) (d : Dt) (v : Value) (hv : Vl d v := by walk_at "mine vl") : Ok w 1 106 [v] (True) (outB false) := by
  cases d
  all_goals (obtain ⟨t, rfl⟩ := hv)
  all_goals ((w_on; dsimp only [Ok, OkH]; k_fill; intro p loose mean mg mb dp un gd cn cs a ccd cl outer A₀ base h₀ L m s Q E hB hF hX hT hcs hpre hdp hun hret; refine wpAny_call ?_; k_dflt (refine Mine.enter hB hF hX hT (by exact rfl) (by exact rfl) (by assumption) (by k_is) (by k_is) (by ktr_room) (by exact BindsTo.of_eq rfl) (by exact locs rfl) ?_ (by exact rfl) (by exact rfl) (by exact rfl) (by decide)); k_whole; intro L' h' F' N' B' X' T'; (try dsimp only); (try k_fold)); walk_at "mine go")
  all_goals first
    | exact endB hret rfl
end
end Mine
local macro_rules | `(tactic| walk_at "mine vl") => `(tactic| first | assumption | exact (show Mine.Vl .none .none from rfl) | exact (show Mine.Vl .null (.ref 37) from rfl) | exact (show Mine.Vl (.str _) (.str _ _) from ⟨_, rfl⟩) | exact (show Mine.Vl (.int _) (.int _ _) from ⟨_, rfl⟩) | exact (show Mine.Vl (.bool _) (.bool _) from rfl))
local macro_rules | `(tactic| walk_at "mine in") => `(tactic| (k_whole; intros; (rename News _ _ _ _ => N9); (try dsimp only at N9); (try dsimp only [Mine.Dt.isNull, Mine.Dt.isNum, Mine.Dt.isTxt]); (try k_fold)))
namespace Mine
section
local macro_rules | `(tactic| walk_at "call ref") => `(tactic| (k_here; k_dflt (refine' Mine.useB (isNull_c _ _ _ (by walk_at "mine vl")) ?_ ?_ ?_ ?_ ?_ ?_ ?_ ?_ ?_ ?_); walk_at "mine sides"))
local macro_rules | `(tactic| walk_at "call ref") => `(tactic| (k_here; k_dflt (refine' Mine.useB (isNum_c _ _ _ (by walk_at "mine vl")) ?_ ?_ ?_ ?_ ?_ ?_ ?_ ?_ ?_ ?_); walk_at "mine sides"))
local macro_rules | `(tactic| walk_at "call ref") => `(tactic| (k_here; k_dflt (refine' Mine.useB (isObj_c _ _ _ (by walk_at "mine vl")) ?_ ?_ ?_ ?_ ?_ ?_ ?_ ?_ ?_ ?_); walk_at "mine sides"))
theorem num_t {b : Bool} (h : b = true) : 4607182418800017408 = numF (.bool b) := by rw [h]; rfl
theorem num_f {b : Bool} (h : b = false) : 0 = numF (.bool b) := by rw [h]; rfl
theorem numOf_c (w : World) (d : Dt) (v : Value) (hv : Vl d v := by walk_at "mine vl") : Ok w 2 407 [v] (d.isTxt = false) (outI (numF d)) := by
  cases d
  all_goals (obtain ⟨t, rfl⟩ := hv)
  all_goals ((w_on; dsimp only [Ok, OkH]; k_fill; intro p loose mean mg mb dp un gd cn cs a ccd cl outer A₀ base h₀ L m s Q E hB hF hX hT hcs hpre hdp hun hret; refine wpAny_call ?_; k_dflt (refine Mine.enter hB hF hX hT (by exact rfl) (by exact rfl) (by assumption) (by k_is) (by k_is) (by ktr_room) (by exact BindsTo.of_eq rfl) (by exact locs rfl) ?_ (by exact rfl) (by exact rfl) (by exact rfl) (by decide)); k_whole; intro L' h' F' N' B' X' T'; (try dsimp only); (try k_fold)); (try (cases hpre; done)); walk_at "mine go")
  all_goals first
    | exact endI hret rfl
    | exact endI hret (num_t (by assumption))
    | exact endI hret (num_f (by assumption))
theorem toPrim_c (w : World) (d : Dt) (v vm : Value) (q : Str) (t : Tok) (hv : Vl d v := by walk_at "mine vl") : Ok w 2 421 [vm, v, .str q t] True (outE v) := by
  (w_on; dsimp only [Ok, OkH]; k_fill; intro p loose mean mg mb dp un gd cn cs a ccd cl outer A₀ base h₀ L m s Q E hB hF hX hT hcs hpre hdp hun hret; refine wpAny_call ?_; k_dflt (refine Mine.enter hB hF hX hT (by exact rfl) (by exact rfl) (by assumption) (by k_is) (by k_is) (by ktr_room) (by exact BindsTo.of_eq rfl) (by exact locs rfl) ?_ (by exact rfl) (by exact rfl) (by exact rfl) (by decide)); k_whole; intro L' h' F' N' B' X' T'; (try dsimp only); (try k_fold))
  walk_at "mine go"
  all_goals first
    | exact endE hret rfl
section
local macro_rules | `(tactic| walk_at "call ref") => `(tactic| (k_here; k_dflt (refine' Mine.useE (toPrim_c _ _ _ _ _ _ (by walk_at "mine vl")) ?_ ?_ ?_ ?_ ?_ ?_ ?_ ?_ ?_ ?_); walk_at "mine sides"))
local macro_rules | `(tactic| walk_at "call ref") => `(tactic| (k_here; k_dflt (refine' Mine.useI (numOf_c _ _ _ (by walk_at "mine vl")) ?_ ?_ ?_ ?_ ?_ ?_ ?_ ?_ ?_ ?_); walk_at "mine sides"))
theorem toNum_c (w : World) (d : Dt) (v vm : Value) (hv : Vl d v := by walk_at "mine vl") : Ok w 3 428 [vm, v] (d.isTxt = false) (outI (numF d)) := by
  (w_on; dsimp only [Ok, OkH]; k_fill; intro p loose mean mg mb dp un gd cn cs a ccd cl outer A₀ base h₀ L m s Q E hB hF hX hT hcs hpre hdp hun hret; refine wpAny_call ?_; k_dflt (refine Mine.enter hB hF hX hT (by exact rfl) (by exact rfl) (by assumption) (by k_is) (by k_is) (by ktr_room) (by exact BindsTo.of_eq rfl) (by exact locs rfl) ?_ (by exact rfl) (by exact rfl) (by exact rfl) (by decide)); k_whole; intro L' h' F' N' B' X' T'; (try dsimp only); (try k_fold))
  walk_at "mine go"
  all_goals first
    | exact endI hret rfl
end
end
end Mine
namespace Mine
section
local macro_rules | `(tactic| walk_at "call ref") => `(tactic| (k_here; k_dflt (refine' Mine.useB (isNull_c _ _ _ (by walk_at "mine vl")) ?_ ?_ ?_ ?_ ?_ ?_ ?_ ?_ ?_ ?_); walk_at "mine sides"))
local macro_rules | `(tactic| walk_at "call ref") => `(tactic| (k_here; k_dflt (refine' Mine.useB (isNum_c _ _ _ (by walk_at "mine vl")) ?_ ?_ ?_ ?_ ?_ ?_ ?_ ?_ ?_ ?_); walk_at "mine sides"))
local macro_rules | `(tactic| walk_at "call ref") => `(tactic| (k_here; k_dflt (refine' Mine.useS (show_c _ _ _) ?_ ?_ ?_ ?_ ?_ ?_ ?_ ?_ ?_ ?_); walk_at "mine sides"))
theorem told_t {b : Bool} (h : b = true) : Str.ofString "true" = toldF (.bool b) := by rw [h]; rfl
theorem told_f {b : Bool} (h : b = false) : Str.ofString "false" = toldF (.bool b) := by rw [h]; rfl
theorem textOf_c (w : World) (d : Dt) (v : Value) (hv : Vl d v := by walk_at "mine vl") : Ok w 7 414 [v] (True) (outS (toldF d)) := by
  cases d
  all_goals (obtain ⟨t, rfl⟩ := hv)
  all_goals ((w_on; dsimp only [Ok, OkH]; k_fill; intro p loose mean mg mb dp un gd cn cs a ccd cl outer A₀ base h₀ L m s Q E hB hF hX hT hcs hpre hdp hun hret; refine wpAny_call ?_; k_dflt (refine Mine.enter hB hF hX hT (by exact rfl) (by exact rfl) (by assumption) (by k_is) (by k_is) (by ktr_room) (by exact BindsTo.of_eq rfl) (by exact locs rfl) ?_ (by exact rfl) (by exact rfl) (by exact rfl) (by decide)); k_whole; intro L' h' F' N' B' X' T'; (try dsimp only); (try k_fold)); walk_at "mine go")
  all_goals first
    | exact endS hret rfl
    | exact endS hret (told_t (by assumption))
    | exact endS hret (told_f (by assumption))
theorem told_c (w : World) (d : Dt) (v : Value) (hv : Vl d v := by walk_at "mine vl") : Ok w 7 606 [v] (True) (outS (toldF d)) := by
  cases d
  all_goals (obtain ⟨t, rfl⟩ := hv)
  all_goals ((w_on; dsimp only [Ok, OkH]; k_fill; intro p loose mean mg mb dp un gd cn cs a ccd cl outer A₀ base h₀ L m s Q E hB hF hX hT hcs hpre hdp hun hret; refine wpAny_call ?_; k_dflt (refine Mine.enter hB hF hX hT (by exact rfl) (by exact rfl) (by assumption) (by k_is) (by k_is) (by ktr_room) (by exact BindsTo.of_eq rfl) (by exact locs rfl) ?_ (by exact rfl) (by exact rfl) (by exact rfl) (by decide)); k_whole; intro L' h' F' N' B' X' T'; (try dsimp only); (try k_fold)); walk_at "mine go")
  all_goals first
    | exact endS hret rfl
    | exact endS hret (told_t (by assumption))
    | exact endS hret (told_f (by assumption))
section
local macro_rules | `(tactic| walk_at "call ref") => `(tactic| (k_here; k_dflt (refine' Mine.useB (isTxt_c _ _ _ (by walk_at "mine vl")) ?_ ?_ ?_ ?_ ?_ ?_ ?_ ?_ ?_ ?_); walk_at "mine sides"))
local macro_rules | `(tactic| walk_at "call ref") => `(tactic| (k_here; k_dflt (refine' Mine.useS (textOf_c _ _ _ (by walk_at "mine vl")) ?_ ?_ ?_ ?_ ?_ ?_ ?_ ?_ ?_ ?_); walk_at "mine sides"))
local macro_rules | `(tactic| walk_at "call ref") => `(tactic| (k_here; k_dflt (refine' Mine.useI (numOf_c _ _ _ (by walk_at "mine vl")) ?_ ?_ ?_ ?_ ?_ ?_ ?_ ?_ ?_ ?_); walk_at "mine sides"))
local macro_rules | `(tactic| walk_at "call ref") => `(tactic| (k_here; k_dflt (refine' Mine.useI (add_c _ _ _ _ _) ?_ ?_ ?_ ?_ ?_ ?_ ?_ ?_ ?_ ?_); walk_at "mine sides"))
def plusD (d1 d2 : Dt) : Dt := if (d1.isTxt || d2.isTxt) = true then .str (toldF d1 ++ toldF d2) else .int (addF (numF d1) (numF d2))
theorem plus_l {d1 d2 : Dt} {t : Tok} (h : d1.isTxt = true) : Vl (plusD d1 d2) (.str (toldF d1 ++ toldF d2) t) := by
  unfold plusD
  rw [if_pos (by rw [h]; rfl)]
  exact ⟨t, rfl⟩
theorem plus_r {d1 d2 : Dt} {t : Tok} (h : d2.isTxt = true) : Vl (plusD d1 d2) (.str (toldF d1 ++ toldF d2) t) := by
  unfold plusD
  rw [if_pos (by rw [h, Bool.or_true])]
  exact ⟨t, rfl⟩
theorem plus_n {d1 d2 : Dt} {t : Tok} (h1 : d1.isTxt = false) (h2 : d2.isTxt = false) : Vl (plusD d1 d2) (.int (addF (numF d1) (numF d2)) t) := by
  unfold plusD
  rw [if_neg (by rw [h1, h2]; decide)]
  exact ⟨t, rfl⟩
theorem plusPrim_c (w : World) (d1 d2 : Dt) (v1 v2 : Value) (hv1 : Vl d1 v1 := by walk_at "mine vl") (hv2 : Vl d2 v2 := by walk_at "mine vl") : Ok w 8 533 [v1, v2] ((toldF d1).length ≤ 4000000 ∧ (toldF d2).length ≤ 4000000) (outV (plusD d1 d2)) := by
  (w_on; dsimp only [Ok, OkH]; k_fill; intro p loose mean mg mb dp un gd cn cs a ccd cl outer A₀ base h₀ L m s Q E hB hF hX hT hcs hpre hdp hun hret; refine wpAny_call ?_; k_dflt (refine Mine.enter hB hF hX hT (by exact rfl) (by exact rfl) (by assumption) (by k_is) (by k_is) (by ktr_room) (by exact BindsTo.of_eq rfl) (by exact locs rfl) ?_ (by exact rfl) (by exact rfl) (by exact rfl) (by decide)); k_whole; intro L' h' F' N' B' X' T'; (try dsimp only); (try k_fold))
  obtain ⟨h1, h2⟩ := hpre
  walk_at "mine go"
  all_goals first
    | exact endV hret (plus_l (by assumption))
    | exact endV hret (plus_r (by assumption))
    | exact endV hret (plus_n (by assumption) (by assumption))
end
section
local macro_rules | `(tactic| walk_at "call ref") => `(tactic| (k_here; k_dflt (refine' Mine.useE (toPrim_c _ _ _ _ _ _ (by walk_at "mine vl")) ?_ ?_ ?_ ?_ ?_ ?_ ?_ ?_ ?_ ?_); walk_at "mine sides"))
local macro_rules | `(tactic| walk_at "call ref") => `(tactic| (k_here; k_dflt (refine' Mine.useV (plusPrim_c _ _ _ _ _ (by walk_at "mine vl") (by walk_at "mine vl")) ?_ ?_ ?_ ?_ ?_ ?_ ?_ ?_ ?_ ?_); walk_at "mine sides"))
theorem plus_c (w : World) (d1 d2 : Dt) (v1 v2 vm : Value) (hv1 : Vl d1 v1 := by walk_at "mine vl") (hv2 : Vl d2 v2 := by walk_at "mine vl") : Ok w 9 540 [vm, v1, v2] ((toldF d1).length ≤ 4000000 ∧ (toldF d2).length ≤ 4000000) (outV (plusD d1 d2)) := by
  (w_on; dsimp only [Ok, OkH]; k_fill; intro p loose mean mg mb dp un gd cn cs a ccd cl outer A₀ base h₀ L m s Q E hB hF hX hT hcs hpre hdp hun hret; refine wpAny_call ?_; k_dflt (refine Mine.enter hB hF hX hT (by exact rfl) (by exact rfl) (by assumption) (by k_is) (by k_is) (by ktr_room) (by exact BindsTo.of_eq rfl) (by exact locs rfl) ?_ (by exact rfl) (by exact rfl) (by exact rfl) (by decide)); k_whole; intro L' h' F' N' B' X' T'; (try dsimp only); (try k_fold))
  obtain ⟨h1, h2⟩ := hpre
  walk_at "mine go"
  all_goals first
    | exact endV hret (by assumption)
end
section
local macro_rules | `(tactic| walk_at "call ref") => `(tactic| (k_here; k_dflt (refine' Mine.useV (plus_c _ _ _ _ _ _ (by walk_at "mine vl") (by walk_at "mine vl")) ?_ ?_ ?_ ?_ ?_ ?_ ?_ ?_ ?_ ?_); walk_at "mine sides"))
theorem binary_c (w : World) (d1 d2 : Dt) (v1 v2 vm : Value) (t : Tok) (hv1 : Vl d1 v1 := by walk_at "mine vl") (hv2 : Vl d2 v2 := by walk_at "mine vl") : Ok w 10 599 [vm, .int 30 t, v1, v2] ((toldF d1).length ≤ 4000000 ∧ (toldF d2).length ≤ 4000000) (outV (plusD d1 d2)) := by
  (w_on; dsimp only [Ok, OkH]; k_fill; intro p loose mean mg mb dp un gd cn cs a ccd cl outer A₀ base h₀ L m s Q E hB hF hX hT hcs hpre hdp hun hret; refine wpAny_call ?_; k_dflt (refine Mine.enter hB hF hX hT (by exact rfl) (by exact rfl) (by assumption) (by k_is) (by k_is) (by ktr_room) (by exact BindsTo.of_eq rfl) (by exact locs rfl) ?_ (by exact rfl) (by exact rfl) (by exact rfl) (by decide)); k_whole; intro L' h' F' N' B' X' T'; (try dsimp only); (try k_fold))
  obtain ⟨h1, h2⟩ := hpre
  walk_at "mine go"
  all_goals first
    | exact endV hret (by assumption)
end
end
end Mine
namespace Mine
section
theorem isiTxt {M : Model} {A : Around} {E : Value → Shared → Prop} {h₀ : Heap} {L : Addr} {m : Str → Option Value} {news : List (Addr × Obj)} {s : Shared} {d : Dt} {v : Value} {Q : Value → Shared → Prop}
    (V : Vl d v) (F : Fr h₀ L s.heap m) (N : News h₀ L s.heap news)
    (h1 : wpAny M A (call (.builtin "isinstance") [.none, .type "str"]) (fun r s' => JoinB false h₀ L m news s r s') E s)
    (h2 : wpAny M A (call (.builtin "isinstance") [.ref 37, .type "str"]) (fun r s' => JoinB false h₀ L m news s r s') E s)
    (h3 : ∀ b, wpAny M A (call (.builtin "isinstance") [.bool b, .type "str"]) (fun r s' => JoinB false h₀ L m news s r s') E s)
    (h4 : ∀ x t, wpAny M A (call (.builtin "isinstance") [.int x t, .type "str"]) (fun r s' => JoinB false h₀ L m news s r s') E s)
    (h5 : ∀ q t, wpAny M A (call (.builtin "isinstance") [.str q t, .type "str"]) (fun r s' => JoinB true h₀ L m news s r s') E s)
    (hk : ∀ h' tk', Fr h₀ L h' m → News h₀ L h' news → Q (.bool d.isTxt) { s with heap := h', toks := tk' }) : wpAny M A (call (.builtin "isinstance") [v, .type "str"]) Q E s := by
  have key : wpAny M A (call (.builtin "isinstance") [v, .type "str"]) (fun r s' => JoinB d.isTxt h₀ L m news s r s') E s := by
    cases d
    all_goals (obtain ⟨t, rfl⟩ := V)
    · exact h1
    · exact h2
    · exact h3 _
    · exact h4 _ _
    · exact h5 _ _
  refine wpAny_mono key (fun r s' hj => ?_) fun _ _ e => e
  obtain ⟨rfl, h', tk', rfl, F', N'⟩ := hj.at_
  exact hk h' tk' F' N'
local macro_rules | `(tactic| walk_at "call builtin:isinstance") => `(tactic| (k_here; (with_reducible show wpAny _ _ (call _ [_, Value.type "str"]) _ _ _); k_dflt (refine Mine.isiTxt (by with_reducible assumption) (by k_asm) (by k_asm) ?_ ?_ ?_ ?_ ?_ ?_); rotate_left 5; (intro h9 tk9 F9 N9; (try dsimp only at N9); (try dsimp only); (try k_fold)); rotate_left 1; k_whole; rotate_left 1; k_whole; rotate_left 1; intro b9; k_whole; rotate_left 1; (intro x9 t9; k_whole); rotate_left 1; (intro q9 t9; k_whole); rotate_left 1))
local macro_rules | `(tactic| walk_at "call ref") => `(tactic| (k_here; k_dflt (refine' Mine.useS (told_c _ _ _ (by walk_at "mine vl")) ?_ ?_ ?_ ?_ ?_ ?_ ?_ ?_ ?_ ?_); walk_at "mine sides"))
local macro_rules | `(tactic| walk_at "call ref") => `(tactic| (k_here; k_dflt (refine' Mine.useI (toNum_c _ _ _ _ (by walk_at "mine vl")) ?_ ?_ ?_ ?_ ?_ ?_ ?_ ?_ ?_ ?_); walk_at "mine sides"))
local macro_rules | `(tactic| walk_at "call ref") => `(tactic| (k_here; k_dflt (refine' Mine.useI (add_c _ _ _ _ _) ?_ ?_ ?_ ?_ ?_ ?_ ?_ ?_ ?_ ?_); walk_at "mine sides"))
local macro_rules | `(tactic| walk_at "mine pad") => `(tactic| fail)
theorem due_c (w : World) (d1 d2 : Dt) (v1 v2 : Value) (hv1 : Vl d1 v1 := by walk_at "mine vl") (hv2 : Vl d2 v2 := by walk_at "mine vl") : Ok w 9 613 [v1, v2] ((toldF d1).length ≤ 4000000 ∧ (toldF d2).length ≤ 4000000) (outV (plusD d1 d2)) := by
  (w_on; dsimp only [Ok, OkH]; k_fill; intro p loose mean mg mb dp un gd cn cs a ccd cl outer A₀ base h₀ L m s Q E hB hF hX hT hcs hpre hdp hun hret; refine wpAny_call ?_; k_dflt (refine Mine.enter hB hF hX hT (by exact rfl) (by exact rfl) (by assumption) (by k_is) (by k_is) (by ktr_room) (by exact BindsTo.of_eq rfl) (by exact locs rfl) ?_ (by exact rfl) (by exact rfl) (by exact rfl) (by decide)); k_whole; intro L' h' F' N' B' X' T'; (try dsimp only); (try k_fold))
  obtain ⟨h1, h2⟩ := hpre
  walk_at "mine go"
  all_goals first
    | exact joinB_end (by assumption) (by assumption) rfl
    | exact endV hret (plus_l (by assumption))
    | exact endV hret (plus_r (by assumption))
    | exact endV hret (plus_n (by assumption) (by assumption))
end
end Mine
namespace Mine
section
section
variable {prog : Program} {w : World} {A : Around} {E : Value → Shared → Prop} {s : Shared} {h₀ : Heap} {L l : Addr} {m : Str → Option Value} {news : List (Addr × Obj)} {value slice : PySem.Expr} {vs : List Value} {ns ms : List Int} {vl vu : Value} {lo hi : Option Int} {Q : Value → Shared → Prop}
theorem sliceT {its : Array Value} (F : Fr h₀ L s.heap m) (N : News h₀ L s.heap news) (hl : s.heap.IsList l its) (pl : IsPart vl lo) (pu : IsPart vu hi)
    (h : ∀ h', Fr h₀ L h' m → News h₀ L h' ((s.heap.objs.size + 1, { cls := .type "list", data := .seq (slicePick its lo hi none) }) :: news) → Q (.ref (s.heap.objs.size + 1)) { s with heap := h' })
    (hs : subscripted slice false (.ref l) (.ref s.heap.objs.size) = operate [.ref s.heap.objs.size, .ref l] (getItem (.ref l) (.ref s.heap.objs.size)))
    (hsz : its.size ≤ sizeLine) :
    wpAny (model prog w) A (subscriptTail value slice (.ref l) (.ref s.heap.objs.size)) Q E { s with heap := s.heap.push { cls := .type "slice", data := .fields #[vl, vu, .none] } } := by
  refine tail_any (Heap.IsList.typeIs (s := { s with heap := s.heap.push { cls := .type "slice", data := .fields #[vl, vu, .none] } }) (hl.push _)) slot_list_getitem.lookup
    (wpAny_getItem_list_slice (hl.push _) (Heap.IsSliceOf.new ..) pl pu .none (by simp) ?_ hsz) hs
  have N1 := News.push (F.push { cls := .type "slice", data := .fields #[vl, vu, .none] }) (N.grown fun _ _ e => Heap.get?_push_of_some _ e) { cls := .type "list", data := .seq (slicePick its lo hi none) }
  rw [Heap.size_push] at N1
  show Q (.ref (s.heap.push _).objs.size) _
  rw [Heap.size_push]
  exact h _ ((F.push _).push _) N1
theorem sliceT_ints {c : Nat} (F : Fr h₀ L s.heap m) (N : News h₀ L s.heap news) (hl : s.heap.IsList l vs.toArray) (pl : IsPart vl lo) (pu : IsPart vu hi) (hm : IntsAre (slicePick vs.toArray lo hi none).toList ms) (hc : ms.length = c)
    (h : ∀ D ws h', Fr h₀ L h' m → News h₀ L h' ((D, W.listOf (List.toArray ws) 0) :: news) → (∀ p ∈ news, p.1 < D) → IntsAre ws ms → ms.length = c → Q (.ref D) { s with heap := h' })
    (hs : subscripted slice false (.ref l) (.ref s.heap.objs.size) = operate [.ref s.heap.objs.size, .ref l] (getItem (.ref l) (.ref s.heap.objs.size))) (hz : vs.toArray.size ≤ sizeLine) :
    wpAny (model prog w) A (subscriptTail value slice (.ref l) (.ref s.heap.objs.size)) Q E { s with heap := s.heap.push { cls := .type "slice", data := .fields #[vl, vu, .none] } } := by
  refine sliceT F N hl pl pu (fun h' F' N' => h _ (slicePick vs.toArray lo hi none).toList h' F' ?_ (fun p hp => Nat.lt_succ_of_lt (Heap.lt_size (N p hp).1)) hm hc) hs hz
  rw [Array.toArray_toList]
  exact N'
end
/-- the three cells -/
theorem cells3 (ns : List Int) (f : Int → Int) (hf : ∀ x, 0 ≤ f x) : ∃ c0 c1 c2 : Int, 0 ≤ c0 ∧ 0 ≤ c1 ∧ 0 ≤ c2 ∧ (ns.take 3).map f ++ [1, 9, 4].drop (ns.take 3).length = [c0, c1, c2] := by
  rcases ns with _ | ⟨a, _ | ⟨b, _ | ⟨c, r⟩⟩⟩
  · exact ⟨1, 9, 4, by decide, by decide, by decide, rfl⟩
  · exact ⟨f a, 9, 4, hf a, by decide, by decide, rfl⟩
  · exact ⟨f a, f b, 4, hf a, hf b, by decide, rfl⟩
  · exact ⟨f a, f b, f c, hf a, hf b, hf c, rfl⟩

theorem ints3 {vs : List Value} {a b c : Int} (h : IntsAre vs [a, b, c]) : ∃ t0 t1 t2, vs = [.int a t0, .int b t1, .int c t2] := by
  cases h with
  | cons _ t0 h => cases h with
    | cons _ t1 h => cases h with
      | cons _ t2 h => cases h with
        | nil => exact ⟨t0, t1, t2, rfl⟩
theorem news_two {h₀ h : Heap} {L : Addr} {a b c d e f g : Addr × Obj} (N : News h₀ L h [a, b, c, d, e, f, g]) : News h₀ L h [a, g] := fun p hp => N p (by
  rcases List.mem_cons.mp hp with rfl | hp
  · exact .head _
  · rw [List.mem_singleton.mp hp]
    simp)

section
variable {prog : Program} {w : World} {A : Around} {E : Value → Shared → Prop} {s : Shared} {t u : Tok} {Q : Value → Shared → Prop}
theorem powL (h : Q (.int 1000000000 s.toks) { s with toks := s.toks + 1 }) : wpAny (model prog w) A (binaryOp .Pow (.int 10 t) (.int 9 u)) Q E s :=
  pow_int_small (by decide) (by decide) (by decide) (by rw [show ((10 : Int) ^ (9 : Int).toNat) = 1000000000 from by decide]; exact h)
theorem modL {c : Int} (h : ∀ y : Int, 0 ≤ y → y < 1000000000 → Q (.int y s.toks) { s with toks := s.toks + 1 }) : wpAny (model prog w) A (binaryOp .Mod (.int c t) (.int 1000000000 u)) Q E s :=
  modB (by decide) (h _ (fmod_rng (by decide)).1 (fmod_rng (by decide)).2)
theorem mulL {y : Int} (h0 : 0 ≤ y) (h1 : y < 1000000000) (h : Q (.int (y * 7) s.toks) { s with toks := s.toks + 1 }) : wpAny (model prog w) A (binaryOp .Mult (.int y t) (.int 7 u)) Q E s :=
  mulB (k := 30) (m := 3) (by unfold Bd; omega) (by unfold Bd; decide) (by decide) (by decide) h
theorem bdL {y z : Int} (h0 : 0 ≤ y) (h1 : y < 1000000000) (h2 : 0 ≤ z) (h3 : z < 1000000000) : Bd 64 (y * 7 - z) := by unfold Bd; omega
end

def DOk (v : Value) : Prop := ∃ d, Vl d v ∧ (toldF d).length ≤ 150010
theorem dok_none : DOk .none := ⟨.none, rfl, by decide +kernel⟩
theorem dok_null : DOk (.ref 37) := ⟨.null, rfl, by decide +kernel⟩
theorem dok_bool (b : Bool) : DOk (.bool b) := ⟨.bool b, rfl, by cases b <;> decide +kernel⟩
theorem dok_int (x : Int) (t : Tok) : DOk (.int x t) := ⟨.int x, ⟨t, rfl⟩, showF_len x⟩
theorem dok_str {q : Str} {t : Tok} (h : q.length ≤ 150010) : DOk (.str q t) := ⟨.str q, ⟨t, rfl⟩, h⟩
section
variable {prog : Program} {w : World} {A : Around} {E : Value → Shared → Prop} {s : Shared} {t u : Tok} {Q : Value → Shared → Prop}
theorem modM {c n : Int} (hn : 1 ≤ n) (h : ∀ y : Int, 0 ≤ y → y < n → Q (.int y s.toks) { s with toks := s.toks + 1 }) : wpAny (model prog w) A (binaryOp .Mod (.int c t) (.int n u)) Q E s :=
  modB hn (h _ (fmod_rng hn).1 (fmod_rng hn).2)
theorem itemD {value slice : PySem.Expr} {a : Addr} {vs : List Value} {k : Int} (hl : s.heap.IsList a vs.toArray) (hD : ∀ v ∈ vs, DOk v) (h0 : 0 ≤ k) (h1 : k < 14) (hk : vs.length = 14)
    (h : ∀ v d, Vl d v → (toldF d).length ≤ 150010 → Q v s)
    (hs : subscripted slice false (.ref a) (.int k u) = operate [.ref a, .int k u] (getItem (.ref a) (.int k u)) := by with_unfolding_all rfl) :
    wpAny (model prog w) A (subscriptTail value slice (.ref a) (.int k u)) Q E s := by
  have hlt : k.toNat < vs.length := by omega
  obtain ⟨d, V, f⟩ := hD _ (List.getElem_mem hlt)
  exact tail_any hl.typeIs slot_list_getitem.lookup (wpAny_getItem_list (x := vs[k.toNat]) hl h0 (by omega) (by simp [hlt]) (h _ d V f)) hs
end

def Dt.Plain (d : Dt) : Prop := d.isNum = true ∨ d.isTxt = true
theorem plus_plain (a b : Dt) : (plusD a b).Plain := by
  unfold plusD
  split
  · exact .inr rfl
  · exact .inl rfl
theorem fit_plus {a b : Dt} {n m : Nat} (h1 : (toldF a).length ≤ n) (h2 : (toldF b).length ≤ m) : (toldF (plusD a b)).length ≤ n + m + 150010 := by
  unfold plusD
  split
  · show (toldF a ++ toldF b).length ≤ _
    rw [Str.length_append]
    omega
  · have := showF_len (addF (numF a) (numF b))
    show (showF _).length ≤ _
    omega
theorem plusD_l (q : Str) (b : Dt) : plusD (.str q) b = .str (q ++ toldF b) := rfl
theorem plusD_r (a : Dt) (q : Str) : plusD a (.str q) = .str (toldF a ++ q) := by
  unfold plusD
  rw [if_pos (by show (a.isTxt || true) = true; exact Bool.or_true _)]
  rfl
theorem eq3 (a b : Dt) (x y : Str) : plusD (plusD (.str x) a) (plusD b (.str y)) = plusD (.str x) (plusD (plusD (.str (Str.ofString "")) a) (plusD b (.str y))) := by
  rw [plusD_l, plusD_r, plusD_l, plusD_l, plusD_l, plusD_l]
  show Dt.str ((x ++ toldF a) ++ (toldF b ++ y)) = Dt.str (x ++ ((Str.ofString "" ++ toldF a) ++ (toldF b ++ y)))
  rw [show Str.ofString "" ++ toldF a = toldF a from PySem.Str.empty_append _, Str.append_assoc]
theorem eq4 (a b c : Dt) (x : Str) : plusD (plusD (plusD (.str x) a) b) c = .str (x ++ toldF a ++ toldF b ++ toldF c) := rfl
theorem eq5 (c : Dt) : plusD (.str (Str.ofString "")) c = .str (toldF c) := by
  rw [plusD_l]
  rw [show Str.ofString "" ++ toldF c = toldF c from PySem.Str.empty_append _]
theorem eq6 (c : Dt) : plusD c (.str (Str.ofString "")) = .str (toldF c) := by
  rw [plusD_r]
  rw [show toldF c ++ Str.ofString "" = toldF c from PySem.Str.append_empty _]
section
variable {prog : Program} {w : World} {A : Around} {E : Value → Shared → Prop} {s : Shared} {d d' : Dt} {v v' : Value} {Q : Value → Shared → Prop}
theorem neD (V : Vl d v) (V' : Vl d' v') (e : d = d') (p : d.Plain) (h : Q (.bool false) s) : wpAny (model prog w) A (compareOp .NotEq v v') Q E s := by
  subst e
  cases d
  · cases p <;> contradiction
  · cases p <;> contradiction
  · cases p <;> contradiction
  · obtain ⟨t, rfl⟩ := V
    obtain ⟨t', rfl⟩ := V'
    exact ne_int (by simpa using h)
  · obtain ⟨t, rfl⟩ := V
    obtain ⟨t', rfl⟩ := V'
    exact ne_str (by simpa using h)
theorem eqD (V : Vl d v) (V' : Vl d' v') (e : d = d') (p : d.Plain) (h : Q (.bool true) s) : wpAny (model prog w) A (compareOp .Eq v v') Q E s := by
  subst e
  cases d
  · cases p <;> contradiction
  · cases p <;> contradiction
  · cases p <;> contradiction
  · obtain ⟨t, rfl⟩ := V
    obtain ⟨t', rfl⟩ := V'
    exact eq_int (by simpa using h)
  · obtain ⟨t, rfl⟩ := V
    obtain ⟨t', rfl⟩ := V'
    exact eq_str (by simpa using h)
end
end
end Mine
local macro_rules | `(tactic| walk_at "eval Slice") => `(tactic| (k_here; dsimp only))
local macro_rules | `(tactic| walk_at "execs cons") => `(tactic| (k_here; dsimp only))
local macro_rules | `(tactic| walk_at "subscriptTail") => `(tactic| (k_here; (with_reducible show wpAny _ _ (subscriptTail (PySem.Expr.List _ _) (PySem.Expr.Slice _ _ none _) (Value.ref _) (Value.ref _)) _ _ _); k_dflt (refine Mine.sliceT_ints (by k_asm) (by k_asm) (News.isList (by k_asm) (by k_mem)) (by kmk_part) (by kmk_part) (kmk_from (.cons _ _ (.cons _ _ (.cons _ _ .nil))) (Int.natCast_nonneg _)) (List.length_drop ..) ?_ (by with_unfolding_all rfl) (Nat.le_of_ble_eq_true rfl)); intro D' ws' h' F' N' l1 hI' hC'; (try k_lt l1); (try k_sweep)))
local macro_rules | `(tactic| walk_at "exec Assign") => `(tactic| (k_here; (fail_if_success (with_reducible rename Mine.JMark => jNo)); (show wpAny _ _ (exec (Stmt.Assign [PySem.Expr.Name (Str.ofString "some") _] _ _) _) _ _ _); refine Mine.stopHere ?_))
local macro_rules | `(tactic| walk_at "call ref") => `(tactic| (k_here; k_dflt (refine' Mine.useI (Mine.fromInt_c _ _ _) ?_ ?_ ?_ ?_ ?_ ?_ ?_ ?_ ?_ ?_); walk_at "mine sides"))
local macro_rules | `(tactic| walk_at "mine law1") => `(tactic| (
  unfold Mine.Stop;
  (rename IntsAre _ _ => hI9);
  (simp only [Int.toNat_natCast] at hI9);
  obtain ⟨c0, c1, c2, hc0, hc1, hc2, e9⟩ := Mine.cells3 _ (fun k' => if k' < 0 then -k' else k') Mine.abs_nonneg';
  (erw [e9] at hI9);
  obtain ⟨t0, t1, t2, q9⟩ := Mine.ints3 hI9;
  subst q9;
  clear hI9 e9;
  (rename News _ _ _ _ => nJ);
  (have nK := Mine.news_two nJ);
  clear nJ;
  (have jM := Mine.jMark)))
local macro_rules | `(tactic| walk_at "binaryOp Pow int int") => `(tactic| (k_here; k_dflt (refine Mine.powL ?_)))
local macro_rules | `(tactic| walk_at "binaryOp Mod int int") => `(tactic| (k_here; k_dflt (refine Mine.modM (by decide) ?_); intro y9 hy8 hy9; (try dsimp only)))
local macro_rules | `(tactic| walk_at "CompSrc") => `(tactic| (k_here; (with_reducible rename Mine.JMark => jM); k_dflt (refine LCg.CompSrc.ledger (by rfl) (by k_asm) (by k_asm) (by k_mem) (Nat.le_of_ble_eq_true rfl) ?_); intro g'; k_dflt lcg_lit))
local macro_rules | `(tactic| walk_at "mine dok") => `(tactic| first | exact List.forall_mem_nil _ | (refine List.forall_mem_cons.mpr ⟨by first | exact Mine.dok_none | exact Mine.dok_null | exact Mine.dok_bool _ | exact Mine.dok_int _ _ | exact Mine.dok_str (by decide +kernel), ?_⟩; walk_at "mine dok"))
local macro_rules | `(tactic| walk_at "subscriptTail") => `(tactic| (k_here; (with_reducible rename Mine.JMark => jM); (with_reducible show wpAny _ _ (subscriptTail (PySem.Expr.Name _ _) (PySem.Expr.BinOp _ _ _ _) (Value.ref _) (Value.int _ _)) _ _ _); k_dflt (refine Mine.itemD (News.isList (by k_asm) (by k_mem)) (by walk_at "mine dok") (by assumption) (by assumption) (by rfl) ?_ (by with_unfolding_all rfl)); intro v9 d9 V9 f9; (try dsimp only)))
local macro_rules | `(tactic| walk_at "binaryOp Mult int int") => `(tactic| (k_here; k_dflt (refine Mine.mulL (by assumption) (by assumption) ?_)))
local macro_rules | `(tactic| walk_at "mine pre") => `(tactic| exact Mine.bdL (by assumption) (by assumption) (by assumption) (by assumption))
local macro_rules | `(tactic| walk_at "call ref") => `(tactic| (k_here; k_dflt (refine' Mine.useV (Mine.binary_c _ _ _ _ _ _ _ (by walk_at "mine vl") (by walk_at "mine vl")) ?_ ?_ ?_ ?_ ?_ ?_ ?_ ?_ ?_ ?_); walk_at "mine sides"))
local macro_rules | `(tactic| walk_at "call ref") => `(tactic| (k_here; k_dflt (refine' Mine.useV (Mine.due_c _ _ _ _ _ (by walk_at "mine vl") (by walk_at "mine vl")) ?_ ?_ ?_ ?_ ?_ ?_ ?_ ?_ ?_ ?_); walk_at "mine sides"))
local macro_rules | `(tactic| walk_at "call ref") => `(tactic| (k_here; k_dflt (refine' Mine.useS (Mine.told_c _ _ _ (by walk_at "mine vl")) ?_ ?_ ?_ ?_ ?_ ?_ ?_ ?_ ?_ ?_); walk_at "mine sides"))
local macro_rules | `(tactic| walk_at "mine fitn") => `(tactic| first | assumption | exact (show (Mine.toldF (.str _)).length ≤ 3 from by decide +kernel) | exact Mine.fit_plus (by walk_at "mine fitn") (by walk_at "mine fitn"))
local macro_rules | `(tactic| walk_at "mine pre") => `(tactic| (refine And.intro (Nat.le_trans (by walk_at "mine fitn") (by decide)) (Nat.le_trans (by walk_at "mine fitn") (by decide))))
local macro_rules | `(tactic| walk_at "mine eq") => `(tactic| first | exact rfl | exact Mine.eq3 _ _ _ _ | exact Mine.eq4 _ _ _ _ | exact Mine.eq5 _ | exact Mine.eq6 _)
local macro_rules | `(tactic| walk_at "compareOp NotEq") => `(tactic| (k_here; k_dflt (refine Mine.neD (by walk_at "mine vl") (by walk_at "mine vl") (by walk_at "mine eq") (Mine.plus_plain _ _) ?_); (try dsimp only)))
local macro_rules | `(tactic| walk_at "compareOp Eq") => `(tactic| (k_here; k_dflt (refine Mine.eqD (by walk_at "mine vl") (by walk_at "mine vl") (by walk_at "mine eq") (Mine.plus_plain _ _) ?_); (try dsimp only)))
theorem PySem.Challenge.cw_sa0376_01_holds : PySem.Challenge.rw_sa0376_01.Holds := by
  refine Mine.hd ?_
  w_on
  w_strict (k_go0; (all_goals try k_fold); k_steps; walk_at "mine law1"; k_steps)
