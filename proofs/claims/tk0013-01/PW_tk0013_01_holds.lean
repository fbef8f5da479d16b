import PyProof.Rows.All
import Wide.All
import OpenK.AllK
import Wide.FinOn
import PyProof.DictIter
import PyProof.EqAt
import PyProof.NeKinds
import Lean
import PySem.Challenge.RW_tk0013_01
open PySem PySem.W PyProof.Rows PySem.Spec PySem.Calls
set_option Elab.async false
set_option maxRecDepth 100000
set_option compiler.extract_closed false
namespace Mine
-- part Head
section
/-- the statements of the text that bind something -/
noncomputable def viewQ : Program := view PySem.Challenge.pw_tk0013_01 [1, 3, 5, 7, 8, 9, 10, 11, 13, 14, 15, 16, 17, 19, 20, 21, 23, 24, 25, 26, 27, 28]
abbrev theRow : OpenRow := PySem.Challenge.rw_tk0013_01.row
/-- what is asked of the end of the top's run -/
noncomputable def EndsP (H : Hook) : Prop := LeftO theRow.prog viewQ [] (fun s => xlAt viewQ [] s && recOk (RowW.records theRow.toRowW) s) (Hook.obs H) (Hook.val H) 1890
/-- the same by the library's quick twins -/
noncomputable def EndsT (H : Hook) (T : World → Shared → Option Shared) : Prop := ∀ w, (fun os => (T w ⟨boot_heap w.params, Array.mk [], boot_drawn, boot_toks, os⟩).map (fun s => (PySem.W.Fast.tw4187177175401517315 viewQ [] (PySem.W.Fast.tw5923862056798008813 theRow.prog.main.body) (fun s => xlAt viewQ [] s && recOk (RowW.records theRow.toRowW) s) true s, Hook.obs H s))) = fun _ => some (openGood viewQ [], Hook.val H w)
theorem ends_of {H : Hook} (e : opening theRow.prog = plainProg theRow.prog.main.scope.names) (f : ∀ s, fenceModules? theRow.prog s = some s) {T : World → Shared → Option Shared} (q : ∀ w s, topFrom treeTable theRow.prog w 1890 s = T w s) (h : EndsT H T) : EndsP H := by
  intro w
  obtain ⟨s₀, hs, hv⟩ := Option.map_eq_some_iff.mp (boot_open (N := 1890) e rfl f w)
  obtain ⟨hp, gs, d, k, os⟩ := s₀
  simp only [Prod.mk.injEq] at hv
  obtain ⟨rfl, rfl, rfl, rfl⟩ := hv
  have h := congrFun (h w) os
  rw [← PySem.W.Fast.te5923862056798008813, ← PySem.W.Fast.te4187177175401517315, ← q] at h
  show Option.map _ (openEnds _ _ _ _) = _
  unfold openEnds
  rw [hs, Option.bind_some]
  exact h
theorem said_of : OpenLaw.wellSaid PySem.Challenge.rw_tk0013_01 = true := by
  rw [PySem.W.Fast.te9446332074065402090]
  kernel_rfl
theorem head_of {H : Hook} {d : DefRec} {kwd : List (Str × Expr)} (said : theRow.wellSaid = true) (left : EndsP H) (hdef : defOf viewQ theRow.name = some (d, kwd)) (hp : theRow.prog.theDef theRow.name = some (d.params, d.body, d.scope)) (hk : kwWritten? d.params.kwonlyargs d.params.kw_defaults = some kwd)
    (hw : theRow.toRowW.promised) (call : WalkO viewQ [] (XL viewQ []) (Hook.says H) theRow.toRowW d kwd fun f vs => PySem.call f vs) : theRow.Holds :=
  _root_.PySem.W.holds_open left (Hook.of H) (Hook.keeps H) (fun s e => xl_of s (Bool.and_eq_true_iff.mp e).1) XL.keeps hdef hp hk (fun s e => recFacts_of (Bool.and_eq_true_iff.mp e).2) rfl said (by decide +kernel) ⟨rfl, rfl, rfl, rfl, rfl, by decide +kernel⟩ hw call
section
local macro_rules | `(tactic| o_law) => `(tactic| refine holds_law said_of fun said => ?_)
local macro_rules | `(tactic| o_head $H) => `(tactic| refine head_of (H := $H) (by assumption) (ends_of (by kernel_rfl) (fun _ => by kernel_rfl) (fun w s => by (unfold topFrom; rw [PySem.W.Fast.te14082659384304107361, PySem.W.Fast.te5923862056798008813])) (by intro; kernel_rfl)) (by rfl) (by rfl) (by rfl) ?hw ?hc)
set_option maxRecDepth 100000 in
set_option maxHeartbeats 8000000 in
open_top hd for PySem.Challenge.rw_tk0013_01
end

end
-- part Base
section
theorem offBase : True := by
  w_top off
  trivial
abbrev Pg : Program := PySem.Challenge.rw_tk0013_01.row.prog

abbrev tupO (vs : List Value) : Obj := { cls := .type "tuple", data := .seq vs.toArray }
abbrev lstO (vs : List Value) (n : Nat) : Obj := { cls := .type "list", data := .seq vs.toArray n }

/-- what a called def may ask of the place it is called from -/
noncomputable def Tells (w : World) (d : Nat) (f : Addr) (args : List Value) (news : List (Addr × Obj)) (Ret : List (Addr × Obj) → Value → Prop) : Prop :=
  ∀ (loose : List Str) (mean : ExcName → Option Value) (mg mb : Str → Option Value) (dp un : Nat) (gd : Option (List Code)) (cn : Str) (cs : Scope) (a : Addr) (ccd : Value) (cl : List (Str × Addr)) (outer : List Env) (A₀ : Around) (base h₀ : Heap) (L : Addr) (m : Str → Option Value) (s : Shared) (Q E : Value → Shared → Prop),
    Below A₀ base outer h₀ → Fr h₀ L s.heap m → (Mine.hd.heap_1 w.params).In h₀ → News h₀ L s.heap news → Top Mine.viewQ loose mean mg mb h₀ → cs.kind = .function →
    dp + d < recursionLimit → un + 8 * d < cLine →
    (∀ r news' h' tk', Fr h₀ L h' m → News h₀ L h' news' → Ret news' r → Q r { s with heap := h', toks := tk' }) →
    wpAny (model Pg w) (ktrTop dp un gd cn cs L a ccd cl outer) (call (.ref f) args) Q E s

theorem Tells.use {w : World} {d : Nat} {f : Addr} {args : List Value} {news : List (Addr × Obj)} {Ret : List (Addr × Obj) → Value → Prop}
    {loose : List Str} {mean : ExcName → Option Value} {mg mb : Str → Option Value} {dp un : Nat} {gd : Option (List Code)} {cn : Str} {cs : Scope} {a : Addr} {ccd : Value} {cl : List (Str × Addr)} {outer : List Env} {A₀ : Around} {base h₀ : Heap} {L : Addr} {m : Str → Option Value} {s : Shared} {Q E : Value → Shared → Prop}
    (B : Below A₀ base outer h₀) (F : Fr h₀ L s.heap m) (X : (Mine.hd.heap_1 w.params).In h₀) (N : News h₀ L s.heap news) (T : Top Mine.viewQ loose mean mg mb h₀) (hk : cs.kind = .function)
    (C : Tells w d f args news Ret)
    (hd : dp + d < recursionLimit) (hu : un + 8 * d < cLine)
    (ret : ∀ r news' h' tk', Fr h₀ L h' m → News h₀ L h' news' → Ret news' r → Q r { s with heap := h', toks := tk' }) :
    wpAny (model Pg w) (ktrTop dp un gd cn cs L a ccd cl outer) (call (.ref f) args) Q E s :=
  C _ _ _ _ _ _ _ _ _ _ _ _ _ _ _ _ _ _ _ _ _ B F X N T hk hd hu ret

/-- a mark at which a walk stands still -/
structure Stop (p : Prop) : Prop where
  out : p
theorem fillK : PySem.Challenge.rw_tk0013_01 = PySem.Challenge.rw_tk0013_01 ∧ Mine.hd.heap_1 = Mine.hd.heap_1 := by
  k_fill
  exact ⟨rfl, rfl⟩
theorem fmod_abs_one (x : Int) : (Int.fmod (if x < 0 then -x else x) (if (1 : Int) < 0 then -1 else 1) != 0) = false := by
  rw [if_neg (show ¬ (1 : Int) < 0 by decide)]
  simp [Int.fmod_one]

local macro_rules | `(tactic| walk_at "WhlIf") => `(tactic| (refine WhlIf.no (fmod_abs_one _) ?_))
set_option maxRecDepth 100000 in
set_option maxHeartbeats 4000000 in
theorem gcd_tells (w : World) (x : Int) (t1 t2 : Tok) (news) : Tells w 1 46 [.int x t1, .int 1 t2] news (fun n' r => ∃ tk, r = .int 1 tk ∧ n' = news) := by
  unfold Tells
  intros; rename_i hret
  refine wpAny_call ?_
  k_dflt cell_enter
  k_steps
  all_goals exact hret _ _ _ _ (by k_asm) (cb_drop (by k_asm) (by simp +contextual)) ⟨_, rfl, rfl⟩

end
-- part W1
section
local macro_rules | `(tactic| walk_at "zz") => `(tactic| fail)
theorem offW1 : True := by
  w_top off
  trivial

local macro_rules | `(tactic| walk_at "call ref") => `(tactic| refine Stop.out ?_)

/-- a ratio whose bottom is one -/
abbrev ratO (x : Int) (t t' : Tok) : Obj := tupO [.int x t, .int 1 t']
noncomputable def RetRat (x : Int) (news : List (Addr × Obj)) (n' : List (Addr × Obj)) (r : Value) : Prop :=
  ∃ a t t', r = .ref a ∧ n' = (a, ratO x t t') :: news ∧ ∀ p ∈ news, p.1 < a

theorem ret_rat {h₀ h' : Heap} {L D : Addr} {m} {x y z : Int} {t t' : Tok} {tk : Nat} {s : Shared} {news pre : List (Addr × Obj)} {Q : Value → Shared → Prop}
    (hret : ∀ r news' h' tk', Fr h₀ L h' m → News h₀ L h' news' → RetRat x news news' r → Q r { s with heap := h', toks := tk' })
    (F : Fr h₀ L h' m) (N : News h₀ L h' ((D, tupO [.int y t, .int z t']) :: (pre ++ news))) (l1 : ∀ p ∈ pre ++ news, p.1 < D) (hy : y = x) (hz : z = 1) :
    Q (.ref D) { s with heap := h', toks := tk } := by
  subst hy hz
  refine hret _ ((D, ratO y t t') :: news) _ _ F (fun p hp => N p ?_) ⟨_, _, _, rfl, rfl, fun p hp => l1 p (List.mem_append_right _ hp)⟩
  rcases List.mem_cons.mp hp with rfl | hp
  · exact .head _
  · exact .tail _ (List.mem_append_right _ hp)

set_option maxRecDepth 100000 in
set_option maxHeartbeats 4000000 in
theorem rat_tells (w : World) (x y : Int) (t1 t2 : Tok) (news) (hy : y = 1) : Tells w 2 55 [.int x t1, .int y t2] news (RetRat x news) := by
  subst hy
  unfold Tells
  intros; rename_i hret
  refine wpAny_call ?_
  k_dflt cell_enter
  k_steps
  iterate 3 (all_goals (try (refine Stop.mk ?_; (first
      | ((
        k_here; (with_reducible show wpAny _ _ (call (Value.ref 46) _) _ _ _)
        k_dflt (refine' Tells.use ?k1 ?k2 ?k3 ?k4 ?k5 ?kK (gcd_tells _ _ _ _ _) ?kd ?ku ?_)
        (case k1 => k_asm); (case k2 => k_asm); (case k3 => k_asm); (case k4 => k_asm); (case k5 => k_asm); (case kK => first | exact rfl | assumption); (case kd => ktr_room); (case ku => ktr_units)
        intro r' n' h' tk' F' N' hr
        obtain ⟨tk9, e1, e2⟩ := hr; subst e1; subst e2; (try dsimp only)))); all_goals k_steps)))
  all_goals exact ret_rat (pre := []) hret (by k_asm) (by k_asm) (by k_asm) (Int.fdiv_one _) rfl


set_option maxRecDepth 100000 in
set_option maxHeartbeats 1000000 in
theorem rmul_tells (w : World) (x y : Int) (a b : Addr) (t1 t2 t3 t4 : Tok) (news : List (Addr × Obj)) (hx : -4611686018427387904 < x ∧ x < 4611686018427387904) (hy : -4611686018427387904 < y ∧ y < 4611686018427387904)
    (ha : (a, ratO x t1 t2) ∈ news) (hb : (b, ratO y t3 t4) ∈ news) : Tells w 3 69 [.ref a, .ref b] news (RetRat (x * y) news) := by
  unfold Tells
  intros; rename_i hret
  refine wpAny_call ?_
  k_dflt cell_enter
  k_steps
  iterate 3 (all_goals (try (refine Stop.mk ?_; (first
      | ((
        k_here; (with_reducible show wpAny _ _ (call (Value.ref 55) _) _ _ _)
        k_dflt (refine' Tells.use ?k1 ?k2 ?k3 ?k4 ?k5 ?kK (rat_tells _ _ _ _ _ _ ?hy) ?kd ?ku ?_)
        (case k1 => k_asm); (case k2 => k_asm); (case k3 => k_asm); (case k4 => k_asm); (case k5 => k_asm); (case kK => first | exact rfl | assumption); (case kd => ktr_room); (case ku => ktr_units); (case hy => first | exact rfl | decide)
        intro r' n' h' tk' F' N' hr
        obtain ⟨a9, t9, t8, e1, e2, l1⟩ := hr; subst e1; subst e2; (try dsimp only)))
      | ((
        k_here; (with_reducible show wpAny _ _ (call (Value.ref 46) _) _ _ _)
        k_dflt (refine' Tells.use ?k1 ?k2 ?k3 ?k4 ?k5 ?kK (gcd_tells _ _ _ _ _) ?kd ?ku ?_)
        (case k1 => k_asm); (case k2 => k_asm); (case k3 => k_asm); (case k4 => k_asm); (case k5 => k_asm); (case kK => first | exact rfl | assumption); (case kd => ktr_room); (case ku => ktr_units)
        intro r' n' h' tk' F' N' hr
        obtain ⟨tk9, e1, e2⟩ := hr; subst e1; subst e2; (try dsimp only)))); all_goals k_steps)))
  (rename News _ _ _ _ => kN')
  exact hret _ _ _ _ (by k_asm) kN' ⟨_, _, _, rfl, rfl, by assumption⟩
set_option maxRecDepth 100000 in
set_option maxHeartbeats 1000000 in
theorem radd_tells (w : World) (x y : Int) (a b : Addr) (t1 t2 t3 t4 : Tok) (news : List (Addr × Obj)) (hx : -4611686018427387904 < x ∧ x < 4611686018427387904) (hy : -4611686018427387904 < y ∧ y < 4611686018427387904)
    (ha : (a, ratO x t1 t2) ∈ news) (hb : (b, ratO y t3 t4) ∈ news) : Tells w 3 62 [.ref a, .ref b] news (RetRat (x + y) news) := by
  unfold Tells
  intros; rename_i hret
  refine wpAny_call ?_
  k_dflt cell_enter
  k_steps
  iterate 3 (all_goals (try (refine Stop.mk ?_; (first
      | ((
        k_here; (with_reducible show wpAny _ _ (call (Value.ref 55) _) _ _ _)
        k_dflt (refine' Tells.use ?k1 ?k2 ?k3 ?k4 ?k5 ?kK (rat_tells _ _ _ _ _ _ ?hy) ?kd ?ku ?_)
        (case k1 => k_asm); (case k2 => k_asm); (case k3 => k_asm); (case k4 => k_asm); (case k5 => k_asm); (case kK => first | exact rfl | assumption); (case kd => ktr_room); (case ku => ktr_units); (case hy => first | exact rfl | decide)
        intro r' n' h' tk' F' N' hr
        obtain ⟨a9, t9, t8, e1, e2, l1⟩ := hr; subst e1; subst e2; (try dsimp only)))
      | ((
        k_here; (with_reducible show wpAny _ _ (call (Value.ref 46) _) _ _ _)
        k_dflt (refine' Tells.use ?k1 ?k2 ?k3 ?k4 ?k5 ?kK (gcd_tells _ _ _ _ _) ?kd ?ku ?_)
        (case k1 => k_asm); (case k2 => k_asm); (case k3 => k_asm); (case k4 => k_asm); (case k5 => k_asm); (case kK => first | exact rfl | assumption); (case kd => ktr_room); (case ku => ktr_units)
        intro r' n' h' tk' F' N' hr
        obtain ⟨tk9, e1, e2⟩ := hr; subst e1; subst e2; (try dsimp only)))); all_goals k_steps)))
  (rename News _ _ _ _ => kN')
  simp only [Int.mul_one] at kN'
  exact hret _ _ _ _ (by k_asm) kN' ⟨_, _, _, rfl, rfl, by assumption⟩

end
-- part W2
section
theorem offW2 : True := by
  w_top off
  trivial
local macro_rules | `(tactic| walk_at "call ref") => `(tactic| (
  k_here; (with_reducible show wpAny _ _ (call (Value.ref 55) _) _ _ _)
  k_dflt (refine' Tells.use ?k1 ?k2 ?k3 ?k4 ?k5 ?kK (rat_tells _ _ _ _ _ _ ?hy) ?kd ?ku ?_)
  (case k1 => k_asm); (case k2 => k_asm); (case k3 => k_asm); (case k4 => k_asm); (case k5 => k_asm); (case kK => first | exact rfl | assumption); (case kd => ktr_room); (case ku => ktr_units); (case hy => first | exact rfl | decide)
  intro r' n' h' tk' F' N' hr
  obtain ⟨a9, t9, t8, e1, e2, l1⟩ := hr; subst e1; subst e2; (try dsimp only)))
/-- a ratio at hand: in the ledger, or R1 as it stands at the top -/
noncomputable def StR (news : List (Addr × Obj)) (a : Addr) (x : Int) : Prop := (∃ t t' : Tok, (a, ratO x t t') ∈ news) ∨ (a = 48 ∧ x = 1)
theorem StR.mono {news news' : List (Addr × Obj)} {a : Addr} {x : Int} (s : StR news a x) (h : ∀ p ∈ news, p.2.cls = .type "tuple" → p ∈ news') : StR news' a x := by
  rcases s with ⟨t, t', hm⟩ | e
  · exact .inl ⟨t, t', h _ hm rfl⟩
  · exact .inr e
set_option maxRecDepth 100000 in
set_option maxHeartbeats 1000000 in
theorem rmul_l (w : World) (y : Int) (b : Addr) (t3 t4 : Tok) (news : List (Addr × Obj)) (hy : -4611686018427387904 < y ∧ y < 4611686018427387904)
    (hb : (b, ratO y t3 t4) ∈ news) : Tells w 3 69 [.ref 48, .ref b] news (RetRat (1 * y) news) := by
  unfold Tells
  intros; rename_i hret
  refine wpAny_call ?_
  k_dflt cell_enter
  k_steps
  (rename News _ _ _ _ => kN')
  exact hret _ _ _ _ (by k_asm) kN' ⟨_, _, _, rfl, rfl, by assumption⟩
set_option maxRecDepth 100000 in
set_option maxHeartbeats 1000000 in
theorem rmul_r (w : World) (x : Int) (a : Addr) (t1 t2 : Tok) (news : List (Addr × Obj)) (hx : -4611686018427387904 < x ∧ x < 4611686018427387904)
    (ha : (a, ratO x t1 t2) ∈ news) : Tells w 3 69 [.ref a, .ref 48] news (RetRat (x * 1) news) := by
  unfold Tells
  intros; rename_i hret
  refine wpAny_call ?_
  k_dflt cell_enter
  k_steps
  (rename News _ _ _ _ => kN')
  exact hret _ _ _ _ (by k_asm) kN' ⟨_, _, _, rfl, rfl, by assumption⟩
set_option maxRecDepth 100000 in
set_option maxHeartbeats 1000000 in
theorem rmul_lr (w : World) (news : List (Addr × Obj)) : Tells w 3 69 [.ref 48, .ref 48] news (RetRat (1 * 1) news) := by
  unfold Tells
  intros; rename_i hret
  refine wpAny_call ?_
  k_dflt cell_enter
  k_steps
  (rename News _ _ _ _ => kN')
  exact hret _ _ _ _ (by k_asm) kN' ⟨_, _, _, rfl, rfl, by assumption⟩
theorem rmul_any (w : World) (x y : Int) (a b : Addr) (news : List (Addr × Obj)) (hx : -4611686018427387904 < x ∧ x < 4611686018427387904) (hy : -4611686018427387904 < y ∧ y < 4611686018427387904)
    (ha : StR news a x) (hb : StR news b y) : Tells w 3 69 [.ref a, .ref b] news (RetRat (x * y) news) := by
  rcases ha with ⟨t, t', ha⟩ | ⟨rfl, rfl⟩ <;> rcases hb with ⟨u, u', hb⟩ | ⟨rfl, rfl⟩
  · exact rmul_tells w x y a b _ _ _ _ news hx hy ha hb
  · exact rmul_r w x a _ _ news hx ha
  · exact rmul_l w y b _ _ news hy hb
  · exact rmul_lr w news

end
-- part R1

/-- all that stands outside pr stays -/
abbrev Stays (pr : List Addr) (h h' : Heap) : Prop := ∀ b o, b ∉ pr → h.get? b = some o → h'.get? b = some o
theorem Stays.refl (pr : List Addr) (h : Heap) : Stays pr h h := fun _ _ _ e => e
theorem Stays.trans {pr : List Addr} {a b c : Heap} (x : Stays pr a b) (y : Stays pr b c) : Stays pr a c := fun d o hd e => y d o hd (x d o hd e)
theorem Stays.mono {pr pr' : List Addr} {a b : Heap} (x : Stays pr a b) (h : ∀ d ∈ pr, d ∈ pr') : Stays pr' a b := fun d o hd e => x d o (fun q => hd (h d q)) e
theorem Stays.ofBut {b : Addr} {h h' : Heap} (x : Heap.ExtBut b h h') : Stays [b] h h' := fun d o hd e => x d o (by simpa using hd) e

noncomputable def ocFrom (n : Nat) : List (Str × NameKind) → List Addr
  | [] => []
  | (_, k) :: r => if k == .cell then n :: ocFrom (n + 1) r else ocFrom n r
theorem ocFrom_ge : ∀ (l : List (Str × NameKind)) (n : Nat), ∀ c ∈ ocFrom n l, n ≤ c
  | [], _, _, h => nomatch h
  | (_, k) :: r, n, c, h => by
    unfold ocFrom at h
    split at h
    · rcases List.mem_cons.mp h with rfl | h
      · exact Nat.le_refl _
      · exact Nat.le_of_succ_le (ocFrom_ge r _ c h)
    · exact ocFrom_ge r _ c h
theorem ocFrom_cell : ∀ (l : List (Str × NameKind)) (h : Heap), ∀ c ∈ ocFrom h.objs.size l, (pushCells h l).IsCell c none ∧ c < (pushCells h l).objs.size
  | [], _, _, hc => nomatch hc
  | (_, k) :: r, h, c, hc => by
    unfold ocFrom at hc
    unfold pushCells
    split at hc
    · rename_i hk
      rw [if_pos hk]
      rcases List.mem_cons.mp hc with rfl | hc
      · have e := pushCells_keeps r _ _ _ (Heap.get?_push_size h (o := { cls := .type "cell", data := .cell none }) rfl)
        exact ⟨⟨_, e, rfl⟩, Heap.lt_size e⟩
      · have := ocFrom_cell r (h.push { cls := .type "cell", data := .cell none }) c (by rw [Heap.size_push]; exact hc)
        exact this
    · rename_i hk
      rw [if_neg hk]
      exact ocFrom_cell r h c hc
theorem pushCells_size : ∀ (l : List (Str × NameKind)) (h : Heap), h.objs.size ≤ (pushCells h l).objs.size
  | [], _ => Nat.le_refl _
  | (_, k) :: r, h => by
    unfold pushCells
    split
    · have := pushCells_size r (h.push { cls := .type "cell", data := .cell none })
      rw [Heap.size_push] at this
      exact Nat.le_of_succ_le this
    · exact pushCells_size r h

section
variable {prog : Program} {w : World} {A : Around} {E : Value → Shared → Prop} {s : Shared} {env : Env}

theorem comp_newEnv {scope : Scope} {cl : List (Str × Addr)} {qual : Str} {Q : Env → Shared → Prop}
    (h : Q { scope := scope, locals := s.heap.objs.size, globals := env.globals, cells := cellsFrom (s.heap.objs.size + 1) scope.names cl, qual := qual, func := none, code := env.code, frame := env.frame, builtins := env.builtins }
      { s with heap := pushCells (s.heap.push { cls := .type "dict", data := .dict #[] }) scope.names }) :
    wpAny (model prog w) A (newFunctionEnv scope env.globals cl [] qual none .none (some env)) Q E s := by
  simp only [newFunctionEnv, Option.isSome_some, if_true]
  refine wpAny_bind (wpAny_alloc ?_)
  refine wpAny_bind (wpAny_layCells _ (fun name kind cells => by cases hkc : kind == NameKind.cell <;> simp [hkc]) _ _ _ _ ?_)
  rw [show ({ s with heap := s.heap.push { cls := .type "dict", data := .dict #[] } } : Shared).heap.objs.size = s.heap.objs.size + 1 from Heap.size_push ..]
  simp only [List.forIn_nil]
  exact wpAny_bind (wpAny_pure (wpAny_pure h))

/-- the tests of a clause -/
abbrev testsOf (ifs : List Expr) (env : Env) : Sem Bool :=
  forIn ifs true fun c r => if r = true then do let ok ← isTrue c env (eval c env); pure (ForInStep.yield ok) else pure (ForInStep.yield r)

theorem comp_turns {elt target iter : Expr} {ifs : List Expr} {scope : Scope} {pos : Pos} {it acc : Value} {env : Env} {R : Result → Shared → Prop} (I : Nat → Shared → Prop)
    (turn : ∀ n s, I n s → wpAny (model prog w) A (pyNext it) (fun r s₁ => match r with
      | none => R (.ok .next) s₁
      | some v => wpAny (model prog w) A (letOwnedTupleGo target it v) (fun _ s₀ => wpAny (model prog w) A (assign target env v) (fun _ s₂ =>
          wpAny (model prog w) A (testsOf ifs env) (fun ok s₃ =>
            if ok = true then wpAny (model prog w) A (eval elt env) (fun x s₄ =>
              wpAny (model prog w) A (call (.builtin "list.append") [acc, x]) (fun _ s₅ => ∃ m, m < n ∧ I m s₅) (notedBy (model prog w) A env fun e s' => R (.error e) s') s₄) (notedBy (model prog w) A env fun e s' => R (.error e) s') s₃
            else ∃ m, m < n ∧ I m s₃) (notedBy (model prog w) A env fun e s' => R (.error e) s') s₂) (notedBy (model prog w) A env fun e s' => R (.error e) s') s₀)
          (notedBy (model prog w) A env fun e s' => R (.error e) s') s₁) (notedBy (model prog w) A env fun e s' => R (.error e) s') s)
    (n : Nat) (h : I n s) : codeAny (model prog w) A (.compLoop (.ListComp elt [⟨target, iter, ifs, 0⟩] scope pos) 0 it acc env) R s := by
  refine codeAny_loop rfl I (fun n s hI => ?_) n h
  show wpAny _ A ((compTurn (.ListComp elt [⟨target, iter, ifs, 0⟩] scope pos) 0 it acc env).onRaise (fun x => do noteFrame x env; theTreesLotGoes x)) _ _ s
  refine wpAny_noted ?_
  rw [compTurn_list]
  refine wpAny_bind (wpAny_standAt (wpAny_bind (wpAny_mono (turn n s hI) (fun r s₁ h₁ => ?_) fun _ _ h' => h')))
  cases r with
  | none => exact wpAny_pure h₁
  | some v =>
    refine wpAny_bind (wpAny_mono h₁ (fun _ s₀ h₀ => wpAny_bind (wpAny_mono h₀ (fun _ s₂ h₂ => wpAny_bind (wpAny_mono h₂ (fun ok s₃ h₃ => ?_) fun _ _ h' => h')) fun _ _ h' => h')) fun _ _ h' => h')
    cases ok with
    | false => exact wpAny_pure ⟨rfl, h₃⟩
    | true => exact wpAny_bind (wpAny_bind (wpAny_mono h₃ (fun x s₄ h₄ => wpAny_bind (wpAny_mono h₄ (fun _ s₅ h₅ => wpAny_pure (wpAny_pure ⟨rfl, h₅⟩)) fun _ _ h' => h')) fun _ _ h' => h'))

/-- what a turn's own part leaves behind -/
structure TurnEnd (C : Addr) (oc : List Addr) (s s' : Shared) : Prop where
  same : ∃ h tk, s' = { s with heap := h, toks := tk }
  ns : ∃ m, s'.heap.Ns C m
  cells : ∀ c ∈ oc, ∃ v, s'.heap.IsCell c v
  stays : Stays (C :: oc) s.heap s'.heap

theorem comp_block {elt target iter : Expr} {ifs : List Expr} {scope : Scope} {cl : List (Str × Addr)} {pos : Pos} {s₂ : Shared} {I : Addr} {fp wr : List Addr} {n : Nat} {P Md : Nat → Value → Heap → Prop} {St : Nat → Heap → Prop}
    {Q : Value → Shared → Prop}
    (W : KTurns prog w A target I fp wr n P Md St)
    (hself : ∀ (s : Shared) (Q : Value → Shared → Prop) (E : Value → Shared → Prop), St 0 s.heap → Q (.ref I) s → wpAny (model prog w) A (pyIter (.ref I)) Q E s)
    (hsz : n ≤ sizeLine) (hst : St 0 s₂.heap) (hfp : ∀ b ∈ fp, b < s₂.heap.objs.size)
    (J : List Addr → Nat → List Value → Heap → Prop)
    (hJ : ∀ pr i ys h h', J pr i ys h → Stays pr h h' → J pr i ys h')
    (h0 : ∀ pr h, Stays wr s₂.heap h → J pr 0 [] h)
    (turn : ∀ (C D : Addr) (oc : List Addr) (i : Nat) (ys : List Value) (v : Value) (s₃ : Shared) (m₃ : Str → Option Value) (E' : Value → Shared → Prop),
      oc = ocFrom (C + 1) scope.names → i < n → P i v s₃.heap → s₃.heap.Ns C m₃ → (∀ c ∈ oc, ∃ v, s₃.heap.IsCell c v) → J (C :: D :: (oc ++ wr)) i ys s₃.heap → Stays wr s₂.heap s₃.heap →
      (∀ b ∈ C :: D :: (oc ++ wr), b < s₃.heap.objs.size) → s₂.heap.objs.size ≤ C → s₂.heap.objs.size ≤ D → C ≠ D → C ∉ wr → C ∉ oc → D ∉ oc → (∀ c ∈ oc, s₂.heap.objs.size ≤ c) →
      wpAny (model prog w) A (assign target (compEnvC scope (cellsFrom (C + 1) scope.names cl) C env) v) (fun _ s₄ =>
        wpAny (model prog w) A (testsOf ifs (compEnvC scope (cellsFrom (C + 1) scope.names cl) C env)) (fun ok s₅ =>
          if ok = true then wpAny (model prog w) A (eval elt (compEnvC scope (cellsFrom (C + 1) scope.names cl) C env)) (fun y s₆ => TurnEnd C oc s₃ s₆ ∧ J (C :: D :: (oc ++ wr)) (i + 1) (ys ++ [y]) s₆.heap) E' s₅
          else TurnEnd C oc s₃ s₅ ∧ J (C :: D :: (oc ++ wr)) (i + 1) ys s₅.heap) E' s₄) E' s₃)
    (hQ : ∀ (pr : List Addr) (D : Addr) (ys : List Value) (h' : Heap) (tk : Nat), J pr n ys h' → h'.get? D = some (LCg.lst ys) → D ∈ pr → s₂.heap.objs.size ≤ D → (∀ b ∈ pr, s₂.heap.objs.size ≤ b ∨ b ∈ wr) → Stays wr s₂.heap h' → Q (.ref D) { s₂ with heap := h', toks := tk }) :
    wpAny (model prog w) A (newList []) (fun acc s₃ => wpAny (model prog w) A (newFunctionEnv scope env.globals cl [] env.qual none .none (some env)) (fun cenv s₄ =>
      codeAny (model prog w) A (.compStart (.ListComp elt [⟨target, iter, ifs, 0⟩] scope pos) 0 (.ref I) acc { cenv with scope := relabel scope env }) (compPost (model prog w) A E none Q acc cenv.locals) s₄) E s₃) E s₂ := by
  refine wpAny_newObj_type (comp_newEnv ?_)
  dsimp only
  generalize hH2 : s₂.heap.push { cls := .type "list", dict := none, data := .seq ([] : List Value).toArray } = H2
  have hH2s : H2.objs.size = s₂.heap.objs.size + 1 := by rw [← hH2, Heap.size_push]
  generalize hDd : s₂.heap.objs.size = D at *
  rw [hH2s]
  generalize hH3 : H2.push { cls := .type "dict", data := .dict #[] } = H3
  have hH3s : H3.objs.size = D + 1 + 1 := by rw [← hH3, Heap.size_push, hH2s]
  have hoc : ∀ c ∈ ocFrom (D + 1 + 1) scope.names, (pushCells H3 scope.names).IsCell c none ∧ c < (pushCells H3 scope.names).objs.size := by
    have := ocFrom_cell scope.names H3
    rw [hH3s] at this; exact this
  have hocge : ∀ c ∈ ocFrom (D + 1 + 1) scope.names, @LE.le Nat _ (D + 1 + 1) c := ocFrom_ge _ _
  have hsz4 : D + 1 + 1 ≤ (pushCells H3 scope.names).objs.size := by have := pushCells_size scope.names H3; rw [hH3s] at this; exact this
  generalize hH4 : pushCells H3 scope.names = H4 at *
  have up : ∀ b o, s₂.heap.get? b = some o → H4.get? b = some o := fun b o e => by
    rw [← hH4]
    refine pushCells_keeps _ _ _ _ ?_
    rw [← hH3, ← hH2]
    exact Heap.get?_push_of_some _ (Heap.get?_push_of_some _ e)
  have hD4 : H4.get? D = some (LCg.lst []) := by
    rw [← hH4]
    refine pushCells_keeps _ _ _ _ ?_
    rw [← hH3]
    refine Heap.get?_push_of_some _ ?_
    rw [← hH2, ← hDd]
    exact Heap.get?_push_size _ rfl
  have hC4 : H4.Ns (D + 1) (fun _ => none) := by
    have e : H4.get? (D + 1) = some { cls := .type "dict", data := .dict #[] } := by
      rw [← hH4]
      refine pushCells_keeps _ _ _ _ ?_
      rw [← hH3, ← hH2s]
      exact Heap.get?_push_size _ rfl
    refine ⟨_, #[], 0, e, rfl, fun e he => by simp at he, fun _ => by simp [nsFind, findBy]⟩
  have hfp : ∀ b ∈ fp, @LT.lt Nat _ b D := hfp
  have hwr : ∀ b ∈ wr, @LT.lt Nat _ b D := fun b hb => hfp b (W.sub b hb)
  generalize hoce : ocFrom (D + 1 + 1) scope.names = oc at *
  have hDC : D + 1 ≠ D := Nat.succ_ne_self D
  have hCwr : D + 1 ∉ wr := fun q => by have := hwr _ q; omega
  have hDwr : D ∉ wr := fun q => by have := hwr _ q; omega
  have hCoc : D + 1 ∉ oc := fun q => by have := hocge _ q; omega
  have hDoc : D ∉ oc := fun q => by have := hocge _ q; omega
  have hst4 : St 0 H4 := W.frame _ _ _ hst fun b _ o e => up b o e
  have loop : ∀ s₃ : Shared, s₃ = { s₂ with heap := H4 } →
      codeAny (model prog w) A (.compLoop (.ListComp elt [⟨target, iter, ifs, 0⟩] scope pos) 0 (.ref I) (.ref D) (compEnvC scope (cellsFrom (D + 1 + 1) scope.names cl) (D + 1) env)) (compPost (model prog w) A E none Q (.ref D) (D + 1)) s₃ := by
    rintro s₃ rfl
    refine comp_turns (fun k s' => ∃ h' tk i ys m', s' = { s₂ with heap := h', toks := tk } ∧ i ≤ n ∧ k = n + 1 - i ∧ ys.length ≤ i ∧ St i h' ∧ h'.Ns (D + 1) m' ∧ (∀ c ∈ oc, ∃ v, h'.IsCell c v) ∧ h'.get? D = some (LCg.lst ys) ∧
      J ((D + 1) :: D :: (oc ++ wr)) i ys h' ∧ Stays wr s₂.heap h' ∧ (∀ b ∈ (D + 1) :: D :: (oc ++ wr), b < h'.objs.size)) ?_ (n + 1)
      ⟨H4, _, 0, [], _, rfl, Nat.zero_le _, rfl, Nat.le_refl _, hst4, hC4, fun c hc => ⟨_, (hoc c hc).1⟩, hD4, h0 _ _ fun b o _ e => up b o e, fun b o _ e => up b o e, ?_⟩
    · rintro k s' ⟨h', tk, i, ys, m', rfl, hi, rfl, hyl, hst', hn', hcs, hl', hJ', hs', hlt'⟩
      by_cases hin : i < n
      · refine W.item i _ _ _ hin hst' fun v h₁ tk₁ hMd hk₁ => ?_
        refine W.go i v _ _ _ hMd fun h₂ hP hst₂ hk₂ => ?_
        have hk : Stays wr h' h₂ := fun b o hb e => hk₂ b o hb (hk₁ b o hb e)
        have hn₂ : h₂.Ns (D + 1) m' := hn'.at' fun o e => hk _ o hCwr e
        have hoc₂ : ∀ c ∈ oc, ∃ v, h₂.IsCell c v := fun c hc => by
          obtain ⟨v, o, ho, hd⟩ := hcs c hc
          exact ⟨v, o, hk c o (fun q => by have := hwr _ q; have := hocge _ hc; omega) ho, hd⟩
        have hwI : ∀ b ∈ wr, b < h₂.objs.size := fun b hb => by
          have q : @LT.lt Nat _ D h₂.objs.size := by
            exact Heap.lt_size (hk D _ hDwr hl')
          have := hwr b hb; show @LT.lt Nat _ b h₂.objs.size; omega
        have hlt₂ : ∀ b ∈ (D + 1) :: D :: (oc ++ wr), b < h₂.objs.size := fun b hb => by
          rcases List.mem_cons.mp hb with rfl | hb
          · obtain ⟨o, _, _, ho, _⟩ := hn₂
            exact Heap.lt_size ho
          · rcases List.mem_cons.mp hb with rfl | hb
            · exact Heap.lt_size (hk _ _ hDwr hl')
            · rcases List.mem_append.mp hb with hb | hb
              · obtain ⟨v, o, ho, _⟩ := hoc₂ b hb
                exact Heap.lt_size ho
              · exact hwI b hb
        refine wpAny_mono (turn (D + 1) D oc i ys v { s₂ with heap := h₂, toks := tk₁ } m' _ hoce.symm hin hP hn₂ hoc₂ (hJ _ _ _ _ _ hJ' (hk.mono fun d hd => by simp [hd])) (hs'.trans hk) hlt₂ (Nat.le_succ _) (Nat.le_refl _) hDC hCwr hCoc hDoc
          (fun c hc => by have := hocge c hc; show @LE.le Nat _ D c; omega)) (fun _ s₄ h₄ => wpAny_mono h₄ (fun ok s₅ h₅ => ?_) fun _ _ e => e) fun _ _ e => e
        cases ok with
        | false =>
          obtain ⟨⟨⟨h₅', tk₅, rfl⟩, ⟨m₅, hn₅⟩, hc₅, hk₅⟩, hJ₅⟩ := h₅
          refine ⟨n + 1 - (i + 1), by omega, h₅', tk₅, i + 1, ys, m₅, rfl, hin, rfl, Nat.le_succ_of_le hyl, ?_, hn₅, hc₅, ?_, hJ₅, ?_, ?_⟩
          · refine W.frame _ _ _ hst₂ fun b hb o e => hk₅ b o ?_ e
            intro q
            have := hfp b hb
            rcases List.mem_cons.mp q with q | q
            · have q : @Eq Nat b (D + 1) := q
              omega
            · have := hocge b q; omega
          · exact hk₅ D _ (by intro q; rcases List.mem_cons.mp q with q | q; exact hDC q.symm; exact hDoc q) (hk D _ hDwr hl')
          · intro b o hb e
            have e₂ := hk b o hb (hs' b o hb e)
            refine hk₅ b o ?_ e₂
            intro q
            have : @LT.lt Nat _ b D := by rw [← hDd]; exact Heap.lt_size e
            rcases List.mem_cons.mp q with q | q
            · have q : @Eq Nat b (D + 1) := q
              omega
            · have := hocge b q; omega
          · intro b hb
            rcases List.mem_cons.mp hb with rfl | hb
            · obtain ⟨o, _, _, ho, _⟩ := hn₅
              exact Heap.lt_size ho
            · rcases List.mem_cons.mp hb with rfl | hb
              · exact Heap.lt_size (hk₅ _ _ (by intro q; rcases List.mem_cons.mp q with q | q; exact hDC q.symm; exact hDoc q) (hk _ _ hDwr hl'))
              · rcases List.mem_append.mp hb with hb | hb
                · obtain ⟨v, o, ho, _⟩ := hc₅ b hb
                  exact Heap.lt_size ho
                · have q : @LT.lt Nat _ D h₅'.objs.size := by
                    exact Heap.lt_size (hk₅ D _ (by intro q; rcases List.mem_cons.mp q with q | q; exact hDC q.symm; exact hDoc q) (hk D _ hDwr hl'))
                  have := hwr b hb; show @LT.lt Nat _ b h₅'.objs.size; omega
        | true =>
          refine wpAny_mono h₅ (fun y s₆ h₆ => ?_) fun _ _ e => e
          obtain ⟨⟨⟨h₆', tk₆, rfl⟩, ⟨m₆, hn₆⟩, hc₆, hk₆⟩, hJ₆⟩ := h₆
          have hD₆ : h₆'.get? D = some (LCg.lst ys) := hk₆ D _ (by intro q; rcases List.mem_cons.mp q with q | q; exact hDC q.symm; exact hDoc q) (hk D _ hDwr hl')
          refine append_at (hsz := by rw [List.size_toArray]; omega) hD₆ fun h₇ hs₇ hl₇ => ?_
          have hk₇ : Stays [D] h₆' h₇ := Stays.ofBut hs₇.extBut
          refine ⟨n + 1 - (i + 1), by omega, h₇, tk₆, i + 1, ys ++ [y], m₆, rfl, hin, rfl, by rw [List.length_append, List.length_singleton]; omega, ?_, hn₆.sameBut hs₇ hDC, ?_, ?_, hJ _ _ _ _ _ hJ₆ (hk₇.mono fun d hd => by simp at hd; simp [hd]), ?_, ?_⟩
          · refine W.frame _ _ _ hst₂ fun b hb o e => hs₇.extBut b o (by have := hfp b hb; show @Ne Nat b D; omega) (hk₆ b o ?_ e)
            intro q
            have := hfp b hb
            rcases List.mem_cons.mp q with q | q
            · have q : @Eq Nat b (D + 1) := q
              omega
            · have := hocge b q; omega
          · intro c hc
            obtain ⟨v, o, ho, hd⟩ := hc₆ c hc
            exact ⟨v, o, hs₇.extBut c o (fun q => hDoc (q ▸ hc)) ho, hd⟩
          · exact hl₇.trans (congrArg some (LCg.lst_snoc ys y))
          · intro b o hb e
            have e₂ := hk b o hb (hs' b o hb e)
            have : @LT.lt Nat _ b D := by rw [← hDd]; exact Heap.lt_size e
            refine hs₇.extBut b o (by show @Ne Nat b D; omega) (hk₆ b o ?_ e₂)
            intro q
            rcases List.mem_cons.mp q with q | q
            · have q : @Eq Nat b (D + 1) := q
              omega
            · have := hocge b q; omega
          · intro b hb
            have hD₇ : @LT.lt Nat _ D h₇.objs.size := Heap.lt_size hl₇
            rcases List.mem_cons.mp hb with rfl | hb
            · obtain ⟨o, _, _, ho, _⟩ := hn₆.sameBut hs₇ hDC
              exact Heap.lt_size ho
            · rcases List.mem_cons.mp hb with rfl | hb
              · exact hD₇
              · rcases List.mem_append.mp hb with hb | hb
                · obtain ⟨v, o, ho, hd⟩ := hc₆ b hb
                  exact Heap.lt_size (hs₇.extBut b o (fun q => hDoc (q ▸ hb)) ho)
                · have := hwr b hb; show @LT.lt Nat _ b h₇.objs.size; omega
      · obtain rfl : i = n := Nat.le_antisymm hi (Nat.not_lt.mp hin)
        refine W.done _ _ _ hst' fun h₂ tk₂ hk₂ => ?_
        refine ⟨m', hn'.at' fun o e => hk₂ _ o hCwr e, fun h'' hs'' => ?_⟩
        have st : Stays ((D + 1) :: wr) h' h'' := fun b o hb e => hs''.extBut b o (fun q => hb (by simp [q])) (hk₂ b o (fun q => hb (by simp [q])) e)
        refine hQ ((D + 1) :: D :: (oc ++ wr)) D ys h'' tk₂ (hJ _ _ _ _ _ hJ' (st.mono fun d hd => by simp at hd; rcases hd with rfl | hd <;> simp [*])) ?_ (by simp) (Nat.le_refl _) ?_ ?_
        · exact st D _ (by intro q; rcases List.mem_cons.mp q with q | q; exact hDC q.symm; exact hDwr q) hl'
        · intro b hb
          rcases List.mem_cons.mp hb with rfl | hb
          · exact .inl (Nat.le_succ _)
          · rcases List.mem_cons.mp hb with rfl | hb
            · exact .inl (Nat.le_refl _)
            · rcases List.mem_append.mp hb with hb | hb
              · exact .inl (by have := hocge b hb; show @LE.le Nat _ D b; omega)
              · exact .inr hb
        · intro b o hb e
          exact st b o (by
            intro q
            have : @LT.lt Nat _ b D := by rw [← hDd]; exact Heap.lt_size e
            rcases List.mem_cons.mp q with q | q
            · have q : @Eq Nat b (D + 1) := q
              omega
            · exact hb q) (hs' b o hb e)
    · intro b hb
      rcases List.mem_cons.mp hb with rfl | hb
      · show @LT.lt Nat _ (D + 1) H4.objs.size; omega
      · rcases List.mem_cons.mp hb with rfl | hb
        · show @LT.lt Nat _ b H4.objs.size; omega
        · rcases List.mem_append.mp hb with hb | hb
          · exact (hoc b hb).2
          · have := hwr b hb; show @LT.lt Nat _ b H4.objs.size; omega
  refine codeAny_of_tree ?_
  show wpAny _ _ ((compStart (.ListComp elt [⟨target, iter, ifs, 0⟩] scope pos) 0 (.ref I) (.ref D) (compEnvC scope (cellsFrom (D + 1 + 1) scope.names cl) (D + 1) env)).onRaise (fun x => do noteFrame x _; standAt theWindowsPlace)) _ _ _
  refine wpAny_notedAt ?_
  unfold compStart
  show wpAny _ _ (ask >>= _) _ _ _
  refine wpAny_bind (wpAny_askSetting (wpAny_ite ?_))
  split
  · first
      | exact wpAny_bind (wpAny_pure (wpAny_pure (And.intro rfl (loop _ rfl))))
      | exact wpAny_pure (And.intro rfl (loop _ rfl))
  · refine wpAny_bind (wpAny_rule ?_)
    show wpAny _ _ (standAt iter.pos >>= _) _ _ _
    exact wpAny_bind (wpAny_standAt (wpAny_bind (hself _ _ _ hst4 (wpAny_pure (And.intro rfl (loop _ rfl))))))
end

-- part R2
open AutoSeq1 (wpAny_loadPart')
section
variable {prog : Program} {w : World} {A : Around} {E : Value → Shared → Prop} {s : Shared}
theorem nextOf_tuple_item {it t : Addr} {i : Nat} {items : Array Value} {x : Value} {Q : Value → Shared → Prop} (hit : s.heap.IsTupleIter it t i) (ht : s.heap.IsTuple t items) (hx : items[i]? = some x)
    (hQ : ∀ h', h'.IsTupleIter it t (i + 1) → Heap.SameBut it s.heap h' → Q x { s with heap := h' }) : wpAny (model prog w) A (Builtin.SmallTypes.nextOf (.ref it)) Q E s := by
  obtain ⟨o, ho, hc, hd⟩ := id hit
  obtain ⟨ol, hol, _, nl, hdl⟩ := ht
  unfold Builtin.SmallTypes.nextOf
  refine wpAny_bind (wpAny_callSpecial?_slot (name := Str.ofString "__next__") hit.typeIs PySem.F.slot_tuple_iterator_next
    (wpAny_call_entry PySem.F.slot_tuple_iterator_next hit.typeIs PySem.F.entry_tuple_iterator_next ?_ (PySem.F.args_tuple_iterator_next_1 _)))
  show wpAny _ _ (field (.ref it) 0 >>= _) _ _ s
  refine wpAny_bind (wpAny_field ho hd (x := .ref t) rfl ?_)
  show wpAny _ _ (if (Value.ref t == Value.none) = true then _ else _) _ _ s
  rw [if_neg (show ¬ ((Value.ref t == Value.none) = true) from Bool.false_ne_true)]
  show wpAny _ _ (field (.ref it) 1 >>= _) _ _ s
  refine wpAny_bind (wpAny_field ho hd (x := .int i 0) rfl ?_)
  show wpAny _ _ (seqItems? (.ref t) >>= _) _ _ s
  refine wpAny_bind (wpAny_seqItems hol hdl ?_)
  simp only [Int.toNat_natCast, hx]
  refine wpAny_bind (wpAny_setField ho hd (by simp) (wpAny_pure ⟨x, rfl, wpAny_pure (hQ _ ?_ (Heap.SameBut.update ..))⟩))
  exact ⟨_, Heap.get?_update_self _ ho (Obj.isFreed_of_fields (Obj.data_mapFields hd _)), (Obj.cls_mapFields ..).trans hc, by rw [Obj.data_mapFields hd]; simp [rawInt]⟩

theorem nextOf_tuple_end {it t : Addr} {i : Nat} {items : Array Value} {Q : Value → Shared → Prop} (hh : A.handled = none) (hit : s.heap.IsTupleIter it t i) (ht : s.heap.IsTuple t items) (hx : items[i]? = none)
    (hE : ∀ h' e, Heap.ExtBut it s.heap h' → (∃ o, h'.get? e = some o ∧ o.cls = .type "StopIteration") → E (.ref e) { s with heap := h' }) :
    wpAny (model prog w) A (Builtin.SmallTypes.nextOf (.ref it)) Q E s := by
  obtain ⟨o, ho, hc, hd⟩ := id hit
  obtain ⟨ol, hol, _, nl, hdl⟩ := ht
  unfold Builtin.SmallTypes.nextOf
  refine wpAny_bind (wpAny_callSpecial?_slot (name := Str.ofString "__next__") hit.typeIs PySem.F.slot_tuple_iterator_next
    (wpAny_call_entry PySem.F.slot_tuple_iterator_next hit.typeIs PySem.F.entry_tuple_iterator_next ?_ (PySem.F.args_tuple_iterator_next_1 _)))
  show wpAny _ _ (field (.ref it) 0 >>= _) _ _ s
  refine wpAny_bind (wpAny_field ho hd (x := .ref t) rfl ?_)
  show wpAny _ _ (if (Value.ref t == Value.none) = true then _ else _) _ _ s
  rw [if_neg (show ¬ ((Value.ref t == Value.none) = true) from Bool.false_ne_true)]
  show wpAny _ _ (field (.ref it) 1 >>= _) _ _ s
  refine wpAny_bind (wpAny_field ho hd (x := .int i 0) rfl ?_)
  show wpAny _ _ (seqItems? (.ref t) >>= _) _ _ s
  refine wpAny_bind (wpAny_seqItems hol hdl ?_)
  simp only [Int.toNat_natCast, hx]
  refine wpAny_bind (wpAny_rule (wpAny_bind (wpAny_setField ho hd (by simp) ?_)))
  show wpAny _ _ (newExc (.type "StopIteration") [] >>= _) _ _ _
  refine wpAny_bind ?_
  simp only [newExc, newTuple]
  refine wpAny_bind (wpAny_newObj_type ?_ (by size_fits))
  refine wpAny_bind (m := firstArgMember _ _) (wpAny_of_eq (a := Value.none) (by first | rfl | (simp only [firstArgMember]; rfl)) ?_)
  refine wpAny_newObj_type ?_ (by size_fits)
  simp only [raiseNew]
  refine wpAny_bind (wpAny_handled ?_)
  first | rw [show A.in1.handled = none from hh] | rw [hh]
  refine wpAny_bind (wpAny_pure (wpAny_throw ?_))
  exact hE _ _ (((Heap.SameBut.update ..).extBut.push _).push _) ⟨_, Heap.get?_push_size _ rfl, rfl⟩

theorem tuple_at {h h' : Heap} {t : Addr} {items : Array Value} (x : h.IsTuple t items) (k : ∀ o, h.get? t = some o → h'.get? t = some o) : h'.IsTuple t items := let ⟨o, ho, r⟩ := x; ⟨o, k o ho, r⟩
theorem tupleIter_at {h h' : Heap} {it t : Addr} {i : Nat} (x : h.IsTupleIter it t i) (k : ∀ o, h.get? it = some o → h'.get? it = some o) : h'.IsTupleIter it t i := let ⟨o, ho, r⟩ := x; ⟨o, k o ho, r⟩
end
theorem draws_tuple {prog : Program} {w : World} {A : Around} (hh : A.handled = none) (it t : Addr) (hne : t ≠ it) (items : Array Value) :
    Draws prog w A it [it, t] items.size (fun i v => items[i]? = some v) (fun i h => h.IsTupleIter it t i ∧ h.IsTuple t items) where
  live := fun _ _ st => let ⟨o, ho, _⟩ := st.1; ⟨o, ho⟩
  frame := fun _ _ _ st hk => ⟨tupleIter_at st.1 fun o e => hk it (by simp) o e, tuple_at st.2 fun o e => hk t (by simp) o e⟩
  item := fun i s Q E hi st hQ => by
    refine nextOf_tuple_item st.1 st.2 (x := items[i]) (by simp [hi]) fun h' hit' hs' => ?_
    exact hQ _ h' s.toks (by simp [hi]) ⟨hit', st.2.extBut hs'.extBut hne⟩ hs'
  done := fun s Q E st hE => nextOf_tuple_end hh st.1 st.2 (by simp) hE

theorem meets_enumerate_tuple (l : Addr) (items : Array Value) (n : Nat) (dct : Option Addr) (sl : Array (Option Value)) :
    Meets (Builtin.«enumerate.__new__» ⟨[.type "enumerate", .ref l], []⟩) (fun _ R s => s.heap.get? l = some { cls := .type "tuple", data := .seq items n, dict := dct, slots := sl } ∧
      R (.ok (.ret (.ref (s.heap.push { cls := .type "tuple_iterator", data := .fields #[.ref l, .int 0 0] }).objs.size)))
        { s with heap := (s.heap.push { cls := .type "tuple_iterator", data := .fields #[.ref l, .int 0 0] }).push { cls := .type "enumerate", data := .fields #[.none, .bool false, .ref s.heap.objs.size, rawInt 0, .none, .none] } }) :=
  .of_wp fun prog w A R s h => by
    obtain ⟨hp, g, d, tk, os⟩ := s; obtain ⟨hl, h⟩ := h
    have hsub := sub_enumerate
    have hT : Heap.IsTuple (Shared.heap ⟨hp, g, d, tk, os⟩) l items := ⟨_, hl, rfl, n, rfl⟩
    wp_walk using wpAny_loadPart' hl
    refine wpAny_stack_any fun st => wpAny_pure ?_
    split
    · rename_i c _ _ _ _ _
      cases (c == Value.type "enumerate")
      · wp_walk using wpAny_loadPart' hl, wpAny_pyIter_tuple hT
        exact ⟨_, rfl, h⟩
      · wp_walk using wpAny_loadPart' hl, wpAny_pyIter_tuple hT
        exact ⟨_, rfl, h⟩
    · wp_walk using wpAny_loadPart' hl, wpAny_pyIter_tuple hT
      exact ⟨_, rfl, h⟩

section
variable {prog : Program} {w : World} {A : Around} {E : Value → Shared → Prop} {s : Shared}
theorem call_enumerate_tuple {l : Addr} {items : Array Value} {Q : Value → Shared → Prop} (hL : s.heap.IsTuple l items)
    (h : ∀ h', IsEnum h' (s.heap.objs.size + 1) s.heap.objs.size 0 .none → h'.IsTupleIter s.heap.objs.size l 0 → h'.objs.size = s.heap.objs.size + 2 →
      (∀ b o, s.heap.get? b = some o → h'.get? b = some o) → Q (.ref (s.heap.objs.size + 1)) { s with heap := h' }) :
    wpAny (model prog w) A (call (.type "enumerate") [.ref l]) Q E s := by
  obtain ⟨⟨c, dct, dt, sl⟩, hl, hc, n, hd⟩ := hL
  replace hc : c = .type "tuple" := hc
  replace hd : dt = .seq items n := hd
  subst hc hd
  refine callType_new PySem.F.called_enumerate (by decide) (PySem.F.typeCall_enumerate_1 _) (PySem.F.newCall_enumerate_1 _) (fun obj => PySem.F.args_object_init_2 obj _) PySem.F.entry_enumerate_new
    (meets_enumerate_tuple l items n dct sl) ⟨hl, ?_⟩
  have hz : (s.heap.push { cls := .type "tuple_iterator", data := .fields #[.ref l, .int 0 0] }).objs.size = s.heap.objs.size + 1 := Heap.size_push ..
  show _ ∧ _
  rw [hz]
  have he : IsEnum ((s.heap.push { cls := .type "tuple_iterator", data := .fields #[.ref l, .int 0 0] }).push
      { cls := .type "enumerate", data := .fields #[.none, .bool false, .ref s.heap.objs.size, rawInt 0, .none, .none] }) (s.heap.objs.size + 1) s.heap.objs.size 0 .none := by
    have := Heap.get?_push_size (s.heap.push { cls := .type "tuple_iterator", data := .fields #[.ref l, .int 0 0] })
      (o := { cls := .type "enumerate", data := .fields #[.none, .bool false, .ref s.heap.objs.size, rawInt 0, .none, .none] }) rfl
    rw [hz] at this; exact this
  refine ⟨⟨_, he, rfl⟩, h _ he ⟨_, Heap.get?_push_of_some _ (Heap.get?_push_size _ rfl), rfl, rfl⟩ (by rw [Heap.size_push, hz]) fun b o x => Heap.get?_push_of_some _ (Heap.get?_push_of_some _ x)⟩
end

-- part R3
abbrev Held (h h' : Heap) : Prop := ∀ b o, h.get? b = some o → h'.get? b = some o
theorem Held.refl (h : Heap) : Held h h := fun _ _ e => e
theorem Held.trans {a b c : Heap} (x : Held a b) (y : Held b c) : Held a c := fun d o e => y d o (x d o e)
section
variable {prog : Program} {w : World} {A : Around} {E : Value → Shared → Prop} {s : Shared} {env : Env}

theorem comp_eval {elt target iter : Expr} {ifs : List Expr} {scope : Scope} {cl : List (Str × Addr)} {pos : Pos} {Q : Value → Shared → Prop}
    (hclos : closureFor scope env = pure cl) (hkind : scope.kind = .function) (hnames : ∀ y ∈ scope.names, y.2 = .local → scope.names.lookup y.1 = some .local)
    (h : wpAny (model prog w) A (eval iter env) (fun xv s₁ => wpAny (model prog w) A (pyIter xv) (fun it s₂ => ∃ I, it = .ref I ∧
      wpAny (model prog w) A (newList []) (fun acc s₃ => wpAny (model prog w) A (newFunctionEnv scope env.globals cl [] env.qual none .none (some env)) (fun cenv s₄ =>
        codeAny (model prog w) A (.compStart (.ListComp elt [⟨target, iter, ifs, 0⟩] scope pos) 0 (.ref I) acc { cenv with scope := relabel scope env }) (compPost (model prog w) A E none Q acc cenv.locals) s₄) E s₃) E s₂) E s₁) E s)
    (hs : ∀ x, foldedSetIterable iter env x = pure x := by intro _; rfl) :
    wpAny (model prog w) A (eval (.ListComp elt [⟨target, iter, ifs, 0⟩] scope pos) env) Q E s := by
  rw [eval_ListComp]
  refine wpAny_comprehension_free (use := none) rfl hs hclos hkind hnames (wpAny_mono h (fun xv s₁ h₁ => wpAny_mono h₁ (fun it s₂ h₂ => ?_) fun _ _ e => e) fun _ _ e => e)
  obtain ⟨I, rfl, h₃⟩ := h₂
  exact h₃

/-- the iterable of a clause, laid out -/
structure SrcAt (prog : Program) (w : World) (A : Around) (target : Expr) (n : Nat) (P : Nat → Value → Heap → Prop) (s : Shared) (it : Value) (s₂ : Shared) : Prop where
  at_ : ∃ (I : Addr) (fp wr : List Addr) (Md : Nat → Value → Heap → Prop) (St : Nat → Heap → Prop) (h : Heap) (tk : Nat), it = .ref I ∧ s₂ = { s with heap := h, toks := tk } ∧ Held s.heap h ∧
    KTurns prog w A target I fp wr n P Md St ∧ (∀ (s : Shared) (Q : Value → Shared → Prop) (E : Value → Shared → Prop), St 0 s.heap → Q (.ref I) s → wpAny (model prog w) A (pyIter (.ref I)) Q E s) ∧
    St 0 h ∧ (∀ b ∈ fp, b < h.objs.size) ∧ (∀ b ∈ wr, s.heap.objs.size ≤ b) ∧ wr ≠ []

/-- a comprehension of one clause: its turns, from the heap ahead of it -/
theorem comp_clauseS {elt target iter : Expr} {ifs : List Expr} {scope : Scope} {cl : List (Str × Addr)} {pos : Pos} {n : Nat} {P : Nat → Value → Heap → Prop} {Q : Value → Shared → Prop}
    (hclos : closureFor scope env = pure cl) (hkind : scope.kind = .function) (hnames : ∀ y ∈ scope.names, y.2 = .local → scope.names.lookup y.1 = some .local) (hsz : n ≤ sizeLine)
    (hsrc : wpAny (model prog w) A (eval iter env) (fun xv s₁ => wpAny (model prog w) A (pyIter xv) (SrcAt prog w A target n P s) E s₁) E s)
    (J : List Addr → Nat → List Value → Heap → Prop)
    (hJ : ∀ pr i ys h h', J pr i ys h → Stays pr h h' → J pr i ys h')
    (h0 : ∀ pr h, Held s.heap h → J pr 0 [] h)
    (turn : ∀ (C D : Addr) (oc wr : List Addr) (i : Nat) (ys : List Value) (v : Value) (s₃ : Shared) (m₃ : Str → Option Value) (E' : Value → Shared → Prop),
      oc = ocFrom (C + 1) scope.names → i < n → P i v s₃.heap → s₃.heap.Ns C m₃ → (∀ c ∈ oc, ∃ v, s₃.heap.IsCell c v) → J (C :: D :: (oc ++ wr)) i ys s₃.heap → Held s.heap s₃.heap →
      (∀ b ∈ C :: D :: (oc ++ wr), b < s₃.heap.objs.size) → (∀ b ∈ C :: D :: (oc ++ wr), s.heap.get? b = none) → C ∉ oc →
      wpAny (model prog w) A (assign target (compEnvC scope (cellsFrom (C + 1) scope.names cl) C env) v) (fun _ s₄ =>
        wpAny (model prog w) A (testsOf ifs (compEnvC scope (cellsFrom (C + 1) scope.names cl) C env)) (fun ok s₅ =>
          if ok = true then wpAny (model prog w) A (eval elt (compEnvC scope (cellsFrom (C + 1) scope.names cl) C env)) (fun y s₆ => TurnEnd C oc s₃ s₆ ∧ J (C :: D :: (oc ++ wr)) (i + 1) (ys ++ [y]) s₆.heap) E' s₅
          else TurnEnd C oc s₃ s₅ ∧ J (C :: D :: (oc ++ wr)) (i + 1) ys s₅.heap) E' s₄) E' s₃)
    (hQ : ∀ (pr : List Addr) (D : Addr) (ys : List Value) (h' : Heap) (tk : Nat), J pr n ys h' → h'.get? D = some (LCg.lst ys) → D ∈ pr → s.heap.get? D = none → Held s.heap h' → s.heap.objs.size ≤ D → Q (.ref D) { s with heap := h', toks := tk })
    (hs : ∀ x, foldedSetIterable iter env x = pure x := by intro _; rfl) :
    wpAny (model prog w) A (eval (.ListComp elt [⟨target, iter, ifs, 0⟩] scope pos) env) Q E s := by
  refine comp_eval hclos hkind hnames (wpAny_mono hsrc (fun xv s₁ h₁ => wpAny_mono h₁ (fun it s₂ h₂ => ?_) fun _ _ e => e) fun _ _ e => e) hs
  obtain ⟨I, fp, wr, Md, St, h, tk, rfl, rfl, hh, W, hself, hst, hfp, hwr, hwn⟩ := h₂.at_
  refine ⟨I, rfl, ?_⟩
  have old : ∀ b o, s.heap.get? b = some o → b ∉ wr := fun b o e hb => absurd (Heap.lt_size e) (Nat.not_lt.mpr (hwr b hb))
  have newer : ∀ b, h.objs.size ≤ b → s.heap.get? b = none := fun b hb => by
    cases e : s.heap.get? b with
    | none => rfl
    | some o => exact absurd (Heap.lt_size (hh b o e)) (Nat.not_lt.mpr hb)
  refine comp_block W hself hsz hst hfp J hJ (fun pr h' hs' => h0 pr h' fun b o e => hs' b o (old b o e) (hh b o e)) ?_ ?_
  · intro C D oc i ys v s₃ m₃ E' hoc hi hP hn hc hj hst' hlt hC hD _ hCw hCo hDo hoc'
    refine turn C D oc wr i ys v s₃ m₃ E' hoc hi hP hn hc hj (fun b o e => hst' b o (old b o e) (hh b o e)) hlt ?_ hCo
    intro b hb
    rcases List.mem_cons.mp hb with rfl | hb
    · exact newer _ hC
    · rcases List.mem_cons.mp hb with rfl | hb
      · exact newer _ hD
      · rcases List.mem_append.mp hb with hb | hb
        · exact newer _ (hoc' b hb)
        · cases e : s.heap.get? b with
          | none => rfl
          | some o => exact absurd hb (old b o e)
  · intro pr D ys h' tk' hj hl hDp hD _ hst'
    refine hQ pr D ys h' tk' hj hl hDp (newer _ hD) (fun b o e => hst' b o (old b o e) (hh b o e)) ?_
    obtain ⟨b, hb⟩ := List.exists_mem_of_ne_nil _ hwn
    exact Nat.le_trans (hwr b hb) (Nat.le_trans (Nat.le_of_lt (hfp b (W.sub b hb))) hD)

theorem comp_clause {elt target iter : Expr} {ifs : List Expr} {scope : Scope} {cl : List (Str × Addr)} {pos : Pos} {n : Nat} {P : Nat → Value → Heap → Prop} {Q : Value → Shared → Prop}
    (hclos : closureFor scope env = pure cl) (hkind : scope.kind = .function) (hnames : ∀ y ∈ scope.names, y.2 = .local → scope.names.lookup y.1 = some .local) (hsz : n ≤ sizeLine)
    (hsrc : wpAny (model prog w) A (eval iter env) (fun xv s₁ => wpAny (model prog w) A (pyIter xv) (SrcAt prog w A target n P s) E s₁) E s)
    (J : List Addr → Nat → List Value → Heap → Prop)
    (hJ : ∀ pr i ys h h', J pr i ys h → Stays pr h h' → J pr i ys h')
    (h0 : ∀ pr h, Held s.heap h → J pr 0 [] h)
    (turn : ∀ (C D : Addr) (oc wr : List Addr) (i : Nat) (ys : List Value) (v : Value) (s₃ : Shared) (m₃ : Str → Option Value) (E' : Value → Shared → Prop),
      oc = ocFrom (C + 1) scope.names → i < n → P i v s₃.heap → s₃.heap.Ns C m₃ → (∀ c ∈ oc, ∃ v, s₃.heap.IsCell c v) → J (C :: D :: (oc ++ wr)) i ys s₃.heap → Held s.heap s₃.heap →
      (∀ b ∈ C :: D :: (oc ++ wr), b < s₃.heap.objs.size) → (∀ b ∈ C :: D :: (oc ++ wr), s.heap.get? b = none) → C ∉ oc →
      wpAny (model prog w) A (assign target (compEnvC scope (cellsFrom (C + 1) scope.names cl) C env) v) (fun _ s₄ =>
        wpAny (model prog w) A (testsOf ifs (compEnvC scope (cellsFrom (C + 1) scope.names cl) C env)) (fun ok s₅ =>
          if ok = true then wpAny (model prog w) A (eval elt (compEnvC scope (cellsFrom (C + 1) scope.names cl) C env)) (fun y s₆ => TurnEnd C oc s₃ s₆ ∧ J (C :: D :: (oc ++ wr)) (i + 1) (ys ++ [y]) s₆.heap) E' s₅
          else TurnEnd C oc s₃ s₅ ∧ J (C :: D :: (oc ++ wr)) (i + 1) ys s₅.heap) E' s₄) E' s₃)
    (hQ : ∀ (pr : List Addr) (D : Addr) (ys : List Value) (h' : Heap) (tk : Nat), J pr n ys h' → h'.get? D = some (LCg.lst ys) → D ∈ pr → s.heap.get? D = none → Held s.heap h' → Q (.ref D) { s with heap := h', toks := tk })
    (hs : ∀ x, foldedSetIterable iter env x = pure x := by intro _; rfl) :
    wpAny (model prog w) A (eval (.ListComp elt [⟨target, iter, ifs, 0⟩] scope pos) env) Q E s :=
  comp_clauseS hclos hkind hnames hsz hsrc J hJ h0 turn (fun pr D ys h' tk hj hl hp hD hk _ => hQ pr D ys h' tk hj hl hp hD hk) hs

/-- the name of a clause, a local -/
theorem comp_assign_local {x : Str} {px : Pos} {C : Addr} {oc : List Addr} {scope : Scope} {cells : List (Str × Addr)} {v : Value} {m : Str → Option Value} {Q : Unit → Shared → Prop}
    (hkind : scope.kind = .function) (hx : scope.names.lookup x = some .local) (hn : s.heap.Ns C m) (hc : ∀ c ∈ oc, ∃ v, s.heap.IsCell c v) (hCo : C ∉ oc)
    (h : ∀ (h' : Heap) (tk : Nat), h'.Ns C (fun y => if y = x then some v else m y) → (∀ c ∈ oc, ∃ v, h'.IsCell c v) → Stays [C] s.heap h' → Q () { s with heap := h', toks := tk }) :
    wpAny (model prog w) A (assign (.Name x px) (compEnvC scope cells C env) v) Q E s := by
  refine wpAny_assign_Name (wpAny_storeName_local (lookup_relabel_local hx) hn (fun h₃ hn₃ hs₃ => ?_) (by simp [compEnvC, relabel, hkind]))
  exact h h₃ _ hn₃ (fun c hc' => by obtain ⟨v, o, ho, hd⟩ := hc c hc'; exact ⟨v, o, hs₃.extBut c o (fun (q : c = C) => hCo (q ▸ hc')) ho, hd⟩) (Stays.ofBut hs₃.extBut)

/-- two names of a clause, locals -/
theorem comp_assign_pair {a b : Str} {pa pb tp : Pos} {kk : Nat} {C T : Addr} {oc : List Addr} {scope : Scope} {cells : List (Str × Addr)} {x y : Value} {m : Str → Option Value} {Q : Unit → Shared → Prop}
    (hh : A.handled = none) (hkind : scope.kind = .function) (ha : scope.names.lookup a = some .local) (hb : scope.names.lookup b = some .local) (ht : s.heap.IsTuple T #[x, y]) (hn : s.heap.Ns C m) (hc : ∀ c ∈ oc, ∃ v, s.heap.IsCell c v) (hCo : C ∉ oc)
    (h : ∀ (h' : Heap) (tk : Nat), h'.Ns C (fun z => if z = b then some y else if z = a then some x else m z) → (∀ c ∈ oc, ∃ v, h'.IsCell c v) → Stays [C] s.heap h' → Q () { s with heap := h', toks := tk }) :
    wpAny (model prog w) A (assign (.Tuple [.Name a pa, .Name b pb] kk tp) (compEnvC scope cells C env) (.ref T)) Q E s := by
  refine kcp_assign hh ht (lookup_relabel_local ha) (lookup_relabel_local hb) (by simp [compEnvC, relabel, hkind]) hn fun h' tk hn' hk => ?_
  exact h h' tk hn' (fun c hc' => by obtain ⟨v, o, ho, hd⟩ := hc c hc'; exact ⟨v, o, hk c o (fun (q : c = C) => hCo (q ▸ hc')) ho, hd⟩) (fun d o hd e => hk d o (fun (q : d = C) => hd (by simp [q])) e)

/-- the end of a turn whose part only adds -/
theorem turnEnd_of {C : Addr} {oc : List Addr} {s₃ s₆ : Shared} {h₄ : Heap} {m : Str → Option Value} (hn : h₄.Ns C m) (hc : ∀ c ∈ oc, ∃ v, h₄.IsCell c v) (hst : Stays (C :: oc) s₃.heap h₄)
    (e : ∃ h tk, s₆ = { s₃ with heap := h, toks := tk }) (hk : Held h₄ s₆.heap) : TurnEnd C oc s₃ s₆ :=
  ⟨e, ⟨m, hn.keeps hk⟩, fun c h => by obtain ⟨v, o, ho, hd⟩ := hc c h; exact ⟨v, o, hk c o ho, hd⟩, fun b o hb q => hk b o (hst b o hb q)⟩
end

-- part R4
/-- what an enumerate hands out -/
noncomputable def EnumP (items : Array Value) (i : Nat) (v : Value) (h : Heap) : Prop := ∃ (T : Addr) (t : Tok) (x : Value), v = .ref T ∧ items[i]? = some x ∧ h.IsTuple T #[.int i t, x]
/-- what a list or a tuple hands out -/
noncomputable def ItemP (items : Array Value) (i : Nat) (v : Value) (_h : Heap) : Prop := items[i]? = some v
noncomputable def RangeP (a : Int) (i : Nat) (v : Value) (_h : Heap) : Prop := ∃ t, v = .int (a + (i : Int)) t

section
variable {prog : Program} {w : World} {A : Around} {E : Value → Shared → Prop} {s s₀ : Shared}

theorem kturns_mono {target : Expr} {I : Addr} {fp wr : List Addr} {n : Nat} {P P' Md : Nat → Value → Heap → Prop} {St : Nat → Heap → Prop} (W : KTurns prog w A target I fp wr n P Md St) (h : ∀ i v h, P i v h → P' i v h) : KTurns prog w A target I fp wr n P' Md St where
  sub := W.sub
  frame := W.frame
  item := W.item
  go := fun i v s Q E hm hQ => W.go i v s Q E hm fun h' hP st hk => hQ h' (h _ _ _ hP) st hk
  done := W.done

theorem src_enumT {elts : List Expr} {k n : Nat} {pos : Pos} {t : Addr} {items : Array Value} (hh : A.handled = none) (hn : items.size = n) (ht : s.heap.IsTuple t items) (hs : ∃ h tk, s = { s₀ with heap := h, toks := tk }) (hk : Held s₀.heap s.heap)
    (hz : s₀.heap.objs.size ≤ s.heap.objs.size) :
    wpAny (model prog w) A (call (.type "enumerate") [.ref t]) (fun xv s₁ => wpAny (model prog w) A (pyIter xv) (SrcAt prog w A (.Tuple elts k pos) n (EnumP items) s₀) E s₁) E s := by
  subst hn
  obtain ⟨h, tk, rfl⟩ := hs
  refine call_enumerate_tuple ht fun h' he hit hsz hk' => ?_
  refine wpAny_pyIter_enum he ?_
  have htl : t < h.objs.size := by obtain ⟨o, e, _⟩ := ht; exact Heap.lt_size e
  have D := draws_tuple (prog := prog) (w := w) (A := A.in1) hh h.objs.size t (Nat.ne_of_lt htl) items
  refine ⟨h.objs.size + 1, (h.objs.size + 1) :: [h.objs.size, t], [h.objs.size + 1, h.objs.size], _, _, h', tk, rfl, rfl, hk.trans hk',
    kturns_mono (KTurns.ofWalksU (WalksT.enumerateD D (h.objs.size + 1) (Nat.succ_ne_self _) ?_ (by simp)).toU) ?_, ?_, ⟨⟨_, he⟩, hit, tuple_at ht fun o e => hk' _ o e⟩, ?_, ?_, List.cons_ne_nil _ _⟩
  · intro hm
    rcases List.mem_cons.mp hm with e | hm
    · exact Nat.succ_ne_self _ e
    · have e : h.objs.size + 1 = t := List.mem_singleton.mp hm
      have htl' : @LT.lt Nat _ t h.objs.size := htl
      omega
  · rintro i v h₁ ⟨T, vals, rfl, ⟨t', x, hx, rfl⟩, hT⟩
    exact ⟨T, t', x, rfl, hx, hT⟩
  · rintro s' Q' E' ⟨⟨old, he'⟩, _⟩ hq
    exact wpAny_pyIter_enum he' hq
  · intro b hb
    have htl' : @LT.lt Nat _ t h.objs.size := htl
    have hsz' : h'.objs.size = h.objs.size + 2 := hsz
    rcases List.mem_cons.mp hb with rfl | hb
    · show @LT.lt Nat _ (h.objs.size + 1) h'.objs.size; omega
    · rcases List.mem_cons.mp hb with rfl | hb
      · show @LT.lt Nat _ h.objs.size h'.objs.size; omega
      · rw [List.mem_singleton.mp hb]; show @LT.lt Nat _ t h'.objs.size; omega
  · intro b hb
    have hz' : @LE.le Nat _ s₀.heap.objs.size h.objs.size := hz
    rcases List.mem_cons.mp hb with rfl | hb
    · show @LE.le Nat _ s₀.heap.objs.size (h.objs.size + 1); omega
    · rw [List.mem_singleton.mp hb]; exact hz'

theorem src_list {target : Expr} {t : Addr} {n : Nat} {items : Array Value} (hh : A.handled = none) (hn : items.size = n) (ht : s.heap.IsList t items) (hs : ∃ h tk, s = { s₀ with heap := h, toks := tk }) (hk : Held s₀.heap s.heap)
    (hz : s₀.heap.objs.size ≤ s.heap.objs.size)
    (hgo : ∀ I l i v (s : Shared) (Q : Unit → Shared → Prop) (E : Value → Shared → Prop), s.heap.IsListIter I l i → Q () s → wpAny (model prog w) A (letOwnedTupleGo target (.ref I) v) Q E s) :
    wpAny (model prog w) A (pyIter (.ref t)) (SrcAt prog w A target n (ItemP items) s₀) E s := by
  subst hn
  obtain ⟨h, tk, rfl⟩ := hs
  refine wpAny_pyIter_list ht ?_
  have htl : t < h.objs.size := by obtain ⟨o, e, _⟩ := ht; exact Heap.lt_size e
  have W := Walks.list (prog := prog) (w := w) hh h.objs.size t (Nat.ne_of_lt htl) items
  refine ⟨h.objs.size, [h.objs.size, t], [h.objs.size], _, _, _, tk, rfl, rfl, hk.trans fun b o e => Heap.get?_push_of_some _ e, kturns_mono (KTurns.ofWalks W fun i v s Q E st hq => hgo _ _ _ v s Q E st.1 hq) (fun i v h p => p),
    fun s' Q' E' st hq => W.self 0 s' Q' E' st hq, ⟨⟨_, Heap.get?_push_size _ rfl, rfl, rfl⟩, ht.push _⟩, ?_, ?_, List.cons_ne_nil _ _⟩
  · intro b hb
    have htl' : @LT.lt Nat _ t h.objs.size := htl
    rw [Heap.size_push]
    rcases List.mem_cons.mp hb with rfl | hb
    · exact Nat.lt_succ_self _
    · rw [List.mem_singleton.mp hb]; exact Nat.lt_succ_of_lt htl'
  · intro b hb
    rw [List.mem_singleton.mp hb]; exact hz

theorem src_range {target : Expr} {r : Addr} {a b : Int} {t u v : Tok} {n : Nat} (hh : A.handled = none) (hr : IsRange s.heap r a b 1 t u v) (hsm : Builtin.Range.small a b 1 = true) (hn : Builtin.Range.rangeSize a b 1 = ((n : Nat) : Int))
    (hs : ∃ h tk, s = { s₀ with heap := h, toks := tk }) (hk : Held s₀.heap s.heap) (hz : s₀.heap.objs.size ≤ s.heap.objs.size)
    (hgo : ∀ it v, letOwnedTupleGo target it v = pure ()) :
    wpAny (model prog w) A (pyIter (.ref r)) (SrcAt prog w A target n (RangeP a) s₀) E s := by
  obtain ⟨h, tk, rfl⟩ := hs
  refine wpAny_pyIter_range hr hsm ?_
  have W := LCg.range_walks (prog := prog) (w := w) (I := h.objs.size) hh a n
  refine ⟨h.objs.size, [h.objs.size], [h.objs.size], _, _, _, tk, rfl, rfl, hk.trans fun b o e => Heap.get?_push_of_some _ e, kturns_mono (KTurns.ofWalks W fun i v s Q E st hq => wpAny_of_eq (hgo _ v) hq) (fun i v h p => p),
    fun s' Q' E' st hq => W.self 0 s' Q' E' st hq, ?_, ?_, ?_, List.cons_ne_nil _ _⟩
  · show IsRangeIter _ _ _ _ _
    dsimp only
    rw [hn]
    simpa using Heap.get?_push_size h (o := { cls := .type "range_iterator", data := .fields #[rawInt a, rawInt (n : Int), rawInt 1] }) rfl
  · intro b hb
    rw [List.mem_singleton.mp hb, Heap.size_push]; exact Nat.lt_succ_self _
  · intro b hb
    rw [List.mem_singleton.mp hb]; exact hz

/-! names within a comprehension's block -/
theorem cname_local {x : Str} {px : Pos} {env : Env} {v : Value} {m : Str → Option Value} {Q : Value → Shared → Prop} (hk : env.scope.kind = .function) (hx : env.kindOf x = some .local) (hn : s.heap.Ns env.locals m) (hv : m x = some v) (h : Q v s)
    (hd : (x == ("__debug__" : Str)) = false := by decide) : wpAny (model prog w) A (eval (.Name x px) env) Q E s := wpAny_Name (wpAny_loadName_local hk hx hn hv h) hd
theorem cname_cell {x : Str} {px : Pos} {env : Env} {c : Addr} {v : Value} {Q : Value → Shared → Prop} (hk : env.scope.kind = .function) (hx : env.kindOf x = some .cell ∨ env.kindOf x = some .free) (hc : env.cells.lookup x = some c) (hv : s.heap.IsCell c (some v)) (h : Q v s)
    (hd : (x == ("__debug__" : Str)) = false := by decide) (hn : (x == ("__classdict__" : Str)) = false := by decide) : wpAny (model prog w) A (eval (.Name x px) env) Q E s := by
  rcases hx with hx | hx
  · exact wpAny_Name (wpAny_loadName_cell hk hx hc hv h) hd
  · exact wpAny_Name (wpAny_loadName_free hk hx hc hv h hn) hd
theorem kind_local {x : Str} {C : Addr} {scope : Scope} {cells : List (Str × Addr)} {env : Env} (h : scope.names.lookup x = some .local) : (compEnvC scope cells C env).kindOf x = some .local := lookup_relabel_local h
theorem tup_item {value slice : Expr} {t : Addr} {l : List Value} {k : Nat} {u : Tok} {x : Value} {Q : Value → Shared → Prop} (ht : s.heap.IsTuple t l.toArray) (hk : k < 1000) (hx : l[k]? = some x) (h : Q x s)
    (hs : subscripted slice false (.ref t) (.int (k : Int) u) = operate [.ref t, .int (k : Int) u] (getItem (.ref t) (.int (k : Int) u)) := by with_unfolding_all rfl) :
    wpAny (model prog w) A (subscriptTail value slice (.ref t) (.int (k : Int) u)) Q E s := by
  refine item_tupleT (j := k) ht (by omega) (by omega) ?_ hx h hs
  have hl : k < l.length := (List.getElem?_eq_some_iff.mp hx).1
  unfold seqIndex?
  simp only [show ¬ ((k : Int) < 0) from by omega, if_false]
  simp
  omega
end

-- part B2
section
variable {prog : Program} {w : World} {A₀ A : Around} {E : Value → Shared → Prop} {s : Shared} {base h₀ : Heap} {outer : List Env} {L : Addr} {m : Str → Option Value} {env : Env} {news need : List (Addr × Obj)}

/-- a def is entered: what it needs of the caller's ledger stands in its own, the rest stays -/
theorem enterG {K : Frag} {p : Program} {loose : List Str} {mean : ExcName → Option Value} {mg mb : Str → Option Value} {R : Result → Shared → Prop} {name qual : Str} {params : Arguments} {body : List Stmt} {scope : Scope} {dV kV doc pm cdv ct oc : Value} {an od : Option Addr} {osl : Array (Option Value)} {f : Addr} {args : Args} {binds : List (Str × Value)}
    (B : Below A₀ base outer h₀) (F : Fr h₀ L s.heap m) (X₀ : K.In h₀) (N : News h₀ L s.heap news) (T : Top p loose mean mg mb h₀) (hsub : ∀ p ∈ need, p ∈ news) (hA : A.frames = some (env :: outer)) (hf : env.frame = some L) (hke : env.scope.kind = .function)
    (ho : K.lookup f = some ⟨oc, od, .func (fnOf name qual params body scope dV kV doc pm an cdv ct), osl⟩) (hcd : codeIn K cdv qual = true) (hroom : A.depth < recursionLimit)
    (hbind : BindsTo s (fnOf name qual params body scope dV kV doc pm an cdv ct) args binds) (hloc : ∀ y ∈ binds, scope.names.lookup y.1 = some .local)
    (h : ∀ g L' h₁, Fr h₀ L g m → Fr g L' h₁ (fun y => binds.reverse.lookup y) → News g L' h₁ need → Below A base (env :: outer) g → K.In g → Top p loose mean mg mb g → (∀ p ∈ need, p.1 < L') → GSub s.heap g (need.map (·.1)) →
      wpAny (model prog w) (A.deeper (envOf qual scope L' f cdv)) (execs body (envOf qual scope L' f cdv))
        (fun fl s' => LeaveK h₀ L m g R (match fl with | .ret v => v | _ => .none) s')
        (fun e s' => wpAny (model prog w) (A.deeper (envOf qual scope L' f cdv)) (leaving (envOf qual scope L' f cdv) e) (fun _ s'' => R (.error e) s'') (fun e' s'' => R (.error e') s'') s')
        { s with heap := h₁, toks := s.toks + binds.length })
    (hco : scope.isCoroutine = false) (hgen : scope.isGenerator = false) (hk : scope.kind = .function)
    (hcell : ∀ x ∈ scope.names, x.2 ≠ .cell) : codeAny (model prog w) A (.call (.ref f) args) R s := by
  have N' : News h₀ L s.heap need := fun p hp => N p (hsub p hp)
  obtain ⟨FG, BG, st, lv⟩ := groundX (R := R) B F N' hA hf hke
  refine codeAny_call_def (fd := fnX name qual params body scope [] dV kV doc pm an cdv ct) (body := body) (binds := binds) hroom ((X₀.keeps F.keep) _ _ ho) rfl (T.nolimit.keeps F.keep) (codeRec_of (X₀.keeps F.keep) hcd) rfl hbind hcell hloc (fun h₁ hns hk₁ => ?_) hco hgen hk
  refine wpAny_mono (h _ s.heap.objs.size h₁ FG ⟨hns, fun b o e => hk₁ b o (of_hideAll _ e), Nat.le_of_eq (hideAll_size _ _)⟩ (fun p hp => ?_) BG (X₀.keeps st) (T.keeps st) (fun p hp => Heap.lt_size (N' p hp).1) (fun b o e n => hideAll_get _ e n)) (fun fl s' hl => lv _ _ hl) fun _ _ y => y
  exact ⟨hk₁ _ _ (N' p hp).1, Nat.ne_of_lt (Heap.lt_size (N' p hp).1), hideAll_none _ (List.mem_map_of_mem hp)⟩

theorem enterC {K : Frag} {p : Program} {loose : List Str} {mean : ExcName → Option Value} {mg mb : Str → Option Value} {R : Result → Shared → Prop} {name qual : Str} {params : Arguments} {body : List Stmt} {scope : Scope} {dV kV doc pm cdv ct oc : Value} {an od : Option Addr} {osl : Array (Option Value)} {f : Addr} {args : Args} {binds : List (Str × Value)}
    (B : Below A₀ base outer h₀) (F : Fr h₀ L s.heap m) (X₀ : K.In h₀) (N : News h₀ L s.heap news) (T : Top p loose mean mg mb h₀) (hsub : ∀ p ∈ need, p ∈ news) (hA : A.frames = some (env :: outer)) (hf : env.frame = some L) (hke : env.scope.kind = .function)
    (ho : K.lookup f = some ⟨oc, od, .func (fnOf name qual params body scope dV kV doc pm an cdv ct), osl⟩) (hcd : codeIn K cdv qual = true) (hroom : A.depth < recursionLimit)
    (hbind : BindsTo s (fnOf name qual params body scope dV kV doc pm an cdv ct) args binds) (hkind : (binds.all fun y => scope.names.lookup y.1 == some .local || scope.names.lookup y.1 == some .cell) = true)
    (hnd : ((cellsFrom 0 scope.names []).map (·.1)).Nodup)
    (h : ∀ g L' h₁ tk cells, Fr h₀ L g m → Fr g L' h₁ (bindL (envOfC qual scope L' f cdv).kindOf binds fun _ => none) → News g L' h₁ (cells ++ need) →
      CellsAre (bindC (envOfC qual scope L' f cdv).kindOf binds fun _ => none) (cellsFrom (L' + 1) scope.names []) cells → Below A base (env :: outer) g → K.In g → Top p loose mean mg mb g → (∀ p ∈ need, p.1 < L') → GSub s.heap g (need.map (·.1)) →
      wpAny (model prog w) (A.deeper (envOfC qual scope L' f cdv)) (execs body (envOfC qual scope L' f cdv))
        (fun fl s' => LeaveK h₀ L m g R (match fl with | .ret v => v | _ => .none) s')
        (fun e s' => wpAny (model prog w) (A.deeper (envOfC qual scope L' f cdv)) (leaving (envOfC qual scope L' f cdv) e) (fun _ s'' => R (.error e) s'') (fun e' s'' => R (.error e') s'') s')
        { s with heap := h₁, toks := tk })
    (hco : scope.isCoroutine = false) (hgen : scope.isGenerator = false) (hk : scope.kind = .function) : codeAny (model prog w) A (.call (.ref f) args) R s := by
  have N' : News h₀ L s.heap need := fun p hp => N p (hsub p hp)
  obtain ⟨FG, BG, st, lv⟩ := groundX (R := R) B F N' hA hf hke
  have X := X₀.keeps F.keep
  have kc := kindsX hkind
  refine codeAny_call_function hroom (X _ _ ho) rfl hco hgen rfl (codeRec_of X hcd) (hbind _ _ _ _ ?_)
  refine wpAny_newFunctionEnv_cells hk (kc _) fun env' he s' x => ?_
  subst he
  refine ⟨(T.nolimit.keeps F.keep).keeps x.toInCall.keep, codeAny_func ?_⟩
  obtain ⟨h₁, tk, rfl, _⟩ := x.done
  have hk₁ := x.toInCall.keep
  obtain ⟨cells, NC, Y⟩ := Cl.news (h₀ := s.heap) (Nat.le_refl _) fun n c hm => ⟨x.cell n c (lookup_of_mem_nodup (cellsFrom_names scope.names 0 (s.heap.objs.size + 1) [] [] rfl ▸ hnd) hm), x.above n c hm⟩
  have led : News (hideAll s.heap (need.map (·.1))) s.heap.objs.size h₁ (cells ++ need) := fun p hp => by
    rcases List.mem_append.mp hp with hp | hp
    · have z := NC p hp
      refine ⟨z.1, z.2.1, ?_⟩
      cases q : (hideAll s.heap (need.map (·.1))).get? p.1 with
      | none => rfl
      | some o => rw [of_hideAll _ q] at z; exact absurd z.2.2 (by simp)
    · exact ⟨hk₁ _ _ (N' p hp).1, Nat.ne_of_lt (Heap.lt_size (N' p hp).1), hideAll_none _ (List.mem_map_of_mem hp)⟩
  exact wpAny_mono (h _ s.heap.objs.size h₁ tk cells FG ⟨x.toInCall.ns, fun b o e => hk₁ b o (of_hideAll _ e), Nat.le_of_eq (hideAll_size _ _)⟩ led Y BG (X₀.keeps st) (T.keeps st) (fun p hp => Heap.lt_size (N' p hp).1) (fun b o e n => hideAll_get _ e n)) (fun fl s' hl => lv _ _ hl) fun _ _ y => y

/-- the way back: what the def needed it left as it was -/
theorem back_news {g h h' : Heap} {L' : Addr} {m' : Str → Option Value} {led : List (Addr × Obj)} (N : News h₀ L h news) (hsub : ∀ p ∈ need, p ∈ news) (G : GSub h g (need.map (·.1))) (F' : Fr g L' h' m') (kN : News h₀ L h' led)
    (hin : ∀ p ∈ need, p ∈ led) : News h₀ L h' (led ++ news) := fun p hp => by
  rcases List.mem_append.mp hp with hp | hp
  · exact kN p hp
  · have z := N p hp
    refine ⟨?_, z.2⟩
    by_cases hm : p.1 ∈ need.map (·.1)
    · obtain ⟨q, hq, e⟩ := List.mem_map.mp hm
      have h1 := (N q (hsub q hq)).1
      have h2 := z.1
      rw [e] at h1
      have h3 : q.2 = p.2 := Option.some.inj (h1.symm.trans h2)
      have h4 := (kN q (hin q hq)).1
      rw [e, h3] at h4
      exact h4
    · exact F'.keep _ _ (G _ _ z.1 hm)
theorem fr_held {h h' : Heap} (F : Fr h₀ L h m) (k : Held h h') : Fr h₀ L h' m := F.keeps k
theorem news_add {h h' : Heap} {D : Addr} {o : Obj} (F : Fr h₀ L h m) (N : News h₀ L h news) (k : Held h h') (hD : h.get? D = none) (ho : h'.get? D = some o) : News h₀ L h' ((D, o) :: news) := fun p hp => by
  rcases List.mem_cons.mp hp with rfl | hp
  · refine ⟨ho, fun e => ?_, ?_⟩
    · obtain ⟨oL, _, _, hL, _⟩ := F.ns
      have e : D = L := e
      rw [← e, hD] at hL; cases hL
    · cases q : h₀.get? D with
      | none => rfl
      | some o' => rw [F.keep _ _ q] at hD; cases hD
  · exact ⟨k _ _ (N p hp).1, (N p hp).2⟩

/-- a def that only reads what it needs hands back one new object -/
theorem ret_new {g h h' : Heap} {L' D : Addr} {o : Obj} {m' : Str → Option Value} {led : List (Addr × Obj)} (N : News h₀ L h news) (hsub : ∀ p ∈ need, p ∈ news) (G : GSub h g (need.map (·.1))) (F' : Fr g L' h' m') (N' : News g L' h' ((D, o) :: led)) (kN : News h₀ L h' ((D, o) :: led))
    (hin : ∀ p ∈ need, p ∈ led) (hne : ∀ p ∈ need, p.1 ≠ D) : News h₀ L h' ((D, o) :: news) ∧ ∀ p ∈ news, p.1 ≠ D := by
  have z := back_news N hsub G F' kN fun p hp => .tail _ (hin p hp)
  refine ⟨fun p hp => z p ?_, fun p hp e => ?_⟩
  · rcases List.mem_cons.mp hp with rfl | hp
    · exact List.mem_append_left _ (.head _)
    · exact List.mem_append_right _ hp
  · by_cases hm : p.1 ∈ need.map (·.1)
    · obtain ⟨q, hq, e'⟩ := List.mem_map.mp hm
      exact hne q hq (e'.trans e)
    · have h1 := G _ _ (N p hp).1 hm
      have h2 := (N' _ (.head _)).2.2
      rw [e] at h1
      exact absurd (h1.symm.trans h2) (by simp)
end

-- part PP
section
theorem offPP : True := by
  w_top off
  trivial

/-- three ints -/
abbrev ints3 (x y z : Int) (t1 t2 t3 : Tok) : List Value := [.int x t1, .int y t2, .int z t3]
abbrev keyO (x y z : Int) (t1 t2 t3 : Tok) : Obj := tupO (ints3 x y z t1 t2 t3)

section
variable {prog : Program} {w : World} {A : Around} {E : Value → Shared → Prop} {s : Shared}
set_option maxRecDepth 100000 in
theorem pp_comp {env : Env} {c a b L : Addr} {h₀ : Heap} {m : Str → Option Value} {sc : Scope} {iter : Expr} {p1 p2 p3 p4 p5 p6 p7 p8 p9 : Pos} {k : Nat} {x0 x1 x2 y0 y1 y2 : Int} {t0 t1 t2 u0 u1 u2 : Tok} {Q : Value → Shared → Prop}
    (hh : A.handled = none) (hsc : sc.kind = .function) (hnames : ∀ y ∈ sc.names, y.2 = .local → sc.names.lookup y.1 = some .local)
    (h1 : sc.names.lookup (Str.ofString "at") = some .local) (h2 : sc.names.lookup (Str.ofString "one") = some .local) (hcl : closureFor sc env = pure [((Str.ofString "b"), c)])
    (hcf : ∀ n, cellsFrom n sc.names [((Str.ofString "b"), c)] = [((Str.ofString "b"), c)])
    (hkb : ∀ C, (compEnvC sc [((Str.ofString "b"), c)] C env).kindOf "b" = some .cell ∨ (compEnvC sc [((Str.ofString "b"), c)] C env).kindOf "b" = some .free)
    (_F : Fr h₀ L s.heap m) (_hm : m (Str.ofString "a") = some (.ref a)) (_ha : s.heap.IsTuple a (ints3 x0 x1 x2 t0 t1 t2).toArray)
    (hb : s.heap.IsTuple b (ints3 y0 y1 y2 u0 u1 u2).toArray) (hc : s.heap.IsCell c (some (.ref b)))
    (hsrc : wpAny (model prog w) A (eval iter env) (fun xv s₁ => wpAny (model prog w) A (pyIter xv) (SrcAt prog w A (.Tuple [.Name "at" p6, .Name "one" p7] k p8) 3 (EnumP (ints3 x0 x1 x2 t0 t1 t2).toArray) s) E s₁) E s)
    (hQ : ∀ (D : Addr) (v0 v1 v2 : Tok) (h' : Heap) (tk : Nat), h'.get? D = some (LCg.lst (ints3 (x0 + y0) (x1 + y1) (x2 + y2) v0 v1 v2)) → s.heap.get? D = none → Held s.heap h' → Q (.ref D) { s with heap := h', toks := tk })
    (hs : ∀ x, foldedSetIterable iter env x = pure x := by intro _; rfl) :
    wpAny (model prog w) A (eval (.ListComp (.BinOp (.Name "one" p1) .Add (.Subscript (.Name "b" p2) (.Name "at" p3) p4) p5) [⟨.Tuple [.Name "at" p6, .Name "one" p7] k p8, iter, [], 0⟩] sc p9) env) Q E s := by
  refine comp_clause (P := EnumP (ints3 x0 x1 x2 t0 t1 t2).toArray) hcl hsc hnames (by rw [sizeLine_eq]; omega) hsrc
    (fun _ i ys _ => ∃ v0 v1 v2, ys = (ints3 (x0 + y0) (x1 + y1) (x2 + y2) v0 v1 v2).take i)
    (fun _ _ _ _ _ h _ => h) (fun _ _ _ => ⟨0, 0, 0, rfl⟩) ?_ ?_ hs
  · intro C D oc wr i ys v s₃ m₃ E' hoc' hi hP hn hcs hj hk hlt hnew hCo
    obtain ⟨T, t, x, rfl, hx, hT⟩ := hP
    obtain ⟨v0, v1, v2, rfl⟩ := hj
    rw [hcf]
    refine comp_assign_pair hh hsc h1 h2 hT hn hcs hCo fun h₄ tk₄ hn₄ hc₄ hs₄ => ?_
    refine wpAny_tests_nil ?_
    rw [if_pos rfl]
    have hk₄ : Held s.heap h₄ := fun d o e => hs₄ d o (fun q => by rw [List.mem_singleton.mp q, hnew C (by simp)] at e; cases e) (hk d o e)
    refine wpAny_BinOp (cname_local hsc (kind_local h2) hn₄ (if_pos rfl) ?_)
    refine Subscript_ (cname_cell (c := c) hsc (hkb C) (by simp [compEnvC]) (by obtain ⟨o, ho, hd⟩ := hc; exact ⟨o, hk₄ _ _ ho, hd⟩) ?_)
    refine cname_local hsc (kind_local h1) hn₄ (by rw [if_neg (by decide), if_pos rfl]) ?_
    have hb₄ : h₄.IsTuple b (ints3 y0 y1 y2 u0 u1 u2).toArray := tuple_at hb fun o e => hk₄ _ _ e
    rcases i with _ | _ | _ | i
    · cases hx
      refine tup_item hb₄ (by omega) rfl (add_int ⟨turnEnd_of hn₄ hc₄ (hs₄.mono (by simp)) ⟨_, _, rfl⟩ (Held.refl _), ⟨_, v1, v2, rfl⟩⟩)
    · cases hx
      refine tup_item hb₄ (by omega) rfl (add_int ⟨turnEnd_of hn₄ hc₄ (hs₄.mono (by simp)) ⟨_, _, rfl⟩ (Held.refl _), ⟨v0, _, v2, rfl⟩⟩)
    · cases hx
      refine tup_item hb₄ (by omega) rfl (add_int ⟨turnEnd_of hn₄ hc₄ (hs₄.mono (by simp)) ⟨_, _, rfl⟩ (Held.refl _), ⟨v0, v1, _, rfl⟩⟩)
    · exact absurd hi (by omega)
  · rintro pr D ys h' tk ⟨v0, v1, v2, rfl⟩ hl _ hD hk
    exact hQ D v0 v1 v2 h' tk hl hD hk
end

/-- a new key -/
noncomputable def RetKey (x y z : Int) (news : List (Addr × Obj)) (n' : List (Addr × Obj)) (r : Value) : Prop :=
  ∃ a t1 t2 t3, r = .ref a ∧ n' = (a, keyO x y z t1 t2 t3) :: news ∧ ∀ p ∈ news, p.1 ≠ a

local macro_rules | `(tactic| walk_at "call type:enumerate") => `(tactic| refine Stop.out ?_)
local macro_rules | `(tactic| walk_at "eval ListComp") => `(tactic| refine Stop.out ?_)
set_option maxRecDepth 100000 in
set_option maxHeartbeats 1000000 in
theorem pp_tells (w : World) (x0 x1 x2 y0 y1 y2 : Int) (a b : Addr) (t0 t1 t2 u0 u1 u2 : Tok) (news : List (Addr × Obj)) (ha : (a, keyO x0 x1 x2 t0 t1 t2) ∈ news) (hb : (b, keyO y0 y1 y2 u0 u1 u2) ∈ news) :
    Tells w 2 19 [.ref a, .ref b] news (RetKey (x0 + y0) (x1 + y1) (x2 + y2) news) := by
  unfold Tells
  intros; rename_i hret
  have hsub : ∀ p ∈ [(a, keyO x0 x1 x2 t0 t1 t2), (b, keyO y0 y1 y2 u0 u1 u2)], p ∈ news := by simp [ha, hb]
  refine wpAny_call ?_
  k_dflt (refine' enterC ?k1 ?k2 ?k3 ?k4 ?k5 hsub ?kA ?kF ?kK ?k6 ?k7 ?k8 ?k9 ?kB ?kD ?_ ?c2 ?c3 ?c4)
  case kA => exact rfl
  case kF => exact rfl
  case kK => assumption
  case k1 => k_asm
  case k2 => k_asm
  case k3 => k_asm
  case k4 => k_asm
  case k5 => k_asm
  case k6 => k_is
  case k7 => k_is
  case k8 => ktr_room
  case k9 => exact BindsTo.of_eq rfl
  case kB => exact rfl
  case kD => decide +kernel
  case c2 => exact rfl
  case c3 => exact rfl
  case c4 => exact rfl
  k_whole
  intro g' L' h' tk' cells' FG' F' N' Y' B' X' T' l1 G'
  (try k_lt l1)
  k_cells Y'
  (try simp only [List.cons_append, List.nil_append] at N')
  (try dsimp only)
  (try k_lift B')
  (try k_fold)
  k_steps
  refine Stop.mk ?_
  (k_here; k_dflt (
    (rename Fr _ _ _ _ => fF'); (rename News _ _ _ _ => nN')
    (refine' pp_comp ?hh ?hsc ?hnames ?h1 ?h2 ?hcl ?hcf ?hkb ?hF ?hm ?ha ?hb ?hc ?hsrc ?_)
    (case hh => rfl); (case hsc => rfl); (case hnames => decide); (case h1 => rfl); (case h2 => rfl)
    (case hcl => with_unfolding_all rfl); (case hcf => intro n; rfl); (case hkb => intro C; exact .inl rfl)
    (case hF => exact fF'); (case hm => rfl); (case ha => exact ⟨_, (nN' (_, _) (by k_mem)).1, rfl, _, rfl⟩)
    (case hc => exact ⟨_, (nN' (_, _) (by k_mem)).1, by assumption⟩)
    (case hb => exact ⟨_, (nN' (_, _) (by k_mem)).1, rfl, _, rfl⟩)
    (case hsrc => (iterate 7 (first | walk1 | (dsimp only; walk1) | skip)); refine Stop.mk ?_; (k_here; k_dflt (
            (rename News _ _ _ _ => nN')
            (refine' src_enumT ?hh ?hn ?ht ?hs ?hk ?hz)
            (case hh => rfl); (case hn => rfl); (case hs => exact ⟨_, _, rfl⟩); (case hk => exact fun _ _ e => e); (case hz => exact Nat.le_refl _)
            (case ht => exact ⟨_, (nN' (_, _) (by k_mem)).1, rfl, _, rfl⟩))))
    (intro D' v0 v1 v2 h' tk hD' hn' hk'; have F9 := fr_held fF' hk'; have N9 := news_add fF' nN' hk' hn' hD'; clear hk' hD')))
  k_steps
  (rename Fr g' _ _ _ => fF'); (rename News g' _ _ _ => nN'); (rename News _ _ _ _ => kN')
  have z := ret_new (by assumption) hsub G' fF' nN' kN' (by simp) (by k_all)
  exact hret _ _ _ _ (by k_asm) z.1 ⟨_, _, _, _, rfl, rfl, z.2⟩

end
-- part D1
section
variable {prog : Program} {w : World} {K : Type} [DecidableEq K] {knd : HeapKind prog w K} {A : Around} {E : Value → Shared → Prop} {s : Shared} {d a : Addr} {k : K} {xs : List (K × Addr × Value)}

/-- the table without a key -/
noncomputable def outK (xs : List (K × Addr × Value)) (k : K) : List (K × Addr × Value) := xs.filter fun x => !decide (x.1 = k)
theorem outK_none {xs : List (K × Addr × Value)} {k : K} (h : atKey xs k = none) : outK xs k = xs := by
  unfold outK
  rw [List.filter_eq_self]
  intro x hx
  unfold atKey at h
  rw [Option.map_eq_none_iff, List.find?_eq_none] at h
  have := h x hx
  simpa using this
theorem erase_outK {xs : List (K × Addr × Value)} (hn : (xs.map (·.1)).Nodup) : ∀ {j : Nat} {p : Addr × Value}, xs[j]? = some (k, p) → xs.eraseIdx j = outK xs k := by
  induction xs with
  | nil => intro j p h; simp at h
  | cons x r ih =>
    intro j p h
    rw [List.map_cons, List.nodup_cons] at hn
    cases j with
    | zero =>
      simp only [List.getElem?_cons_zero, Option.some.injEq] at h
      subst h
      have : ∀ y ∈ r, ¬ y.1 = k := fun y hy e => hn.1 (by simpa [← e] using List.mem_map_of_mem (f := (·.1)) hy)
      unfold outK
      rw [List.eraseIdx_zero, List.filter_cons_of_neg (by simp), List.tail_cons]
      exact (List.filter_eq_self.mpr fun y hy => by simpa using this y hy).symm
    | succ j =>
      simp only [List.getElem?_cons_succ] at h
      have hne : ¬ x.1 = k := fun e => hn.1 (by rw [e]; exact List.mem_map.mpr ⟨_, List.mem_of_getElem? h, rfl⟩)
      unfold outK
      rw [List.eraseIdx_cons_succ, List.filter_cons_of_pos (by simpa using hne), ih hn.2 h]
      rfl

theorem eraseIdx_mapM {α β : Type} (f : α → β) : ∀ (l : List α) (j : Nat), (l.map f).eraseIdx j = (l.eraseIdx j).map f
  | [], _ => by simp
  | _ :: _, 0 => by simp
  | _ :: r, j + 1 => by simp [eraseIdx_mapM f r j]

theorem takeOut_heap {Q : Option DictEntry → Shared → Prop} (hu : knd.room A) (hkey : knd.is s.heap k a) (hm : s.heap.DictOfH knd d xs)
    (hsz : xs.length ≤ sizeLine)
    (hnone : atKey xs k = none → Q none { s with toks := s.toks + knd.draws k })
    (hsome : ∀ p e h', atKey xs k = some p → h'.DictOfH knd d (outK xs k) → Heap.SameBut d s.heap h' → Q (some e) { s with heap := h', toks := s.toks + knd.draws k }) :
    wpAny (model prog w) A (Builtin.Dict.takeOut d (.ref a)) Q E s := by
  obtain ⟨o, es, ep, ho, hc, hd, he, his, hn⟩ := hm
  unfold Builtin.Dict.takeOut
  try with_reducible refine wpAny_holding ?_
  refine wpAny_bind (knd.pyHash hu hkey (wpAny_bind (wpAny_dictFind_heap (s := { s with toks := s.toks + knd.draws k }) hu hkey ho hd he his hn ?_ ?_)))
  · intro hno
    exact wpAny_pure (hnone (atKey_none_of_get hno))
  · intro j p hj
    have hat := atKey_of_get hn hj
    refine wpAny_bind (wpAny_dictEntries (s := { s with toks := s.toks + knd.draws k }) ho hd ?_)
    rw [entry_at he j, hj]
    dsimp only [Option.map_some]
    refine wpAny_bind (wpAny_updateDictKeys (hz := by have e := size_of_entries he; omega) (s := { s with toks := s.toks + knd.draws k }) ho hd ?_)
    refine wpAny_pure (hsome p _ _ hat ⟨_, _, ep + 1, Heap.get?_update_self _ ho (Obj.isFreed_of_dict (Obj.data_mapDictKeys hd _)), hc.mapDictKeys _, Obj.data_mapDictKeys hd _, ?_, ?_, ?_⟩ (Heap.SameBut.update ..))
    · have hlt : j < es.size := by
        rw [size_of_entries he]
        exact (List.getElem?_eq_some_iff.mp hj).1
      rw [Array.eraseIdxIfInBounds_eq, dif_pos hlt, Array.toList_eraseIdx, he, ← erase_outK hn hj]
      exact eraseIdx_mapM ..
    · intro x hx
      exact knd.keeps (his x (List.mem_filter.mp hx).1) ho hd (Heap.SameBut.update ..)
    · exact hn.sublist ((List.filter_sublist (l := xs)).map _)

theorem call_pop_heap {dflt : Value} {Q : Value → Shared → Prop} (hu : knd.room A.in1) (hkey : knd.is s.heap k a) (hlo : (d == sysModules) = false) (hm : s.heap.DictOfH knd d xs) (hsz : xs.length ≤ sizeLine)
    (hnone : atKey xs k = none → ∀ tk, Q dflt { s with toks := tk })
    (hsome : ∀ v h' tk, h'.DictOfH knd d (outK xs k) → Heap.SameBut d s.heap h' → Q v { s with heap := h', toks := tk }) :
    wpAny (model prog w) A (call (.builtin "dict.pop") [.ref d, .ref a, dflt]) Q E s := by
  refine wpAny_call_entry PySem.F.slot_dict_pop hm.typeIs PySem.F.entry_dict_pop ?_ (PySem.F.args_dict_pop_3 _ _ _)
  unfold Builtin.«dict.pop»
  refine wpAny_bind ?_
  unfold Builtin.Dict.keyAndDefault
  refine wpAny_bind (wpAny_notOrdered_dict hm.typeIs ?_)
  show wpAny _ _ (pure (d, Value.ref a, some dflt)) _ _ s
  refine wpAny_pure ?_
  obtain ⟨o, es, ep, ho, hc, hd, he, his, hn⟩ := id hm
  simp only [keyPart, Option.isSome_none, Bool.false_eq_true, if_false]
  refine wpAny_bind (wpAny_dictEntries ho hd (wpAny_bind (wpAny_pure ?_)))
  have fin : ∀ (s' : Shared), s' = s → wpAny (model prog w) A.in1 (Builtin.Dict.takeOut d (.ref a)) (fun old s' => wpAny (model prog w) A.in1 (do
      if old.isNone then Builtin.Dict.missedRemoval d (.ref a)
      match old, some dflt with
      | some e, _ => letGo [e.key] [e.val]; ret e.val
      | none, some x => rule "dict.pop.default"; ret x
      | none, none => rule "dict.pop.keyerror"; raiseNew (← newExc (.type "KeyError") [.ref a])) (fun fin s' => ∃ v, fin = .done (.ret v) ∧ Q v s') E s') E s' := by
    rintro s' rfl
    refine takeOut_heap hu hkey hm hsz ?_ ?_
    · intro hno
      simp only [Option.isNone_none, if_true]
      refine wpAny_bind (wpAny_missedRemoval_other hlo ?_)
      exact wpAny_bind (wpAny_rule (wpAny_pure ⟨dflt, rfl, hnone hno _⟩))
    · intro p e h' hat hm' hs'
      simp only [Option.isNone_some, Bool.false_eq_true, if_false]
      exact wpAny_bind (wpAny_letGo (wpAny_pure ⟨e.val, rfl, hsome e.val h' _ hm' hs'⟩))
  by_cases hemp : es.isEmpty = true
  · rw [if_pos hemp]
    have hx : atKey xs k = none := by
      have e1 := size_of_entries he
      have e2 : es.size = 0 := by simpa using hemp
      rw [e2] at e1
      rw [List.length_eq_zero_iff.mp e1.symm]
      rfl
    refine wpAny_bind (wpAny_rule (wpAny_bind (wpAny_pure ?_)))
    simp only [Option.isNone_none, if_true]
    refine wpAny_bind (wpAny_missedRemoval_other hlo ?_)
    exact wpAny_bind (wpAny_rule (wpAny_pure ⟨dflt, rfl, hnone hx _⟩))
  · rw [if_neg hemp]
    exact wpAny_bind (fin _ rfl)
end

-- part D2
abbrev IK (w : World) : HeapKind Pg w (List Int) := tupleKind (intKind Pg w)
/-- a dict's entries: key, its tuple's address, value -/
abbrev Ents := List (List Int × Addr × Value)
structure DObj (w : World) (o : Obj) (xs : Ents) : Prop where
  is : ∃ es ep, o.ExactDict ∧ o.data = .dict es ep ∧ es.toList = xs.map (entryOfKey (IK w)) ∧ (xs.map (·.1)).Nodup
abbrev KeyAt (w : World) (h : Heap) (k : List Int) (a : Addr) : Prop := IsTupleKey (intKind Pg w) h k a
noncomputable def KeysAt (w : World) (h : Heap) (xs : Ents) : Prop := ∀ x ∈ xs, KeyAt w h x.1 x.2.1
theorem KeyAt.held {w : World} {h h' : Heap} {k : List Int} {a : Addr} (x : KeyAt w h k a) (t : Held h h') : KeyAt w h' k a := let ⟨o, items, n, ho, r⟩ := x; ⟨o, items, n, t _ _ ho, r⟩
theorem KeysAt.held {w : World} {h h' : Heap} {xs : Ents} (x : KeysAt w h xs) (t : Held h h') : KeysAt w h' xs := fun y hy => (x y hy).held t
theorem keyAt_of {w : World} {h : Heap} {a : Addr} {x y z : Int} {t1 t2 t3 : Tok} {n : Nat} (e : h.get? a = some ({ cls := .type "tuple", data := .seq #[.int x t1, .int y t2, .int z t3] n } : Obj)) : KeyAt w h [x, y, z] a :=
  ⟨_, _, n, e, rfl, rfl, .cons (intKind_is _ _ _ _) (.cons (intKind_is _ _ _ _) (.cons (intKind_is _ _ _ _) .nil))⟩
section
variable {w : World} {A : Around} {E : Value → Shared → Prop} {s : Shared} {g : Heap} {L d ka : Addr} {m : Str → Option Value} {news : List (Addr × Obj)} {o : Obj} {xs : Ents} {k : List Int}

theorem DObj.at (D : DObj w o xs) {h : Heap} (ho : h.get? d = some o) (hK : KeysAt w h xs) : h.DictOfH (IK w) d xs := by
  obtain ⟨es, ep, hc, hd, he, hn⟩ := D.is
  exact ⟨o, es, ep, ho, hc, hd, he, hK, hn⟩
theorem DObj.of {h : Heap} (x : h.DictOfH (IK w) d xs) : ∃ o, h.get? d = some o ∧ DObj w o xs := by
  obtain ⟨o, es, ep, ho, hc, hd, he, _, hn⟩ := x
  exact ⟨o, ho, ⟨es, ep, hc, hd, he, hn⟩⟩
theorem DObj.cls (D : DObj w o xs) : o.cls = .type "dict" := by obtain ⟨_, _, hc, _⟩ := D.is; exact hc.1
theorem DObj.dict (D : DObj w o xs) : o.dict = none := by obtain ⟨_, _, hc, _⟩ := D.is; exact hc.2.1
theorem DObj.nodup (D : DObj w o xs) : (xs.map (·.1)).Nodup := by obtain ⟨_, _, _, _, _, hn⟩ := D.is; exact hn
theorem DObj.nil : DObj w (dictOf [] 0) [] := ⟨#[], 0, ⟨rfl, rfl, rfl⟩, rfl, rfl, List.nodup_nil⟩

theorem dl_in {Q : Value → Shared → Prop} (F : Fr g L s.heap m) (N : News g L s.heap news) (hd : (d, o) ∈ news) (D : DObj w o xs) (hK : KeysAt w g xs) (hk : KeyAt w g k ka) (hlo : (d == sysModules) = false) (hu : A.units + 1 < cLine)
    (h : ∀ tk, Q (.bool (atKey xs k).isSome) { s with toks := tk }) : wpAny (model Pg w) A (compareOp .In (.ref ka) (.ref d)) Q E s :=
  wpAny_in_heap (knd := IK w) hu (hk.held F.keep) hlo (D.at (N _ hd).1 (hK.held F.keep)) (h _)

theorem dl_get {value slice : Expr} {p : Addr × Value} {Q : Value → Shared → Prop} (F : Fr g L s.heap m) (N : News g L s.heap news) (hd : (d, o) ∈ news) (D : DObj w o xs) (hK : KeysAt w g xs) (hk : KeyAt w g k ka) (hu : A.units + 1 < cLine) (hp : atKey xs k = some p)
    (h : ∀ tk, Q p.2 { s with toks := tk })
    (hs : subscripted slice false (.ref d) (.ref ka) = operate [.ref d, .ref ka] (getItem (.ref d) (.ref ka)) := by with_unfolding_all rfl) :
    wpAny (model Pg w) A (subscriptTail value slice (.ref d) (.ref ka)) Q E s :=
  let D' := D.at (N _ hd).1 (hK.held F.keep)
  tail_any D'.typeIs slot_dict_getitem.lookup (wpAny_getItem_heap (knd := IK w) hu (hk.held F.keep) D' hp (h _)) hs

theorem dl_set {v : Value} {gf : Obj → List (Addr × Obj)} {Q : Unit → Shared → Prop} (F : Fr g L s.heap m) (N : News g L s.heap news) (U : UpdF d o news gf) (D : DObj w o xs) (hK : KeysAt w g xs) (hk : KeyAt w g k ka) (hu : A.units + 1 < cLine) (hsz : xs.length ≤ sizeLine)
    (h : ∀ h' o' tk, Fr g L h' m → News g L h' (gf o') → DObj w o' (storedH xs k ka v) → Q () { s with heap := h', toks := tk }) :
    wpAny (model Pg w) A (setItem (.ref d) (.ref ka) v) Q E s := by
  obtain ⟨pre, post, hl, hg, a, b⟩ := U.split
  have hmem : (d, o) ∈ news := by rw [hl]; exact List.mem_append_right _ (.head _)
  have hm := N (d, o) hmem
  refine wpAny_setItem_heap (knd := IK w) hu (hk.held F.keep) (D.at hm.1 (hK.held F.keep)) (fun h' hD hs => ?_) hsz
  obtain ⟨o', ho', D'⟩ := DObj.of hD
  exact h h' o' _ (F.change hs hm.2.1 hm.2.2) (hg o' ▸ (show News g L s.heap (pre ++ (d, o) :: post) from hl ▸ N).setIn a b hs ho') D'

theorem dl_pop {dflt : Value} {gf : Obj → List (Addr × Obj)} {Q : Value → Shared → Prop} (F : Fr g L s.heap m) (N : News g L s.heap news) (U : UpdF d o news gf) (D : DObj w o xs) (hK : KeysAt w g xs) (hk : KeyAt w g k ka) (hlo : (d == sysModules) = false) (hu : A.units + 1 < cLine) (hsz : xs.length ≤ sizeLine)
    (h : ∀ v h' o' tk, Fr g L h' m → News g L h' (gf o') → DObj w o' (outK xs k) → Q v { s with heap := h', toks := tk }) :
    wpAny (model Pg w) A (call (.builtin "dict.pop") [.ref d, .ref ka, dflt]) Q E s := by
  obtain ⟨pre, post, hl, hg, a, b⟩ := U.split
  have hmem : (d, o) ∈ news := by rw [hl]; exact List.mem_append_right _ (.head _)
  have hm := N (d, o) hmem
  refine call_pop_heap (knd := IK w) hu (hk.held F.keep) hlo (D.at hm.1 (hK.held F.keep)) hsz (fun hno tk => ?_) fun v h' tk hD hs => ?_
  · have := h dflt s.heap o tk F (by rw [hg o, ← hl]; exact N) (by rw [outK_none hno]; exact D)
    exact this
  · obtain ⟨o', ho', D'⟩ := DObj.of hD
    exact h v h' o' tk (F.change hs hm.2.1 hm.2.2) (hg o' ▸ (show News g L s.heap (pre ++ (d, o) :: post) from hl ▸ N).setIn a b hs ho') D'

theorem dl_method {name : Str} {id : String} {pl : Sem Bool} {Q : Value × List Value → Shared → Prop} (N : News g L s.heap news) (hd : (d, o) ∈ news) (D : DObj w o xs) (slot : Slot "dict" name id) (hty : typeOf (.builtin id) = pure (.type "method_descriptor"))
    (h : Q (.builtin id, [.ref d]) s) : wpAny (model Pg w) A (getMethod (.ref d) name pl) Q E s :=
  getMethod_builtin ⟨_, (N _ hd).1, D.cls⟩ PySem.F.plainAttrs_dict slot hty (fun a e => by cases e; exact ⟨_, (N _ hd).1, D.dict⟩) h

end

-- part E1
/-! a polynomial as a list of powers and coefficients -/
abbrev Mon := Int × Int × Int
abbrev PL := List (Mon × Int)
noncomputable def keyL (p : Mon) : List Int := [p.1, p.2.1, p.2.2]
theorem keyL_inj {p q : Mon} (h : keyL p = keyL q) : p = q := by
  obtain ⟨a, b, c⟩ := p
  obtain ⟨a', b', c'⟩ := q
  simp [keyL] at h
  obtain ⟨rfl, rfl, rfl⟩ := h
  rfl
noncomputable def ev (l : PL) (f : Mon → Int) : Int := (l.map fun q => q.2 * f q.1).sum
noncomputable def nrm (l : PL) : Nat := (l.map fun q => q.2.natAbs).sum
theorem ev_nil (f : Mon → Int) : ev [] f = 0 := rfl
theorem ev_cons (q : Mon × Int) (l : PL) (f : Mon → Int) : ev (q :: l) f = q.2 * f q.1 + ev l f := by simp [ev]
theorem ev_append (a b : PL) (f : Mon → Int) : ev (a ++ b) f = ev a f + ev b f := by simp [ev]
theorem nrm_cons (q : Mon × Int) (l : PL) : nrm (q :: l) = q.2.natAbs + nrm l := by simp [nrm]
theorem nrm_append (a b : PL) : nrm (a ++ b) = nrm a + nrm b := by simp [nrm]
theorem nrm_mem {l : PL} {q : Mon × Int} (h : q ∈ l) : q.2.natAbs ≤ nrm l := by
  induction l with
  | nil => cases h
  | cons x r ih =>
    rw [nrm_cons]
    rcases List.mem_cons.mp h with rfl | h
    · omega
    · have := ih h; omega
noncomputable def lk (l : PL) (k : Mon) : Option Int := (l.find? fun q => decide (q.1 = k)).map (·.2)
noncomputable def drp (l : PL) (k : Mon) : PL := l.filter fun q => !decide (q.1 = k)
noncomputable def upd (l : PL) (k : Mon) (c : Int) : PL := l.map fun q => if q.1 = k then (q.1, c) else q
theorem lk_some {l : PL} {k : Mon} {c : Int} (h : lk l k = some c) : (k, c) ∈ l := by
  unfold lk at h
  obtain ⟨q, hq, rfl⟩ := Option.map_eq_some_iff.mp h
  have h1 := List.mem_of_find?_eq_some hq
  have h2 := List.find?_some hq
  simp at h2
  rw [← h2]
  exact h1
theorem drp_none {l : PL} {k : Mon} (h : ∀ q ∈ l, q.1 ≠ k) : drp l k = l := List.filter_eq_self.mpr fun q hq => by simpa using h q hq
theorem upd_none {l : PL} {k : Mon} {c : Int} (h : ∀ q ∈ l, q.1 ≠ k) : upd l k c = l := by
  induction l with
  | nil => rfl
  | cons x r ih =>
    have h1 := h x (.head _)
    have h2 := ih fun q hq => h q (.tail _ hq)
    unfold upd at h2 ⊢
    rw [List.map_cons, h2, if_neg h1]
theorem nodup_tail {q : Mon × Int} {r : PL} (h : ((q :: r).map (·.1)).Nodup) : (∀ x ∈ r, x.1 ≠ q.1) ∧ (r.map (·.1)).Nodup := by
  rw [List.map_cons, List.nodup_cons] at h
  exact ⟨fun x hx e => h.1 (List.mem_map.mpr ⟨x, hx, e⟩), h.2⟩
theorem ev_drp {k : Mon} {c : Int} {f : Mon → Int} : ∀ {l : PL}, (l.map (·.1)).Nodup → (k, c) ∈ l → ev (drp l k) f + c * f k = ev l f
  | [], _, h => nomatch h
  | q :: r, hn, h => by
    obtain ⟨h1, h2⟩ := nodup_tail hn
    rcases List.mem_cons.mp h with e | h
    · subst e
      have : drp ((k, c) :: r) k = r := by
        unfold drp
        rw [List.filter_cons_of_neg (by simp)]
        exact drp_none h1
      rw [this, ev_cons]; dsimp only; omega
    · have hne : ¬ q.1 = k := fun e => h1 (k, c) h e.symm
      have : drp (q :: r) k = q :: drp r k := by unfold drp; rw [List.filter_cons_of_pos (by simpa using hne)]
      rw [this, ev_cons, ev_cons, ← ev_drp h2 h]; omega
theorem ev_upd {k : Mon} {c c' : Int} {f : Mon → Int} : ∀ {l : PL}, (l.map (·.1)).Nodup → (k, c) ∈ l → ev (upd l k c') f + c * f k = ev l f + c' * f k
  | [], _, h => nomatch h
  | q :: r, hn, h => by
    obtain ⟨h1, h2⟩ := nodup_tail hn
    rcases List.mem_cons.mp h with e | h
    · subst e
      have : upd ((k, c) :: r) k c' = (k, c') :: r := by
        have := upd_none (c := c') h1
        unfold upd at this ⊢
        rw [List.map_cons, this, if_pos rfl]
      rw [this, ev_cons, ev_cons]; dsimp only; omega
    · have hne : ¬ q.1 = k := fun e => h1 (k, c) h e.symm
      have : upd (q :: r) k c' = q :: upd r k c' := by unfold upd; rw [List.map_cons, if_neg hne]
      have ih := ev_upd (f := f) (c' := c') h2 h
      rw [this, ev_cons, ev_cons]; omega
theorem nrm_drp {k : Mon} : ∀ (l : PL), nrm (drp l k) ≤ nrm l
  | [] => Nat.le_refl _
  | q :: r => by
    have ih := nrm_drp (k := k) r
    unfold drp at ih ⊢
    rw [List.filter_cons, nrm_cons]
    split
    · rw [nrm_cons]; omega
    · omega
theorem nrm_upd {k : Mon} {c c' : Int} : ∀ {l : PL}, (l.map (·.1)).Nodup → (k, c) ∈ l → nrm (upd l k c') + c.natAbs = nrm l + c'.natAbs
  | [], _, h => nomatch h
  | q :: r, hn, h => by
    obtain ⟨h1, h2⟩ := nodup_tail hn
    rcases List.mem_cons.mp h with e | h
    · subst e
      have : upd ((k, c) :: r) k c' = (k, c') :: r := by
        have := upd_none (c := c') h1
        unfold upd at this ⊢
        rw [List.map_cons, this, if_pos rfl]
      rw [this, nrm_cons, nrm_cons]; omega
    · have hne : ¬ q.1 = k := fun e => h1 (k, c) h e.symm
      have : upd (q :: r) k c' = q :: upd r k c' := by unfold upd; rw [List.map_cons, if_neg hne]
      have ih := nrm_upd (c' := c') h2 h
      rw [this, nrm_cons, nrm_cons]; omega

/-- what add_term makes of a polynomial -/
noncomputable def addT (l : PL) (k : Mon) (c : Int) : PL := match lk l k with
  | none => if c = 0 then l else l ++ [(k, c)]
  | some c₀ => if c₀ + c = 0 then drp l k else upd l k (c₀ + c)
theorem ev_addT {l : PL} {k : Mon} {c : Int} {f : Mon → Int} (hn : (l.map (·.1)).Nodup) : ev (addT l k c) f = ev l f + c * f k := by
  unfold addT
  cases h : lk l k with
  | none =>
    dsimp only
    split
    · rename_i e; subst e; simp
    · rw [ev_append, ev_cons, ev_nil]; dsimp only; omega
  | some c₀ =>
    dsimp only
    have hm := lk_some h
    split
    · rename_i e
      have := ev_drp (f := f) hn hm
      have e' : c = -c₀ := by omega
      rw [e', Int.neg_mul]; omega
    · have := ev_upd (f := f) (c' := c₀ + c) hn hm
      rw [Int.add_mul] at this; omega
theorem nrm_addT {l : PL} {k : Mon} {c : Int} (hn : (l.map (·.1)).Nodup) : nrm (addT l k c) ≤ nrm l + c.natAbs := by
  unfold addT
  cases h : lk l k with
  | none =>
    dsimp only
    split
    · omega
    · rw [nrm_append, nrm_cons]; show _ + (_ + 0) ≤ _; omega
  | some c₀ =>
    dsimp only
    have hm := lk_some h
    split
    · have := nrm_drp (k := k) l; omega
    · have := nrm_upd (c' := c₀ + c) hn hm
      omega
theorem len_addT {l : PL} {k : Mon} {c : Int} : (addT l k c).length ≤ l.length + 1 := by
  unfold addT
  cases h : lk l k with
  | none => dsimp only; split <;> simp
  | some c₀ =>
    dsimp only
    split
    · have := List.length_filter_le (fun q : Mon × Int => !decide (q.1 = k)) l
      show (List.filter _ l).length ≤ _
      omega
    · simp [upd]

/-! the dict that bears it -/
structure EntOf (news : List (Addr × Obj)) (x : List Int × Addr × Value) (q : Mon × Int) : Prop where
  key : x.1 = keyL q.1
  obj : ∃ t1 t2 t3 : Tok, (x.2.1, ({ cls := .type "tuple", data := .seq [Value.int q.1.1 t1, .int q.1.2.1 t2, .int q.1.2.2 t3].toArray } : Obj)) ∈ news
  val : ∃ (va : Addr) (t t' : Tok), x.2.2 = .ref va ∧ (va, ({ cls := .type "tuple", data := .seq [Value.int q.2 t, .int 1 t'].toArray } : Obj)) ∈ news
theorem EntOf.mono {news news' : List (Addr × Obj)} {x : List Int × Addr × Value} {q : Mon × Int} (e : EntOf news x q) (h : ∀ p ∈ news, p.2.cls = .type "tuple" → p ∈ news') : EntOf news' x q :=
  ⟨e.key, let ⟨a, b, c, hm⟩ := e.obj; ⟨a, b, c, h _ hm rfl⟩, let ⟨a, b, c, e1, hm⟩ := e.val; ⟨a, b, c, e1, h _ hm rfl⟩⟩
theorem paired_mono {α β : Type} {F F' : α → β → Prop} (h : ∀ a b, F a b → F' a b) {l₁ : List α} {l₂ : List β} (p : Paired F l₁ l₂) : Paired F' l₁ l₂ := by
  induction p with
  | nil => exact .nil
  | cons f _ ih => exact .cons (h _ _ f) ih
theorem paired_keys {news : List (Addr × Obj)} {xs : Ents} {l : PL} (p : Paired (EntOf news) xs l) : xs.map (·.1) = (l.map (·.1)).map keyL := by
  induction p with
  | nil => rfl
  | cons f _ ih => simp only [List.map_cons, ih, f.key]
theorem nodup_of_keyL {l : List Mon} (h : (l.map keyL).Nodup) : l.Nodup := by
  induction l with
  | nil => exact List.nodup_nil
  | cons x r ih =>
    rw [List.map_cons, List.nodup_cons] at h
    exact List.nodup_cons.mpr ⟨fun hm => h.1 (List.mem_map_of_mem hm), ih h.2⟩
theorem paired_lk {news : List (Addr × Obj)} {k : Mon} {xs : Ents} {l : PL} (p : Paired (EntOf news) xs l) :
    (lk l k = none ∧ atKey xs (keyL k) = none) ∨ ∃ c a va, lk l k = some c ∧ atKey xs (keyL k) = some (a, .ref va) ∧ ∃ t t' : Tok, (va, ({ cls := .type "tuple", data := .seq [Value.int c t, .int 1 t'].toArray } : Obj)) ∈ news := by
  induction p with
  | nil => exact .inl ⟨rfl, rfl⟩
  | @cons x q xs l f _ ih =>
    by_cases h : q.1 = k
    · obtain ⟨va, t, t', e, hm⟩ := f.val
      refine .inr ⟨q.2, x.2.1, va, by simp [lk, h], ?_, t, t', hm⟩
      have : x.1 = keyL k := by rw [f.key, h]
      simp [atKey, this, ← e]
    · have h' : ¬ x.1 = keyL k := fun e => h (keyL_inj (f.key.symm.trans e))
      have e1 : lk (q :: l) k = lk l k := by simp [lk, List.find?_cons, h]
      have e2 : atKey (x :: xs) (keyL k) = atKey xs (keyL k) := by simp [atKey, List.find?_cons, h']
      rw [e1, e2]; exact ih
theorem paired_drp {news : List (Addr × Obj)} {k : Mon} {xs : Ents} {l : PL} (p : Paired (EntOf news) xs l) : Paired (EntOf news) (outK xs (keyL k)) (drp l k) := by
  induction p with
  | nil => exact .nil
  | @cons x q xs l f _ ih =>
    unfold outK drp at ih ⊢
    by_cases h : q.1 = k
    · have : x.1 = keyL k := by rw [f.key, h]
      rw [List.filter_cons_of_neg (by simp [this]), List.filter_cons_of_neg (by simp [h])]; exact ih
    · have h' : ¬ x.1 = keyL k := fun e => h (keyL_inj (f.key.symm.trans e))
      rw [List.filter_cons_of_pos (by simpa using h'), List.filter_cons_of_pos (by simpa using h)]; exact .cons f ih
theorem paired_upd {news : List (Addr × Obj)} {k : Mon} {c : Int} {va : Addr} {t t' : Tok} {xs : Ents} {l : PL} (p : Paired (EntOf news) xs l)
    (hv : (va, ({ cls := .type "tuple", data := .seq [Value.int c t, .int 1 t'].toArray } : Obj)) ∈ news) : Paired (EntOf news) (xs.map (putAt (keyL k) (.ref va))) (upd l k c) := by
  induction p with
  | nil => exact .nil
  | @cons x q xs l f _ ih =>
    unfold upd at ih ⊢
    rw [List.map_cons, List.map_cons]
    refine .cons ?_ ih
    unfold putAt
    by_cases h : q.1 = k
    · have : x.1 = keyL k := by rw [f.key, h]
      rw [if_pos this, if_pos h]
      exact ⟨f.key, f.obj, va, t, t', rfl, hv⟩
    · have h' : ¬ x.1 = keyL k := fun e => h (keyL_inj (f.key.symm.trans e))
      rw [if_neg h', if_neg h]; exact f
theorem paired_snoc {news : List (Addr × Obj)} {k : Mon} {c : Int} {a va : Addr} {t t' t1 t2 t3 : Tok} {xs : Ents} {l : PL} (p : Paired (EntOf news) xs l)
    (ho : (a, ({ cls := .type "tuple", data := .seq [Value.int k.1 t1, .int k.2.1 t2, .int k.2.2 t3].toArray } : Obj)) ∈ news)
    (hv : (va, ({ cls := .type "tuple", data := .seq [Value.int c t, .int 1 t'].toArray } : Obj)) ∈ news) : Paired (EntOf news) (xs ++ [(keyL k, a, .ref va)]) (l ++ [(k, c)]) := by
  induction p with
  | nil => exact .cons ⟨rfl, ⟨t1, t2, t3, ho⟩, va, t, t', rfl, hv⟩ .nil
  | cons f _ ih => exact .cons f ih

/-- the dict o bears the polynomial l -/
structure PolyAt (w : World) (news : List (Addr × Obj)) (o : Obj) (l : PL) : Prop where
  is : ∃ xs, DObj w o xs ∧ Paired (EntOf news) xs l
theorem PolyAt.nodup {w : World} {news : List (Addr × Obj)} {o : Obj} {l : PL} (p : PolyAt w news o l) : (l.map (·.1)).Nodup := by
  obtain ⟨xs, D, pr⟩ := p.is
  have := D.nodup
  rw [paired_keys pr] at this
  exact nodup_of_keyL this
theorem PolyAt.mono {w : World} {news news' : List (Addr × Obj)} {o : Obj} {l : PL} (p : PolyAt w news o l) (h : ∀ p ∈ news, p.2.cls = .type "tuple" → p ∈ news') : PolyAt w news' o l := by
  obtain ⟨xs, D, pr⟩ := p.is
  exact ⟨xs, D, paired_mono (fun _ _ e => e.mono h) pr⟩

-- part E2
section
variable {w : World} {A : Around} {E : Value → Shared → Prop} {s : Shared} {g h₀ : Heap} {L d ka : Addr} {m : Str → Option Value} {news : List (Addr × Obj)} {o : Obj} {xs : Ents} {k : List Int}
theorem dl_in_no {Q : Value → Shared → Prop} (F : Fr g L s.heap m) (N : News g L s.heap news) (hd : (d, o) ∈ news) (D : DObj w o xs) (hK : KeysAt w g xs) (hk : KeyAt w g k ka) (hlo : (d == sysModules) = false) (hu : A.units + 1 < cLine) (hat : atKey xs k = none)
    (h : ∀ tk, Q (.bool false) { s with toks := tk }) : wpAny (model Pg w) A (compareOp .In (.ref ka) (.ref d)) Q E s := dl_in F N hd D hK hk hlo hu fun tk => by rw [hat]; exact h tk
theorem dl_in_yes {p : Addr × Value} {Q : Value → Shared → Prop} (F : Fr g L s.heap m) (N : News g L s.heap news) (hd : (d, o) ∈ news) (D : DObj w o xs) (hK : KeysAt w g xs) (hk : KeyAt w g k ka) (hlo : (d == sysModules) = false) (hu : A.units + 1 < cLine) (hat : atKey xs k = some p)
    (h : ∀ tk, Q (.bool true) { s with toks := tk }) : wpAny (model Pg w) A (compareOp .In (.ref ka) (.ref d)) Q E s := dl_in F N hd D hK hk hlo hu fun tk => by rw [hat]; exact h tk
theorem dl_get' {value slice : Expr} {a : Addr} {v : Value} {Q : Value → Shared → Prop} (F : Fr g L s.heap m) (N : News g L s.heap news) (hd : (d, o) ∈ news) (D : DObj w o xs) (hK : KeysAt w g xs) (hk : KeyAt w g k ka) (hu : A.units + 1 < cLine) (hp : atKey xs k = some (a, v))
    (h : ∀ tk, Q v { s with toks := tk })
    (hs : subscripted slice false (.ref d) (.ref ka) = operate [.ref d, .ref ka] (getItem (.ref d) (.ref ka)) := by with_unfolding_all rfl) :
    wpAny (model Pg w) A (subscriptTail value slice (.ref d) (.ref ka)) Q E s := dl_get F N hd D hK hk hu hp h hs

/-- two tuples of ints compared -/
theorem eq_tuples {x y : List Int} {a b : Addr} {r : Bool} {Q : Value → Shared → Prop} (hu : A.units < cLine) (hx : KeyAt w s.heap x a) (hy : KeyAt w s.heap y b) (hr : decide (x = y) = r) (h : Q (.bool r) s) :
    wpAny (model Pg w) A (compareOp .Eq (.ref a) (.ref b)) Q E s := by
  refine cmp_ofEq ?_
  subst hr
  exact wpAny_richCompare_same_room (op := .Eq) hx.typeIs hy.typeIs PySem.F.slot_tuple_eq
    (wpAny_call_entry PySem.F.slot_tuple_eq hx.typeIs PySem.F.entry_tuple_eq (tuple_eq_tree hx hy ⟨_, rfl, (fun e => nomatch e), h⟩) (PySem.F.args_tuple_eq_2 _ _)) hu
theorem rat_key {h : Heap} {a : Addr} {x : Int} {t t' : Tok} (e : h.get? a = some (ratO x t t')) : KeyAt w h [x, 1] a := ⟨_, _, _, e, rfl, rfl, .cons (intKind_is _ _ _ _) (.cons (intKind_is _ _ _ _) .nil)⟩
/-- R0 as it stands at the top -/
theorem r0_key {h : Heap} {t t' : Tok} {n : Nat} (X : (Mine.hd.heap_1 w.params).In h) (e : (Mine.hd.heap_1 w.params).lookup 47 = some { cls := .type "tuple", data := .seq #[.int 0 t, .int 1 t'] n }) : KeyAt w h [0, 1] 47 :=
  ⟨_, _, _, X _ _ e, rfl, rfl, .cons (intKind_is _ _ _ _) (.cons (intKind_is _ _ _ _) .nil)⟩
theorem key_ne_rat {h : Heap} {a b : Addr} {i j k c : Int} {t1 t2 t3 t t' : Tok} (N : News h₀ L h news) (ha : (a, ({ cls := .type "tuple", data := .seq [Value.int i t1, .int j t2, .int k t3].toArray } : Obj)) ∈ news) (hb : (b, ratO c t t') ∈ news) : a ≠ b := fun e => by
  have h1 := (N _ ha).1
  have h2 := (N _ hb).1
  rw [e, h2] at h1
  have h3 := congrArg Obj.data (Option.some.inj h1)
  injection h3 with h4
  have := congrArg Array.size h4
  simp at this

/-- the way back where one object was changed -/
theorem back_but {need : List (Addr × Obj)} {h h' : Heap} {L' : Addr} {m' : Str → Option Value} {led : List (Addr × Obj)} (N : News h₀ L h ((d, o) :: news)) (hne : ∀ p ∈ news, p.1 ≠ d) (hsub : ∀ p ∈ need, p ∈ (d, o) :: news) (G : GSub h g (need.map (·.1))) (F' : Fr g L' h' m') (kN : News h₀ L h' led)
    (hin : ∀ p ∈ need, p.1 ≠ d → p ∈ led) : News h₀ L h' (led ++ news) := fun p hp => by
  rcases List.mem_append.mp hp with hp | hp
  · exact kN p hp
  · have z := N p (.tail _ hp)
    refine ⟨?_, z.2⟩
    by_cases hm : p.1 ∈ need.map (·.1)
    · obtain ⟨q, hq, e⟩ := List.mem_map.mp hm
      have hqd : q.1 ≠ d := fun e' => hne p hp (e.symm.trans e')
      have h1 := (N q (hsub q hq)).1
      have h2 := z.1
      rw [e] at h1
      have h3 : q.2 = p.2 := Option.some.inj (h1.symm.trans h2)
      have h4 := (kN q (hin q hq hqd)).1
      rw [e, h3] at h4
      exact h4
    · exact F'.keep _ _ (G _ _ z.1 hm)
theorem fresh_of {need : List (Addr × Obj)} {h : Heap} {D : Addr} (N : News h₀ L h news) (G : GSub h g (need.map (·.1))) (hD : g.get? D = none) (hneed : ∀ p ∈ need, p.1 ≠ D) : ∀ q ∈ news, q.1 ≠ D := fun q hq e => by
  by_cases hm : q.1 ∈ need.map (·.1)
  · obtain ⟨p, hp, e'⟩ := List.mem_map.mp hm
    exact hneed p hp (e'.trans e)
  · have h1 := G _ _ (N q hq).1 hm
    rw [e, hD] at h1; cases h1
/-- the keys stand in what a def finds -/
theorem keys_in {need : List (Addr × Obj)} {h : Heap} {l : PL} (N : News h₀ L h news) (G : GSub h g (need.map (·.1))) (hP : Paired (EntOf news) xs l) (hoff : ∀ p ∈ news, (∃ i j k t1 t2 t3, p.2 = ({ cls := .type "tuple", data := .seq [Value.int i t1, .int j t2, .int k t3].toArray } : Obj)) → p.1 ∉ need.map (·.1)) : KeysAt w g xs := by
  induction hP with
  | nil => intro x hx; cases hx
  | @cons x q xs l f _ ih =>
    intro y hy
    rcases List.mem_cons.mp hy with rfl | hy
    · obtain ⟨t1, t2, t3, hm⟩ := f.obj
      rw [f.key]
      exact keyAt_of (G _ _ (N _ hm).1 (hoff _ hm ⟨_, _, _, _, _, _, rfl⟩))
    · exact ih y hy
theorem ints_ne {c : Int} (hr : decide ([c, 1] = ([0, 1] : List Int)) = false) : c ≠ 0 := fun e => by subst e; simp at hr
theorem ints_eq {c : Int} (hr : decide ([c, 1] = ([0, 1] : List Int)) = true) : c = 0 := by simpa using hr
end

-- part E3
section
theorem offE3 : True := by
  w_top off
  trivial
abbrev keyOf (k : Mon) (t1 t2 t3 : Tok) : Obj := { cls := .type "tuple", data := .seq [Value.int k.1 t1, .int k.2.1 t2, .int k.2.2 t3].toArray }

local macro_rules | `(tactic| walk_at "call ref") => `(tactic| refine Stop.out ?_)
local macro_rules | `(tactic| walk_at "compareOp In ref ref") => `(tactic| refine Stop.out ?_)
local macro_rules | `(tactic| walk_at "subscriptTail") => `(tactic| refine Stop.out ?_)
local macro_rules | `(tactic| walk_at "compareOp Eq ref ref") => `(tactic| refine Stop.out ?_)
local macro_rules | `(tactic| walk_at "getMethod ref") => `(tactic| refine Stop.out ?_)
local macro_rules | `(tactic| walk_at "call builtin:dict.pop") => `(tactic| refine Stop.out ?_)
local macro_rules | `(tactic| walk_at "setItem ref ref") => `(tactic| refine Stop.out ?_)

noncomputable def RetAdd (w : World) (d : Addr) (l : PL) (k : Mon) (c : Int) (news : List (Addr × Obj)) (n' : List (Addr × Obj)) (r : Value) : Prop :=
  ∃ o' ex, r = .none ∧ n' = (d, o') :: (ex ++ news) ∧ PolyAt w (ex ++ news) o' (addT l k c) ∧ ∀ p ∈ ex, p.1 ≠ d ∧ p.2.cls = .type "tuple" ∧ ∀ q ∈ news, q.1 ≠ p.1

set_option maxHeartbeats 1000000 in
theorem add_none (w : World) (d ka va : Addr) (o : Obj) (l : PL) (k : Mon) (c : Int) (t1 t2 t3 t t' : Tok) (news : List (Addr × Obj)) (xs : Ents) (D : DObj w o xs) (hP : Paired (EntOf news) xs l) (hno : lk l k = none) (hat : atKey xs (keyL k) = none) (r : Bool) (hr : decide ([c, 1] = ([0, 1] : List Int)) = r)
    (hk : (ka, keyOf k t1 t2 t3) ∈ news) (hv : (va, ratO c t t') ∈ news) (hlo : (d == sysModules) = false) (hne : ∀ p ∈ news, p.1 ≠ d) (hsz : xs.length ≤ sizeLine) :
    Tells w 4 90 [.ref d, .ref ka, .ref va] ((d, o) :: news) (RetAdd w d l k c news) := by
  unfold Tells
  intros; rename_i hN _ _ _ _ hret
  have hsub : ∀ p ∈ [(d, o), (va, ratO c t t')], p ∈ (d, o) :: news := by simp [hv]
  have hvd : va ≠ d := hne _ hv
  refine wpAny_call ?_
  k_dflt (refine' enterG ?k1 ?k2 ?k3 ?k4 ?k5 hsub ?kA ?kF ?kK ?k6 ?k7 ?k8 ?k9 ?kB ?_ ?c2 ?c3 ?c4 ?c5)
  case kA => exact rfl
  case kF => exact rfl
  case kK => assumption
  case k1 => k_asm
  case k2 => k_asm
  case k3 => k_asm
  case k4 => k_asm
  case k5 => k_asm
  case k6 => k_is
  case k7 => k_is
  case k8 => ktr_room
  case k9 => exact BindsTo.of_eq rfl
  case kB => exact locs rfl
  case c2 => exact rfl
  case c3 => exact rfl
  case c4 => exact rfl
  case c5 => decide
  k_whole
  intro g' L' h' FG' F' N' B' X' T' l1 G'
  (try k_lt l1)
  have hoff : ∀ p ∈ news, (∃ i j k t1 t2 t3, p.2 = ({ cls := .type "tuple", data := .seq [Value.int i t1, .int j t2, .int k t3].toArray } : Obj)) → p.1 ∉ [(d, o), (va, ratO c t t')].map (·.1) := by
    rintro ⟨a, p⟩ hp ⟨i, j, k, t1, t2, t3, e⟩ hm
    have e : p = _ := e
    subst e
    simp only [List.map_cons, List.map_nil, List.mem_cons, List.not_mem_nil, or_false] at hm
    rcases hm with hm | hm
    · exact hne _ hp hm
    · exact key_ne_rat (News.tail' hN) hp hv hm
  have hka : KeyAt w g' (keyL k) ka := keyAt_of (G' _ _ (hN _ (.tail _ hk)).1 (hoff _ hk ⟨_, _, _, _, _, _, rfl⟩))
  have hKs : KeysAt w g' xs := keys_in (News.tail' hN) G' hP hoff
  (try dsimp only)
  (try k_lift B')
  (try k_fold)
  cases r
  · k_steps
    iterate 10 (all_goals (try (refine Stop.mk ?_; (first
        | ((k_here; k_dflt (
            (refine' dl_set ?F ?N ?U ?D ?hK ?hk ?hu ?hsz ?_; (case F => k_asm); (case N => k_asm); (case U => k_updF); (case D => k_asm); (case hK => k_asm); (case hk => k_asm); (case hu => ktr_units); (case hsz => k_asm)
             intro h' o' tk' F' N' D'; (try dsimp only at N')))))
        | ((k_here; k_dflt (
            (refine' dl_pop ?F ?N ?U ?D ?hK ?hk ?hlo ?hu ?hsz ?_; (case F => k_asm); (case N => k_asm); (case U => k_updF); (case D => k_asm); (case hK => k_asm); (case hk => k_asm); (case hlo => k_asm); (case hu => ktr_units); (case hsz => k_asm)
             intro v' h' o' tk' F' N' D'; (try dsimp only at N')))))
        | ((k_here; k_dflt (
            (with_reducible show wpAny _ _ (getMethod (Value.ref _) (PySem.Str.ofString "pop") _) _ _ _)
            (refine' dl_method ?N ?hd ?D PySem.F.slot_dict_pop PySem.F.type_dict_pop ?_; (case N => k_asm); (case hd => k_mem); (case D => k_asm)))))
        | ((k_here; k_dflt (
            (rename Fr _ _ _ _ => fF'); (rename News _ _ _ _ => nN')
            (refine' eq_tuples (w := _) ?hu ?hx ?hy ?hr ?_; (case hx => exact rat_key (nN' (_, _) (by k_mem)).1); (case hy => exact r0_key (Frag.In.keeps (by k_asm) fF'.keep) (by k_is)); (case hu => ktr_units); (case hr => k_asm)))))
        | ((k_here; k_dflt (
            (with_reducible show wpAny _ _ (subscriptTail _ _ (Value.ref _) (Value.ref _)) _ _ _)
            (refine' dl_get' ?F ?N ?hd ?D ?hK ?hk ?hu ?hp ?_ ?hs; (case F => k_asm); (case N => k_asm); (case hd => k_mem); (case D => k_asm); (case hK => k_asm); (case hk => k_asm); (case hu => ktr_units); (case hp => k_asm); (case hs => with_unfolding_all rfl); intro tk'))))
        | ((k_here; k_dflt (first
            | (refine' dl_in_no ?F ?N ?hd ?D ?hK ?hk ?hlo ?hu ?hat ?_; (case F => k_asm); (case N => k_asm); (case hd => k_mem); (case D => k_asm); (case hK => k_asm); (case hk => k_asm); (case hlo => k_asm); (case hu => ktr_units); (case hat => k_asm); intro tk')
            | (refine' dl_in_yes ?F ?N ?hd ?D ?hK ?hk ?hlo ?hu ?hat ?_; (case F => k_asm); (case N => k_asm); (case hd => k_mem); (case D => k_asm); (case hK => k_asm); (case hk => k_asm); (case hlo => k_asm); (case hu => ktr_units); (case hat => k_asm); intro tk'))))
        | ((k_here; k_dflt (
            (with_reducible show wpAny _ _ (call (Value.ref 62) _) _ _ _)
            (refine' Tells.use ?k1 ?k2 ?k3 ?k4 ?k5 ?kK (radd_tells _ _ _ _ _ _ _ _ _ _ ?hx ?hy ?ha ?hb) ?kd ?ku ?_)
            (case k1 => k_asm); (case k2 => k_asm); (case k3 => k_asm); (case k4 => k_asm); (case k5 => k_asm); (case kK => first | exact rfl | assumption)
            (case ha => k_mem); (case hb => k_mem); (case hx => assumption); (case hy => assumption); (case kd => ktr_room); (case ku => ktr_units)
            intro r' n' h' tk' F' N' hr
            obtain ⟨a9, t9, t8, e1, e2, l1⟩ := hr; subst e1; subst e2; (try k_lt l1); (try dsimp only))))); all_goals k_steps)))
    (rename DObj _ _ _ => D9); (rename Fr g' _ _ _ => fF'); (rename News _ _ _ _ => kN')
    have z := back_but hN hne hsub G' fF' kN' (by intro p hp hpd; simp only [List.mem_cons, List.not_mem_nil, or_false] at hp ⊢; rcases hp with rfl | rfl; exact absurd rfl hpd; exact .inr rfl)
    refine hret _ ((d, _) :: ([] ++ news)) _ _ (by k_asm) (fun p hp => z p (by simp only [List.nil_append, List.mem_cons, List.mem_append] at hp ⊢; rcases hp with hp | hp; exact .inl (.inl hp); exact .inr hp)) ⟨_, [], rfl, rfl, ⟨_, D9, ?_⟩, fun p hp => nomatch hp⟩
    rw [storedH_new hat]
    unfold addT
    rw [hno]
    dsimp only
    rw [if_neg (ints_ne hr)]
    exact paired_snoc hP hk hv
  · k_steps
    iterate 10 (all_goals (try (refine Stop.mk ?_; (first
        | ((k_here; k_dflt (
            (refine' dl_set ?F ?N ?U ?D ?hK ?hk ?hu ?hsz ?_; (case F => k_asm); (case N => k_asm); (case U => k_updF); (case D => k_asm); (case hK => k_asm); (case hk => k_asm); (case hu => ktr_units); (case hsz => k_asm)
             intro h' o' tk' F' N' D'; (try dsimp only at N')))))
        | ((k_here; k_dflt (
            (refine' dl_pop ?F ?N ?U ?D ?hK ?hk ?hlo ?hu ?hsz ?_; (case F => k_asm); (case N => k_asm); (case U => k_updF); (case D => k_asm); (case hK => k_asm); (case hk => k_asm); (case hlo => k_asm); (case hu => ktr_units); (case hsz => k_asm)
             intro v' h' o' tk' F' N' D'; (try dsimp only at N')))))
        | ((k_here; k_dflt (
            (with_reducible show wpAny _ _ (getMethod (Value.ref _) (PySem.Str.ofString "pop") _) _ _ _)
            (refine' dl_method ?N ?hd ?D PySem.F.slot_dict_pop PySem.F.type_dict_pop ?_; (case N => k_asm); (case hd => k_mem); (case D => k_asm)))))
        | ((k_here; k_dflt (
            (rename Fr _ _ _ _ => fF'); (rename News _ _ _ _ => nN')
            (refine' eq_tuples (w := _) ?hu ?hx ?hy ?hr ?_; (case hx => exact rat_key (nN' (_, _) (by k_mem)).1); (case hy => exact r0_key (Frag.In.keeps (by k_asm) fF'.keep) (by k_is)); (case hu => ktr_units); (case hr => k_asm)))))
        | ((k_here; k_dflt (
            (with_reducible show wpAny _ _ (subscriptTail _ _ (Value.ref _) (Value.ref _)) _ _ _)
            (refine' dl_get' ?F ?N ?hd ?D ?hK ?hk ?hu ?hp ?_ ?hs; (case F => k_asm); (case N => k_asm); (case hd => k_mem); (case D => k_asm); (case hK => k_asm); (case hk => k_asm); (case hu => ktr_units); (case hp => k_asm); (case hs => with_unfolding_all rfl); intro tk'))))
        | ((k_here; k_dflt (first
            | (refine' dl_in_no ?F ?N ?hd ?D ?hK ?hk ?hlo ?hu ?hat ?_; (case F => k_asm); (case N => k_asm); (case hd => k_mem); (case D => k_asm); (case hK => k_asm); (case hk => k_asm); (case hlo => k_asm); (case hu => ktr_units); (case hat => k_asm); intro tk')
            | (refine' dl_in_yes ?F ?N ?hd ?D ?hK ?hk ?hlo ?hu ?hat ?_; (case F => k_asm); (case N => k_asm); (case hd => k_mem); (case D => k_asm); (case hK => k_asm); (case hk => k_asm); (case hlo => k_asm); (case hu => ktr_units); (case hat => k_asm); intro tk'))))
        | ((k_here; k_dflt (
            (with_reducible show wpAny _ _ (call (Value.ref 62) _) _ _ _)
            (refine' Tells.use ?k1 ?k2 ?k3 ?k4 ?k5 ?kK (radd_tells _ _ _ _ _ _ _ _ _ _ ?hx ?hy ?ha ?hb) ?kd ?ku ?_)
            (case k1 => k_asm); (case k2 => k_asm); (case k3 => k_asm); (case k4 => k_asm); (case k5 => k_asm); (case kK => first | exact rfl | assumption)
            (case ha => k_mem); (case hb => k_mem); (case hx => assumption); (case hy => assumption); (case kd => ktr_room); (case ku => ktr_units)
            intro r' n' h' tk' F' N' hr
            obtain ⟨a9, t9, t8, e1, e2, l1⟩ := hr; subst e1; subst e2; (try k_lt l1); (try dsimp only))))); all_goals k_steps)))
    (rename DObj _ _ _ => D9); (rename Fr g' _ _ _ => fF'); (rename News _ _ _ _ => kN')
    have z := back_but hN hne hsub G' fF' kN' (by intro p hp hpd; simp only [List.mem_cons, List.not_mem_nil, or_false] at hp ⊢; rcases hp with rfl | rfl; exact absurd rfl hpd; exact .inr rfl)
    refine hret _ ((d, _) :: ([] ++ news)) _ _ (by k_asm) (fun p hp => z p (by simp only [List.nil_append, List.mem_cons, List.mem_append] at hp ⊢; rcases hp with hp | hp; exact .inl (.inl hp); exact .inr hp)) ⟨_, [], rfl, rfl, ⟨_, D9, ?_⟩, fun p hp => nomatch hp⟩
    rw [outK_none hat]
    unfold addT
    rw [hno]
    dsimp only
    rw [if_pos (ints_eq hr)]
    exact hP

set_option maxHeartbeats 1000000 in
theorem add_some (w : World) (d ka va va0 a0 : Addr) (o : Obj) (l : PL) (k : Mon) (c c0 : Int) (t1 t2 t3 t t' u u' : Tok) (news : List (Addr × Obj)) (xs : Ents) (D : DObj w o xs) (hP : Paired (EntOf news) xs l) (hyes : lk l k = some c0) (hat : atKey xs (keyL k) = some (a0, .ref va0)) (hv0 : (va0, ratO c0 u u') ∈ news)
    (r : Bool) (hr : decide ([c0 + c, 1] = ([0, 1] : List Int)) = r) (hc : -4611686018427387904 < c ∧ c < 4611686018427387904) (hc0 : -4611686018427387904 < c0 ∧ c0 < 4611686018427387904)
    (hk : (ka, keyOf k t1 t2 t3) ∈ news) (hv : (va, ratO c t t') ∈ news) (hlo : (d == sysModules) = false) (hne : ∀ p ∈ news, p.1 ≠ d) (hsz : xs.length ≤ sizeLine) :
    Tells w 4 90 [.ref d, .ref ka, .ref va] ((d, o) :: news) (RetAdd w d l k c news) := by
  unfold Tells
  intros; rename_i hN _ _ _ _ hret
  have hsub : ∀ p ∈ [(d, o), (va0, ratO c0 u u'), (va, ratO c t t')], p ∈ (d, o) :: news := by simp [hv, hv0]
  have hvd : va ≠ d := hne _ hv
  have hvd0 : va0 ≠ d := hne _ hv0
  refine wpAny_call ?_
  k_dflt (refine' enterG ?k1 ?k2 ?k3 ?k4 ?k5 hsub ?kA ?kF ?kK ?k6 ?k7 ?k8 ?k9 ?kB ?_ ?c2 ?c3 ?c4 ?c5)
  case kA => exact rfl
  case kF => exact rfl
  case kK => assumption
  case k1 => k_asm
  case k2 => k_asm
  case k3 => k_asm
  case k4 => k_asm
  case k5 => k_asm
  case k6 => k_is
  case k7 => k_is
  case k8 => ktr_room
  case k9 => exact BindsTo.of_eq rfl
  case kB => exact locs rfl
  case c2 => exact rfl
  case c3 => exact rfl
  case c4 => exact rfl
  case c5 => decide
  k_whole
  intro g' L' h' FG' F' N' B' X' T' l1 G'
  (try k_lt l1)
  have hoff : ∀ p ∈ news, (∃ i j k t1 t2 t3, p.2 = ({ cls := .type "tuple", data := .seq [Value.int i t1, .int j t2, .int k t3].toArray } : Obj)) → p.1 ∉ [(d, o), (va0, ratO c0 u u'), (va, ratO c t t')].map (·.1) := by
    rintro ⟨a, p⟩ hp ⟨i, j, k, t1, t2, t3, e⟩ hm
    have e : p = _ := e
    subst e
    simp only [List.map_cons, List.map_nil, List.mem_cons, List.not_mem_nil, or_false] at hm
    rcases hm with hm | hm | hm
    · exact hne _ hp hm
    · exact key_ne_rat (News.tail' hN) hp hv0 hm
    · exact key_ne_rat (News.tail' hN) hp hv hm
  have hka : KeyAt w g' (keyL k) ka := keyAt_of (G' _ _ (hN _ (.tail _ hk)).1 (hoff _ hk ⟨_, _, _, _, _, _, rfl⟩))
  have hKs : KeysAt w g' xs := keys_in (News.tail' hN) G' hP hoff
  (try dsimp only)
  (try k_lift B')
  (try k_fold)
  have hinn : ∀ {a9 : Addr} {r9 : Obj} {o' : Obj}, ∀ p ∈ [(d, o), (va0, ratO c0 u u'), (va, ratO c t t')], p.1 ≠ d → p ∈ [(a9, r9), (d, o'), (va0, ratO c0 u u'), (va, ratO c t t')] := by
    intro a9 r9 o' p hp hpd
    simp only [List.mem_cons, List.not_mem_nil, or_false] at hp ⊢
    rcases hp with rfl | rfl | rfl
    · exact absurd rfl hpd
    · exact .inr (.inr (.inl rfl))
    · exact .inr (.inr (.inr rfl))
  have hm := lk_some hyes
  cases r
  · k_steps
    iterate 10 (all_goals (try (refine Stop.mk ?_; (first
        | ((k_here; k_dflt (
            (refine' dl_set ?F ?N ?U ?D ?hK ?hk ?hu ?hsz ?_; (case F => k_asm); (case N => k_asm); (case U => k_updF); (case D => k_asm); (case hK => k_asm); (case hk => k_asm); (case hu => ktr_units); (case hsz => k_asm)
             intro h' o' tk' F' N' D'; (try dsimp only at N')))))
        | ((k_here; k_dflt (
            (refine' dl_pop ?F ?N ?U ?D ?hK ?hk ?hlo ?hu ?hsz ?_; (case F => k_asm); (case N => k_asm); (case U => k_updF); (case D => k_asm); (case hK => k_asm); (case hk => k_asm); (case hlo => k_asm); (case hu => ktr_units); (case hsz => k_asm)
             intro v' h' o' tk' F' N' D'; (try dsimp only at N')))))
        | ((k_here; k_dflt (
            (with_reducible show wpAny _ _ (getMethod (Value.ref _) (PySem.Str.ofString "pop") _) _ _ _)
            (refine' dl_method ?N ?hd ?D PySem.F.slot_dict_pop PySem.F.type_dict_pop ?_; (case N => k_asm); (case hd => k_mem); (case D => k_asm)))))
        | ((k_here; k_dflt (
            (rename Fr _ _ _ _ => fF'); (rename News _ _ _ _ => nN')
            (refine' eq_tuples (w := _) ?hu ?hx ?hy ?hr ?_; (case hx => exact rat_key (nN' (_, _) (by k_mem)).1); (case hy => exact r0_key (Frag.In.keeps (by k_asm) fF'.keep) (by k_is)); (case hu => ktr_units); (case hr => k_asm)))))
        | ((k_here; k_dflt (
            (with_reducible show wpAny _ _ (subscriptTail _ _ (Value.ref _) (Value.ref _)) _ _ _)
            (refine' dl_get' ?F ?N ?hd ?D ?hK ?hk ?hu ?hp ?_ ?hs; (case F => k_asm); (case N => k_asm); (case hd => k_mem); (case D => k_asm); (case hK => k_asm); (case hk => k_asm); (case hu => ktr_units); (case hp => k_asm); (case hs => with_unfolding_all rfl); intro tk'))))
        | ((k_here; k_dflt (first
            | (refine' dl_in_no ?F ?N ?hd ?D ?hK ?hk ?hlo ?hu ?hat ?_; (case F => k_asm); (case N => k_asm); (case hd => k_mem); (case D => k_asm); (case hK => k_asm); (case hk => k_asm); (case hlo => k_asm); (case hu => ktr_units); (case hat => k_asm); intro tk')
            | (refine' dl_in_yes ?F ?N ?hd ?D ?hK ?hk ?hlo ?hu ?hat ?_; (case F => k_asm); (case N => k_asm); (case hd => k_mem); (case D => k_asm); (case hK => k_asm); (case hk => k_asm); (case hlo => k_asm); (case hu => ktr_units); (case hat => k_asm); intro tk'))))
        | ((k_here; k_dflt (
            (with_reducible show wpAny _ _ (call (Value.ref 62) _) _ _ _)
            (refine' Tells.use ?k1 ?k2 ?k3 ?k4 ?k5 ?kK (radd_tells _ _ _ _ _ _ _ _ _ _ ?hx ?hy ?ha ?hb) ?kd ?ku ?_)
            (case k1 => k_asm); (case k2 => k_asm); (case k3 => k_asm); (case k4 => k_asm); (case k5 => k_asm); (case kK => first | exact rfl | assumption)
            (case ha => k_mem); (case hb => k_mem); (case hx => assumption); (case hy => assumption); (case kd => ktr_room); (case ku => ktr_units)
            intro r' n' h' tk' F' N' hr
            obtain ⟨a9, t9, t8, e1, e2, l1⟩ := hr; subst e1; subst e2; (try k_lt l1); (try dsimp only))))); all_goals k_steps)))
    (rename DObj _ _ _ => D9); (rename Fr g' _ _ _ => fF'); (rename News g' _ _ _ => nN'); (rename News _ _ _ _ => kN')
    have z := back_but hN hne hsub G' fF' kN' hinn
    have fr := fresh_of (News.tail' hN) (need := [(d, o), (va0, ratO c0 u u'), (va, ratO c t t')]) G' (nN' _ (.head _)).2.2 (by k_all)
    refine hret _ ((d, _) :: ([(_, ratO (c0 + c) _ _)] ++ news)) _ _ (by k_asm) (fun p hp => z p (by
      simp only [List.cons_append, List.nil_append, List.mem_cons, List.mem_append] at hp ⊢
      rcases hp with hp | hp | hp
      · exact .inr (.inl hp)
      · exact .inl hp
      · exact .inr (.inr (.inr (.inr hp))))) ⟨_, [(_, ratO (c0 + c) _ _)], rfl, rfl, ⟨_, D9, ?_⟩, fun p hp => ?_⟩
    · rw [storedH_old hat]
      unfold addT
      rw [hyes]
      dsimp only
      rw [if_neg (ints_ne hr)]
      exact paired_upd (paired_mono (fun _ _ e => e.mono fun p hp _ => List.mem_append_right _ hp) hP) (List.mem_append_left _ (.head _))
    · rw [List.mem_singleton.mp hp]
      exact ⟨by show @Ne Nat _ _; omega, rfl, fr⟩
  · k_steps
    iterate 10 (all_goals (try (refine Stop.mk ?_; (first
        | ((k_here; k_dflt (
            (refine' dl_set ?F ?N ?U ?D ?hK ?hk ?hu ?hsz ?_; (case F => k_asm); (case N => k_asm); (case U => k_updF); (case D => k_asm); (case hK => k_asm); (case hk => k_asm); (case hu => ktr_units); (case hsz => k_asm)
             intro h' o' tk' F' N' D'; (try dsimp only at N')))))
        | ((k_here; k_dflt (
            (refine' dl_pop ?F ?N ?U ?D ?hK ?hk ?hlo ?hu ?hsz ?_; (case F => k_asm); (case N => k_asm); (case U => k_updF); (case D => k_asm); (case hK => k_asm); (case hk => k_asm); (case hlo => k_asm); (case hu => ktr_units); (case hsz => k_asm)
             intro v' h' o' tk' F' N' D'; (try dsimp only at N')))))
        | ((k_here; k_dflt (
            (with_reducible show wpAny _ _ (getMethod (Value.ref _) (PySem.Str.ofString "pop") _) _ _ _)
            (refine' dl_method ?N ?hd ?D PySem.F.slot_dict_pop PySem.F.type_dict_pop ?_; (case N => k_asm); (case hd => k_mem); (case D => k_asm)))))
        | ((k_here; k_dflt (
            (rename Fr _ _ _ _ => fF'); (rename News _ _ _ _ => nN')
            (refine' eq_tuples (w := _) ?hu ?hx ?hy ?hr ?_; (case hx => exact rat_key (nN' (_, _) (by k_mem)).1); (case hy => exact r0_key (Frag.In.keeps (by k_asm) fF'.keep) (by k_is)); (case hu => ktr_units); (case hr => k_asm)))))
        | ((k_here; k_dflt (
            (with_reducible show wpAny _ _ (subscriptTail _ _ (Value.ref _) (Value.ref _)) _ _ _)
            (refine' dl_get' ?F ?N ?hd ?D ?hK ?hk ?hu ?hp ?_ ?hs; (case F => k_asm); (case N => k_asm); (case hd => k_mem); (case D => k_asm); (case hK => k_asm); (case hk => k_asm); (case hu => ktr_units); (case hp => k_asm); (case hs => with_unfolding_all rfl); intro tk'))))
        | ((k_here; k_dflt (first
            | (refine' dl_in_no ?F ?N ?hd ?D ?hK ?hk ?hlo ?hu ?hat ?_; (case F => k_asm); (case N => k_asm); (case hd => k_mem); (case D => k_asm); (case hK => k_asm); (case hk => k_asm); (case hlo => k_asm); (case hu => ktr_units); (case hat => k_asm); intro tk')
            | (refine' dl_in_yes ?F ?N ?hd ?D ?hK ?hk ?hlo ?hu ?hat ?_; (case F => k_asm); (case N => k_asm); (case hd => k_mem); (case D => k_asm); (case hK => k_asm); (case hk => k_asm); (case hlo => k_asm); (case hu => ktr_units); (case hat => k_asm); intro tk'))))
        | ((k_here; k_dflt (
            (with_reducible show wpAny _ _ (call (Value.ref 62) _) _ _ _)
            (refine' Tells.use ?k1 ?k2 ?k3 ?k4 ?k5 ?kK (radd_tells _ _ _ _ _ _ _ _ _ _ ?hx ?hy ?ha ?hb) ?kd ?ku ?_)
            (case k1 => k_asm); (case k2 => k_asm); (case k3 => k_asm); (case k4 => k_asm); (case k5 => k_asm); (case kK => first | exact rfl | assumption)
            (case ha => k_mem); (case hb => k_mem); (case hx => assumption); (case hy => assumption); (case kd => ktr_room); (case ku => ktr_units)
            intro r' n' h' tk' F' N' hr
            obtain ⟨a9, t9, t8, e1, e2, l1⟩ := hr; subst e1; subst e2; (try k_lt l1); (try dsimp only))))); all_goals k_steps)))
    (rename DObj _ _ _ => D9); (rename Fr g' _ _ _ => fF'); (rename News _ _ _ _ => kN')
    have z := back_but hN hne hsub G' fF' kN' hinn
    refine hret _ ((d, _) :: ([] ++ news)) _ _ (by k_asm) (fun p hp => z p (by
      simp only [List.cons_append, List.nil_append, List.mem_cons, List.mem_append] at hp ⊢
      rcases hp with hp | hp
      · exact .inr (.inl hp)
      · exact .inr (.inr (.inr (.inr hp))))) ⟨_, [], rfl, rfl, ⟨_, D9, ?_⟩, fun p hp => nomatch hp⟩
    unfold addT
    rw [hyes]
    dsimp only
    rw [if_pos (ints_eq hr)]
    exact paired_drp hP

theorem paired_length {α β : Type} {F : α → β → Prop} {l₁ : List α} {l₂ : List β} (p : Paired F l₁ l₂) : l₁.length = l₂.length := by
  induction p with
  | nil => rfl
  | cons _ _ ih => simp [ih]
/-- add_term, whatever stands under the key -/
theorem add_tells (w : World) (d ka va : Addr) (o : Obj) (l : PL) (k : Mon) (c : Int) (t1 t2 t3 t t' : Tok) (news : List (Addr × Obj)) (hP : PolyAt w news o l) (hc : c.natAbs < 4611686018427387904) (hl : nrm l < 4611686018427387904)
    (hk : (ka, keyOf k t1 t2 t3) ∈ news) (hv : (va, ratO c t t') ∈ news) (hlo : (d == sysModules) = false) (hne : ∀ p ∈ news, p.1 ≠ d) (hsz : l.length ≤ sizeLine) :
    Tells w 4 90 [.ref d, .ref ka, .ref va] ((d, o) :: news) (RetAdd w d l k c news) := by
  obtain ⟨xs, D, P⟩ := hP.is
  have hxs : xs.length ≤ sizeLine := by rw [paired_length P]; exact hsz
  rcases paired_lk (k := k) P with ⟨h1, h2⟩ | ⟨c0, a0, va0, h1, h2, u, u', h3⟩
  · exact add_none w d ka va o l k c t1 t2 t3 t t' news xs D P h1 h2 _ rfl hk hv hlo hne hxs
  · have hb := nrm_mem (lk_some h1)
    dsimp only at hb
    exact add_some w d ka va va0 a0 o l k c c0 t1 t2 t3 t t' u u' news xs D P h1 h2 h3 _ rfl (by omega) (by omega) hk hv hlo hne hxs

end
-- part E4
/-- an entry whose value may be R1 at the top -/
structure EntW (news : List (Addr × Obj)) (x : List Int × Addr × Value) (q : Mon × Int) : Prop where
  key : x.1 = keyL q.1
  obj : ∃ t1 t2 t3 : Tok, (x.2.1, ({ cls := .type "tuple", data := .seq [Value.int q.1.1 t1, .int q.1.2.1 t2, .int q.1.2.2 t3].toArray } : Obj)) ∈ news
  val : ∃ va : Addr, x.2.2 = .ref va ∧ StR news va q.2
theorem EntW.mono {news news' : List (Addr × Obj)} {x : List Int × Addr × Value} {q : Mon × Int} (e : EntW news x q) (h : ∀ p ∈ news, p.2.cls = .type "tuple" → p ∈ news') : EntW news' x q :=
  ⟨e.key, let ⟨a, b, c, hm⟩ := e.obj; ⟨a, b, c, h _ hm rfl⟩, let ⟨a, e1, hm⟩ := e.val; ⟨a, e1, hm.mono h⟩⟩
theorem EntOf.weak {news : List (Addr × Obj)} {x : List Int × Addr × Value} {q : Mon × Int} (e : EntOf news x q) : EntW news x q :=
  ⟨e.key, e.obj, let ⟨a, b, c, e1, hm⟩ := e.val; ⟨a, e1, .inl ⟨b, c, hm⟩⟩⟩
theorem pairedW_keys {news : List (Addr × Obj)} {xs : Ents} {l : PL} (p : Paired (EntW news) xs l) : xs.map (·.1) = (l.map (·.1)).map keyL := by
  induction p with
  | nil => rfl
  | cons f _ ih => simp only [List.map_cons, ih, f.key]
theorem pairedW_lk {news : List (Addr × Obj)} {k : Mon} {xs : Ents} {l : PL} (p : Paired (EntW news) xs l) :
    (lk l k = none ∧ atKey xs (keyL k) = none) ∨ ∃ c a va, lk l k = some c ∧ atKey xs (keyL k) = some (a, .ref va) ∧ StR news va c := by
  induction p with
  | nil => exact .inl ⟨rfl, rfl⟩
  | @cons x q xs l f _ ih =>
    by_cases h : q.1 = k
    · obtain ⟨va, e, hm⟩ := f.val
      refine .inr ⟨q.2, x.2.1, va, by simp [lk, h], ?_, hm⟩
      have : x.1 = keyL k := by rw [f.key, h]
      simp [atKey, this, ← e]
    · have h' : ¬ x.1 = keyL k := fun e => h (keyL_inj (f.key.symm.trans e))
      have e1 : lk (q :: l) k = lk l k := by simp [lk, h]
      have e2 : atKey (x :: xs) (keyL k) = atKey xs (keyL k) := by simp [atKey, List.find?_cons, h']
      rw [e1, e2]; exact ih
/-- the dict o bears the polynomial l; a value may be R1 itself -/
structure PolyW (w : World) (news : List (Addr × Obj)) (o : Obj) (l : PL) : Prop where
  is : ∃ xs, DObj w o xs ∧ Paired (EntW news) xs l
theorem PolyAt.weak {w : World} {news : List (Addr × Obj)} {o : Obj} {l : PL} (p : PolyAt w news o l) : PolyW w news o l := by
  obtain ⟨xs, D, pr⟩ := p.is
  exact ⟨xs, D, paired_mono (fun _ _ e => e.weak) pr⟩
theorem PolyW.nodup {w : World} {news : List (Addr × Obj)} {o : Obj} {l : PL} (p : PolyW w news o l) : (l.map (·.1)).Nodup := by
  obtain ⟨xs, D, pr⟩ := p.is
  have := D.nodup
  rw [pairedW_keys pr] at this
  exact nodup_of_keyL this
theorem PolyW.mono {w : World} {news news' : List (Addr × Obj)} {o : Obj} {l : PL} (p : PolyW w news o l) (h : ∀ p ∈ news, p.2.cls = .type "tuple" → p ∈ news') : PolyW w news' o l := by
  obtain ⟨xs, D, pr⟩ := p.is
  exact ⟨xs, D, paired_mono (fun _ _ e => e.mono h) pr⟩
theorem PolyW.cls {w : World} {news : List (Addr × Obj)} {o : Obj} {l : PL} (p : PolyW w news o l) : o.cls = .type "dict" := by
  obtain ⟨xs, D, _⟩ := p.is
  exact D.cls

-- part F1
section
variable {prog : Program} {w : World} {A : Around} {E : Value → Shared → Prop} {s : Shared} {d it : Addr} {o : Obj} {es : Array DictEntry} {ep : Nat}
/-- a dict is gone through by its keys, whatever they are -/
theorem iter_dictO {Q : Value → Shared → Prop} (hlo : (d == sysModules) = false) (ho : s.heap.get? d = some o) (hc : o.ExactDict) (hd : o.data = .dict es ep)
    (hQ : Q (.ref s.heap.objs.size) { s with heap := s.heap.push { cls := .type "dict_keyiterator", data := .fields #[.ref d, .int 0 0, .int es.size 0, .int ep 0] } }) :
    wpAny (model prog w) A (pyIter (.ref d)) Q E s := by
  have hT : s.TypeIs (.ref d) "dict" := ⟨o, ho, hc.1⟩
  refine wpAny_pyIter_slot hT PySem.F.slot_dict_iter (wpAny_call_entry PySem.F.slot_dict_iter hT PySem.F.entry_dict_iter ?_ (PySem.F.args_dict_iter_1 _))
  unfold Builtin.«dict.__iter__»
  refine wpAny_bind ?_
  unfold Builtin.Dict.dictSlotNone
  refine wpAny_bind (wpAny_notOrdered_dict hT ?_)
  show wpAny _ _ (pure (Value.ref d)) _ _ s
  refine wpAny_pure ?_
  show wpAny _ _ (Builtin.Dict.showsAll d >>= _) _ _ s
  unfold Builtin.Dict.showsAll
  rw [if_neg (by rw [hlo]; exact Bool.false_ne_true)]
  refine wpAny_bind (wpAny_pure ?_)
  refine wpAny_bind (wpAny_dictEntries ho hd ?_)
  refine wpAny_bind (wpAny_dictEpoch ho hd ?_)
  refine wpAny_bind (wpAny_newObj_type (wpAny_pure ⟨_, rfl, "dict_keyiterator", _, ⟨_, Heap.get?_push_size _ rfl, rfl⟩, PySem.F.slot_dict_keyiterator_next.lookup, ?_⟩))
  simpa [rawInt] using hQ

theorem next_dictO {i : Nat} {e : DictEntry} {Q : Option Value → Shared → Prop} (hit : s.heap.IsKeyIter it d i es.size ep) (ho : s.heap.get? d = some o) (hd : o.data = .dict es ep) (hx : es[i]? = some e)
    (hQ : ∀ h', h'.IsKeyIter it d (i + 1) es.size ep → Heap.SameBut it s.heap h' → Q (some e.key) { s with heap := h' }) : wpAny (model prog w) A (pyNext (.ref it)) Q E s := by
  obtain ⟨oi, hoi, hci, hdi⟩ := id hit
  unfold pyNext
  refine wpAny_bind (wpAny_attempt (wpAny_callSpecial?_slot (name := Str.ofString "__next__") hit.typeIs PySem.F.slot_dict_keyiterator_next
    (wpAny_call_entry PySem.F.slot_dict_keyiterator_next hit.typeIs PySem.F.entry_dict_keyiterator_next ?_ (PySem.F.args_dict_keyiterator_next_1 _))))
  refine wpAny_bind (wpAny_pure ?_)
  refine wpAny_bind ?_
  refine wpAny_bind ?_
  first | refine wpAny_bind (wpAny_typeNameOfWhole_keyiter hit.typeIs (wpAny_pure ?_)) | refine wpAny_bind (wpAny_typeNameOf_keyiter hit.typeIs (wpAny_pure ?_))
  refine wpAny_bind (wpAny_fieldsOf hoi hdi ?_)
  have hown : Builtin.Dict_items.ownsTuple "dict_keyiterator" = false := by decide
  simp only [hown, Bool.false_eq_true, if_false]
  show wpAny _ _ (if (Value.ref d == Value.none) = true then _ else _) _ _ s
  rw [if_neg (show ¬ ((Value.ref d == Value.none) = true) from Bool.false_ne_true)]
  refine wpAny_bind (wpAny_pure ?_)
  refine wpAny_bind (wpAny_dictEntries ho hd ?_)
  rw [if_neg (by simp)]
  refine wpAny_bind (wpAny_pure ?_)
  refine wpAny_bind (wpAny_dictEpoch ho hd ?_)
  rw [if_neg (by simp)]
  refine wpAny_pure ?_
  simp only [show ¬ ((i : Int) < 0) from by omega, if_false, Int.toNat_natCast, hx]
  refine wpAny_bind ?_
  first | refine wpAny_bind (wpAny_typeNameOfWhole_keyiter hit.typeIs (wpAny_pure ?_)) | refine wpAny_bind (wpAny_typeNameOf_keyiter hit.typeIs (wpAny_pure ?_))
  refine wpAny_bind (wpAny_isOneOf_keyiter hit.typeIs ?_)
  show wpAny _ _ (setField (.ref it) 1 (rawInt ((i : Int) + 1)) >>= _) _ _ s
  refine wpAny_bind (wpAny_setField hoi hdi (by simp) ?_)
  have hit' : (s.heap.update it (Obj.mapFields (·.setIfInBounds 1 (rawInt ((i : Int) + 1))))).IsKeyIter it d (i + 1) es.size ep :=
    ⟨_, Heap.get?_update_self _ hoi (Obj.isFreed_of_fields (Obj.data_mapFields hdi _)), (Obj.cls_mapFields ..).trans hci, by rw [Obj.data_mapFields hdi]; simp [rawInt]⟩
  refine wpAny_bind (wpAny_holding ?_)
  refine wpAny_bind (wpAny_isOneOf_keyiter (s := { s with heap := s.heap.update it (Obj.mapFields (·.setIfInBounds 1 (rawInt ((i : Int) + 1)))) }) hit'.typeIs ?_)
  show wpAny _ _ (pure e.key) _ _ _
  exact wpAny_pure (wpAny_pure ⟨_, rfl, wpAny_pure (hQ _ hit' (Heap.SameBut.update ..))⟩)

theorem end_dictO {i : Nat} {Q : Option Value → Shared → Prop} (hh : A.handled = none) (hit : s.heap.IsKeyIter it d i es.size ep) (ho : s.heap.get? d = some o) (hd : o.data = .dict es ep) (hx : es.size ≤ i)
    (hQ : ∀ h', Heap.ExtBut it s.heap h' → Q none { s with heap := h' }) : wpAny (model prog w) A (pyNext (.ref it)) Q E s := by
  obtain ⟨oi, hoi, hci, hdi⟩ := id hit
  unfold pyNext
  refine wpAny_bind (wpAny_attempt (wpAny_callSpecial?_slot (name := Str.ofString "__next__") hit.typeIs PySem.F.slot_dict_keyiterator_next
    (wpAny_call_entry PySem.F.slot_dict_keyiterator_next hit.typeIs PySem.F.entry_dict_keyiterator_next ?_ (PySem.F.args_dict_keyiterator_next_1 _))))
  refine wpAny_bind (wpAny_pure ?_)
  refine wpAny_bind ?_
  refine wpAny_bind ?_
  first | refine wpAny_bind (wpAny_typeNameOfWhole_keyiter hit.typeIs (wpAny_pure ?_)) | refine wpAny_bind (wpAny_typeNameOf_keyiter hit.typeIs (wpAny_pure ?_))
  refine wpAny_bind (wpAny_fieldsOf hoi hdi ?_)
  have hown : Builtin.Dict_items.ownsTuple "dict_keyiterator" = false := by decide
  simp only [hown, Bool.false_eq_true, if_false]
  show wpAny _ _ (if (Value.ref d == Value.none) = true then _ else _) _ _ s
  rw [if_neg (show ¬ ((Value.ref d == Value.none) = true) from Bool.false_ne_true)]
  refine wpAny_bind (wpAny_pure ?_)
  refine wpAny_bind (wpAny_dictEntries ho hd ?_)
  rw [if_neg (by simp)]
  refine wpAny_bind (wpAny_pure ?_)
  refine wpAny_bind (wpAny_dictEpoch ho hd ?_)
  rw [if_neg (by simp)]
  refine wpAny_pure ?_
  simp only [show ¬ ((i : Int) < 0) from by omega, if_false, Int.toNat_natCast, Array.getElem?_eq_none hx]
  refine wpAny_bind ?_
  first | refine wpAny_bind (wpAny_typeNameOfWhole_keyiter hit.typeIs (wpAny_pure ?_)) | refine wpAny_bind (wpAny_typeNameOf_keyiter hit.typeIs (wpAny_pure ?_))
  show wpAny _ _ (setField (.ref it) 0 .none >>= _) _ _ s
  refine wpAny_bind (wpAny_setField hoi hdi (by simp) ?_)
  show wpAny _ _ (newExc (.type "StopIteration") [] >>= _) _ _ _
  refine wpAny_bind ?_
  simp only [newExc, newTuple]
  refine wpAny_bind (wpAny_newObj_type ?_ (by size_fits))
  refine wpAny_bind (m := firstArgMember _ _) (wpAny_of_eq (a := Value.none) (by first | rfl | (simp only [firstArgMember]; rfl)) ?_)
  refine wpAny_newObj_type ?_ (by size_fits)
  simp only [raiseNew]
  refine wpAny_bind (wpAny_handled ?_)
  rw [show A.in1.handled = none from hh]
  refine wpAny_bind (wpAny_pure (wpAny_throw ?_))
  refine wpAny_bind (wpAny_isInstance (T := "StopIteration") (b := true) ⟨_, Heap.get?_push_size _ rfl, rfl⟩ isSubtype_stop ?_)
  exact wpAny_pure (hQ _ (((Heap.SameBut.update ..).extBut.push _).push _))

theorem walks_dictO (hh : A.handled = none) (I d : Addr) (hne : d ≠ I) (hd : o.data = .dict es ep) : Walks prog w A I [I, d] [I] es.size (fun i v => ∃ e, es[i]? = some e ∧ v = e.key) (fun i h => h.IsKeyIter I d i es.size ep ∧ h.get? d = some o) where
  sub := fun b hb => by rw [List.mem_singleton.mp hb]; exact .head _
  frame := fun i h h' st hk => ⟨by obtain ⟨oi, ho, r⟩ := st.1; exact ⟨oi, hk I (by simp) _ ho, r⟩, hk d (by simp) _ st.2⟩
  item := fun i s Q E hi st hQ => by
    refine next_dictO (e := es[i]) st.1 st.2 hd (by simp [hi]) fun h' hit' hs' => ?_
    exact hQ _ h' s.toks ⟨es[i], by simp [hi], rfl⟩ ⟨hit', (hs'.2 d hne).trans st.2⟩ fun b o' hb e => hs'.extBut b o' (by simpa using hb) e
  done := fun s Q E st hQ => end_dictO hh st.1 st.2 hd (Nat.le_refl _) fun h' he => hQ h' s.toks fun b o' hb e => he b o' (by simpa using hb) e
  self := fun i s Q E st hQ => wpAny_pyIter_keyiter st.1 hQ
end

-- part F2
section
variable {w : World} {A : Around} {E : Value → Shared → Prop} {s : Shared} {env : Env} {h₀ : Heap} {m : Str → Option Value} {news base : List (Addr × Obj)} {pb : Addr} {ob : Obj} {l : PL}

theorem paired_get {news : List (Addr × Obj)} {xs : Ents} {l : PL} (p : Paired (EntW news) xs l) : ∀ {i : Nat} {x : List Int × Addr × Value}, xs[i]? = some x → ∃ q, l[i]? = some q ∧ EntW news x q := by
  induction p with
  | nil => intro i x h; simp at h
  | cons f _ ih =>
    intro i x h
    cases i with
    | zero => simp only [List.getElem?_cons_zero, Option.some.injEq] at h; subst h; exact ⟨_, rfl, f⟩
    | succ i => simp only [List.getElem?_cons_succ] at h ⊢; exact ih h

/-- a loop over a polynomial's powers -/
theorem For_poly {x src : Str} {px ps pos : Pos} {body : List Stmt} {Q : Flow → Shared → Prop} (hh : A.handled = none) (F : Fr h₀ env.locals s.heap m) (N : News h₀ env.locals s.heap news) (hm : (pb, ob) ∈ news) (hP : PolyW w base ob l) (hlo : (pb == sysModules) = false)
    (hsrc : ∀ (Q' : Value → Shared → Prop) (E' : Value → Shared → Prop), Q' (.ref pb) s → wpAny (model Pg w) A (eval (.Name src ps) env) Q' E' s)
    (hx : env.kindOf x = some .local) (hp : (env.scope.kind == .class || (env.scope.kind == .module && env.locals != env.globals)) = false)
    (J : Nat → (Str → Option Value) → List (Addr × Obj) → Prop) (h0 : J 0 m news)
    (step : ∀ (i : Nat) (k : Mon) (c : Int) (ka : Addr) (t1 t2 t3 : Tok) (m₁ : Str → Option Value) (news₁ own : List (Addr × Obj)) (h₁ : Heap) (tk₁ : Nat) (I : Addr), l[i]? = some (k, c) → (ka, keyOf k t1 t2 t3) ∈ base → J i m₁ news₁ → (∀ p ∈ own, (p.1 = I ∧ p.2.cls ≠ .type "tuple") ∨ p = (pb, ob)) → (∃ oI, (I, oI) ∈ own) → (∀ p ∈ news, p.1 ≠ I) → (∀ p ∈ news₁, p.1 ≠ I) →
      Fr h₀ env.locals h₁ (fun y => if y = x then some (.ref ka) else m₁ y) → News h₀ env.locals h₁ (own ++ news₁) →
      wpAny (model Pg w) A (execs body env) (fun f s' => f = .next ∧ ∃ (h' : Heap) (tk : Nat) (m₂ : Str → Option Value) (news₂ : List (Addr × Obj)), s' = { s with heap := h', toks := tk } ∧ Fr h₀ env.locals h' m₂ ∧ News h₀ env.locals h' (own ++ news₂) ∧ (∀ p ∈ news₂, p.1 ≠ I) ∧ J (i + 1) m₂ news₂) E { s with heap := h₁, toks := tk₁ })
    (hQ : ∀ (h' : Heap) (tk : Nat) (m' : Str → Option Value) (news' : List (Addr × Obj)), Fr h₀ env.locals h' m' → News h₀ env.locals h' news' → J l.length m' news' → Q .next { s with heap := h', toks := tk })
    (hE : PassesOwn (model Pg w) A env E) (hs : ∀ x, foldedSetIterable (.Name src ps) env x = pure x := by intro _; rfl) :
    wpAny (model Pg w) A (exec (.For (.Name x px) (.Name src ps) body [] pos) env) Q E s := by
  obtain ⟨xs, ⟨es, ep, hc, hd, he, _⟩, P⟩ := hP.is
  have hes : es.size = l.length := by rw [size_of_entries he, paired_length P]
  have ho := N _ hm
  refine For_turns F (hsrc _ _ (iter_dictO hlo ho.1 hc hd ?_)) hs hE
  have hlt : pb < s.heap.objs.size := Heap.lt_size ho.1
  have hne : pb ≠ s.heap.objs.size := Nat.ne_of_lt hlt
  have W := walks_dictO (prog := Pg) (w := w) (A := A) (o := ob) hh s.heap.objs.size pb hne hd
  have hnI : ∀ p ∈ news, p.1 ≠ s.heap.objs.size := fun p hp => Nat.ne_of_lt (Heap.lt_size (N p hp).1)
  refine ⟨s.heap.objs.size, [s.heap.objs.size, pb], [s.heap.objs.size], es.size, _, _, _, m, news, J, rfl, KTurns.ofWalks W (fun i v s Q E st hq => wpAny_of_eq rfl hq), ?_, ?_, ?_, ⟨⟨_, Heap.get?_push_size _ rfl, rfl, rfl⟩, Heap.get?_push_of_some _ ho.1⟩,
    F.push _, N.grown fun b o e => Heap.get?_push_of_some _ e, h0, ?_, ?_⟩
  · intro hmm
    rcases List.mem_cons.mp hmm with e | hmm
    · exact absurd F.ns.lt (e ▸ Nat.lt_irrefl _)
    · exact ho.2.1 (List.mem_singleton.mp hmm).symm
  · intro b hb
    rw [List.mem_singleton.mp hb]
    exact next_is_new F
  · intro p hp hI
    exact hnI p hp (List.mem_singleton.mp hI)
  · rintro i v m₁ news₁ h₁ tk₁ own hi ⟨e, hei, rfl⟩ hJ hoff hown hget hall hst F₁ N₁
    rw [entry_at he i] at hei
    obtain ⟨y, hy, rfl⟩ := Option.map_eq_some_iff.mp hei
    obtain ⟨q, hq, en⟩ := paired_get P hy
    obtain ⟨t1, t2, t3, hk⟩ := en.obj
    refine wpAny_assign_Name (wpAny_storeName_local hx F₁.ns (fun h₂ hn₂ hs₂ => ?_) hp)
    refine wpAny_mono (step i q.1 q.2 y.2.1 t1 t2 t3 m₁ news₁ own h₂ _ s.heap.objs.size hq hk hJ ?_ ?_ hnI (fun p hp e => hoff p hp (by simp [e])) ?_ ?_) (fun f s₂ hf => ?_) fun _ _ e => e
    · intro p hp
      rcases List.mem_cons.mp (hown p hp) with h | h
      · refine .inl ⟨h, fun e9 => ?_⟩
        have h2 := hget p hp
        rw [h] at h2
        obtain ⟨oi, hoi, hci, _⟩ := hst.1
        rw [hoi] at h2
        rw [← Option.some.inj h2, hci] at e9
        exact absurd e9 (by decide)
      · refine .inr ?_
        have h1 : p.1 = pb := List.mem_singleton.mp h
        have h2 := hget p hp
        rw [h1, hst.2] at h2
        exact Prod.ext h1 (Option.some.inj h2).symm
    · obtain ⟨oi, hoi, _⟩ := hst.1
      exact ⟨oi, hall _ (.head _) (next_is_new F) oi hoi⟩
    · refine ⟨hn₂, fun b o e => hs₂.extBut b o (fun q => ?_) (F₁.keep b o e), F₁.above⟩
      rw [q, Heap.get?_none_of_le F₁.above] at e; cases e
    · exact fun p hp => ⟨hs₂.extBut _ _ (N₁ p hp).2.1 (N₁ p hp).1, (N₁ p hp).2⟩
    · obtain ⟨rfl, h', tk, m₂, news₂, rfl, F₂, N₂, hn2, hJ₂⟩ := hf
      exact LoopStepV.next ⟨rfl, h', tk, m₂, news₂, rfl, F₂, N₂, fun p hp hI => hn2 p hp (List.mem_singleton.mp hI), hJ₂⟩
  · intro h' tk m' news' F' N' _ hJ
    rw [hes] at hJ
    exact hQ h' tk m' news' F' N' hJ
end

-- part M0
section
variable {w : World} {A : Around} {E : Value → Shared → Prop} {s : Shared} {g h₀ : Heap} {L d ka : Addr} {m : Str → Option Value} {news : List (Addr × Obj)} {o : Obj} {l : PL} {k : Mon} {c : Int}
theorem keysAt_news {xs : Ents} {l : PL} (N : News g L s.heap news) (P : Paired (EntW news) xs l) : KeysAt w s.heap xs := by
  induction P with
  | nil => intro x hx; cases hx
  | @cons x q xs l f _ ih =>
    intro y hy
    rcases List.mem_cons.mp hy with rfl | hy
    · obtain ⟨t1, t2, t3, hm⟩ := f.obj
      rw [f.key]
      exact keyAt_of (N _ hm).1
    · exact ih y hy
theorem lk_mem {l : PL} {k : Mon} {c : Int} (hn : (l.map (·.1)).Nodup) (h : (k, c) ∈ l) : lk l k = some c := by
  induction l with
  | nil => cases h
  | cons q r ih =>
    obtain ⟨h1, h2⟩ := nodup_tail hn
    rcases List.mem_cons.mp h with e | h
    · subst e; simp [lk]
    · have hne : ¬ q.1 = k := fun e => h1 (k, c) h e.symm
      have : lk (q :: r) k = lk r k := by simp [lk, List.find?_cons, hne]
      rw [this]; exact ih h2 h
theorem dl_getP {value slice : Expr} {t1 t2 t3 : Tok} {Q : Value → Shared → Prop} (N : News g L s.heap news) (hd : (d, o) ∈ news) (hP : PolyW w news o l) (hk : (ka, keyOf k t1 t2 t3) ∈ news) (hl : (k, c) ∈ l) (hu : A.units + 1 < cLine)
    (h : ∀ va tk, StR news va c → Q (.ref va) { s with toks := tk })
    (hs : subscripted slice false (.ref d) (.ref ka) = operate [.ref d, .ref ka] (getItem (.ref d) (.ref ka)) := by with_unfolding_all rfl) :
    wpAny (model Pg w) A (subscriptTail value slice (.ref d) (.ref ka)) Q E s := by
  obtain ⟨xs, D, P⟩ := hP.is
  have e1 := lk_mem hP.nodup hl
  rcases pairedW_lk (k := k) P with ⟨h1, _⟩ | ⟨c0, a0, va, h1, h2, h3⟩
  · rw [h1] at e1; cases e1
  · rw [h1] at e1; cases e1
    have D' := D.at (N _ hd).1 (keysAt_news N P)
    exact tail_any D'.typeIs slot_dict_getitem.lookup (wpAny_getItem_heap (knd := IK w) hu (keyAt_of (N _ hk).1) D' h2 (h va _ h3)) hs
end
theorem big_of {w : World} {g : Heap} (X : (Mine.hd.heap_1 w.params).In g) {o : Obj} (e : (Mine.hd.heap_1 w.params).lookup 157 = some o) : sysModules < g.objs.size := Nat.lt_trans (by decide) (Heap.lt_size (X _ _ e))


theorem DObj.ofInt {w : World} {o : Obj} (h : Obj.IsDictOf (intKind Pg w) o []) : DObj w o [] := by
  obtain ⟨es, ep, hc, hd, _, he, _⟩ := h
  refine ⟨es, ep, hc, hd, ?_, List.nodup_nil⟩
  generalize es.toList = q at he
  cases q with
  | nil => rfl
  | cons _ _ => cases he
theorem PolyAt.empty {w : World} {o : Obj} {news : List (Addr × Obj)} (h : Obj.IsDictOf (intKind Pg w) o []) : PolyAt w news o [] := ⟨[], DObj.ofInt h, .nil⟩

noncomputable def addM (q p : Mon) : Mon := (q.1 + p.1, q.2.1 + p.2.1, q.2.2 + p.2.2)
theorem take_at {α : Type} {l : List α} {i : Nat} {x : α} (h : l[i]? = some x) : l.take (i + 1) = l.take i ++ [x] := by rw [List.take_add_one, h]; rfl
theorem ev_take {l : PL} {i : Nat} {q : Mon × Int} {f : Mon → Int} (h : l[i]? = some q) : ev (l.take (i + 1)) f = ev (l.take i) f + q.2 * f q.1 := by
  rw [take_at h, ev_append, ev_cons, ev_nil, Int.add_zero]
theorem nrm_take {l : PL} {i : Nat} {q : Mon × Int} (h : l[i]? = some q) : nrm (l.take (i + 1)) = nrm (l.take i) + q.2.natAbs := by
  rw [take_at h, nrm_append, nrm_cons]; show _ + (_ + 0) = _; rfl
theorem nrm_take_le (l : PL) (i : Nat) : nrm (l.take i) ≤ nrm l := by
  have h := nrm_append (l.take i) (l.drop i)
  rw [List.take_append_drop] at h
  omega
/-- a turn of the product -/
structure AddIs (l : PL) (k : Mon) (c : Int) : Prop where
  hc : c.natAbs < 4611686018427387904
  hl : nrm l < 4611686018427387904
  hz : l.length ≤ sizeLine
theorem add_tells' {w : World} {d ka va : Addr} {o : Obj} {l : PL} {k : Mon} {c : Int} {t1 t2 t3 t t' : Tok} {news : List (Addr × Obj)} (a : AddIs l k c) (hP : PolyAt w news o l)
    (hk : (ka, keyOf k t1 t2 t3) ∈ news) (hv : (va, ratO c t t') ∈ news) (hlo : (d == sysModules) = false) (hne : ∀ p ∈ news, p.1 ≠ d) :
    Tells w 4 90 [.ref d, .ref ka, .ref va] ((d, o) :: news) (RetAdd w d l k c news) := add_tells w d ka va o l k c t1 t2 t3 t t' news hP a.hc a.hl hk hv hlo hne a.hz
theorem front2 {g h : Heap} {L : Addr} {x y z : Addr × Obj} {news : List (Addr × Obj)} (N : News g L h (x :: y :: z :: news)) : News g L h (z :: x :: y :: news) := fun p hp => N p (by
  simp only [List.mem_cons] at hp ⊢; rcases hp with h | h | h | h <;> simp [h])
theorem fr_eq {g h : Heap} {L : Addr} {m m' : Str → Option Value} (F : Fr g L h m) (e : ∀ y, m y = m' y) : Fr g L h m' := (funext e : m = m') ▸ F
theorem in_ab {k : Mon} {c : Int} {la : PL} {i : Nat} (h : la[i]? = some (k, c)) : c.natAbs ≤ nrm la := nrm_mem (List.mem_of_getElem? h)

-- part M1
section
theorem offM1 : True := by
  w_top off
  trivial
/-- a new polynomial: d holds l, and what it bears is new -/
structure NewPoly (w : World) (D : Addr) (news ex : List (Addr × Obj)) (o : Obj) (l : PL) : Prop where
  poly : PolyAt w (ex ++ news) o l
  new : ∀ p ∈ ex, p.1 ≠ D ∧ p.2.cls = .type "tuple" ∧ ∀ q ∈ news, q.1 ≠ p.1
noncomputable def MulJ (w : World) (D : Addr) (la lb : PL) (news : List (Addr × Obj)) (m0 : Str → Option Value) (i : Nat) (m₁ : Str → Option Value) (news₁ : List (Addr × Obj)) : Prop :=
  ∃ vp vo o ex l, m₁ = (fun y => if y = Str.ofString "one" then vo else if y = Str.ofString "powers" then vp else m0 y) ∧ news₁ = (D, o) :: (ex ++ news) ∧ NewPoly w D news ex o l ∧
    (∀ f, ev l f = ev (lb.take i) fun p => ev la fun q => f (addM q p)) ∧ nrm l ≤ nrm la * nrm (lb.take i) ∧ l.length ≤ la.length * i
noncomputable def MulI (w : World) (D : Addr) (la l0 : PL) (news own : List (Addr × Obj)) (m0 : Str → Option Value) (kb I : Addr) (k : Mon) (c : Int) (j : Nat) (m₁ : Str → Option Value) (news₁ : List (Addr × Obj)) : Prop :=
  ∃ vo o ex l, m₁ = (fun y => if y = Str.ofString "one" then vo else if y = Str.ofString "powers" then some (.ref kb) else m0 y) ∧ news₁ = own ++ ((D, o) :: (ex ++ news)) ∧ NewPoly w D news ex o l ∧
    (∀ f, ev l f = ev l0 f + c * ev (la.take j) fun q => f (addM q k)) ∧ nrm l ≤ nrm l0 + c.natAbs * nrm (la.take j) ∧ l.length ≤ l0.length + j ∧ ∀ p ∈ ex, p.1 ≠ I
noncomputable def RetMul (w : World) (la lb : PL) (news : List (Addr × Obj)) (n' : List (Addr × Obj)) (r : Value) : Prop :=
  ∃ D o ex l, r = .ref D ∧ n' = (D, o) :: (ex ++ news) ∧ NewPoly w D news ex o l ∧ (D == sysModules) = false ∧ (∀ p ∈ news, p.1 ≠ D) ∧
    (∀ f, ev l f = ev lb fun p => ev la fun q => f (addM q p)) ∧ nrm l ≤ nrm la * nrm lb ∧ l.length ≤ la.length * lb.length

abbrev mul0 (D pa pb : Addr) : Str → Option Value := fun y => if y = Str.ofString "found" then some (.ref D) else if y = Str.ofString "b" then some (.ref pb) else if y = Str.ofString "a" then some (.ref pa) else none
theorem mul0_is {D pa pb : Addr} (y : Str) : (if y = Str.ofString "found" then some (Value.ref D) else List.lookup y [(Str.ofString "b", Value.ref pb), (Str.ofString "a", Value.ref pa)]) = mul0 D pa pb y := by
  simp only [mul0, List.lookup]
  split
  · rfl
  · by_cases hb : y = Str.ofString "b"
    · subst hb; rfl
    · have e1 : (y == Str.ofString "b") = false := by simpa using hb
      rw [e1, if_neg hb]
      by_cases ha : y = Str.ofString "a"
      · subst ha; rfl
      · have e2 : (y == Str.ofString "a") = false := by simpa using ha
        simp only [e2, if_neg ha]
theorem mul0_up {D pa pb : Addr} (y : Str) : mul0 D pa pb y = if y = Str.ofString "one" then none else if y = Str.ofString "powers" then none else mul0 D pa pb y := by
  split
  · rename_i e; subst e; rfl
  · split
    · rename_i e; subst e; rfl
    · rfl
theorem up_pow {a vo vp : Option Value} {M : Str → Option Value} (y : Str) : (if y = Str.ofString "powers" then a else if y = Str.ofString "one" then vo else if y = Str.ofString "powers" then vp else M y) = if y = Str.ofString "one" then vo else if y = Str.ofString "powers" then a else M y := by
  by_cases h : y = Str.ofString "powers"
  · subst h; rw [if_pos rfl, if_neg (by decide), if_pos rfl]
  · rw [if_neg h, if_neg h, if_neg h]
theorem up_one {a vo : Option Value} {M : Str → Option Value} (y : Str) : (if y = Str.ofString "one" then a else if y = Str.ofString "one" then vo else M y) = if y = Str.ofString "one" then a else M y := by
  by_cases h : y = Str.ofString "one"
  · rw [if_pos h, if_pos h]
  · rw [if_neg h, if_neg h, if_neg h]
theorem ne_front {a b D : Addr} {x y z : Obj} {Λ : List (Addr × Obj)} (h1 : ∀ p ∈ (b, y) :: (D, z) :: Λ, p.1 < a) (h2 : ∀ p ∈ (D, z) :: Λ, p.1 ≠ b) (h3 : ∀ p ∈ Λ, p.1 ≠ D) : ∀ p ∈ (a, x) :: (b, y) :: Λ, p.1 ≠ D := fun p hp => by
  rcases List.mem_cons.mp hp with rfl | hp
  · exact fun e => Nat.lt_irrefl _ (e ▸ h1 (D, z) (.tail _ (.head _)))
  · rcases List.mem_cons.mp hp with rfl | hp
    · exact fun e => h2 (D, z) (.head _) e.symm
    · exact h3 p hp
theorem hideQ {M : Model} {A : Around} {t : Sem Flow} {E : Value → Shared → Prop} {s : Shared} {Q : Flow → Shared → Prop} (h : ∀ Q' : Flow → Shared → Prop, (∀ f s, Q f s → Q' f s) → wpAny M A t Q' E s) : wpAny M A t Q E s := h Q fun _ _ x => x
theorem mul_bound {a b c d : Nat} (h1 : a ≤ c) (h2 : b ≤ d) (h : c * d < 4611686018427387904) : a * b < 4611686018427387904 := Nat.lt_of_le_of_lt (Nat.mul_le_mul h1 h2) h
local macro_rules | `(tactic| walk_at "call ref") => `(tactic| refine Stop.out ?_)
local macro_rules | `(tactic| walk_at "subscriptTail") => `(tactic| refine Stop.out ?_)

set_option maxHeartbeats 1000000 in
theorem mvmul_tells (w : World) (pa pb : Addr) (oa ob : Obj) (la lb : PL) (news : List (Addr × Obj)) (ha : (pa, oa) ∈ news) (hb : (pb, ob) ∈ news) (hPa : PolyW w news oa la) (hPb : PolyW w news ob lb)
    (hla : (pa == sysModules) = false) (hlb : (pb == sysModules) = false) (hna : nrm la < 4611686018427387904) (hnb : nrm lb < 4611686018427387904) (hnn : nrm la * nrm lb < 4611686018427387904) (hsz : la.length * lb.length ≤ sizeLine) :
    Tells w 5 97 [.ref pa, .ref pb] news (RetMul w la lb news) := by
  unfold Tells
  intros; rename_i hN _ _ _ _ hret
  have hsub : ∀ p ∈ news, p ∈ news := fun p hp => hp
  refine wpAny_call ?_
  k_dflt (refine' enterG ?k1 ?k2 ?k3 ?k4 ?k5 hsub ?kA ?kF ?kK ?k6 ?k7 ?k8 ?k9 ?kB ?_ ?c2 ?c3 ?c4 ?c5)
  case kA => exact rfl
  case kF => exact rfl
  case kK => assumption
  case k1 => k_asm
  case k2 => k_asm
  case k3 => k_asm
  case k4 => k_asm
  case k5 => k_asm
  case k6 => k_is
  case k7 => k_is
  case k8 => ktr_room
  case k9 => exact BindsTo.of_eq rfl
  case kB => exact locs rfl
  case c2 => exact rfl
  case c3 => exact rfl
  case c4 => exact rfl
  case c5 => decide
  k_whole
  intro g' L' h' FG' F' N' B' X' T' l1 G'
  (try k_lt l1)
  (try dsimp only)
  (try k_lift B')
  (try k_fold)
  k_steps
  iterate 10 (all_goals (try (refine Stop.mk ?_; (first
      | ((k_here; k_dflt (
          (with_reducible show wpAny _ _ (subscriptTail _ _ (Value.ref _) (Value.ref _)) _ _ _)
          (refine' dl_getP ?N ?hd ?hP ?hk ?hl ?hu ?_ ?hs; (case N => k_asm); (case hd => (repeat (first | assumption | exact List.mem_cons_self | refine List.mem_cons_of_mem _ ?_))); (case hP => exact PolyW.mono (by assumption) (fun p hp _ => by (repeat (first | assumption | exact List.mem_cons_self | refine List.mem_cons_of_mem _ ?_)))); (case hk => (repeat (first | assumption | exact List.mem_cons_self | refine List.mem_cons_of_mem _ ?_))); (case hl => k_asm); (case hu => ktr_units); (case hs => with_unfolding_all rfl); intro va' tk' hm'))))
      | ((k_here; k_dflt (
          (with_reducible show wpAny _ _ (call (Value.ref 90) _) _ _ _)
          (rename AddIs _ _ _ => aI'); (rename News _ _ _ _ => nN')
          (refine' Tells.use ?k1 ?k2 ?k3 (front2 nN') ?k5 ?kK (add_tells' aI' ?hP ?hk ?hv ?hlo ?hne) ?kd ?ku ?_)
          (case k1 => k_asm); (case k2 => k_asm); (case k3 => k_asm); (case k5 => k_asm); (case kK => first | exact rfl | assumption)
          (case hP => exact PolyAt.mono (by assumption) (fun p hp _ => .tail _ (.tail _ hp)))
          (case hk => first | exact .head _ | exact .tail _ (.head _)); (case hv => first | exact .head _ | exact .tail _ (.head _)); (case hlo => k_asm)
          (case hne => exact ne_front (by assumption) (by assumption) (by assumption))
          (case kd => ktr_room); (case ku => ktr_units)
          intro r' n' h' tk' F' N' hr
          obtain ⟨o9, ex9, e1, e2, P9, l9⟩ := hr; subst e1; subst e2; (try dsimp only))))
      | ((k_here; k_dflt (
          (with_reducible show wpAny _ _ (call (Value.ref 69) _) _ _ _)
          (refine' Tells.use ?k1 ?k2 ?k3 ?k4 ?k5 ?kK (rmul_any _ _ _ _ _ _ ?hx ?hy ?ha ?hb) ?kd ?ku ?_)
          (case k1 => k_asm); (case k2 => k_asm); (case k3 => k_asm); (case k4 => k_asm); (case k5 => k_asm); (case kK => first | exact rfl | assumption)
          (case ha => with_reducible assumption); (case hb => with_reducible assumption); (case hx => assumption); (case hy => assumption); (case kd => ktr_room); (case ku => ktr_units)
          intro r' n' h' tk' F' N' hr
          obtain ⟨a9, t9, t8, e1, e2, l1⟩ := hr; subst e1; subst e2; (try dsimp only))))
      | ((k_here; k_dflt (
          (with_reducible show wpAny _ _ (call (Value.ref 19) _) _ _ _)
          (refine' Tells.use ?k1 ?k2 ?k3 ?k4 ?k5 ?kK (pp_tells _ _ _ _ _ _ _ _ _ _ _ _ _ _ _ _ ?ha ?hb) ?kd ?ku ?_)
          (case k1 => k_asm); (case k2 => k_asm); (case k3 => k_asm); (case k4 => k_asm); (case k5 => k_asm); (case kK => first | exact rfl | assumption)
          (case ha => (repeat (first | assumption | exact List.mem_cons_self | refine List.mem_cons_of_mem _ ?_))); (case hb => (repeat (first | assumption | exact List.mem_cons_self | refine List.mem_cons_of_mem _ ?_))); (case kd => ktr_room); (case ku => ktr_units)
          intro r' n' h' tk' F' N' hr
          obtain ⟨a9, t9, t8, t7, e1, e2, l1⟩ := hr; subst e1; subst e2; (try dsimp only))))); all_goals k_steps)))
  (rename Fr g' _ _ _ => fF'); (rename News g' _ _ _ => nN'); (rename Obj.IsDictOf (intKind _ _) _ _ => iD')
  (rename (_ == sysModules) = false => hloD)
  rename_i D _ _ _ _ _ _ _
  have fF1 := fr_eq fF' (m' := mul0 D pa pb) mul0_is
  clear fF'
  have hDn : ∀ p ∈ news, p.1 ≠ D := fun p hp e => by
    have h9 : ∀ p ∈ news, @LT.lt Nat _ p.1 D := by assumption
    exact absurd (e ▸ h9 p hp) (Nat.lt_irrefl _)
  refine wpAny_mono (?_ : wpAny _ _ _ _ (fun _ _ => False) _) (fun _ _ e => e) (fun _ _ e => e.elim)
  refine For_poly rfl fF1 nN' (.tail _ hb) hPb hlb (fun Q' E' hq => by walk1; exact hq) rfl rfl (MulJ w D la lb news (mul0 D pa pb)) ?h0 ?step ?hQ (PassesOwn.never)  (fun _ => rfl)
  case h0 =>
    exact ⟨none, none, _, [], [], funext mul0_up, rfl, ⟨PolyAt.empty iD', fun p hp => nomatch hp⟩, fun f => rfl, Nat.zero_le _, Nat.zero_le _⟩
  case hQ =>
    rintro h' tk m' news' Fe Ne ⟨vp, vo, o, ex, l, rfl, rfl, NP, hev, hnr, hln⟩
    rw [List.take_length] at hev hnr
    clear fF1 nN'
    k_steps
    iterate 10 (all_goals (try (refine Stop.mk ?_; (first
        | ((k_here; k_dflt (
            (with_reducible show wpAny _ _ (subscriptTail _ _ (Value.ref _) (Value.ref _)) _ _ _)
            (refine' dl_getP ?N ?hd ?hP ?hk ?hl ?hu ?_ ?hs; (case N => k_asm); (case hd => (repeat (first | assumption | exact List.mem_cons_self | refine List.mem_cons_of_mem _ ?_))); (case hP => exact PolyW.mono (by assumption) (fun p hp _ => by (repeat (first | assumption | exact List.mem_cons_self | refine List.mem_cons_of_mem _ ?_)))); (case hk => (repeat (first | assumption | exact List.mem_cons_self | refine List.mem_cons_of_mem _ ?_))); (case hl => k_asm); (case hu => ktr_units); (case hs => with_unfolding_all rfl); intro va' tk' hm'))))
        | ((k_here; k_dflt (
            (with_reducible show wpAny _ _ (call (Value.ref 90) _) _ _ _)
            (rename AddIs _ _ _ => aI'); (rename News _ _ _ _ => nN')
            (refine' Tells.use ?k1 ?k2 ?k3 (front2 nN') ?k5 ?kK (add_tells' aI' ?hP ?hk ?hv ?hlo ?hne) ?kd ?ku ?_)
            (case k1 => k_asm); (case k2 => k_asm); (case k3 => k_asm); (case k5 => k_asm); (case kK => first | exact rfl | assumption)
            (case hP => exact PolyAt.mono (by assumption) (fun p hp _ => .tail _ (.tail _ hp)))
            (case hk => first | exact .head _ | exact .tail _ (.head _)); (case hv => first | exact .head _ | exact .tail _ (.head _)); (case hlo => k_asm)
            (case hne => exact ne_front (by assumption) (by assumption) (by assumption))
            (case kd => ktr_room); (case ku => ktr_units)
            intro r' n' h' tk' F' N' hr
            obtain ⟨o9, ex9, e1, e2, P9, l9⟩ := hr; subst e1; subst e2; (try dsimp only))))
        | ((k_here; k_dflt (
            (with_reducible show wpAny _ _ (call (Value.ref 69) _) _ _ _)
            (refine' Tells.use ?k1 ?k2 ?k3 ?k4 ?k5 ?kK (rmul_any _ _ _ _ _ _ ?hx ?hy ?ha ?hb) ?kd ?ku ?_)
            (case k1 => k_asm); (case k2 => k_asm); (case k3 => k_asm); (case k4 => k_asm); (case k5 => k_asm); (case kK => first | exact rfl | assumption)
            (case ha => with_reducible assumption); (case hb => with_reducible assumption); (case hx => assumption); (case hy => assumption); (case kd => ktr_room); (case ku => ktr_units)
            intro r' n' h' tk' F' N' hr
            obtain ⟨a9, t9, t8, e1, e2, l1⟩ := hr; subst e1; subst e2; (try dsimp only))))
        | ((k_here; k_dflt (
            (with_reducible show wpAny _ _ (call (Value.ref 19) _) _ _ _)
            (refine' Tells.use ?k1 ?k2 ?k3 ?k4 ?k5 ?kK (pp_tells _ _ _ _ _ _ _ _ _ _ _ _ _ _ _ _ ?ha ?hb) ?kd ?ku ?_)
            (case k1 => k_asm); (case k2 => k_asm); (case k3 => k_asm); (case k4 => k_asm); (case k5 => k_asm); (case kK => first | exact rfl | assumption)
            (case ha => (repeat (first | assumption | exact List.mem_cons_self | refine List.mem_cons_of_mem _ ?_))); (case hb => (repeat (first | assumption | exact List.mem_cons_self | refine List.mem_cons_of_mem _ ?_))); (case kd => ktr_room); (case ku => ktr_units)
            intro r' n' h' tk' F' N' hr
            obtain ⟨a9, t9, t8, t7, e1, e2, l1⟩ := hr; subst e1; subst e2; (try dsimp only))))); all_goals k_steps)))
    (rename News _ _ _ _ => kN')
    exact hret _ _ _ _ (by k_asm) kN' ⟨D, o, ex, l, rfl, rfl, NP, hloD, hDn, hev, hnr, hln⟩
  case step =>
    rintro i k c kb t1 t2 t3 m₁ news₁ own h₁ tk₁ I hi hkb ⟨vp, vo, o, ex, l, rfl, rfl, NP, hev, hnr, hln⟩ hown hoI hnI hnI1 Fe Ne
    have hkb' : (kb, keyO k.1 k.2.1 k.2.2 t1 t2 t3) ∈ news := hkb
    have Fe1 := fr_eq Fe up_pow
    have hDI : D ≠ I := hnI _ (.head _)
    have hcb := in_ab hi
    have ib := List.mem_of_getElem? hi
    have hip := nrm_take hi
    have hip2 := nrm_take_le lb (i + 1)
    dsimp only at hip
    have hil : i < lb.length := (List.getElem?_eq_some_iff.mp hi).1
    clear Fe fF1 nN'
    walk1
    refine For_poly rfl Fe1 Ne (List.mem_append_right _ (.tail _ (List.mem_append_right _ ha))) hPa hla (fun Q' E' hq => by walk1; exact hq) rfl rfl (MulI w D la l news own (mul0 D pa pb) kb I k c) ?h0 ?step ?hQ (PassesOwn.never)  (fun _ => rfl)
    case h0 =>
      exact ⟨vo, o, ex, l, rfl, rfl, NP, fun f => by rw [List.take_zero, ev_nil]; omega, by rw [List.take_zero]; show _ ≤ _ + _ * 0; omega, Nat.le_refl _, fun p hp => hnI1 p (.tail _ (List.mem_append_left _ hp))⟩
    case hQ =>
      rintro h' tk m' news' Fe2 Ne2 ⟨vo2, o2, ex2, l2, rfl, rfl, NP2, hev2, hnr2, hln2, hI2⟩
      rw [List.take_length] at hev2 hnr2
      clear Fe1 Ne
      walk1
      refine ⟨rfl, _, _, _, (D, o2) :: (ex2 ++ news), rfl, Fe2, Ne2, fun p hp => ?_, ⟨some (.ref kb), vo2, o2, ex2, l2, rfl, rfl, NP2, fun f => ?_, ?_, ?_⟩⟩
      · rcases List.mem_cons.mp hp with rfl | hp
        · exact hDI
        · rcases List.mem_append.mp hp with hp | hp
          · exact hI2 p hp
          · exact hnI p (.tail _ hp)
      · rw [hev2, hev, ev_take hi]
      · rw [hip, Nat.mul_add, Nat.mul_comm (nrm la) c.natAbs]; omega
      · rw [Nat.mul_add]; omega
    case step =>
      rintro j kq cq ka u1 u2 u3 m₁ news₁ own2 h₂ tk₂ I2 hj hka ⟨vo2, o1, ex1, l1, rfl, rfl, NP1, hev1, hnr1, hln1, hI1⟩ hown2 hoI2 hnI2 hnI21 Fe2 Ne2
      have Fe3 := fr_eq Fe2 up_one
      have hown' : ∀ p ∈ own, p.1 ≠ D := fun p hp => by
        rcases hown p hp with ⟨e, _⟩ | e
        · rw [e]; exact fun e => hDI e.symm
        · rw [e]; exact hDn _ hb
      have hown2' : ∀ p ∈ own2, p.1 ≠ D := fun p hp => by
        rcases hown2 p hp with ⟨e, _⟩ | e
        · rw [e]; exact fun e => hnI21 _ (List.mem_append_right _ (.head _)) e.symm
        · rw [e]; exact hDn _ ha
      obtain ⟨Λ, hΛ⟩ : ∃ Λ, Λ = own2 ++ (own ++ (ex1 ++ news)) := ⟨_, rfl⟩
      have sN : ∀ p ∈ news, p ∈ Λ := fun p hp => by subst hΛ; exact List.mem_append_right _ (List.mem_append_right _ (List.mem_append_right _ hp))
      have sE : ∀ p ∈ ex1 ++ news, p ∈ Λ := fun p hp => by subst hΛ; exact List.mem_append_right _ (List.mem_append_right _ hp)
      have kA : (ka, keyO kq.1 kq.2.1 kq.2.2 u1 u2 u3) ∈ Λ := sN _ hka
      have kB := sN _ hkb'
      have oA := sN _ ha
      have oB := sN _ hb
      have pA := hPa.mono (news' := Λ) fun p hp _ => sN p hp
      have pB := hPb.mono (news' := Λ) fun p hp _ => sN p hp
      have pL := NP1.poly.mono (news' := Λ) fun p hp _ => sE p hp
      have ia := List.mem_of_getElem? hj
      have hca := in_ab hj
      have hjp := nrm_take hj
      have hjp2 := nrm_take_le la (j + 1)
      have hjl : j < la.length := (List.getElem?_eq_some_iff.mp hj).1
      dsimp only at hjp
      have NΛ : News g' L' h₂ ((D, o1) :: Λ) := fun p hp => Ne2 p (by
        subst hΛ
        simp only [List.mem_cons, List.mem_append] at hp ⊢
        rcases hp with h | h | h | h | h
        · exact .inr (.inr (.inl h))
        · exact .inl h
        · exact .inr (.inl h)
        · exact .inr (.inr (.inr (.inl h)))
        · exact .inr (.inr (.inr (.inr h))))
      have nD : ∀ p ∈ Λ, p.1 ≠ D := fun p hp => by
        subst hΛ
        simp only [List.mem_append] at hp
        rcases hp with h | h | h | h
        · exact hown2' p h
        · exact hown' p h
        · exact (NP1.new p h).1
        · exact hDn p h
      have aI : AddIs l1 (addM kq k) (cq * c) := by
        refine ⟨?_, ?_, ?_⟩
        · rw [Int.natAbs_mul]
          exact mul_bound hca hcb hnn
        · have e1 : nrm la * (nrm (lb.take i) + c.natAbs) ≤ nrm la * nrm lb := Nat.mul_le_mul (Nat.le_refl _) (by omega)
          have e2 : c.natAbs * nrm (la.take j) ≤ nrm la * c.natAbs := by rw [Nat.mul_comm]; exact Nat.mul_le_mul (by omega) (Nat.le_refl _)
          rw [Nat.mul_add] at e1
          omega
        · have e1 : la.length * (i + 1) ≤ la.length * lb.length := Nat.mul_le_mul (Nat.le_refl _) hil
          rw [Nat.mul_add] at e1
          omega
      have hx : -4611686018427387904 < cq ∧ cq < 4611686018427387904 := by omega
      have hy : -4611686018427387904 < c ∧ c < 4611686018427387904 := by omega
      clear Fe2 Ne2 Fe1 Ne hka
      refine hideQ fun QQ hQQ => ?_
      k_steps
      iterate 10 (all_goals (try (refine Stop.mk ?_; (first
          | ((k_here; k_dflt (
              (with_reducible show wpAny _ _ (subscriptTail _ _ (Value.ref _) (Value.ref _)) _ _ _)
              (refine' dl_getP ?N ?hd ?hP ?hk ?hl ?hu ?_ ?hs; (case N => k_asm); (case hd => (repeat (first | assumption | exact List.mem_cons_self | refine List.mem_cons_of_mem _ ?_))); (case hP => exact PolyW.mono (by assumption) (fun p hp _ => by (repeat (first | assumption | exact List.mem_cons_self | refine List.mem_cons_of_mem _ ?_)))); (case hk => (repeat (first | assumption | exact List.mem_cons_self | refine List.mem_cons_of_mem _ ?_))); (case hl => k_asm); (case hu => ktr_units); (case hs => with_unfolding_all rfl); intro va2 tk9 hm2))))
          | ((k_here; k_dflt (
              (with_reducible show wpAny _ _ (call (Value.ref 90) _) _ _ _)
              (rename AddIs _ _ _ => aI'); (rename News _ _ _ _ => nN')
              (refine' Tells.use ?k1 ?k2 ?k3 (front2 nN') ?k5 ?kK (add_tells' aI' ?hP ?hk ?hv ?hlo ?hne) ?kd ?ku ?_)
              (case k1 => k_asm); (case k2 => k_asm); (case k3 => k_asm); (case k5 => k_asm); (case kK => first | exact rfl | assumption)
              (case hP => exact PolyAt.mono (by assumption) (fun p hp _ => .tail _ (.tail _ hp)))
              (case hk => first | exact .head _ | exact .tail _ (.head _)); (case hv => first | exact .head _ | exact .tail _ (.head _)); (case hlo => k_asm)
              (case hne => exact ne_front (by assumption) (by assumption) (by assumption))
              (case kd => ktr_room); (case ku => ktr_units)
              intro r' n' h9 tk11 F9 N9 hr
              obtain ⟨o9, ex9, e1, e2, P9, l9⟩ := hr; subst e1; subst e2; (try dsimp only))))
          | ((k_here; k_dflt (
              (with_reducible show wpAny _ _ (call (Value.ref 69) _) _ _ _)
              (refine' Tells.use ?k1 ?k2 ?k3 ?k4 ?k5 ?kK (rmul_any _ _ _ _ _ _ ?hx ?hy ?ha ?hb) ?kd ?ku ?_)
              (case k1 => k_asm); (case k2 => k_asm); (case k3 => k_asm); (case k4 => k_asm); (case k5 => k_asm); (case kK => first | exact rfl | assumption)
              (case ha => with_reducible assumption); (case hb => with_reducible assumption); (case hx => assumption); (case hy => assumption); (case kd => ktr_room); (case ku => ktr_units)
              intro r' n' h8 tk10 F8 N8 hr
              obtain ⟨aV, r1, r2, e1, e2, lV⟩ := hr; subst e1; subst e2; (try dsimp only))))
          | ((k_here; k_dflt (
              (with_reducible show wpAny _ _ (call (Value.ref 19) _) _ _ _)
              (refine' Tells.use ?k1 ?k2 ?k3 ?k4 ?k5 ?kK (pp_tells _ _ _ _ _ _ _ _ _ _ _ _ _ _ _ _ ?ha ?hb) ?kd ?ku ?_)
              (case k1 => k_asm); (case k2 => k_asm); (case k3 => k_asm); (case k4 => k_asm); (case k5 => k_asm); (case kK => first | exact rfl | assumption)
              (case ha => (repeat (first | assumption | exact List.mem_cons_self | refine List.mem_cons_of_mem _ ?_))); (case hb => (repeat (first | assumption | exact List.mem_cons_self | refine List.mem_cons_of_mem _ ?_))); (case kd => ktr_room); (case ku => ktr_units)
              intro r' n' h7 tk7 F7 N7 hr
              obtain ⟨aK, s1, s2, s3, e1, e2, lK⟩ := hr; subst e1; subst e2; (try dsimp only))))); all_goals k_steps)))
      rename_i va1 tk8 hm1
      have fre : ∀ J oJ, (J, oJ) ∈ Λ → ∀ p ∈ ex9 ++ [(aV, ratO (cq * c) r1 r2), (aK, keyO (kq.1 + k.1) (kq.2.1 + k.2.1) (kq.2.2 + k.2.2) s1 s2 s3)], p.1 ≠ J := by
        intro J oJ hJ p hp
        rcases List.mem_append.mp hp with hp | hp
        · exact fun e => (l9 p hp).2.2 (J, oJ) (.tail _ (.tail _ hJ)) e.symm
        · rcases List.mem_cons.mp hp with rfl | hp
          · exact fun e => Nat.lt_irrefl _ (e ▸ lV (J, oJ) (.tail _ (.tail _ hJ)))
          · rw [List.mem_singleton.mp hp]
            exact fun e => lK (J, oJ) (.tail _ hJ) e.symm
      obtain ⟨exn, hexn⟩ : ∃ exn, exn = ex9 ++ [(aV, ratO (cq * c) r1 r2), (aK, keyO (kq.1 + k.1) (kq.2.1 + k.2.1) (kq.2.2 + k.2.2) s1 s2 s3)] := ⟨_, rfl⟩
      rw [← hexn] at fre
      have cls9 : ∀ p ∈ exn, p.2.cls = .type "tuple" := by
        intro p hp
        rw [hexn] at hp
        rcases List.mem_append.mp hp with hp | hp
        · exact (l9 p hp).2.1
        · rcases List.mem_cons.mp hp with rfl | hp
          · rfl
          · rw [List.mem_singleton.mp hp]
      have nD9 : ∀ p ∈ exn, p.1 ≠ D := by
        intro p hp
        rw [hexn] at hp
        rcases List.mem_append.mp hp with hp | hp
        · exact (l9 p hp).1
        · rcases List.mem_cons.mp hp with rfl | hp
          · exact fun e => Nat.lt_irrefl _ (e ▸ lV (D, o1) (.tail _ (.head _)))
          · rw [List.mem_singleton.mp hp]
            exact fun e => lK (D, o1) (.head _) e.symm
      have e9 : ex9 ++ ((aV, ratO (cq * c) r1 r2) :: (aK, keyO (kq.1 + k.1) (kq.2.1 + k.2.1) (kq.2.2 + k.2.2) s1 s2 s3) :: Λ) = exn ++ Λ := by rw [hexn, List.append_assoc]; rfl
      rw [e9] at P9 N9
      obtain ⟨oI, hoI⟩ := hoI
      obtain ⟨oI2, hoI2⟩ := hoI2
      have jI : (I, oI) ∈ Λ := by rw [hΛ]; exact List.mem_append_right _ (List.mem_append_left _ hoI)
      have jI2 : (I2, oI2) ∈ Λ := by rw [hΛ]; exact List.mem_append_left _ hoI2
      refine hQQ _ _ ⟨rfl, _, _, _, own ++ ((D, o9) :: ((exn ++ ex1) ++ news)), rfl, F9, fun p hp => N9 p ?_, fun p hp => ?_, ⟨_, o9, exn ++ ex1, _, rfl, rfl, ⟨P9.mono fun p hp hc9 => ?_, fun p hp => ?_⟩, fun f => ?_, ?_, ?_, fun p hp => ?_⟩⟩
      · rw [hΛ]
        simp only [List.mem_cons, List.mem_append] at hp ⊢
        rcases hp with h | h | h | (h | h) | h
        · exact .inr (.inr (.inl h))
        · exact .inr (.inr (.inr (.inl h)))
        · exact .inl h
        · exact .inr (.inl h)
        · exact .inr (.inr (.inr (.inr (.inl h))))
        · exact .inr (.inr (.inr (.inr (.inr h))))
      · simp only [List.mem_cons, List.mem_append] at hp
        rcases hp with h | h | (h | h) | h
        · exact hnI21 p (List.mem_append_left _ h)
        · rw [h]; exact hnI21 (D, o1) (List.mem_append_right _ (.head _))
        · exact fre I2 oI2 jI2 p h
        · exact hnI21 p (List.mem_append_right _ (.tail _ (List.mem_append_left _ h)))
        · exact hnI21 p (List.mem_append_right _ (.tail _ (List.mem_append_right _ h)))
      · rw [hΛ] at hp
        simp only [List.mem_append] at hp ⊢
        rcases hp with h | h | h | h | h
        · exact .inl (.inl h)
        · rcases hown2 p h with ⟨_, e⟩ | e
          · exact absurd hc9 e
          · rw [e]; exact .inr ha
        · rcases hown p h with ⟨_, e⟩ | e
          · exact absurd hc9 e
          · rw [e]; exact .inr hb
        · exact .inl (.inr h)
        · exact .inr h
      · rcases List.mem_append.mp hp with h | h
        · exact ⟨nD9 p h, cls9 p h, fun q hq e => fre q.1 q.2 (sN q hq) p h e.symm⟩
        · exact NP1.new p h
      · rw [ev_addT pL.nodup, hev1, ev_take hj, Int.mul_add, Int.mul_comm cq c, Int.mul_assoc, Int.add_assoc]
      · have e1 := nrm_addT (k := addM kq k) (c := cq * c) pL.nodup
        rw [Int.natAbs_mul, Nat.mul_comm] at e1
        rw [hjp, Nat.mul_add]
        omega
      · have e1 := len_addT (l := l1) (k := addM kq k) (c := cq * c)
        omega
      · rcases List.mem_append.mp hp with h | h
        · exact fre I oI jI p h
        · exact hI1 p h

end
-- part TM
open Builtin
theorem tm_nofill : fillsNumberSlot (.type "tuple") "mul" = pure false :=
  PySem.fillsNumberSlot_seq (id := "tuple.__mul__") (r := some (.builtin "tuple.__rmul__")) F.slot_tuple_mul.lookup (by decide +kernel) F.slot_tuple_rmul.lookup (by decide +kernel)
theorem tm_repeat : seqRepeat? (.type "tuple") = pure (some (.builtin "tuple.__mul__")) := by
  unfold seqRepeat?
  rw [PySem.seqSlot_of (T := "tuple") (name := "__mul__") (id := "tuple.__mul__") F.slot_tuple_mul.lookup (by decide +kernel), PySem.seqSlot_of (T := "tuple") (name := "__rmul__") (id := "tuple.__rmul__") F.slot_tuple_rmul.lookup (by decide +kernel)]
  rfl
theorem tm_mul (l : Addr) (v : Value) (u : Tok) :
    Meets (Builtin.«tuple.__mul__» ⟨[.ref l, .int 3 u], []⟩) (fun _ R s => s.heap.get? l = some { cls := .type "tuple", data := .seq #[v] } ∧ R (.ok (.ret (Value.ref s.heap.objs.size))) { s with heap := s.heap.push { cls := Value.type "tuple", data := Data.seq #[v, v, v] }, toks := s.toks }) :=
  .of_wp fun prog w A R s h => by
    obtain ⟨hp, g, d, tk, os⟩ := s; obtain ⟨hl, h⟩ := h
    wp_walk; exact ⟨_, rfl, h⟩
theorem tm_int_rmul (a : Int) (t : Tok) (l : Addr) (items : Array Value) (n : Nat) (d : Option Addr) (sl : Array (Option Value)) :
    Meets (Builtin.«int.__rmul__» ⟨[.int a t, .ref l], []⟩) (fun _ R s => s.heap.get? l = some { cls := .type "tuple", dict := d, data := .seq items n, slots := sl } ∧ R (.ok (.ret Value.notImplemented)) s) :=
  .of_wp fun prog w A R s h => by obtain ⟨hp, g, d, tk, os⟩ := s; obtain ⟨hl, h⟩ := h; wp_walk; exact ⟨_, rfl, h⟩
section
variable {prog : Program} {w : World} {A : Around} {E : Value → Shared → Prop} {s : Shared} {h₀ : Heap} {L l : Addr} {m : Str → Option Value} {news : List (Addr × Obj)}
theorem tuple_thrice {v : Value} {u : Tok} {Q : Value → Shared → Prop} (Fm : Fr h₀ L s.heap m) (N : News h₀ L s.heap news) (hl : (l, ({ cls := .type "tuple", data := .seq #[v] } : Obj)) ∈ news)
    (h : ∀ D h', Fr h₀ L h' m → News h₀ L h' ((D, ({ cls := .type "tuple", data := .seq #[v, v, v] } : Obj)) :: news) → (∀ p ∈ news, p.1 < D) → Q (.ref D) { s with heap := h' }) : wpAny (model prog w) A (binaryOp .Mult (.ref l) (.int 3 u)) Q E s := by
  have ho := (N _ hl).1
  refine wpAny_binaryOp_repeat_ref (T := "tuple") (U := "int") (by decide) ⟨_, ho, rfl⟩ (fun s' => typeIs_int s' 3 u) tm_nofill F.fills_int_mul F.slot_int_rmul tm_repeat F.slot_int_index.lookup
    (call_meets F.slot_int_rmul (typeIs_int s 3 u) F.entry_int_rmul (F.args_int_rmul_2 _ _) (tm_int_rmul 3 u l _ 0 none #[])
      ⟨ho, rfl, ⟨_, ho, rfl⟩, call_meets F.slot_tuple_mul ⟨_, ho, rfl⟩ F.entry_tuple_mul (F.args_tuple_mul_2 _ _)
        (tm_mul l v u)
        ⟨ho, h _ _ (Fm.push _) (News.push Fm N _) (fun p hp => Heap.lt_size (N p hp).1)⟩⟩)
end

-- part M2
section
theorem offM2 : True := by
  w_top off
  trivial
section
variable {w : World} {A : Around} {E : Value → Shared → Prop} {s : Shared} {g h₀ : Heap} {L d ka : Addr} {m : Str → Option Value} {news : List (Addr × Obj)} {o : Obj} {l : PL} {k : List Int} {c : Int}
theorem tupStores1 {v : Value} {gf : Obj → List (Addr × Obj)} {Q : Value → Shared → Prop} (F : Fr g L s.heap m) (N : News g L s.heap news) (U : UpdF d o news gf) (D : Obj.IsDictOf (intKind Pg w) o []) (hk : KeyAt w s.heap k ka) (hu : A.units < cLine)
    (h : ∀ h' o' tk, Fr g L h' m → News g L h' (gf o') → DObj w o' [(k, ka, v)] → Q (.ref d) { s with heap := h', toks := tk }) :
    TupStores Pg w A E d Q [(.ref ka, v)] s := by
  obtain ⟨pre, post, hl, hg, a, b⟩ := U.split
  have hmem : (d, o) ∈ news := by rw [hl]; exact List.mem_append_right _ (.head _)
  have hm := N (d, o) hmem
  unfold TupStores storeAll
  rw [List.forIn_cons]
  refine wpAny_bind (wpAny_bind (wpAny_dictSet_heap (hsz := Nat.zero_le _) (knd := IK w) hu hk ((DObj.ofInt D).at hm.1 (fun x hx => nomatch hx)) fun h' hm' hs => wpAny_pure ?_))
  simp only []
  rw [List.forIn_nil]
  obtain ⟨o', ho', D'⟩ := DObj.of hm'
  exact wpAny_pure (h h' o' _ (F.change hs hm.2.1 hm.2.2) (hg o' ▸ (show News g L s.heap (pre ++ (d, o) :: post) from hl ▸ N).setIn a b hs ho') D')
theorem Dict_any_made {env : Env} {keys : List (Option Expr)} {values : List Expr} {pos : Pos} {Q : Value → Shared → Prop} (F : Fr h₀ L s.heap m) (N : News h₀ L s.heap news)
    (hbig : sysModules < h₀.objs.size) (hall : keys.all (·.isSome) = true) (hl : keys.length = values.length) (h0 : keys ≠ []) (hlen : keys.length ≤ 15)
    (h : ∀ D o hp, Fr h₀ L hp m → News h₀ L hp ((D, o) :: news) → (D == sysModules) = false → (∀ p ∈ news, p.1 < D) → o.IsDictOf (intKind Pg w) [] →
      wpAny (model Pg w) A (evalPairs (pairTrees keys values env pos)) (TupStores Pg w A E D Q) E { s with heap := hp }) :
    wpAny (model Pg w) A (eval (.Dict keys values pos) env) Q E s := by
  have z : ({ cls := .type "dict", data := .dict #[] } : Obj).IsDictOf (intKind Pg w) [] := by
    obtain ⟨o, ho, hd⟩ := Heap.dictOf_iff.mp (Heap.DictOf.new (knd := intKind Pg w) s.heap)
    rw [Heap.get?_push_size _ rfl] at ho
    exact (Option.some.inj ho) ▸ hd
  exact wpAny_Dict_any hall hl h0 hlen (h s.heap.objs.size { cls := .type "dict", data := .dict #[] } _ (F.push _) (News.push F N _ rfl) (F.notModules hbig) (fun p hp => Heap.lt_size (N p hp).1) z)
theorem r1_key {h : Heap} {t t' : Tok} {n : Nat} (X : (Mine.hd.heap_1 w.params).In h) (e : (Mine.hd.heap_1 w.params).lookup 48 = some { cls := .type "tuple", data := .seq #[.int 1 t, .int 1 t'] n }) : KeyAt w h [1, 1] 48 :=
  ⟨_, _, _, X _ _ e, rfl, rfl, .cons (intKind_is _ _ _ _) (.cons (intKind_is _ _ _ _) .nil)⟩
end
/-- the dict {k: R1} -/
theorem polyW_one {w : World} {news : List (Addr × Obj)} {o : Obj} {ka : Addr} {x y z : Int} {t1 t2 t3 : Tok} (D : DObj w o [([x, y, z], ka, .ref 48)]) (hk : (ka, keyO x y z t1 t2 t3) ∈ news) : PolyW w news o [((x, y, z), 1)] :=
  ⟨_, D, .cons ⟨rfl, ⟨t1, t2, t3, hk⟩, 48, rfl, .inr ⟨rfl, rfl⟩⟩ .nil⟩
noncomputable def RetOne (w : World) (k : Mon) (news : List (Addr × Obj)) (n' : List (Addr × Obj)) (r : Value) : Prop :=
  ∃ D o, r = .ref D ∧ n' = (D, o) :: news ∧ PolyW w news o [(k, 1)] ∧ (D == sysModules) = false ∧ ∀ p ∈ news, p.1 < D

local macro_rules | `(tactic| walk_at "compareOp Eq ref ref") => `(tactic| refine Stop.out ?_)
local macro_rules | `(tactic| walk_at "eval Dict") => `(tactic| refine Stop.out ?_)
local macro_rules | `(tactic| walk_at "TupStores") => `(tactic| refine Stop.out ?_)
set_option maxHeartbeats 1000000 in
theorem mvterm_tells (w : World) (ka : Addr) (x y z : Int) (t1 t2 t3 : Tok) (news : List (Addr × Obj)) (hk : (ka, keyO x y z t1 t2 t3) ∈ news) :
    Tells w 2 76 [.ref ka, .ref 48] news (RetOne w (x, y, z) news) := by
  unfold Tells
  intros; rename_i hret
  refine wpAny_call ?_
  k_dflt cell_enter
  k_steps
  iterate 10 (all_goals (try (refine Stop.mk ?_; (first
      | ((k_here; k_dflt (
          (rename Fr _ _ _ _ => fF'); (rename News _ _ _ _ => nN')
          (refine' tupStores1 fF' nN' ?U ?D ?hk ?hu ?_; (case U => k_updF); (case D => k_asm); (case hk => exact keyAt_of (nN' (_, _) (by (repeat (first | assumption | exact List.mem_cons_self | refine List.mem_cons_of_mem _ ?_)))).1); (case hu => ktr_units); intro h' o' tk' F' N' D'; (try dsimp only at N')))))
      | ((k_here; k_dflt (
          (with_reducible show wpAny _ _ (eval (Expr.Dict _ _ _) _) _ _ _)
          (refine' Dict_any_made ?k1 ?k2 ?k3 ?k4 ?k5 ?k6 ?k7 ?_; (case k1 => k_asm); (case k2 => k_asm); (case k3 => exact big_of (by k_asm) (by k_is)); (case k4 => exact rfl); (case k5 => exact rfl); (case k6 => exact List.cons_ne_nil _ _); (case k7 => decide); intro D' o' h' F' N' lo' lt' di'))))
      | ((k_here; k_dflt (
          (rename Fr _ _ _ _ => fF')
          (refine' eq_tuples (w := _) ?hu ?hx ?hy ?hr ?_; (case hx => exact r1_key (Frag.In.keeps (by k_asm) fF'.keep) (by k_is)); (case hy => exact r0_key (Frag.In.keeps (by k_asm) fF'.keep) (by k_is)); (case hu => ktr_units); (case hr => exact rfl)))))); all_goals k_steps)))
  (rename Fr _ _ _ _ => kF'); (rename News _ _ _ _ => kN'); (rename DObj _ _ _ => dD')
  exact hret _ _ _ _ (by k_asm) kN' ⟨_, _, rfl, rfl, polyW_one dD' hk, by assumption, by assumption⟩

/-- a new dict D bears l; what it bears is new -/
structure NewW (w : World) (D : Addr) (news ex : List (Addr × Obj)) (o : Obj) (l : PL) : Prop where
  poly : PolyW w (ex ++ news) o l
  new : ∀ p ∈ ex, p.1 ≠ D ∧ p.2.cls = .type "tuple" ∧ ∀ q ∈ news, q.1 ≠ p.1
  lo : (D == sysModules) = false
  ne : ∀ p ∈ news, p.1 ≠ D
noncomputable def RetW (w : World) (P : PL → Prop) (news : List (Addr × Obj)) (n' : List (Addr × Obj)) (r : Value) : Prop :=
  ∃ D o ex l, r = .ref D ∧ n' = (D, o) :: (ex ++ news) ∧ NewW w D news ex o l ∧ P l
theorem new2 {D D1 D2 : Addr} {o1 o2 : Obj} {news : List (Addr × Obj)} (h1 : ∀ p ∈ news, p.1 < D1) (h2 : ∀ p ∈ (D1, o1) :: news, p.1 < D2) (h3 : ∀ p ∈ (D2, o2) :: (D1, o1) :: news, p.1 < D) (c1 : o1.cls = .type "tuple") (c2 : o2.cls = .type "tuple") :
    ∀ p ∈ [(D2, o2), (D1, o1)], p.1 ≠ D ∧ p.2.cls = .type "tuple" ∧ ∀ q ∈ news, q.1 ≠ p.1 := fun p hp => by
  rcases List.mem_cons.mp hp with rfl | hp
  · exact ⟨fun e => Nat.lt_irrefl _ (e ▸ h3 (D2, o2) (.head _)), c2, fun q hq e => Nat.lt_irrefl _ (e ▸ h2 q (.tail _ hq))⟩
  · rw [List.mem_singleton.mp hp]
    exact ⟨fun e => Nat.lt_irrefl _ (e ▸ h3 (D1, o1) (.tail _ (.head _))), c1, fun q hq e => Nat.lt_irrefl _ (e ▸ h1 q hq)⟩
theorem lt_ne {D : Addr} {news : List (Addr × Obj)} (h : ∀ p ∈ news, p.1 < D) : ∀ p ∈ news, p.1 ≠ D := fun p hp e => Nat.lt_irrefl _ (e ▸ h p hp)
local macro_rules | `(tactic| walk_at "call ref") => `(tactic| refine Stop.out ?_)
local macro_rules | `(tactic| walk_at "binaryOp Mult ref int") => `(tactic| refine Stop.out ?_)
set_option maxHeartbeats 1000000 in
theorem mvnumber_tells (w : World) (t : Tok) (news : List (Addr × Obj)) :
    Tells w 3 83 [.ref 48, .int 3 t] news (RetW w (fun l => l = [((0, 0, 0), 1)]) news) := by
  unfold Tells
  intros; rename_i hret
  refine wpAny_call ?_
  k_dflt cell_enter
  k_steps
  iterate 10 (all_goals (try (refine Stop.mk ?_; (first
      | ((k_here; k_dflt (
          (with_reducible show wpAny _ _ (binaryOp Operator.Mult (Value.ref _) (Value.int 3 _)) _ _ _)
          (refine' tuple_thrice ?F ?N ?l ?_; (case F => k_asm); (case N => k_asm); (case l => exact List.mem_cons_self); intro D2 h2 F2 N2 l2))))
      | ((k_here; k_dflt (
          (with_reducible show wpAny _ _ (call (Value.ref 76) _) _ _ _)
          (refine' Tells.use ?k1 ?k2 ?k3 ?k4 ?k5 ?kK (mvterm_tells _ _ _ _ _ _ _ _ _ ?ha) ?kd ?ku ?_)
          (case k1 => k_asm); (case k2 => k_asm); (case k3 => k_asm); (case k4 => k_asm); (case k5 => k_asm); (case kK => first | exact rfl | assumption)
          (case ha => exact List.mem_cons_self); (case kd => ktr_room); (case ku => ktr_units)
          intro r' n' h3 tk3 F3 N9 hr
          obtain ⟨a9, o9, e1, e2, P9, lo9, l9⟩ := hr; subst e1; subst e2; (try dsimp only))))
      | ((k_here; k_dflt (
          (rename Fr _ _ _ _ => fF'); (rename News _ _ _ _ => nN')
          (refine' tupStores1 fF' nN' ?U ?D ?hk ?hu ?_; (case U => k_updF); (case D => k_asm); (case hk => exact keyAt_of (nN' (_, _) (by (repeat (first | assumption | exact List.mem_cons_self | refine List.mem_cons_of_mem _ ?_)))).1); (case hu => ktr_units); intro h' o' tk' F' N' D'; (try dsimp only at N')))))
      | ((k_here; k_dflt (
          (with_reducible show wpAny _ _ (eval (Expr.Dict _ _ _) _) _ _ _)
          (refine' Dict_any_made ?k1 ?k2 ?k3 ?k4 ?k5 ?k6 ?k7 ?_; (case k1 => k_asm); (case k2 => k_asm); (case k3 => exact big_of (by k_asm) (by k_is)); (case k4 => exact rfl); (case k5 => exact rfl); (case k6 => exact List.cons_ne_nil _ _); (case k7 => decide); intro D' o' h' F' N' lo' lt' di'))))
      | ((k_here; k_dflt (
          (rename Fr _ _ _ _ => fF')
          (refine' eq_tuples (w := _) ?hu ?hx ?hy ?hr ?_; (case hx => exact r1_key (Frag.In.keeps (by k_asm) fF'.keep) (by k_is)); (case hy => exact r0_key (Frag.In.keeps (by k_asm) fF'.keep) (by k_is)); (case hu => ktr_units); (case hr => exact rfl)))))); all_goals k_steps)))
  rename_i l1 kF kN kT kX
  exact hret _ _ _ _ kF kN ⟨a9, o9, [(D2, _), (_, _)], _, rfl, rfl, ⟨P9, new2 l1 l2 l9 rfl rfl, lo9, fun p hp => lt_ne l9 p (.tail _ (.tail _ hp))⟩, rfl⟩


end
-- part M3
section
theorem offM3 : True := by
  w_top off
  trivial
structure Small (l : PL) (n k : Nat) : Prop where
  nrm : nrm l ≤ n
  len : l.length ≤ k
theorem Small.le {l : PL} {n k n' k' : Nat} (s : Small l n k) (h : n ≤ n') (h' : k ≤ k') : Small l n' k' := ⟨Nat.le_trans s.nrm h, Nat.le_trans s.len h'⟩
noncomputable def EvMul (l la lb : PL) : Prop := ∀ f, ev l f = ev lb fun p => ev la fun q => f (addM q p)
noncomputable def RetMulS (w : World) (la lb : PL) (n k : Nat) (news : List (Addr × Obj)) (n' : List (Addr × Obj)) (r : Value) : Prop :=
  ∃ D o ex l, r = .ref D ∧ n' = (D, o) :: (ex ++ news) ∧ NewW w D news ex o l ∧ PolyAt w (ex ++ news) o l ∧ EvMul l la lb ∧ Small l n k
theorem Tells.mono {w : World} {d : Nat} {f : Addr} {args : List Value} {news : List (Addr × Obj)} {R R' : List (Addr × Obj) → Value → Prop} (h : Tells w d f args news R) (i : ∀ n r, R n r → R' n r) : Tells w d f args news R' := by
  intro loose mean mg mb dp un gd cn cs a ccd cl outer A₀ base h₀ L m s Q E B F X N T hk hd hu hret
  exact h loose mean mg mb dp un gd cn cs a ccd cl outer A₀ base h₀ L m s Q E B F X N T hk hd hu fun r n h' tk F' N' hr => hret r n h' tk F' N' (i n r hr)
theorem mvmul_small (w : World) (pa pb : Addr) (oa ob : Obj) (la lb : PL) (na ka nb kb : Nat) (news : List (Addr × Obj)) (ha : (pa, oa) ∈ news) (hb : (pb, ob) ∈ news) (hPa : PolyW w news oa la) (hPb : PolyW w news ob lb)
    (sa : Small la na ka) (sb : Small lb nb kb) (hla : (pa == sysModules) = false) (hlb : (pb == sysModules) = false) (h1 : na < 4611686018427387904) (h2 : nb < 4611686018427387904) (h3 : na * nb < 4611686018427387904) (h4 : ka * kb ≤ sizeLine) :
    Tells w 5 97 [.ref pa, .ref pb] news (RetMulS w la lb (na * nb) (ka * kb) news) :=
  (mvmul_tells w pa pb oa ob la lb news ha hb hPa hPb hla hlb (Nat.lt_of_le_of_lt sa.nrm h1) (Nat.lt_of_le_of_lt sb.nrm h2) (mul_bound sa.nrm sb.nrm h3) (Nat.le_trans (Nat.mul_le_mul sa.len sb.len) h4)).mono
    fun n r ⟨D, o, ex, l, e1, e2, NP, hlo, hne, hev, hn, hl⟩ => ⟨D, o, ex, l, e1, e2, ⟨NP.poly.weak, NP.new, hlo, hne⟩, NP.poly, hev, ⟨Nat.le_trans hn (Nat.mul_le_mul sa.nrm sb.nrm), Nat.le_trans hl (Nat.mul_le_mul sa.len sb.len)⟩⟩
theorem NewW.over {w : World} {D2 D : Addr} {o o2 : Obj} {ex ex2 news : List (Addr × Obj)} {l l2 : PL} (h2 : NewW w D2 ((D, o) :: (ex ++ news)) ex2 o2 l2) (h : NewW w D news ex o l) : NewW w D2 news (ex2 ++ ex) o2 l2 where
  poly := h2.poly.mono fun p hp hc => by
    simp only [List.mem_append, List.mem_cons] at hp ⊢
    rcases hp with hp | hp | hp | hp
    · exact .inl (.inl hp)
    · have := h.poly.cls
      rw [hp] at hc
      exact absurd (this.symm.trans hc) (by decide)
    · exact .inl (.inr hp)
    · exact .inr hp
  new := fun p hp => by
    rcases List.mem_append.mp hp with hp | hp
    · have z := h2.new p hp
      exact ⟨z.1, z.2.1, fun q hq => z.2.2 q (.tail _ (List.mem_append_right _ hq))⟩
    · have z := h.new p hp
      exact ⟨h2.ne p (.tail _ (List.mem_append_left _ hp)), z.2.1, z.2.2⟩
  lo := h2.lo
  ne := fun p hp => h2.ne p (.tail _ (List.mem_append_right _ hp))
theorem NewW.skip {w : World} {D2 D' : Addr} {o' o2 : Obj} {ex2 news : List (Addr × Obj)} {l2 : PL} (h2 : NewW w D2 ((D', o') :: news) ex2 o2 l2) (hc : o'.cls = .type "tuple") (hl : ∀ p ∈ news, p.1 < D') : NewW w D2 news (ex2 ++ [(D', o')]) o2 l2 where
  poly := h2.poly.mono fun p hp hc => by rw [List.append_assoc]; exact hp
  new := fun p hp => by
    rcases List.mem_append.mp hp with hp | hp
    · have z := h2.new p hp
      exact ⟨z.1, z.2.1, fun q hq => z.2.2 q (.tail _ hq)⟩
    · rw [List.mem_singleton.mp hp]
      exact ⟨h2.ne _ (.head _), hc, fun q hq e => Nat.lt_irrefl _ (e ▸ hl q hq)⟩
  lo := h2.lo
  ne := fun p hp => h2.ne p (.tail _ hp)
theorem allLt_all {D : Addr} {l : List (Addr × Obj)} (h : AllLt D l) : ∀ p ∈ l, p.1 < D := by
  induction l with
  | nil => intro p hp; cases hp
  | cons q r ih =>
    intro p hp
    rcases List.mem_cons.mp hp with e | hp
    · rw [e]; exact h.1
    · exact ih h.2 p hp
theorem allLt_cons {D D' : Addr} {o : Obj} {l : List (Addr × Obj)} (h : D < D' ∧ AllLt D' l) : ∀ p ∈ (D, o) :: l, p.1 < D' := fun p hp => by
  rcases List.mem_cons.mp hp with rfl | hp
  · exact h.1
  · exact allLt_all h.2 p hp
theorem addM_zero (p : Mon) : addM (0, 0, 0) p = p := by simp [addM]
theorem ev_one (f : Mon → Int) : ev [((0, 0, 0), 1)] f = f (0, 0, 0) := by simp [ev]
noncomputable def powEv (la : PL) : Nat → (Mon → Int) → Int
  | 0, f => f (0, 0, 0)
  | n + 1, f => ev la fun p => powEv la n fun q => f (addM q p)
theorem pow1_ev {l la : PL} (h : EvMul l [((0, 0, 0), 1)] la) (f : Mon → Int) : ev l f = powEv la 1 f := by
  rw [h]; simp only [ev_one, powEv]
theorem pow2_ev {l l1 la : PL} (h : EvMul l [((0, 0, 0), 1)] l1) (h1 : EvMul l1 la la) (f : Mon → Int) : ev l f = powEv la 2 f := by
  rw [h, h1]; simp only [ev_one, powEv, addM_zero]
noncomputable def IsPow (la : PL) (many : Nat) (l : PL) : Prop := (∀ f, ev l f = powEv la many f) ∧ Small l 36 9

local macro_rules | `(tactic| walk_at "call ref") => `(tactic| refine Stop.out ?_)
theorem mvpower0 (w : World) (pa : Addr) (oa : Obj) (la : PL) (t t' : Tok) (news : List (Addr × Obj)) (ha : (pa, oa) ∈ news) (hPa : PolyW w news oa la) (hla : (pa == sysModules) = false) (sa : Small la 6 3) :
    Tells w 6 104 [.ref pa, .int 0 t, .int 3 t'] news (RetW w (IsPow la 0) news) := by
  unfold Tells
  intros; rename_i hret
  refine wpAny_call ?_
  k_dflt cell_enter
  k_steps
  iterate 10 (all_goals (try (refine Stop.mk ?_; (first
      | ((k_here; k_dflt (
          (with_reducible show wpAny _ _ (call (Value.ref 97) _) _ _ _)
          (refine' Tells.use ?k1 ?k2 ?k3 ?k4 ?k5 ?kK (mvmul_small _ _ _ _ _ _ _ _ _ _ _ _ ?ha ?hb ?hPa ?hPb ?sa ?sb ?la ?lb ?h1 ?h2 ?h3 ?h4) ?kd ?ku ?_)
          (case k1 => k_asm); (case k2 => k_asm); (case k3 => k_asm); (case k4 => k_asm); (case k5 => k_asm); (case kK => first | exact rfl | assumption)
          (case ha => (repeat (first | assumption | exact List.mem_cons_self | refine List.mem_cons_of_mem _ ?_ | refine List.mem_append_right _ ?_)))
          (case hb => (repeat (first | assumption | exact List.mem_cons_self | refine List.mem_cons_of_mem _ ?_ | refine List.mem_append_right _ ?_)))
          (case hPa => exact PolyW.mono (by assumption) (fun p hp _ => by (repeat (first | assumption | refine List.mem_cons_of_mem _ ?_ | refine List.mem_append_right _ ?_))))
          (case hPb => exact PolyW.mono (by assumption) (fun p hp _ => by (repeat (first | assumption | refine List.mem_cons_of_mem _ ?_ | refine List.mem_append_right _ ?_))))
          (case sa => assumption); (case sb => assumption); (case la => assumption); (case lb => assumption); (case h1 => decide); (case h2 => decide); (case h3 => decide); (case h4 => rw [sizeLine_eq]; decide)
          (case kd => ktr_room); (case ku => ktr_units)
          intro r' n' h' tk' F' N' hr
          obtain ⟨a9, o9, ex9, l9, e1, e2, P9, PA9, E9, s9⟩ := hr; subst e1; subst e2; (try dsimp only)
          have w9 := P9.poly; have lo9 := P9.lo)))
      | ((k_here; k_dflt (
          (with_reducible show wpAny _ _ (call (Value.ref 83) _) _ _ _)
          (refine' Tells.use ?k1 ?k2 ?k3 ?k4 ?k5 ?kK (mvnumber_tells _ _ _) ?kd ?ku ?_)
          (case k1 => k_asm); (case k2 => k_asm); (case k3 => k_asm); (case k4 => k_asm); (case k5 => k_asm); (case kK => first | exact rfl | assumption)
          (case kd => ktr_room); (case ku => ktr_units)
          intro r' n' h' tk' F' N' hr
          obtain ⟨a9, o9, ex9, l9, e1, e2, P9, e3⟩ := hr; subst e1; subst e2; subst e3; (try dsimp only)
          have w9 := P9.poly; have lo9 := P9.lo; have s9 : Small [((0, 0, 0), 1)] 1 1 := ⟨Nat.le_refl _, Nat.le_refl _⟩)))); all_goals k_steps)))
  (rename NewW _ _ _ _ _ _ => P1); (rename Fr _ _ _ _ => kF); (rename News _ _ _ _ => kN)
  refine hret _ _ _ _ kF (cb_drop kN ?_) ⟨_, _, _, _, rfl, rfl, P1, fun f => ev_one f, ⟨by decide, by decide⟩⟩
  simp +contextual
set_option maxHeartbeats 1000000 in
theorem mvpower1 (w : World) (pa : Addr) (oa : Obj) (la : PL) (t t' : Tok) (news : List (Addr × Obj)) (ha : (pa, oa) ∈ news) (hPa : PolyW w news oa la) (hla : (pa == sysModules) = false) (sa : Small la 6 3) :
    Tells w 6 104 [.ref pa, .int 1 t, .int 3 t'] news (RetW w (IsPow la 1) news) := by
  unfold Tells
  intros; rename_i hret
  refine wpAny_call ?_
  k_dflt cell_enter
  k_steps
  iterate 10 (all_goals (try (refine Stop.mk ?_; (first
      | ((k_here; k_dflt (
          (with_reducible show wpAny _ _ (call (Value.ref 97) _) _ _ _)
          (refine' Tells.use ?k1 ?k2 ?k3 ?k4 ?k5 ?kK (mvmul_small _ _ _ _ _ _ _ _ _ _ _ _ ?ha ?hb ?hPa ?hPb ?sa ?sb ?la ?lb ?h1 ?h2 ?h3 ?h4) ?kd ?ku ?_)
          (case k1 => k_asm); (case k2 => k_asm); (case k3 => k_asm); (case k4 => k_asm); (case k5 => k_asm); (case kK => first | exact rfl | assumption)
          (case ha => (repeat (first | assumption | exact List.mem_cons_self | refine List.mem_cons_of_mem _ ?_ | refine List.mem_append_right _ ?_)))
          (case hb => (repeat (first | assumption | exact List.mem_cons_self | refine List.mem_cons_of_mem _ ?_ | refine List.mem_append_right _ ?_)))
          (case hPa => exact PolyW.mono (by assumption) (fun p hp _ => by (repeat (first | assumption | refine List.mem_cons_of_mem _ ?_ | refine List.mem_append_right _ ?_))))
          (case hPb => exact PolyW.mono (by assumption) (fun p hp _ => by (repeat (first | assumption | refine List.mem_cons_of_mem _ ?_ | refine List.mem_append_right _ ?_))))
          (case sa => assumption); (case sb => assumption); (case la => assumption); (case lb => assumption); (case h1 => decide); (case h2 => decide); (case h3 => decide); (case h4 => rw [sizeLine_eq]; decide)
          (case kd => ktr_room); (case ku => ktr_units)
          intro r' n' h' tk' F' N' hr
          obtain ⟨a9, o9, ex9, l9, e1, e2, P9, PA9, E9, s9⟩ := hr; subst e1; subst e2; (try dsimp only)
          have w9 := P9.poly; have lo9 := P9.lo)))
      | ((k_here; k_dflt (
          (with_reducible show wpAny _ _ (call (Value.ref 83) _) _ _ _)
          (refine' Tells.use ?k1 ?k2 ?k3 ?k4 ?k5 ?kK (mvnumber_tells _ _ _) ?kd ?ku ?_)
          (case k1 => k_asm); (case k2 => k_asm); (case k3 => k_asm); (case k4 => k_asm); (case k5 => k_asm); (case kK => first | exact rfl | assumption)
          (case kd => ktr_room); (case ku => ktr_units)
          intro r' n' h' tk' F' N' hr
          obtain ⟨a9, o9, ex9, l9, e1, e2, P9, e3⟩ := hr; subst e1; subst e2; subst e3; (try dsimp only)
          have w9 := P9.poly; have lo9 := P9.lo; have s9 : Small [((0, 0, 0), 1)] 1 1 := ⟨Nat.le_refl _, Nat.le_refl _⟩)))); all_goals k_steps)))
  (rename NewW _ _ _ _ _ _ => P2); (rename NewW _ _ _ _ _ [((0, 0, 0), 1)] => P1); (rename _ ∧ AllLt _ _ => l1); (rename EvMul _ _ _ => E1); (rename Small _ _ _ => s1); (rename Fr _ _ _ _ => kF); (rename News _ _ _ _ => kN)
  refine hret _ _ _ _ kF (cb_drop kN ?_) ⟨_, _, _, _, rfl, rfl, (P2.skip rfl (allLt_cons l1)).over P1, pow1_ev E1, s1.le (by decide) (by decide)⟩
  intro p hp
  simp only [List.mem_cons, List.mem_append, List.mem_nil_iff, or_false, or_assoc] at hp ⊢
  rcases hp with h | h | h | h | h <;> simp only [h, true_or, or_true]
set_option maxHeartbeats 1000000 in
theorem mvpower2 (w : World) (pa : Addr) (oa : Obj) (la : PL) (t t' : Tok) (news : List (Addr × Obj)) (ha : (pa, oa) ∈ news) (hPa : PolyW w news oa la) (hla : (pa == sysModules) = false) (sa : Small la 6 3) :
    Tells w 6 104 [.ref pa, .int 2 t, .int 3 t'] news (RetW w (IsPow la 2) news) := by
  unfold Tells
  intros; rename_i hret
  refine wpAny_call ?_
  k_dflt cell_enter
  k_steps
  iterate 10 (all_goals (try (refine Stop.mk ?_; (first
      | ((k_here; k_dflt (
          (with_reducible show wpAny _ _ (call (Value.ref 97) _) _ _ _)
          (refine' Tells.use ?k1 ?k2 ?k3 ?k4 ?k5 ?kK (mvmul_small _ _ _ _ _ _ _ _ _ _ _ _ ?ha ?hb ?hPa ?hPb ?sa ?sb ?la ?lb ?h1 ?h2 ?h3 ?h4) ?kd ?ku ?_)
          (case k1 => k_asm); (case k2 => k_asm); (case k3 => k_asm); (case k4 => k_asm); (case k5 => k_asm); (case kK => first | exact rfl | assumption)
          (case ha => (repeat (first | assumption | exact List.mem_cons_self | refine List.mem_cons_of_mem _ ?_ | refine List.mem_append_right _ ?_)))
          (case hb => (repeat (first | assumption | exact List.mem_cons_self | refine List.mem_cons_of_mem _ ?_ | refine List.mem_append_right _ ?_)))
          (case hPa => exact PolyW.mono (by assumption) (fun p hp _ => by (repeat (first | assumption | refine List.mem_cons_of_mem _ ?_ | refine List.mem_append_right _ ?_))))
          (case hPb => exact PolyW.mono (by assumption) (fun p hp _ => by (repeat (first | assumption | refine List.mem_cons_of_mem _ ?_ | refine List.mem_append_right _ ?_))))
          (case sa => assumption); (case sb => assumption); (case la => assumption); (case lb => assumption); (case h1 => decide); (case h2 => decide); (case h3 => decide); (case h4 => rw [sizeLine_eq]; decide)
          (case kd => ktr_room); (case ku => ktr_units)
          intro r' n' h' tk' F' N' hr
          obtain ⟨a9, o9, ex9, l9, e1, e2, P9, PA9, E9, s9⟩ := hr; subst e1; subst e2; (try dsimp only)
          have w9 := P9.poly; have lo9 := P9.lo)))
      | ((k_here; k_dflt (
          (with_reducible show wpAny _ _ (call (Value.ref 83) _) _ _ _)
          (refine' Tells.use ?k1 ?k2 ?k3 ?k4 ?k5 ?kK (mvnumber_tells _ _ _) ?kd ?ku ?_)
          (case k1 => k_asm); (case k2 => k_asm); (case k3 => k_asm); (case k4 => k_asm); (case k5 => k_asm); (case kK => first | exact rfl | assumption)
          (case kd => ktr_room); (case ku => ktr_units)
          intro r' n' h' tk' F' N' hr
          obtain ⟨a9, o9, ex9, l9, e1, e2, P9, e3⟩ := hr; subst e1; subst e2; subst e3; (try dsimp only)
          have w9 := P9.poly; have lo9 := P9.lo; have s9 : Small [((0, 0, 0), 1)] 1 1 := ⟨Nat.le_refl _, Nat.le_refl _⟩)))); all_goals k_steps)))
  (rename NewW _ _ _ _ _ _ => P3); (rename NewW _ _ _ _ _ [((0, 0, 0), 1)] => P1); (rename NewW _ _ ((_, _) :: (_, _) :: _) _ _ _ => P2); (rename _ ∧ AllLt _ _ => l1); (rename EvMul _ _ _ => E2); (rename EvMul _ la la => E1); (rename Small _ _ _ => s1); (rename Fr _ _ _ _ => kF); (rename News _ _ _ _ => kN)
  refine hret _ _ _ _ kF (cb_drop kN ?_) ⟨_, _, _, _, rfl, rfl, ((P3.over P2).skip rfl (allLt_cons l1)).over P1, pow2_ev E2 E1, s1.le (by decide) (by decide)⟩
  intro p hp
  simp only [List.mem_cons, List.mem_append, List.mem_nil_iff, or_false, or_assoc] at hp ⊢
  rcases hp with h | h | h | h | h | h <;> simp only [h, true_or, or_true]
theorem mvpower_tells (w : World) (pa : Addr) (oa : Obj) (la : PL) (n : Nat) (hn : n < 3) (t t' : Tok) (news : List (Addr × Obj)) (ha : (pa, oa) ∈ news) (hPa : PolyW w news oa la) (hla : (pa == sysModules) = false) (sa : Small la 6 3) :
    Tells w 6 104 [.ref pa, .int n t, .int 3 t'] news (RetW w (IsPow la n) news) := by
  rcases n with _ | _ | _ | n
  · exact mvpower0 w pa oa la t t' news ha hPa hla sa
  · exact mvpower1 w pa oa la t t' news ha hPa hla sa
  · exact mvpower2 w pa oa la t t' news ha hPa hla sa
  · omega

end
-- part W3
theorem offW3 : True := by
  w_top off
  trivial
theorem news_pick {g h : Heap} {L : Addr} {x : Addr × Obj} {led news : List (Addr × Obj)} (z : News g L h (led ++ news)) (hx : List.Mem x led) : News g L h (x :: news) := fun p hp => z p (by
  rcases List.mem_cons.mp hp with rfl | hp
  · exact List.mem_append_left _ hx
  · exact List.mem_append_right _ hp)
noncomputable def RetDraw (pl q : Addr) (spot many : Int) (news : List (Addr × Obj)) (n' : List (Addr × Obj)) (r : Value) : Prop :=
  ∃ v t t' k, r = .int v t ∧ n' = (pl, lstO [.ref q, .int (spot + 1) t'] k) :: news ∧ 0 ≤ v ∧ v < many
set_option maxHeartbeats 1000000 in
theorem draw_tells (w : World) (pl q : Addr) (spot many : Int) (hs : 0 ≤ spot ∧ spot < 12) (hm : 0 < many ∧ many < 8) (ys : List Value) (ns : List Int) (hI : IntsAre ys ns) (hn : ns.length ≤ 12) (k1 k2 : Nat) (t t5 : Tok) (news : List (Addr × Obj)) (hq : (q, lstO ys k2) ∈ news) (hne : ∀ p ∈ news, p.1 ≠ pl) :
    Tells w 1 130 [.ref pl, .int many t5] ((pl, lstO [.ref q, .int spot t] k1) :: news) (RetDraw pl q spot many news) := by
  unfold Tells
  intros; rename_i hN _ _ _ _ hret
  have hsub : ∀ p ∈ [(pl, lstO [.ref q, .int spot t] k1), (q, lstO ys k2)], p ∈ (pl, lstO [.ref q, .int spot t] k1) :: news := by simp [hq]
  have hpq : q ≠ pl := hne _ hq
  refine wpAny_call ?_
  k_dflt (refine' enterG ?k1 ?k2 ?k3 ?k4 ?k5 hsub ?kA ?kF ?kK ?k6 ?k7 ?k8 ?k9 ?kB ?_ ?c2 ?c3 ?c4 ?c5)
  case kA => exact rfl
  case kF => exact rfl
  case kK => assumption
  case k1 => k_asm
  case k2 => k_asm
  case k3 => k_asm
  case k4 => k_asm
  case k5 => k_asm
  case k6 => k_is
  case k7 => k_is
  case k8 => ktr_room
  case k9 => exact BindsTo.of_eq rfl
  case kB => exact locs rfl
  case c2 => exact rfl
  case c3 => exact rfl
  case c4 => exact rfl
  case c5 => decide
  k_whole
  intro g' L' h' FG' F' N' B' X' T' l1 G'
  (try k_lt l1)
  (try dsimp only)
  (try k_lift B')
  (try k_fold)
  k_steps
  all_goals (
    (rename Fr g' _ _ _ => fF'); (rename News _ _ _ _ => kN')
    have z := back_but hN hne hsub G' fF' kN' (by intro p hp hpd; simp only [List.mem_cons, List.not_mem_nil, or_false] at hp ⊢; rcases hp with rfl | rfl; exact absurd rfl hpd; simp)
    first
      | exact hret _ _ _ _ (by k_asm) (news_pick z (.head _)) ⟨_, _, _, _, rfl, rfl, Int.fmod_nonneg_of_pos _ hm.1, Int.fmod_lt_of_pos _ hm.1⟩
      | exact hret _ _ _ _ (by k_asm) (news_pick z (.tail _ (.head _))) ⟨_, _, _, _, rfl, rfl, Int.fmod_nonneg_of_pos _ hm.1, Int.fmod_lt_of_pos _ hm.1⟩)

-- part LC
section
variable {prog : Program} {w : World} {A : Around} {E : Value → Shared → Prop} {s : Shared} {env : Env}
theorem const_int {M : Model} {i : Int} {k : Nat} {pos : Pos} {Q : Value → Shared → Prop} (h : Q (.int i s.toks) { s with toks := s.toks + 1 }) : wpAny M A (eval (.Constant (.int i) k pos) env) Q E s := fun _ _ _ => h
/-- the ints f 0, f 1, .. -/
noncomputable def upTo (f : Nat → Int) (n : Nat) : List Int := (List.range n).map f
theorem ints_snoc {ys : List Value} {f : Nat → Int} {i : Nat} {t : Tok} (h : IntsAre ys (upTo f i)) : IntsAre (ys ++ [.int (f i) t]) (upTo f (i + 1)) := by
  unfold upTo at h ⊢
  rw [List.range_succ, List.map_append]
  generalize (List.range i).map f = q at h
  induction h with
  | nil => exact .cons _ _ .nil
  | cons n t _ ih => exact .cons n t ih
theorem ints_three {ys : List Value} {a b c : Int} (h : IntsAre ys [a, b, c]) : ∃ t1 t2 t3, ys = ints3 a b c t1 t2 t3 := by
  cases h with | cons _ t1 h => cases h with | cons _ t2 h => cases h with | cons _ t3 h => cases h; exact ⟨t1, t2, t3, rfl⟩
/-- a source range(n) -/
theorem src_range_n {target : Expr} {n : Nat} {t : Tok} (hh : A.handled = none) (hn : n < 1000)
    (hgo : ∀ it v, letOwnedTupleGo target it v = pure ()) :
    wpAny (model prog w) A (call (.type "range") [.int (n : Int) t]) (fun xv s₁ => wpAny (model prog w) A (pyIter xv) (SrcAt prog w A target n (RangeP 0) s) E s₁) E s := by
  refine call_range_1 ?_
  refine src_range hh (IsRange.new _ _ _ _ _ _ _) (small_one (by decide) (by decide) (by omega) (by omega)) ?_ ⟨_, _, rfl⟩ (fun b o e => Heap.get?_push_of_some _ e) ?_ hgo
  · rw [rangeSize_one]
    split
    · omega
    · rename_i h; have : n = 0 := by omega
      subst this; rfl
  · rw [Heap.size_push]; exact Nat.le_succ _

set_option maxRecDepth 100000 in
/-- [1 if spot == at else 0 for spot in range(3)] -/
theorem line_comp {c : Addr} {sc : Scope} {iter : Expr} {p1 p2 p3 p4 p5 p6 p7 p8 : Pos} {k1 k2 : Nat} {x : Int} {t : Tok} {Q : Value → Shared → Prop}
    (hsc : sc.kind = .function) (hnames : ∀ y ∈ sc.names, y.2 = .local → sc.names.lookup y.1 = some .local)
    (h1 : sc.names.lookup (Str.ofString "spot") = some .local) (hcl : closureFor sc env = pure [((Str.ofString "at"), c)])
    (hcf : ∀ n, cellsFrom n sc.names [((Str.ofString "at"), c)] = [((Str.ofString "at"), c)])
    (hkb : ∀ C, (compEnvC sc [((Str.ofString "at"), c)] C env).kindOf "at" = some .cell ∨ (compEnvC sc [((Str.ofString "at"), c)] C env).kindOf "at" = some .free)
    (hc : s.heap.IsCell c (some (.int x t)))
    (hsrc : wpAny (model prog w) A (eval iter env) (fun xv s₁ => wpAny (model prog w) A (pyIter xv) (SrcAt prog w A (.Name "spot" p6) 3 (RangeP 0) s) E s₁) E s)
    (hQ : ∀ (D : Addr) (v0 v1 v2 : Tok) (h' : Heap) (tk : Nat), h'.get? D = some (LCg.lst (ints3 (if 0 = x then 1 else 0) (if 1 = x then 1 else 0) (if 2 = x then 1 else 0) v0 v1 v2)) → s.heap.get? D = none → Held s.heap h' → Q (.ref D) { s with heap := h', toks := tk })
    (hs : ∀ x, foldedSetIterable iter env x = pure x := by intro _; rfl) :
    wpAny (model prog w) A (eval (.ListComp (.IfExp (.Compare (.Name "spot" p1) [.Eq] [.Name "at" p2] p3) (.Constant (.int 1) k1 p4) (.Constant (.int 0) k2 p5) p7) [⟨.Name "spot" p6, iter, [], 0⟩] sc p8) env) Q E s := by
  refine comp_clause (P := RangeP 0) hcl hsc hnames (by rw [sizeLine_eq]; omega) hsrc
    (fun _ i ys _ => IntsAre ys (upTo (fun j => if (j : Int) = x then 1 else 0) i))
    (fun _ _ _ _ _ h _ => h) (fun _ _ _ => .nil) ?_ ?_ hs
  · intro C D oc wr i ys v s₃ m₃ E' hoc' hi hP hn hcs hj hk hlt hnew hCo
    obtain ⟨u, rfl⟩ := hP
    rw [hcf]
    refine comp_assign_local hsc h1 hn hcs hCo fun h₄ tk₄ hn₄ hc₄ hs₄ => ?_
    refine wpAny_tests_nil ?_
    rw [if_pos rfl]
    have hk₄ : Held s.heap h₄ := fun d o e => hs₄ d o (fun q => by rw [List.mem_singleton.mp q, hnew C (by simp)] at e; cases e) (hk d o e)
    refine IfExp_ (wpAny_isTrue_Compare1 (cname_local hsc (kind_local h1) hn₄ (if_pos rfl) ?_))
    refine cname_cell (c := c) hsc (hkb C) (by simp [compEnvC]) (by obtain ⟨o, ho, hd⟩ := hc; exact ⟨o, hk₄ _ _ ho, hd⟩) ?_
    refine eq_int (wpAny_truthy_bool ?_)
    rw [Int.zero_add]
    by_cases e : (i : Int) = x
    · rw [show ((i : Int) == x) = true by simpa using e, if_pos rfl]
      refine const_int ⟨turnEnd_of hn₄ hc₄ (hs₄.mono (by simp)) ⟨_, _, rfl⟩ (Held.refl _), ?_⟩
      have := ints_snoc (f := fun j : Nat => if (j : Int) = x then (1 : Int) else 0) (t := tk₄) hj
      simp only [e, if_true] at this
      exact this
    · rw [show ((i : Int) == x) = false by simpa using e, if_neg Bool.false_ne_true]
      refine const_int ⟨turnEnd_of hn₄ hc₄ (hs₄.mono (by simp)) ⟨_, _, rfl⟩ (Held.refl _), ?_⟩
      have := ints_snoc (f := fun j : Nat => if (j : Int) = x then (1 : Int) else 0) (t := tk₄) hj
      simp only [e, if_false] at this
      exact this
  · intro pr D ys h' tk hI hl _ hD hk
    obtain ⟨v0, v1, v2, rfl⟩ := ints_three (a := if 0 = x then 1 else 0) (b := if 1 = x then 1 else 0) (c := if 2 = x then 1 else 0) hI
    exact hQ D v0 v1 v2 h' tk hl hD hk
end

-- part DP
section
variable {w : World} {A : Around} {E : Value → Shared → Prop} {s : Shared} {g : Heap} {L d ka va : Addr} {m : Str → Option Value} {news : List (Addr × Obj)} {o : Obj} {l : PL} {x y z c : Int}
theorem newTuple_fresh {vs : List Value} {Q : Value → Shared → Prop} (F : Fr g L s.heap m) (N : News g L s.heap news) (hz : vs.length ≤ 1000)
    (h : ∀ D h', Fr g L h' m → News g L h' ((D, tupO vs) :: news) → (∀ p ∈ news, p.1 < D) → Q (.ref D) { s with heap := h' }) : wpAny (model Pg w) A (newTuple vs) Q E s := by
  unfold newTuple
  exact wpAny_newObj_type (h s.heap.objs.size _ (F.push _) (News.push F N _ rfl) (fun p hp => Heap.lt_size (N p hp).1)) (by show vs.toArray.size ≤ sizeLine; rw [sizeLine_eq]; simp; omega)
end

-- part LO
/-- the places of x's digits 1, below i -/
noncomputable def bitsTo (x : Int) (i : Nat) : List Int := ((List.range i).filter fun j => (x.fdiv (2 ^ j)).fmod 2 == 1).map fun j : Nat => (j : Int)
theorem bits_yes {ys : List Value} {x : Int} {i : Nat} {t : Tok} (h : IntsAre ys (bitsTo x i)) (hb : ((x.fdiv (2 ^ i)).fmod 2 == 1) = true) : IntsAre (ys ++ [.int i t]) (bitsTo x (i + 1)) := by
  unfold bitsTo at h ⊢
  rw [List.range_succ, List.filter_append, List.map_append]
  simp only [List.filter_cons, hb, if_true, List.filter_nil, List.map_cons, List.map_nil]
  generalize ((List.range i).filter fun j => (x.fdiv (2 ^ j)).fmod 2 == 1).map (fun j : Nat => (j : Int)) = q at h
  induction h with
  | nil => exact .cons _ _ .nil
  | cons n t _ ih => exact .cons n t ih
theorem bits_no {ys : List Value} {x : Int} {i : Nat} (h : IntsAre ys (bitsTo x i)) (hb : ((x.fdiv (2 ^ i)).fmod 2 == 1) = false) : IntsAre ys (bitsTo x (i + 1)) := by
  unfold bitsTo at h ⊢
  rw [List.range_succ, List.filter_append, List.map_append]
  simpa only [List.filter_cons, hb, Bool.false_eq_true, if_false, List.filter_nil, List.map_nil, List.append_nil] using h
section
variable {prog : Program} {w : World} {A : Around} {E : Value → Shared → Prop} {s : Shared} {env : Env}
theorem tests_one {c : Expr} {Q : Bool → Shared → Prop} (h : wpAny (model prog w) A (isTrue c env (eval c env)) Q E s) : wpAny (model prog w) A (testsOf [c] env) Q E s := by
  unfold testsOf
  simp only [List.forIn_cons, if_true, List.forIn_nil]
  refine wpAny_bind (wpAny_bind (wpAny_mono h (fun b s' hb => wpAny_pure (wpAny_pure hb)) fun _ _ e => e))
/-- 2 ** at for a small at -/
theorem pow_small {i : Nat} (hi : i < 3) {t u : Tok} {Q : Value → Shared → Prop} (h : Q (.int (2 ^ i) s.toks) { s with toks := s.toks + 1 }) : wpAny (model prog w) A (binaryOp .Pow (.int 2 t) (.int (i : Int) u)) Q E s := by
  rcases i with _ | _ | _ | i
  · exact PySem.AutoIntOps.pow_0 (by decide) (by decide) h
  · exact PySem.AutoIntOps.pow_4 (by decide) (by decide) (by decide) (by decide) (by decide) h
  · exact PySem.AutoIntOps.pow_4 (by decide) (by decide) (by decide) (by decide) (by decide) h
  · omega
theorem fdiv_pow {i : Nat} (hi : i < 3) {x : Int} {t u : Tok} {Q : Value → Shared → Prop} (h : Q (.int (x.fdiv (2 ^ i)) s.toks) { s with toks := s.toks + 1 }) : wpAny (model prog w) A (binaryOp .FloorDiv (.int x t) (.int (2 ^ i) u)) Q E s := by
  rcases i with _ | _ | _ | i
  · exact floordiv_int (by decide) h (Or.inl (PyProof.noPylong_small (by decide)))
  · exact floordiv_int (by decide) h (Or.inl (PyProof.noPylong_small (by decide)))
  · exact floordiv_int (by decide) h (Or.inl (PyProof.noPylong_small (by decide)))
  · omega
theorem comp_assign_cellS {x : Str} {px : Pos} {C c : Addr} {oc : List Addr} {scope : Scope} {cells : List (Str × Addr)} {v : Value} {m : Str → Option Value} {Q : Unit → Shared → Prop}
    (hkind : scope.kind = .function) (hx : (compEnvC scope cells C env).kindOf x = some .cell) (hcx : cells.lookup x = some c) (hco : c ∈ oc) (hn : s.heap.Ns C m) (hc : ∀ c ∈ oc, ∃ v, s.heap.IsCell c v) (hCo : C ∉ oc)
    (h : ∀ (h' : Heap), h'.Ns C m → h'.IsCell c (some v) → (∀ c ∈ oc, ∃ v, h'.IsCell c v) → Stays [c] s.heap h' → h'.objs.size = s.heap.objs.size → Q () { s with heap := h' }) :
    wpAny (model prog w) A (assign (.Name x px) (compEnvC scope cells C env) v) Q E s := by
  obtain ⟨v₀, hv⟩ := hc c hco
  refine wpAny_assign_Name (wpAny_storeName_cell hkind hx hcx hv fun h₃ hc₃ hs₃ => ?_)
  refine h h₃ (hn.sameBut hs₃ (fun q => hCo (q ▸ hco))) hc₃ (fun d hd => ?_) (Stays.ofBut hs₃.extBut) hs₃.1
  by_cases q : d = c
  · exact ⟨_, q ▸ hc₃⟩
  · obtain ⟨v, o, ho, hd'⟩ := hc d hd
    exact ⟨v, o, hs₃.extBut d o q ho, hd'⟩
set_option maxRecDepth 100000 in
/-- [at for at in range(3) if number // 2 ** at % 2 == 1] -/
theorem lot_comp {c : Addr} {sc : Scope} {iter : Expr} {p1 p2 p3 p4 p5 p6 p7 p8 p9 p10 p11 p12 : Pos} {k1 k2 k3 : Nat} {x : Int} {t : Tok} {Q : Value → Shared → Prop}
    (hsc : sc.kind = .function) (hnames : ∀ y ∈ sc.names, y.2 = .local → sc.names.lookup y.1 = some .local)
    (h1 : sc.names.lookup (Str.ofString "at") = some .local) (hcl : closureFor sc env = pure [((Str.ofString "number"), c)])
    (hcf : ∀ n, cellsFrom n sc.names [((Str.ofString "number"), c)] = [((Str.ofString "number"), c)])
    (hkb : ∀ C, (compEnvC sc [((Str.ofString "number"), c)] C env).kindOf "number" = some .cell ∨ (compEnvC sc [((Str.ofString "number"), c)] C env).kindOf "number" = some .free)
    (hc : s.heap.IsCell c (some (.int x t)))
    (hsrc : wpAny (model prog w) A (eval iter env) (fun xv s₁ => wpAny (model prog w) A (pyIter xv) (SrcAt prog w A (.Name "at" p1) 3 (RangeP 0) s) E s₁) E s)
    (hQ : ∀ (D : Addr) (ys : List Value) (h' : Heap) (tk : Nat), IntsAre ys (bitsTo x 3) → h'.get? D = some (LCg.lst ys) → s.heap.get? D = none → Held s.heap h' → s.heap.objs.size ≤ D → Q (.ref D) { s with heap := h', toks := tk })
    (hs : ∀ x, foldedSetIterable iter env x = pure x := by intro _; rfl) :
    wpAny (model prog w) A (eval (.ListComp (.Name "at" p2) [⟨.Name "at" p1, iter, [.Compare (.BinOp (.BinOp (.Name "number" p3) .FloorDiv (.BinOp (.Constant (.int 2) k1 p4) .Pow (.Name "at" p5) p6) p7) .Mod (.Constant (.int 2) k2 p8) p9) [.Eq] [.Constant (.int 1) k3 p10] p11], 0⟩] sc p12) env) Q E s := by
  refine comp_clauseS (P := RangeP 0) hcl hsc hnames (by rw [sizeLine_eq]; omega) hsrc
    (fun _ i ys _ => IntsAre ys (bitsTo x i))
    (fun _ _ _ _ _ h _ => h) (fun _ _ _ => .nil) ?_ ?_ hs
  · intro C D oc wr i ys v s₃ m₃ E' hoc' hi hP hn hcs hj hk hlt hnew hCo
    obtain ⟨u, rfl⟩ := hP
    rw [hcf]
    refine comp_assign_local hsc h1 hn hcs hCo fun h₄ tk₄ hn₄ hc₄ hs₄ => ?_
    have hk₄ : Held s.heap h₄ := fun d o e => hs₄ d o (fun q => by rw [List.mem_singleton.mp q, hnew C (by simp)] at e; cases e) (hk d o e)
    have hat : ∀ (s' : Shared) (px : Pos) (Q' E'' : Value → Shared → Prop), s'.heap = h₄ → Q' (.int (0 + (i : Int)) u) s' → wpAny (model prog w) A (eval (.Name "at" px) (compEnvC sc [((Str.ofString "number"), c)] C env)) Q' E'' s' := by
      rintro s' px Q' E'' rfl h
      exact cname_local hsc (kind_local h1) hn₄ (if_pos rfl) h
    rw [Int.zero_add] at hat
    refine tests_one (wpAny_isTrue_Compare1 (wpAny_BinOp (wpAny_BinOp ?_)))
    refine cname_cell (c := c) hsc (hkb C) (by simp [compEnvC]) (by obtain ⟨o, ho, hd⟩ := hc; exact ⟨o, hk₄ _ _ ho, hd⟩) ?_
    refine wpAny_BinOp (const_int (hat _ _ _ _ rfl (pow_small hi (fdiv_pow hi (const_int (mod_int' (by decide) (const_int (eq_int (wpAny_truthy_bool ?_)))))))))
    split
    · rename_i hb
      refine hat _ _ _ _ rfl ⟨turnEnd_of hn₄ hc₄ (hs₄.mono (by simp)) ⟨_, _, rfl⟩ (Held.refl _), bits_yes hj hb⟩
    · rename_i hb
      exact ⟨turnEnd_of hn₄ hc₄ (hs₄.mono (by simp)) ⟨_, _, rfl⟩ (Held.refl _), bits_no hj (by simpa using hb)⟩
  · intro pr D ys h' tk hI hl _ hD hk hsz
    exact hQ D ys h' tk hI hl hD hk hsz
/-- the lots made so far -/
noncomputable def LotsAt (h0 h : Heap) (pr : List Addr) (i : Nat) (ys : List Value) : Prop :=
  ∃ qs : List (Addr × List Value), ys = qs.map (fun q => Value.ref q.1) ∧ qs.length = i ∧ ∀ (j : Nat) q, qs[j]? = some q → h.get? q.1 = some (LCg.lst q.2) ∧ IntsAre q.2 (bitsTo ((j : Int) + 1) 3) ∧ h0.get? q.1 = none ∧ q.1 ∉ pr
set_option maxRecDepth 100000 in
theorem lots_comp {sc sci : Scope} {iter iter2 : Expr} {p1 p2 p3 p4 p5 p6 p7 p8 p9 p10 p11 p12 p13 p14 : Pos} {k1 k2 k3 : Nat} {Q : Value → Shared → Prop}
    (hsc : sc.kind = .function) (hnames : ∀ y ∈ sc.names, y.2 = .local → sc.names.lookup y.1 = some .local) (hcl : closureFor sc env = pure [])
    (hcells : ∀ C, cellsFrom (C + 1) sc.names [] = [((Str.ofString "number"), C + 1)]) (hoc : ∀ n, ocFrom n sc.names = [n])
    (hkn : ∀ C c, (compEnvC sc [((Str.ofString "number"), c)] C env).kindOf "number" = some .cell)
    (hsci : sci.kind = .function) (hnamesi : ∀ y ∈ sci.names, y.2 = .local → sci.names.lookup y.1 = some .local)
    (h1i : sci.names.lookup (Str.ofString "at") = some .local) (hcli : ∀ C c, closureFor sci (compEnvC sc [((Str.ofString "number"), c)] C env) = pure [((Str.ofString "number"), c)])
    (hcfi : ∀ c n, cellsFrom n sci.names [((Str.ofString "number"), c)] = [((Str.ofString "number"), c)])
    (hkbi : ∀ C C' c, (compEnvC sci [((Str.ofString "number"), c)] C (compEnvC sc [((Str.ofString "number"), c)] C' env)).kindOf "number" = some .cell ∨ (compEnvC sci [((Str.ofString "number"), c)] C (compEnvC sc [((Str.ofString "number"), c)] C' env)).kindOf "number" = some .free)
    (hsrc : wpAny (model prog w) A (eval iter env) (fun xv s₁ => wpAny (model prog w) A (pyIter xv) (SrcAt prog w A (.Name "number" p13) 7 (RangeP 1) s) E s₁) E s)
    (hin : ∀ (C c : Addr) (s₄ : Shared) (E' : Value → Shared → Prop), Held s.heap s₄.heap → wpAny (model prog w) A (eval iter2 (compEnvC sc [((Str.ofString "number"), c)] C env)) (fun xv s₁ => wpAny (model prog w) A (pyIter xv) (SrcAt prog w A (.Name "at" p1) 3 (RangeP 0) s₄) E' s₁) E' s₄)
    (hQ : ∀ (D : Addr) (ys : List Value) (h' : Heap) (tk : Nat) (pr : List Addr), LotsAt s.heap h' pr 7 ys → D ∈ pr → h'.get? D = some (LCg.lst ys) → s.heap.get? D = none → Held s.heap h' → Q (.ref D) { s with heap := h', toks := tk })
    (hs : ∀ x, foldedSetIterable iter env x = pure x := by intro _; rfl) (hsi : ∀ env' x, foldedSetIterable iter2 env' x = pure x := by intro _ _; rfl) :
    wpAny (model prog w) A (eval (.ListComp (.ListComp (.Name "at" p2) [⟨.Name "at" p1, iter2, [.Compare (.BinOp (.BinOp (.Name "number" p3) .FloorDiv (.BinOp (.Constant (.int 2) k1 p4) .Pow (.Name "at" p5) p6) p7) .Mod (.Constant (.int 2) k2 p8) p9) [.Eq] [.Constant (.int 1) k3 p10] p11], 0⟩] sci p12) [⟨.Name "number" p13, iter, [], 0⟩] sc p14) env) Q E s := by
  refine comp_clauseS (P := RangeP 1) hcl hsc hnames (by rw [sizeLine_eq]; omega) hsrc
    (fun pr i ys h => LotsAt s.heap h pr i ys)
    ?_ (fun _ _ _ => ⟨[], rfl, rfl, fun j q h => by simp at h⟩) ?_ ?_ hs
  · rintro pr i ys h h' ⟨qs, e, hl, hq⟩ hst
    exact ⟨qs, e, hl, fun j q hj => let z := hq j q hj; ⟨hst _ _ z.2.2.2 z.1, z.2⟩⟩
  · intro C D oc wr i ys v s₃ m₃ E' hoc' hi hP hn hcs hj hk hlt hnew hCo
    obtain ⟨u, rfl⟩ := hP
    rw [hoc] at hoc'; subst hoc'
    rw [hcells]
    refine comp_assign_cellS hsc (hkn _ _) (by simp) (List.mem_singleton_self _) hn hcs hCo fun h₄ hn₄ hcc hc₄ hs₄ hz₄ => ?_
    have hk₄ : Held s.heap h₄ := fun d o e => hs₄ d o (fun q => by rw [List.mem_singleton.mp q, hnew (C + 1) (by simp)] at e; cases e) (hk d o e)
    refine wpAny_tests_nil ?_
    rw [if_pos rfl]
    refine lot_comp hsci hnamesi h1i (hcli _ _) (hcfi _) (fun C' => hkbi _ _ _) hcc (hin _ _ _ _ hk₄) (fun q zs h' tk hz hg hfr hk' hsz => ?_) (hsi _)
    refine ⟨turnEnd_of (h₄ := h₄) hn₄ hc₄ (hs₄.mono (by simp)) ⟨_, _, rfl⟩ hk', ?_⟩
    obtain ⟨qs, e, hl, hq⟩ := hj
    refine ⟨qs ++ [(q, zs)], by simp [e], by simp [hl], fun j p hp => ?_⟩
    have hsz3 : s₃.heap.objs.size ≤ h₄.objs.size := Nat.le_of_eq hz₄.symm
    by_cases hjl : j < qs.length
    · rw [List.getElem?_append_left hjl] at hp
      have z := hq j p hp
      refine ⟨hk' _ _ (hs₄ _ _ (fun q9 => z.2.2.2 (by rw [List.mem_singleton.mp q9]; simp)) z.1), z.2⟩
    · rw [List.getElem?_append_right (by omega)] at hp
      have e0 : j - qs.length = 0 := by
        have := (List.getElem?_eq_some_iff.mp hp).1
        simp at this; omega
      rw [e0] at hp
      simp at hp; subst hp
      have e1 : j = i := by omega
      refine ⟨hg, ?_, ?_, ?_⟩
      · rw [e1, show ((i : Int) + 1) = 1 + (i : Int) from Int.add_comm _ _]; exact hz
      · cases e9 : s.heap.get? q with
        | none => rfl
        | some o => have := hk₄ _ _ e9; rw [hfr] at this; cases this
      · intro hm
        exact absurd (hlt q hm) (Nat.not_lt.mpr (Nat.le_trans hsz3 hsz))
  · intro pr D ys h' tk hI hl hDp hD hk _
    exact hQ D ys h' tk pr hI hDp hl hD hk
end

-- part B3
/-- what a called def that only adds to the heap may ask and gives -/
noncomputable def TellsH (w : World) (d : Nat) (f : Addr) (args : List Value) (need : List (Addr × Obj)) (Ret : Heap → Heap → Value → Prop) : Prop :=
  ∀ (loose : List Str) (mean : ExcName → Option Value) (mg mb : Str → Option Value) (dp un : Nat) (gd : Option (List Code)) (cn : Str) (cs : Scope) (a : Addr) (ccd : Value) (cl : List (Str × Addr)) (outer : List Env) (A₀ : Around) (base h₀ : Heap) (L : Addr) (m : Str → Option Value) (s : Shared) (Q E : Value → Shared → Prop),
    Below A₀ base outer h₀ → Fr h₀ L s.heap m → (Mine.hd.heap_1 w.params).In h₀ → News h₀ L s.heap need → Top Mine.viewQ loose mean mg mb h₀ → cs.kind = .function →
    dp + d < recursionLimit → un + 8 * d < cLine →
    (∀ r h' tk', Fr h₀ L h' m → Held s.heap h' → s.heap.objs.size ≤ h'.objs.size → Ret s.heap h' r → Q r { s with heap := h', toks := tk' }) →
    wpAny (model Pg w) (ktrTop dp un gd cn cs L a ccd cl outer) (call (.ref f) args) Q E s
theorem TellsH.use {w : World} {d : Nat} {f : Addr} {args : List Value} {need : List (Addr × Obj)} {Ret : Heap → Heap → Value → Prop}
    {loose : List Str} {mean : ExcName → Option Value} {mg mb : Str → Option Value} {dp un : Nat} {gd : Option (List Code)} {cn : Str} {cs : Scope} {a : Addr} {ccd : Value} {cl : List (Str × Addr)} {outer : List Env} {A₀ : Around} {base h₀ : Heap} {L : Addr} {m : Str → Option Value} {s : Shared} {Q E : Value → Shared → Prop}
    (B : Below A₀ base outer h₀) (F : Fr h₀ L s.heap m) (X : (Mine.hd.heap_1 w.params).In h₀) (N : News h₀ L s.heap need) (T : Top Mine.viewQ loose mean mg mb h₀) (hk : cs.kind = .function)
    (C : TellsH w d f args need Ret)
    (hd : dp + d < recursionLimit) (hu : un + 8 * d < cLine)
    (ret : ∀ r h' tk', Fr h₀ L h' m → Held s.heap h' → s.heap.objs.size ≤ h'.objs.size → Ret s.heap h' r → Q r { s with heap := h', toks := tk' }) :
    wpAny (model Pg w) (ktrTop dp un gd cn cs L a ccd cl outer) (call (.ref f) args) Q E s :=
  C _ _ _ _ _ _ _ _ _ _ _ _ _ _ _ _ _ _ _ _ _ B F X N T hk hd hu ret
section
variable {prog : Program} {w : World} {A₀ A : Around} {E : Value → Shared → Prop} {s : Shared} {base h₀ : Heap} {outer : List Env} {L : Addr} {m : Str → Option Value} {env : Env} {news need : List (Addr × Obj)}
/-- a def is entered: what it needs of the caller's ledger stands in its own, the rest stays -/
theorem enterG2 {K : Frag} {p : Program} {loose : List Str} {mean : ExcName → Option Value} {mg mb : Str → Option Value} {R : Result → Shared → Prop} {name qual : Str} {params : Arguments} {body : List Stmt} {scope : Scope} {dV kV doc pm cdv ct oc : Value} {an od : Option Addr} {osl : Array (Option Value)} {f : Addr} {args : Args} {binds : List (Str × Value)}
    (B : Below A₀ base outer h₀) (F : Fr h₀ L s.heap m) (X₀ : K.In h₀) (N : News h₀ L s.heap news) (T : Top p loose mean mg mb h₀) (hsub : ∀ p ∈ need, p ∈ news) (hA : A.frames = some (env :: outer)) (hf : env.frame = some L) (hke : env.scope.kind = .function)
    (ho : K.lookup f = some ⟨oc, od, .func (fnOf name qual params body scope dV kV doc pm an cdv ct), osl⟩) (hcd : codeIn K cdv qual = true) (hroom : A.depth < recursionLimit)
    (hbind : BindsTo s (fnOf name qual params body scope dV kV doc pm an cdv ct) args binds) (hloc : ∀ y ∈ binds, scope.names.lookup y.1 = some .local)
    (h : ∀ g L' h₁, Fr h₀ L g m → Fr g L' h₁ (fun y => binds.reverse.lookup y) → News g L' h₁ need → Below A base (env :: outer) g → K.In g → Top p loose mean mg mb g → (∀ p ∈ need, p.1 < L') → GSub s.heap g (need.map (·.1)) → (s.heap.objs.size ≤ L') →
      wpAny (model prog w) (A.deeper (envOf qual scope L' f cdv)) (execs body (envOf qual scope L' f cdv))
        (fun fl s' => LeaveK h₀ L m g R (match fl with | .ret v => v | _ => .none) s')
        (fun e s' => wpAny (model prog w) (A.deeper (envOf qual scope L' f cdv)) (leaving (envOf qual scope L' f cdv) e) (fun _ s'' => R (.error e) s'') (fun e' s'' => R (.error e') s'') s')
        { s with heap := h₁, toks := s.toks + binds.length })
    (hco : scope.isCoroutine = false) (hgen : scope.isGenerator = false) (hk : scope.kind = .function)
    (hcell : ∀ x ∈ scope.names, x.2 ≠ .cell) : codeAny (model prog w) A (.call (.ref f) args) R s := by
  have N' : News h₀ L s.heap need := fun p hp => N p (hsub p hp)
  obtain ⟨FG, BG, st, lv⟩ := groundX (R := R) B F N' hA hf hke
  refine codeAny_call_def (fd := fnX name qual params body scope [] dV kV doc pm an cdv ct) (body := body) (binds := binds) hroom ((X₀.keeps F.keep) _ _ ho) rfl (T.nolimit.keeps F.keep) (codeRec_of (X₀.keeps F.keep) hcd) rfl hbind hcell hloc (fun h₁ hns hk₁ => ?_) hco hgen hk
  refine wpAny_mono (h _ s.heap.objs.size h₁ FG ⟨hns, fun b o e => hk₁ b o (of_hideAll _ e), Nat.le_of_eq (hideAll_size _ _)⟩ (fun p hp => ?_) BG (X₀.keeps st) (T.keeps st) (fun p hp => Heap.lt_size (N' p hp).1) (fun b o e n => hideAll_get _ e n) (Nat.le_refl _)) (fun fl s' hl => lv _ _ hl) fun _ _ y => y
  exact ⟨hk₁ _ _ (N' p hp).1, Nat.ne_of_lt (Heap.lt_size (N' p hp).1), hideAll_none _ (List.mem_map_of_mem hp)⟩

theorem enterC2 {K : Frag} {p : Program} {loose : List Str} {mean : ExcName → Option Value} {mg mb : Str → Option Value} {R : Result → Shared → Prop} {name qual : Str} {params : Arguments} {body : List Stmt} {scope : Scope} {dV kV doc pm cdv ct oc : Value} {an od : Option Addr} {osl : Array (Option Value)} {f : Addr} {args : Args} {binds : List (Str × Value)}
    (B : Below A₀ base outer h₀) (F : Fr h₀ L s.heap m) (X₀ : K.In h₀) (N : News h₀ L s.heap news) (T : Top p loose mean mg mb h₀) (hsub : ∀ p ∈ need, p ∈ news) (hA : A.frames = some (env :: outer)) (hf : env.frame = some L) (hke : env.scope.kind = .function)
    (ho : K.lookup f = some ⟨oc, od, .func (fnOf name qual params body scope dV kV doc pm an cdv ct), osl⟩) (hcd : codeIn K cdv qual = true) (hroom : A.depth < recursionLimit)
    (hbind : BindsTo s (fnOf name qual params body scope dV kV doc pm an cdv ct) args binds) (hkind : (binds.all fun y => scope.names.lookup y.1 == some .local || scope.names.lookup y.1 == some .cell) = true)
    (hnd : ((cellsFrom 0 scope.names []).map (·.1)).Nodup)
    (h : ∀ g L' h₁ tk cells, Fr h₀ L g m → Fr g L' h₁ (bindL (envOfC qual scope L' f cdv).kindOf binds fun _ => none) → News g L' h₁ (cells ++ need) →
      CellsAre (bindC (envOfC qual scope L' f cdv).kindOf binds fun _ => none) (cellsFrom (L' + 1) scope.names []) cells → Below A base (env :: outer) g → K.In g → Top p loose mean mg mb g → (∀ p ∈ need, p.1 < L') → GSub s.heap g (need.map (·.1)) → (s.heap.objs.size ≤ L') →
      wpAny (model prog w) (A.deeper (envOfC qual scope L' f cdv)) (execs body (envOfC qual scope L' f cdv))
        (fun fl s' => LeaveK h₀ L m g R (match fl with | .ret v => v | _ => .none) s')
        (fun e s' => wpAny (model prog w) (A.deeper (envOfC qual scope L' f cdv)) (leaving (envOfC qual scope L' f cdv) e) (fun _ s'' => R (.error e) s'') (fun e' s'' => R (.error e') s'') s')
        { s with heap := h₁, toks := tk })
    (hco : scope.isCoroutine = false) (hgen : scope.isGenerator = false) (hk : scope.kind = .function) : codeAny (model prog w) A (.call (.ref f) args) R s := by
  have N' : News h₀ L s.heap need := fun p hp => N p (hsub p hp)
  obtain ⟨FG, BG, st, lv⟩ := groundX (R := R) B F N' hA hf hke
  have X := X₀.keeps F.keep
  have kc := kindsX hkind
  refine codeAny_call_function hroom (X _ _ ho) rfl hco hgen rfl (codeRec_of X hcd) (hbind _ _ _ _ ?_)
  refine wpAny_newFunctionEnv_cells hk (kc _) fun env' he s' x => ?_
  subst he
  refine ⟨(T.nolimit.keeps F.keep).keeps x.toInCall.keep, codeAny_func ?_⟩
  obtain ⟨h₁, tk, rfl, _⟩ := x.done
  have hk₁ := x.toInCall.keep
  obtain ⟨cells, NC, Y⟩ := Cl.news (h₀ := s.heap) (Nat.le_refl _) fun n c hm => ⟨x.cell n c (lookup_of_mem_nodup (cellsFrom_names scope.names 0 (s.heap.objs.size + 1) [] [] rfl ▸ hnd) hm), x.above n c hm⟩
  have led : News (hideAll s.heap (need.map (·.1))) s.heap.objs.size h₁ (cells ++ need) := fun p hp => by
    rcases List.mem_append.mp hp with hp | hp
    · have z := NC p hp
      refine ⟨z.1, z.2.1, ?_⟩
      cases q : (hideAll s.heap (need.map (·.1))).get? p.1 with
      | none => rfl
      | some o => rw [of_hideAll _ q] at z; exact absurd z.2.2 (by simp)
    · exact ⟨hk₁ _ _ (N' p hp).1, Nat.ne_of_lt (Heap.lt_size (N' p hp).1), hideAll_none _ (List.mem_map_of_mem hp)⟩
  exact wpAny_mono (h _ s.heap.objs.size h₁ tk cells FG ⟨x.toInCall.ns, fun b o e => hk₁ b o (of_hideAll _ e), Nat.le_of_eq (hideAll_size _ _)⟩ led Y BG (X₀.keeps st) (T.keeps st) (fun p hp => Heap.lt_size (N' p hp).1) (fun b o e n => hideAll_get _ e n) (Nat.le_refl _)) (fun fl s' hl => lv _ _ hl) fun _ _ y => y

theorem back_held {g h h' : Heap} {L' : Addr} {m' : Str → Option Value} {led : List (Addr × Obj)} (N : News h₀ L h need) (G : GSub h g (need.map (·.1))) (F' : Fr g L' h' m') (kN : News h₀ L h' led)
    (hin : ∀ p ∈ need, p ∈ led) : Held h h' := fun b o e => by
  by_cases hm : b ∈ need.map (·.1)
  · obtain ⟨q, hq, rfl⟩ := List.mem_map.mp hm
    rw [(N q hq).1] at e
    rw [(kN q (hin q hq)).1, e]
  · exact F'.keep b o (G b o e hm)
theorem back_size {g h h' : Heap} {L' : Addr} {m' : Str → Option Value} (F' : Fr g L' h' m') (hz : h.objs.size ≤ L') : h.objs.size ≤ h'.objs.size := Nat.le_trans hz (Nat.le_of_lt F'.ns.lt)
end

-- part CC
section
variable {prog : Program} {w : World} {A : Around} {E : Value → Shared → Prop} {s : Shared} {env : Env}
/-- a comprehension's turns, from the heap behind its iterable -/
theorem comp_core {elt target iter : Expr} {ifs : List Expr} {scope : Scope} {cl : List (Str × Addr)} {pos : Pos} {n : Nat} {P : Nat → Value → Heap → Prop} {Q : Value → Shared → Prop} {xv : Value} (hsz : n ≤ sizeLine)
    (hsrc : wpAny (model prog w) A (pyIter xv) (SrcAt prog w A target n P s) E s)
    (J : List Addr → Nat → List Value → Heap → Prop)
    (hJ : ∀ pr i ys h h', J pr i ys h → Stays pr h h' → J pr i ys h')
    (h0 : ∀ pr h, Held s.heap h → J pr 0 [] h)
    (turn : ∀ (C D : Addr) (oc wr : List Addr) (i : Nat) (ys : List Value) (v : Value) (s₃ : Shared) (m₃ : Str → Option Value) (E' : Value → Shared → Prop),
      oc = ocFrom (C + 1) scope.names → i < n → P i v s₃.heap → s₃.heap.Ns C m₃ → (∀ c ∈ oc, ∃ v, s₃.heap.IsCell c v) → J (C :: D :: (oc ++ wr)) i ys s₃.heap → Held s.heap s₃.heap →
      (∀ b ∈ C :: D :: (oc ++ wr), b < s₃.heap.objs.size) → (∀ b ∈ C :: D :: (oc ++ wr), s.heap.get? b = none) → C ∉ oc →
      wpAny (model prog w) A (assign target (compEnvC scope (cellsFrom (C + 1) scope.names cl) C env) v) (fun _ s₄ =>
        wpAny (model prog w) A (testsOf ifs (compEnvC scope (cellsFrom (C + 1) scope.names cl) C env)) (fun ok s₅ =>
          if ok = true then wpAny (model prog w) A (eval elt (compEnvC scope (cellsFrom (C + 1) scope.names cl) C env)) (fun y s₆ => TurnEnd C oc s₃ s₆ ∧ J (C :: D :: (oc ++ wr)) (i + 1) (ys ++ [y]) s₆.heap) E' s₅
          else TurnEnd C oc s₃ s₅ ∧ J (C :: D :: (oc ++ wr)) (i + 1) ys s₅.heap) E' s₄) E' s₃)
    (hQ : ∀ (pr : List Addr) (D : Addr) (ys : List Value) (h' : Heap) (tk : Nat), J pr n ys h' → h'.get? D = some (LCg.lst ys) → D ∈ pr → s.heap.get? D = none → Held s.heap h' → s.heap.objs.size ≤ D → Q (.ref D) { s with heap := h', toks := tk }) :
    wpAny (model prog w) A (pyIter xv) (fun it s₂ => ∃ I, it = .ref I ∧
      wpAny (model prog w) A (newList []) (fun acc s₃ => wpAny (model prog w) A (newFunctionEnv scope env.globals cl [] env.qual none .none (some env)) (fun cenv s₄ =>
        codeAny (model prog w) A (.compStart (.ListComp elt [⟨target, iter, ifs, 0⟩] scope pos) 0 (.ref I) acc { cenv with scope := relabel scope env }) (compPost (model prog w) A E none Q acc cenv.locals) s₄) E s₃) E s₂) E s := by
  refine wpAny_mono hsrc (fun it s₂ h₂ => ?_) fun _ _ e => e
  obtain ⟨I, fp, wr, Md, St, h, tk, rfl, rfl, hh, W, hself, hst, hfp, hwr, hwn⟩ := h₂.at_
  refine ⟨I, rfl, ?_⟩
  have old : ∀ b o, s.heap.get? b = some o → b ∉ wr := fun b o e hb => absurd (Heap.lt_size e) (Nat.not_lt.mpr (hwr b hb))
  have newer : ∀ b, h.objs.size ≤ b → s.heap.get? b = none := fun b hb => by
    cases e : s.heap.get? b with
    | none => rfl
    | some o => exact absurd (Heap.lt_size (hh b o e)) (Nat.not_lt.mpr hb)
  refine comp_block W hself hsz hst hfp J hJ (fun pr h' hs' => h0 pr h' fun b o e => hs' b o (old b o e) (hh b o e)) ?_ ?_
  · intro C D oc i ys v s₃ m₃ E' hoc hi hP hn hc hj hst' hlt hC hD _ hCw hCo hDo hoc'
    refine turn C D oc wr i ys v s₃ m₃ E' hoc hi hP hn hc hj (fun b o e => hst' b o (old b o e) (hh b o e)) hlt ?_ hCo
    intro b hb
    rcases List.mem_cons.mp hb with rfl | hb
    · exact newer _ hC
    · rcases List.mem_cons.mp hb with rfl | hb
      · exact newer _ hD
      · rcases List.mem_append.mp hb with hb | hb
        · exact newer _ (hoc' b hb)
        · cases e : s.heap.get? b with
          | none => rfl
          | some o => exact absurd hb (old b o e)
  · intro pr D ys h' tk' hj hl hDp hD _ hst'
    refine hQ pr D ys h' tk' hj hl hDp (newer _ hD) (fun b o e => hst' b o (old b o e) (hh b o e)) ?_
    obtain ⟨b, hb⟩ := List.exists_mem_of_ne_nil _ hwn
    exact Nat.le_trans (hwr b hb) (Nat.le_trans (Nat.le_of_lt (hfp b (W.sub b hb))) hD)

end

-- part DB
abbrev Bd (B x : Int) : Prop := -B ≤ x ∧ x ≤ B
theorem fdiv_abs (x d : Int) (hd : d ≠ 0) : (x.fdiv d).natAbs ≤ x.natAbs := by
  rcases Int.lt_trichotomy x 0 with hx | hx | hx
  · rcases Int.lt_or_gt_of_ne hd with h | h
    · have h1 : 0 ≤ x.fdiv d := by
        rw [← Int.neg_fdiv_neg]; exact Int.fdiv_nonneg (by omega) (by omega)
      have h2 : x.fdiv d ≤ -x := by
        rw [← Int.neg_fdiv_neg, Int.fdiv_eq_ediv_of_nonneg _ (by omega)]
        exact Int.ediv_le_self _ (by omega)
      omega
    · have h1 : x ≤ x.fdiv d := by
        rw [Int.fdiv_eq_ediv_of_nonneg _ (by omega)]
        rw [Int.le_ediv_iff_mul_le h]
        have := Int.mul_le_mul_of_nonpos_left (a := x) (b := d) (c := 1) (by omega) (by omega)
        omega
      have h2 : x.fdiv d ≤ 0 := by
        rw [Int.fdiv_eq_ediv_of_nonneg _ (by omega)]
        have := Int.ediv_neg_of_neg_of_pos hx h
        omega
      omega
  · subst hx; simp
  · rcases Int.lt_or_gt_of_ne hd with h | h
    · have h1 : -x ≤ x.fdiv d := by
        rw [← Int.neg_fdiv_neg, Int.fdiv_eq_ediv_of_nonneg _ (by omega)]
        rw [Int.le_ediv_iff_mul_le (by omega)]
        have := Int.mul_le_mul_of_nonpos_left (a := -x) (b := -d) (c := 1) (by omega) (by omega)
        omega
      have h2 : x.fdiv d ≤ 0 := by
        rw [← Int.neg_fdiv_neg, Int.fdiv_eq_ediv_of_nonneg _ (by omega)]
        have := Int.ediv_neg_of_neg_of_pos (a := -x) (b := -d) (by omega) (by omega)
        omega
      omega
    · have h1 : 0 ≤ x.fdiv d := Int.fdiv_nonneg (by omega) (by omega)
      have h2 : x.fdiv d ≤ x := by
        rw [Int.fdiv_eq_ediv_of_nonneg _ (by omega)]
        exact Int.ediv_le_self _ (by omega)
      omega
theorem bd_mul {B x y : Int} (hx : Bd B x) (hy : Bd B y) : Bd (B * B) (x * y) := by
  have h : (x * y).natAbs ≤ B.toNat * B.toNat := by
    rw [Int.natAbs_mul]
    exact Nat.mul_le_mul (by have := hx.1; have := hx.2; omega) (by have := hy.1; have := hy.2; omega)
  have hB : ((B.toNat * B.toNat : Nat) : Int) = B * B := by
    have h0 : 0 ≤ B := by have := hx.1; have := hx.2; omega
    rw [Int.natCast_mul, Int.toNat_of_nonneg h0]
  constructor <;> omega
theorem bd_step {B a b c d ah : Int} (ha : Bd B a) (hb : Bd B b) (hc : Bd B c) (hd : Bd B d) (h0 : ah ≠ 0) : Bd (2 * (B * B)) ((a * b - c * d).fdiv ah) := by
  have h1 := bd_mul ha hb
  have h2 := bd_mul hc hd
  have h3 := fdiv_abs (a * b - c * d) ah h0
  generalize (a * b - c * d).fdiv ah = y at *
  generalize a * b = p at *
  generalize c * d = q at *
  generalize B * B = r at *
  constructor <;> omega
theorem bd_lt {B x : Int} (h : Bd B x) (hB : B < 1073741824) : -1073741824 < x ∧ x < 1073741824 := by
  have := h.1; have := h.2; constructor <;> omega
theorem bd_zero {B : Int} (h : 0 ≤ B) : Bd B 0 := ⟨by omega, h⟩
theorem bd_le {B C x : Int} (h : Bd B x) (hc : B ≤ C) : Bd C x := by have := h.1; have := h.2; constructor <;> omega
noncomputable def det2 (a b c d : Int) : Int := a * d - b * c
noncomputable def det3 (a b c d e f g h i : Int) : Int := a * (e * i - f * h) - b * (d * i - f * g) + c * (d * h - e * g)
theorem det3_prod (a b c d e f g h i : Int) : (i * a - g * c) * (e * a - d * b) - (h * a - g * b) * (f * a - d * c) = a * det3 a b c d e f g h i := by
  unfold det3; grind

-- part PD
noncomputable def detN (M : Nat → Nat → Int) : Nat → Int
  | 1 => M 0 0
  | 2 => det2 (M 0 0) (M 0 1) (M 1 0) (M 1 1)
  | 3 => det3 (M 0 0) (M 0 1) (M 0 2) (M 1 0) (M 1 1) (M 1 2) (M 2 0) (M 2 1) (M 2 2)
  | _ => 0
noncomputable def swapR (A : Nat → Nat → Int) (i j : Nat) : Nat → Nat → Int := fun a b => A (if a = i then j else if a = j then i else a) b
noncomputable def bndS : Nat → Int
  | 0 => 2
  | 1 => 8
  | 2 => 128
  | _ => 32768
/-- what the turns of the elimination keep -/
noncomputable def CoreD (D : Int) (A : Nat → Nat → Int) (σ d : Int) : Nat → Nat → Prop
  | 1, 0 => d = 1 ∧ σ * detN A 1 = D
  | 2, 0 => d = 1 ∧ σ * detN A 2 = D
  | 3, 0 => d = 1 ∧ σ * detN A 3 = D
  | 2, 1 => σ * A 1 1 = D
  | 3, 1 => ∃ B : Nat → Nat → Int, σ * detN B 3 = D ∧ d = B 0 0 ∧ A 1 1 = B 1 1 * B 0 0 - B 1 0 * B 0 1 ∧ A 1 2 = B 1 2 * B 0 0 - B 1 0 * B 0 2 ∧ A 2 1 = B 2 1 * B 0 0 - B 2 0 * B 0 1 ∧ A 2 2 = B 2 2 * B 0 0 - B 2 0 * B 0 2
  | 3, 2 => σ * A 2 2 = D
  | 1, 1 => σ * d = D
  | 2, 2 => σ * d = D
  | 3, 3 => σ * d = D
  | _, _ => False
structure InvD (D : Int) (A : Nat → Nat → Int) (σ d : Int) (n s : Nat) : Prop where
  core : CoreD D A σ d n s
  sig : σ = 1 ∨ σ = -1
  nz : d ≠ 0
  bd : ∀ i j, i < n → j < n → Bd (bndS s) (A i j)
  bdd : Bd (bndS s) d
theorem bnd_mono {s : Nat} : bndS s ≤ bndS (s + 1) := by
  unfold bndS
  rcases s with _ | _ | _ | s <;> simp
theorem bnd_two {s : Nat} (h : s < 3) : 2 * (bndS s * bndS s) = bndS (s + 1) := by
  rcases s with _ | _ | _ | s
  · rfl
  · rfl
  · rfl
  · omega
theorem bnd_pos {s : Nat} : 0 ≤ bndS s := by
  unfold bndS
  split <;> decide
theorem swap_bd {A : Nat → Nat → Int} {n i j : Nat} {B : Int} (hi : i < n) (hj : j < n) (h : ∀ a b, a < n → b < n → Bd B (A a b)) : ∀ a b, a < n → b < n → Bd B (swapR A i j a b) := by
  intro a b ha hb
  unfold swapR
  refine h _ _ ?_ hb
  split
  · exact hj
  · split
    · exact hi
    · exact ha
theorem neg_sig {σ : Int} (h : σ = 1 ∨ σ = -1) : -σ = 1 ∨ -σ = -1 := by omega
theorem inv_swap {D : Int} {A : Nat → Nat → Int} {σ d : Int} {n s r : Nat} (h : InvD D A σ d n s) (hs : s < r) (hr : r < n) (hn : n ≤ 3) : InvD D (swapR A s r) (-σ) d n s := by
  refine ⟨?_, neg_sig h.sig, h.nz, swap_bd (by omega) hr h.bd, h.bdd⟩
  have c := h.core
  have cases9 : (n = 2 ∧ s = 0 ∧ r = 1) ∨ (n = 3 ∧ s = 0 ∧ r = 1) ∨ (n = 3 ∧ s = 0 ∧ r = 2) ∨ (n = 3 ∧ s = 1 ∧ r = 2) := by omega
  rcases cases9 with ⟨rfl, rfl, rfl⟩ | ⟨rfl, rfl, rfl⟩ | ⟨rfl, rfl, rfl⟩ | ⟨rfl, rfl, rfl⟩
  · obtain ⟨c1, c2⟩ := c
    refine ⟨c1, ?_⟩
    rw [← c2]
    show -σ * det2 (A 1 0) (A 1 1) (A 0 0) (A 0 1) = σ * det2 (A 0 0) (A 0 1) (A 1 0) (A 1 1)
    unfold det2; grind
  · obtain ⟨c1, c2⟩ := c
    refine ⟨c1, ?_⟩
    rw [← c2]
    show -σ * det3 (A 1 0) (A 1 1) (A 1 2) (A 0 0) (A 0 1) (A 0 2) (A 2 0) (A 2 1) (A 2 2) = σ * det3 (A 0 0) (A 0 1) (A 0 2) (A 1 0) (A 1 1) (A 1 2) (A 2 0) (A 2 1) (A 2 2)
    unfold det3; grind
  · obtain ⟨c1, c2⟩ := c
    refine ⟨c1, ?_⟩
    rw [← c2]
    show -σ * det3 (A 2 0) (A 2 1) (A 2 2) (A 1 0) (A 1 1) (A 1 2) (A 0 0) (A 0 1) (A 0 2) = σ * det3 (A 0 0) (A 0 1) (A 0 2) (A 1 0) (A 1 1) (A 1 2) (A 2 0) (A 2 1) (A 2 2)
    unfold det3; grind
  · obtain ⟨B, c1, c2, c3, c4, c5, c6⟩ := c
    refine ⟨swapR B 1 2, ?_, c2, c5, c6, c3, c4⟩
    rw [← c1]
    show -σ * det3 (B 0 0) (B 0 1) (B 0 2) (B 2 0) (B 2 1) (B 2 2) (B 1 0) (B 1 1) (B 1 2) = σ * det3 (B 0 0) (B 0 1) (B 0 2) (B 1 0) (B 1 1) (B 1 2) (B 2 0) (B 2 1) (B 2 2)
    unfold det3; grind
theorem det_null (a b c d e f g h i : Int) (ha : a ≠ 0) (h1 : e * a - d * b = 0) (h2 : h * a - g * b = 0) : det3 a b c d e f g h i = 0 := by
  have e := det3_prod a b c d e f g h i
  rw [h1, h2, Int.mul_zero, Int.zero_mul, Int.sub_zero] at e
  rcases Int.mul_eq_zero.mp e.symm with q | q
  · exact absurd q ha
  · exact q
theorem inv_zero {D : Int} {A : Nat → Nat → Int} {σ d : Int} {n s : Nat} (h : InvD D A σ d n s) (hs : s < n) (hn : n ≤ 3) (h0 : ∀ i, s ≤ i → i < n → A i s = 0) : D = 0 := by
  have c := h.core
  have cases9 : (n = 1 ∧ s = 0) ∨ (n = 2 ∧ s = 0) ∨ (n = 3 ∧ s = 0) ∨ (n = 2 ∧ s = 1) ∨ (n = 3 ∧ s = 1) ∨ (n = 3 ∧ s = 2) := by omega
  rcases cases9 with ⟨rfl, rfl⟩ | ⟨rfl, rfl⟩ | ⟨rfl, rfl⟩ | ⟨rfl, rfl⟩ | ⟨rfl, rfl⟩ | ⟨rfl, rfl⟩
  · obtain ⟨_, c2⟩ := c
    rw [← c2, show detN A 1 = A 0 0 from rfl, h0 0 (by omega) (by omega), Int.mul_zero]
  · obtain ⟨_, c2⟩ := c
    rw [← c2, show detN A 2 = det2 (A 0 0) (A 0 1) (A 1 0) (A 1 1) from rfl, h0 0 (by omega) (by omega), h0 1 (by omega) (by omega)]
    unfold det2; simp
  · obtain ⟨_, c2⟩ := c
    rw [← c2, show detN A 3 = det3 (A 0 0) (A 0 1) (A 0 2) (A 1 0) (A 1 1) (A 1 2) (A 2 0) (A 2 1) (A 2 2) from rfl, h0 0 (by omega) (by omega), h0 1 (by omega) (by omega), h0 2 (by omega) (by omega)]
    unfold det3; simp
  · have c : σ * A 1 1 = D := c
    rw [← c, h0 1 (by omega) (by omega), Int.mul_zero]
  · obtain ⟨B, c1, c2, c3, c4, c5, c6⟩ := c
    rw [← c1, show detN B 3 = det3 (B 0 0) (B 0 1) (B 0 2) (B 1 0) (B 1 1) (B 1 2) (B 2 0) (B 2 1) (B 2 2) from rfl]
    rw [det_null _ _ _ _ _ _ _ _ _ (c2 ▸ h.nz) (c3 ▸ h0 1 (by omega) (by omega)) (c5 ▸ h0 2 (by omega) (by omega)), Int.mul_zero]
  · have c : σ * A 2 2 = D := c
    rw [← c, h0 2 (by omega) (by omega), Int.mul_zero]
theorem fdiv_one' (x : Int) : x.fdiv 1 = x := Int.fdiv_one x
/-- a turn: the rows below are rewritten -/
theorem inv_step {D : Int} {A A' : Nat → Nat → Int} {σ d : Int} {n s : Nat} (h : InvD D A σ d n s) (hs : s < n) (hn : n ≤ 3) (hp : A s s ≠ 0)
    (e : ∀ a b, a < n → b < n → A' a b = if s < a then (if b = s then 0 else if s < b then (A a b * A s s - A a s * A s b).fdiv d else A a b) else A a b) : InvD D A' σ (A s s) n (s + 1) := by
  refine ⟨?_, h.sig, hp, fun i j hi hj => ?_, bd_le (h.bd s s hs hs) bnd_mono⟩
  · have c := h.core
    have cases9 : (n = 1 ∧ s = 0) ∨ (n = 2 ∧ s = 0) ∨ (n = 3 ∧ s = 0) ∨ (n = 2 ∧ s = 1) ∨ (n = 3 ∧ s = 1) ∨ (n = 3 ∧ s = 2) := by omega
    rcases cases9 with ⟨rfl, rfl⟩ | ⟨rfl, rfl⟩ | ⟨rfl, rfl⟩ | ⟨rfl, rfl⟩ | ⟨rfl, rfl⟩ | ⟨rfl, rfl⟩
    · exact c.2
    · obtain ⟨c1, c2⟩ := c
      show σ * A' 1 1 = D
      rw [e 1 1 (by omega) (by omega), if_pos (by decide), if_neg (by decide), if_pos (by decide), c1, fdiv_one', ← c2]
      show _ = σ * det2 (A 0 0) (A 0 1) (A 1 0) (A 1 1)
      unfold det2; grind
    · obtain ⟨c1, c2⟩ := c
      refine ⟨A, c2, rfl, ?_, ?_, ?_, ?_⟩ <;> rw [e _ _ (by omega) (by omega), if_pos (by decide), if_neg (by decide), if_pos (by decide), c1, fdiv_one']
    · exact c
    · obtain ⟨B, c1, c2, c3, c4, c5, c6⟩ := c
      show σ * A' 2 2 = D
      rw [e 2 2 (by omega) (by omega), if_pos (by decide), if_neg (by decide), if_pos (by decide), c3, c4, c5, c6, c2, det3_prod, Int.mul_fdiv_cancel_left _ (c2 ▸ h.nz), ← c1]
      rfl
    · exact c
  · rw [e i j hi hj]
    have m := bnd_mono (s := s)
    split
    · split
      · exact bd_zero (Int.le_trans bnd_pos m)
      · split
        · rw [← bnd_two (by omega)]
          exact bd_step (h.bd i j hi hj) (h.bd s s hs hs) (h.bd i s hi hs) (h.bd s j hs hj) h.nz
        · exact bd_le (h.bd i j hi hj) m
    · exact bd_le (h.bd i j hi hj) m
theorem inv_init {M : Nat → Nat → Int} {n : Nat} (h1 : 1 ≤ n) (hn : n ≤ 3) (hb : ∀ i j, i < n → j < n → Bd 2 (M i j)) : InvD (detN M n) M 1 1 n 0 := by
  refine ⟨?_, .inl rfl, by decide, hb, ⟨by decide, by decide⟩⟩
  have : n = 1 ∨ n = 2 ∨ n = 3 := by omega
  rcases this with rfl | rfl | rfl <;> exact ⟨rfl, Int.one_mul _⟩
theorem inv_end {D : Int} {A : Nat → Nat → Int} {σ d : Int} {n : Nat} (h : InvD D A σ d n n) (h1 : 1 ≤ n) (hn : n ≤ 3) : σ * d = D := by
  have c := h.core
  have : n = 1 ∨ n = 2 ∨ n = 3 := by omega
  rcases this with rfl | rfl | rfl <;> exact c

-- part MI
noncomputable def MatAt (h : Heap) (pa : Addr) (M : Nat → Nat → Int) : Prop := ∃ (ρ : Nat → Addr) (k : Nat), h.get? pa = some (lstO [.ref (ρ 0), .ref (ρ 1), .ref (ρ 2)] k) ∧ ∀ i, i < 3 → ∃ (t : Nat → Tok) (k : Nat), h.get? (ρ i) = some (lstO [.int (M i 0) (t 0), .int (M i 1) (t 1), .int (M i 2) (t 2)] k)
theorem MatAt.held {h h' : Heap} {pa : Addr} {M : Nat → Nat → Int} (x : MatAt h pa M) (k : Held h h') : MatAt h' pa M := by
  obtain ⟨ρ, kk, ha, hr⟩ := x
  exact ⟨ρ, kk, k _ _ ha, fun i hi => let ⟨t, k', e⟩ := hr i hi; ⟨t, k', k _ _ e⟩⟩
theorem ints_app {zs : List Value} {ns : List Int} {x : Int} {t : Tok} (h : IntsAre zs ns) : IntsAre (zs ++ [.int x t]) (ns ++ [x]) := by
  induction h with
  | nil => exact .cons _ _ .nil
  | cons n t _ ih => exact .cons n t ih
theorem ints_len {zs : List Value} {ns : List Int} (h : IntsAre zs ns) : zs.length = ns.length := by
  induction h with
  | nil => rfl
  | cons n t _ ih => simp [ih]
/-- the lists made so far, the j-th one of the ints f j -/
noncomputable def ListsAt (f : Nat → List Int) (h0 h : Heap) (pr : List Addr) (i : Nat) (ys : List Value) : Prop :=
  ∃ qs : List (Addr × List Value), ys = qs.map (fun q => Value.ref q.1) ∧ qs.length = i ∧ ∀ (j : Nat) q, qs[j]? = some q → h.get? q.1 = some (LCg.lst q.2) ∧ IntsAre q.2 (f j) ∧ h0.get? q.1 = none ∧ q.1 ∉ pr
theorem ListsAt.stay {f : Nat → List Int} {h0 h h' : Heap} {pr : List Addr} {i : Nat} {ys : List Value} (x : ListsAt f h0 h pr i ys) (st : Stays pr h h') : ListsAt f h0 h' pr i ys := by
  obtain ⟨qs, e, hl, hq⟩ := x
  exact ⟨qs, e, hl, fun j q hj => let z := hq j q hj; ⟨st _ _ z.2.2.2 z.1, z.2⟩⟩
theorem ListsAt.zero {f : Nat → List Int} {h0 h : Heap} {pr : List Addr} : ListsAt f h0 h pr 0 [] := ⟨[], rfl, rfl, fun j q h => by simp at h⟩
theorem ListsAt.snoc {f : Nat → List Int} {h0 h h' : Heap} {pr : List Addr} {i : Nat} {ys : List Value} {q : Addr} {zs : List Value} (x : ListsAt f h0 h pr i ys) (st : Stays pr h h') (hg : h'.get? q = some (LCg.lst zs)) (hz : IntsAre zs (f i)) (h0q : h0.get? q = none) (hq : q ∉ pr) :
    ListsAt f h0 h' pr (i + 1) (ys ++ [.ref q]) := by
  obtain ⟨qs, e, hl, hqs⟩ := x.stay st
  refine ⟨qs ++ [(q, zs)], by simp [e], by simp [hl], fun j p hp => ?_⟩
  by_cases hjl : j < qs.length
  · rw [List.getElem?_append_left hjl] at hp
    exact hqs j p hp
  · rw [List.getElem?_append_right (by omega)] at hp
    have e0 : j - qs.length = 0 := by
      have := (List.getElem?_eq_some_iff.mp hp).1
      simp at this; omega
    rw [e0] at hp
    simp at hp; subst hp
    have e1 : j = i := by omega
    rw [e1]
    exact ⟨hg, hz, h0q, hq⟩
section
variable {prog : Program} {w : World} {A : Around} {E : Value → Shared → Prop} {s : Shared} {env : Env}
theorem mat_pick {a b c : Value} {r : Nat} (f : Nat → Value) (ha : f 0 = a) (hb : f 1 = b) (hc : f 2 = c) (hr : r < 3) : [a, b, c].toArray[((r : Nat) : Int).toNat]? = some (f r) := by
  subst ha hb hc
  rcases r with _ | _ | _ | r
  · rfl
  · rfl
  · rfl
  · omega
theorem held_put {h0 h h4 : Heap} {pr pr' : List Addr} (hk : Held h0 h) (hs : Stays pr' h h4) (hn : ∀ b ∈ pr, h0.get? b = none) (hp : ∀ b ∈ pr', b ∈ pr) : Held h0 h4 := fun d o e => hs d o (fun q => by rw [hn d (hp d q)] at e; cases e) (hk d o e)
set_option maxRecDepth 100000 in
/-- [a[row][column] for column in lot] -/
theorem row_comp {ca cr pa : Addr} {cl : List (Str × Addr)} {M : Nat → Nat → Int} {r : Nat} {tr : Tok} {cs : List Nat} {ys : List Value} {sc : Scope} {iter : Expr} {p1 p2 p3 p4 p5 p6 p7 : Pos} {Q : Value → Shared → Prop}
    (hsc : sc.kind = .function) (hnames : ∀ y ∈ sc.names, y.2 = .local → sc.names.lookup y.1 = some .local)
    (h1 : sc.names.lookup (Str.ofString "column") = some .local) (hcl : closureFor sc env = pure cl) (hcf : ∀ n, cellsFrom n sc.names cl = cl)
    (hla : cl.lookup (Str.ofString "a") = some ca) (hlr : cl.lookup (Str.ofString "row") = some cr)
    (hka : ∀ C, (compEnvC sc cl C env).kindOf "a" = some .cell ∨ (compEnvC sc cl C env).kindOf "a" = some .free)
    (hkr : ∀ C, (compEnvC sc cl C env).kindOf "row" = some .cell ∨ (compEnvC sc cl C env).kindOf "row" = some .free)
    (hca : s.heap.IsCell ca (some (.ref pa))) (hcr : s.heap.IsCell cr (some (.int (r : Int) tr))) (hM : MatAt s.heap pa M) (hr : r < 3) (hys : IntsAre ys (cs.map fun c : Nat => (c : Int))) (hcs : ∀ c ∈ cs, c < 3) (hlen : cs.length ≤ 3)
    (hsrc : wpAny (model prog w) A (eval iter env) (fun xv s₁ => wpAny (model prog w) A (pyIter xv) (SrcAt prog w A (.Name "column" p1) cs.length (ItemP ys.toArray) s) E s₁) E s)
    (hQ : ∀ (D : Addr) (zs : List Value) (h' : Heap) (tk : Nat), IntsAre zs (cs.map (M r)) → h'.get? D = some (LCg.lst zs) → s.heap.get? D = none → Held s.heap h' → s.heap.objs.size ≤ D → Q (.ref D) { s with heap := h', toks := tk })
    (hs : ∀ x, foldedSetIterable iter env x = pure x := by intro _; rfl) :
    wpAny (model prog w) A (eval (.ListComp (.Subscript (.Subscript (.Name "a" p2) (.Name "row" p3) p4) (.Name "column" p5) p6) [⟨.Name "column" p1, iter, [], 0⟩] sc p7) env) Q E s := by
  refine comp_clauseS (P := ItemP ys.toArray) hcl hsc hnames (by rw [sizeLine_eq]; omega) hsrc
    (fun _ i zs _ => IntsAre zs ((cs.take i).map (M r)))
    (fun _ _ _ _ _ h _ => h) (fun _ _ _ => .nil) ?_ ?_ hs
  · intro C D oc wr i zs v s₃ m₃ E' hoc' hi hP hn hc hj hk hlt hnew hCo
    have hci : cs[i]? = some cs[i] := List.getElem?_eq_getElem hi
    have hc3 : cs[i] < 3 := hcs _ (List.getElem_mem hi)
    obtain ⟨t, hv⟩ := hys.get i (cs[i] : Int) (by rw [List.getElem?_map, hci]; rfl)
    have hP' : ys[i]? = some v := by simpa [ItemP] using hP
    rw [hP'] at hv
    obtain rfl := Option.some.inj hv
    rw [hcf]
    refine comp_assign_local hsc h1 hn hc hCo fun h₄ tk₄ hn₄ hc₄ hs₄ => ?_
    refine wpAny_tests_nil ?_
    rw [if_pos rfl]
    have hk₄ : Held s.heap h₄ := held_put hk hs₄ hnew (by simp)
    obtain ⟨ρ, k, ha₄, hrow⟩ := hM.held hk₄
    obtain ⟨tt, kk, hr₄⟩ := hrow r hr
    refine Subscript_ (Subscript_ (cname_cell (c := ca) hsc (hka C) (by simpa [compEnvC] using hla) (by obtain ⟨o, ho, hd⟩ := hca; exact ⟨o, hk₄ _ _ ho, hd⟩) ?_))
    refine cname_cell (c := cr) hsc (hkr C) (by simpa [compEnvC] using hlr) (by obtain ⟨o, ho, hd⟩ := hcr; exact ⟨o, hk₄ _ _ ho, hd⟩) ?_
    refine item_listR ⟨_, ha₄, rfl, _, rfl⟩ (Int.natCast_nonneg _) (by omega) (mat_pick (fun i => .ref (ρ i)) rfl rfl rfl hr) ?_
    refine cname_local hsc (kind_local h1) hn₄ (if_pos rfl) ?_
    refine item_listR ⟨_, hr₄, rfl, _, rfl⟩ (Int.natCast_nonneg _) (by omega) (mat_pick (fun i => .int (M r i) (tt i)) rfl rfl rfl hc3) ?_
    refine ⟨turnEnd_of hn₄ hc₄ (hs₄.mono (by simp)) ⟨_, _, rfl⟩ (Held.refl _), ?_⟩
    have := ints_app (x := M r cs[i]) (t := tt cs[i]) hj
    rw [List.take_add_one, hci, List.map_append]
    exact this
  · intro pr D zs h' tk hI hl _ hD hk hsz
    rw [List.take_length] at hI
    exact hQ D zs h' tk hI hl hD hk hsz
theorem src_name {x : Str} {px : Pos} {t : Addr} {n : Nat} {items : Array Value} (hh : A.handled = none) (hn : items.size = n) (ht : s.heap.IsList t items) :
    wpAny (model prog w) A (pyIter (.ref t)) (SrcAt prog w A (.Name x px) n (ItemP items) s) E s :=
  src_list hh hn ht ⟨_, _, rfl⟩ (Held.refl _) (Nat.le_refl _) fun _ _ _ _ _ _ _ _ h => wpAny_of_eq rfl h
set_option maxRecDepth 100000 in
/-- [[a[row][column] for column in lot] for row in lot] -/
theorem rows_comp {ca cL pl pa : Addr} {cl : List (Str × Addr)} {cf cl2 : Addr → List (Str × Addr)} {M : Nat → Nat → Int} {cs : List Nat} {ys : List Value} {sc sc2 : Scope} {iter : Expr} {p1 p2 p3 p4 p5 p6 p7 p8 p9 p10 : Pos} {Q : Value → Shared → Prop} (hh : A.handled = none)
    (hsc : sc.kind = .function) (hnames : ∀ y ∈ sc.names, y.2 = .local → sc.names.lookup y.1 = some .local) (hcl : closureFor sc env = pure cl)
    (hcells : ∀ C, cellsFrom (C + 1) sc.names cl = cf C) (hoc : ∀ n, ocFrom n sc.names = [n])
    (hfr : ∀ C, (cf C).lookup (Str.ofString "row") = some (C + 1)) (hfl : ∀ C, (cf C).lookup (Str.ofString "lot") = some cL)
    (hkr : ∀ C, (compEnvC sc (cf C) C env).kindOf "row" = some .cell)
    (hkl : ∀ C, (compEnvC sc (cf C) C env).kindOf "lot" = some .cell ∨ (compEnvC sc (cf C) C env).kindOf "lot" = some .free)
    (hsc2 : sc2.kind = .function) (hnames2 : ∀ y ∈ sc2.names, y.2 = .local → sc2.names.lookup y.1 = some .local)
    (h12 : sc2.names.lookup (Str.ofString "column") = some .local) (hcl2 : ∀ C, closureFor sc2 (compEnvC sc (cf C) C env) = pure (cl2 C)) (hcf2 : ∀ C n, cellsFrom n sc2.names (cl2 C) = cl2 C)
    (hla2 : ∀ C, (cl2 C).lookup (Str.ofString "a") = some ca) (hlr2 : ∀ C, (cl2 C).lookup (Str.ofString "row") = some (C + 1))
    (hka2 : ∀ C' C, (compEnvC sc2 (cl2 C') C (compEnvC sc (cf C') C' env)).kindOf "a" = some .cell ∨ (compEnvC sc2 (cl2 C') C (compEnvC sc (cf C') C' env)).kindOf "a" = some .free)
    (hkr2 : ∀ C' C, (compEnvC sc2 (cl2 C') C (compEnvC sc (cf C') C' env)).kindOf "row" = some .cell ∨ (compEnvC sc2 (cl2 C') C (compEnvC sc (cf C') C' env)).kindOf "row" = some .free)
    (hca : s.heap.IsCell ca (some (.ref pa))) (hcL : s.heap.IsCell cL (some (.ref pl))) (hpl : s.heap.get? pl = some (LCg.lst ys)) (hM : MatAt s.heap pa M) (hys : IntsAre ys (cs.map fun c : Nat => (c : Int))) (hcs : ∀ c ∈ cs, c < 3) (hlen : cs.length ≤ 3)
    (hsrc : wpAny (model prog w) A (eval iter env) (fun xv s₁ => wpAny (model prog w) A (pyIter xv) (SrcAt prog w A (.Name "row" p8) cs.length (ItemP ys.toArray) s) E s₁) E s)
    (hQ : ∀ (D : Addr) (rs : List Value) (h' : Heap) (tk : Nat) (pr : List Addr), ListsAt (fun j => cs.map (M (cs.getD j 0))) s.heap h' pr cs.length rs → h'.get? D = some (LCg.lst rs) → s.heap.get? D = none → Held s.heap h' → s.heap.objs.size ≤ D → Q (.ref D) { s with heap := h', toks := tk })
    (hs : ∀ x, foldedSetIterable iter env x = pure x := by intro _; rfl) :
    wpAny (model prog w) A (eval (.ListComp (.ListComp (.Subscript (.Subscript (.Name "a" p2) (.Name "row" p3) p4) (.Name "column" p5) p6) [⟨.Name "column" p1, .Name "lot" p10, [], 0⟩] sc2 p7) [⟨.Name "row" p8, iter, [], 0⟩] sc p9) env) Q E s := by
  have hyl : ys.length = cs.length := by rw [ints_len hys, List.length_map]
  refine comp_clauseS (P := ItemP ys.toArray) hcl hsc hnames (by rw [sizeLine_eq]; omega) hsrc
    (fun pr i zs h => ListsAt (fun j => cs.map (M (cs.getD j 0))) s.heap h pr i zs)
    (fun _ _ _ _ _ h st => h.stay st) (fun _ _ _ => .zero) ?_ ?_ hs
  · intro C D oc wr i zs v s₃ m₃ E' hoc' hi hP hn hc hj hk hlt hnew hCo
    have hci : cs[i]? = some cs[i] := List.getElem?_eq_getElem hi
    have hc3 : cs[i] < 3 := hcs _ (List.getElem_mem hi)
    obtain ⟨t, hv⟩ := hys.get i (cs[i] : Int) (by rw [List.getElem?_map, hci]; rfl)
    have hP' : ys[i]? = some v := by simpa [ItemP] using hP
    rw [hP'] at hv
    obtain rfl := Option.some.inj hv
    rw [hoc] at hoc'; subst hoc'
    rw [hcells]
    refine comp_assign_cellS hsc (hkr C) (hfr C) (List.mem_singleton_self _) hn hc hCo fun h₄ hn₄ hcc hc₄ hs₄ hz₄ => ?_
    refine wpAny_tests_nil ?_
    rw [if_pos rfl]
    have hk₄ : Held s.heap h₄ := held_put hk hs₄ hnew (by simp)
    have cell₄ : ∀ {c : Addr} {v : Value}, s.heap.IsCell c (some v) → h₄.IsCell c (some v) := fun ⟨o, ho, hd⟩ => ⟨o, hk₄ _ _ ho, hd⟩
    refine row_comp hsc2 hnames2 h12 (hcl2 C) (hcf2 C) (hla2 C) (hlr2 C) (hka2 C) (hkr2 C) (cell₄ hca) hcc (hM.held hk₄) hc3 hys hcs hlen ?_ (fun q rs h' tk hz hg hfr hk' hsz => ?_) (fun _ => rfl)
    · refine cname_cell (c := cL) hsc (hkl C) (by simpa [compEnvC] using hfl C) (cell₄ hcL) ?_
      exact src_name hh (by simpa using hyl) ⟨_, hk₄ _ _ hpl, rfl, _, rfl⟩
    · refine ⟨turnEnd_of (h₄ := h₄) hn₄ hc₄ (hs₄.mono (by simp)) ⟨_, _, rfl⟩ hk', ?_⟩
      refine hj.snoc (fun b o hb e => hk' _ _ (hs₄ _ _ (fun q9 => hb (by rw [List.mem_singleton.mp q9]; simp)) e)) hg ?_ ?_ ?_
      · rw [List.getD_eq_getElem?_getD, hci]; exact hz
      · cases e9 : s.heap.get? q with
        | none => rfl
        | some o => have := hk₄ _ _ e9; rw [hfr] at this; cases this
      · intro hm
        exact absurd (hlt q hm) (Nat.not_lt.mpr (Nat.le_trans (Nat.le_of_eq hz₄.symm) hsz))
  · intro pr D rs h' tk hI hl _ hD hk hsz
    exact hQ D rs h' tk pr hI hl hD hk hsz
end

-- part MJ
/-- the objects made so far -/
noncomputable def ObjsAt (P : Nat → Obj → Prop) (h0 h : Heap) (pr : List Addr) (i : Nat) (ys : List Value) : Prop :=
  ∃ qs : List (Addr × Obj), ys = qs.map (fun q => Value.ref q.1) ∧ qs.length = i ∧ ∀ (j : Nat) q, qs[j]? = some q → h.get? q.1 = some q.2 ∧ P j q.2 ∧ h0.get? q.1 = none ∧ q.1 ∉ pr
theorem ObjsAt.stay {P : Nat → Obj → Prop} {h0 h h' : Heap} {pr : List Addr} {i : Nat} {ys : List Value} (x : ObjsAt P h0 h pr i ys) (st : Stays pr h h') : ObjsAt P h0 h' pr i ys := by
  obtain ⟨qs, e, hl, hq⟩ := x
  exact ⟨qs, e, hl, fun j q hj => let z := hq j q hj; ⟨st _ _ z.2.2.2 z.1, z.2⟩⟩
theorem ObjsAt.zero {P : Nat → Obj → Prop} {h0 h : Heap} {pr : List Addr} : ObjsAt P h0 h pr 0 [] := ⟨[], rfl, rfl, fun j q h => by simp at h⟩
theorem ObjsAt.snoc {P : Nat → Obj → Prop} {h0 h h' : Heap} {pr : List Addr} {i : Nat} {ys : List Value} {q : Addr} {o : Obj} (x : ObjsAt P h0 h pr i ys) (st : Stays pr h h') (hg : h'.get? q = some o) (hz : P i o) (h0q : h0.get? q = none) (hq : q ∉ pr) :
    ObjsAt P h0 h' pr (i + 1) (ys ++ [.ref q]) := by
  obtain ⟨qs, e, hl, hqs⟩ := x.stay st
  refine ⟨qs ++ [(q, o)], by simp [e], by simp [hl], fun j p hp => ?_⟩
  by_cases hjl : j < qs.length
  · rw [List.getElem?_append_left hjl] at hp
    exact hqs j p hp
  · rw [List.getElem?_append_right (by omega)] at hp
    have e0 : j - qs.length = 0 := by
      have := (List.getElem?_eq_some_iff.mp hp).1
      simp at this; omega
    rw [e0] at hp
    simp at hp; subst hp
    have e1 : j = i := by omega
    rw [e1]
    exact ⟨hg, hz, h0q, hq⟩
/-- the lots, in their order -/
noncomputable def lotN : Nat → List Nat
  | 0 => [0]
  | 1 => [1]
  | 2 => [0, 1]
  | 3 => [2]
  | 4 => [0, 2]
  | 5 => [1, 2]
  | _ => [0, 1, 2]
theorem lotN_lt (j : Nat) : (∀ c ∈ lotN j, c < 3) ∧ (lotN j).length ≤ 3 := by
  unfold lotN; split <;> simp
noncomputable def minor (M : Nat → Nat → Int) : List Nat → Int
  | [a] => M a a
  | [a, b] => det2 (M a a) (M a b) (M b a) (M b b)
  | [a, b, c] => det3 (M a a) (M a b) (M a c) (M b a) (M b b) (M b c) (M c a) (M c b) (M c c)
  | _ => 0
structure LotsIn (h0 h : Heap) (pl : Addr) (qs : List (Addr × List Value)) : Prop where
  at_ : h.get? pl = some (LCg.lst (qs.map fun q => Value.ref q.1))
  len : qs.length = 7
  each : ∀ (j : Nat) q, qs[j]? = some q → h.get? q.1 = some (LCg.lst q.2) ∧ IntsAre q.2 ((lotN j).map fun c : Nat => (c : Int))
  new : ∀ (j : Nat) q, qs[j]? = some q → h0.get? q.1 = none
section
variable {prog : Program} {w : World} {A : Around} {E : Value → Shared → Prop} {s : Shared} {env : Env}
noncomputable def MinorO (M : Nat → Nat → Int) (qs : List (Addr × List Value)) (j : Nat) (o : Obj) : Prop := ∃ q t, qs[j]? = some q ∧ o = tupO [.ref q.1, .int (minor M (lotN j)) t]
set_option maxRecDepth 100000 in
theorem minors_core {K : Frag} {ca pa : Addr} {cl : List (Str × Addr)} {cf cl1 : Addr → List (Str × Addr)} {cf1 cl2 : Addr → Addr → List (Str × Addr)} {M : Nat → Nat → Int} {sc sc1 sc2 : Scope} {iter : Expr} {p1 p2 p3 p4 p5 p6 p7 p8 p9 p10 p11 p12 p13 p14 p15 p16 p17 : Pos} {kt : Nat} {Q : Value → Shared → Prop} (hh : A.handled = none)
    (hsc : sc.kind = .function) (hnames : ∀ y ∈ sc.names, y.2 = .local → sc.names.lookup y.1 = some .local) (hcl : closureFor sc env = pure cl)
    (hcells : ∀ C, cellsFrom (C + 1) sc.names cl = cf C) (hoc : ∀ n, ocFrom n sc.names = [n])
    (hfl : ∀ C, (cf C).lookup (Str.ofString "lot") = some (C + 1)) (hkl : ∀ C, (compEnvC sc (cf C) C env).kindOf "lot" = some .cell)
    (hsc1 : sc1.kind = .function) (hnames1 : ∀ y ∈ sc1.names, y.2 = .local → sc1.names.lookup y.1 = some .local) (hcl1 : ∀ C, closureFor sc1 (compEnvC sc (cf C) C env) = pure (cl1 C))
    (hcells1 : ∀ C C1, cellsFrom (C1 + 1) sc1.names (cl1 C) = cf1 C C1) (hoc1 : ∀ n, ocFrom n sc1.names = [n])
    (hfr1 : ∀ C C1, (cf1 C C1).lookup (Str.ofString "row") = some (C1 + 1)) (hfl1 : ∀ C C1, (cf1 C C1).lookup (Str.ofString "lot") = some (C + 1))
    (hkr1 : ∀ C C1, (compEnvC sc1 (cf1 C C1) C1 (compEnvC sc (cf C) C env)).kindOf "row" = some .cell)
    (hkl1 : ∀ C C1, (compEnvC sc1 (cf1 C C1) C1 (compEnvC sc (cf C) C env)).kindOf "lot" = some .cell ∨ (compEnvC sc1 (cf1 C C1) C1 (compEnvC sc (cf C) C env)).kindOf "lot" = some .free)
    (hsc2 : sc2.kind = .function) (hnames2 : ∀ y ∈ sc2.names, y.2 = .local → sc2.names.lookup y.1 = some .local)
    (h12 : sc2.names.lookup (Str.ofString "column") = some .local) (hcl2 : ∀ C C1, closureFor sc2 (compEnvC sc1 (cf1 C C1) C1 (compEnvC sc (cf C) C env)) = pure (cl2 C C1)) (hcf2 : ∀ C C1 n, cellsFrom n sc2.names (cl2 C C1) = cl2 C C1)
    (hla2 : ∀ C C1, (cl2 C C1).lookup (Str.ofString "a") = some ca) (hlr2 : ∀ C C1, (cl2 C C1).lookup (Str.ofString "row") = some (C1 + 1))
    (hka2 : ∀ C C1 C2, (compEnvC sc2 (cl2 C C1) C2 (compEnvC sc1 (cf1 C C1) C1 (compEnvC sc (cf C) C env))).kindOf "a" = some .cell ∨ (compEnvC sc2 (cl2 C C1) C2 (compEnvC sc1 (cf1 C C1) C1 (compEnvC sc (cf C) C env))).kindOf "a" = some .free)
    (hkr2 : ∀ C C1 C2, (compEnvC sc2 (cl2 C C1) C2 (compEnvC sc1 (cf1 C C1) C1 (compEnvC sc (cf C) C env))).kindOf "row" = some .cell ∨ (compEnvC sc2 (cl2 C C1) C2 (compEnvC sc1 (cf1 C C1) C1 (compEnvC sc (cf C) C env))).kindOf "row" = some .free)
    (hca : s.heap.IsCell ca (some (.ref pa))) (hM : MatAt s.heap pa M) (X : K.In s.heap) (hkeep : keepIn K (.ref 123) = true)
    (hname : ∀ (C : Addr) (s' : Shared) (Q' E' : Value → Shared → Prop), Held s.heap s'.heap → Q' (.ref 123) s' → wpAny (model prog w) A (eval (.Name "determinant" p11) (compEnvC sc (cf C) C env)) Q' E' s')
    (hdet : ∀ (j : Nat) (s' : Shared) (D : Addr) (qs : List (Addr × List Value)) (Q' E' : Value → Shared → Prop), Held s.heap s'.heap → s'.heap.get? D = some (LCg.lst (qs.map fun q => Value.ref q.1)) → s.heap.get? D = none → qs.length = (lotN j).length →
      (∀ (i : Nat) q, qs[i]? = some q → s'.heap.get? q.1 = some (LCg.lst q.2) ∧ IntsAre q.2 ((lotN j).map (M ((lotN j).getD i 0))) ∧ s.heap.get? q.1 = none) →
      (∀ t h' tk', Held s'.heap h' → s'.heap.objs.size ≤ h'.objs.size → Q' (.int (minor M (lotN j)) t) { s' with heap := h', toks := tk' }) → wpAny (model prog w) A (call (.ref 123) [.ref D]) Q' E' s')
    (hiter : wpAny (model prog w) A (eval iter env) (fun xv s₁ => ∃ pl qs h tk, xv = .ref pl ∧ s₁ = { s with heap := h, toks := tk } ∧ Held s.heap h ∧ LotsIn s.heap h pl qs) E s)
    (hQ : ∀ (D pl : Addr) (qs : List (Addr × List Value)) (rs : List Value) (h' : Heap) (tk : Nat) (pr : List Addr), LotsIn s.heap h' pl qs → ObjsAt (MinorO M qs) s.heap h' pr 7 rs → h'.get? D = some (LCg.lst rs) → s.heap.get? D = none → Held s.heap h' → Q (.ref D) { s with heap := h', toks := tk }) :
    wpAny (model prog w) A (eval iter env) (fun xv s₁ => wpAny (model prog w) A (pyIter xv) (fun it s₂ => ∃ I, it = .ref I ∧
      wpAny (model prog w) A (newList []) (fun acc s₃ => wpAny (model prog w) A (newFunctionEnv sc env.globals cl [] env.qual none .none (some env)) (fun cenv s₄ =>
        codeAny (model prog w) A (.compStart (.ListComp (.Tuple [.Name "lot" p12, .Call (.Name "determinant" p11) [.ListComp (.ListComp (.Subscript (.Subscript (.Name "a" p2) (.Name "row" p3) p4) (.Name "column" p5) p6) [⟨.Name "column" p1, .Name "lot" p10, [], 0⟩] sc2 p7) [⟨.Name "row" p8, .Name "lot" p13, [], 0⟩] sc1 p9] [] p14] kt p15) [⟨.Name "lot" p16, iter, [], 0⟩] sc p17) 0 (.ref I) acc { cenv with scope := relabel sc env }) (compPost (model prog w) A E none Q acc cenv.locals) s₄) E s₃) E s₂) E s₁) E s := by
  refine wpAny_mono hiter (fun xv s₁ h₁ => ?_) fun _ _ e => e
  obtain ⟨pl, qs, h1, tk1, rfl, rfl, hk1, hL⟩ := h₁
  refine comp_core (n := 7) (P := ItemP (qs.map fun q => Value.ref q.1).toArray) (by rw [sizeLine_eq]; omega) (src_name hh (by simp [hL.len]) ⟨_, hL.at_, rfl, _, rfl⟩)
    (fun pr i zs h => ObjsAt (MinorO M qs) h1 h pr i zs)
    (fun _ _ _ _ _ h st => h.stay st) (fun _ _ _ => .zero) ?_ ?_
  · intro C D oc wr i zs v s₃ m₃ E' hoc' hi hP hn hc hj hk hlt hnew hCo
    obtain ⟨q, hqi⟩ : ∃ q, qs[i]? = some q := ⟨_, List.getElem?_eq_getElem (by rw [hL.len]; exact hi)⟩
    have hP' : v = .ref q.1 := by
      have : (qs.map fun q => Value.ref q.1)[i]? = some v := by simpa [ItemP] using hP
      rw [List.getElem?_map, hqi] at this
      exact (Option.some.inj this).symm
    subst hP'
    obtain ⟨hgq, hzq⟩ := hL.each i q hqi
    rw [hoc] at hoc'; subst hoc'
    rw [hcells]
    refine comp_assign_cellS hsc (hkl C) (hfl C) (List.mem_singleton_self _) hn hc hCo fun h₄ hn₄ hcc hc₄ hs₄ hz₄ => ?_
    refine wpAny_tests_nil ?_
    rw [if_pos rfl]
    have hk₄ : Held h1 h₄ := held_put hk hs₄ hnew (by simp)
    have hk₀ : Held s.heap h₄ := hk1.trans hk₄
    have cell₄ : ∀ {c : Addr} {v : Value}, s.heap.IsCell c (some v) → h₄.IsCell c (some v) := fun ⟨o, ho, hd⟩ => ⟨o, hk₀ _ _ ho, hd⟩
    refine Tuple_ (args_cons (cname_cell (c := C + 1) hsc (.inl (hkl C)) (by simpa [compEnvC] using hfl C) hcc (args_cons (Call_ (hname C _ _ _ hk₀ (callWith_K X hkeep (args_cons ?_)))))))
    refine rows_comp hh hsc1 hnames1 (hcl1 C) (hcells1 C) hoc1 (hfr1 C) (hfl1 C) (hkr1 C) (hkl1 C) hsc2 hnames2 h12 (hcl2 C) (hcf2 C) (hla2 C) (hlr2 C) (hka2 C) (hkr2 C) (cell₄ hca) hcc (hk₄ _ _ hgq) (hM.held hk₀) hzq (lotN_lt i).1 (lotN_lt i).2 ?_ (fun D' rs h5 tk5 pr5 hrs hg5 hf5 hk5 hz5 => ?_) (fun _ => rfl)
    · refine cname_cell (c := C + 1) hsc (.inl (hkl C)) (by simpa [compEnvC] using hfl C) hcc ?_
      exact src_name hh (by have := ints_len hzq; simpa using this) ⟨_, hk₄ _ _ hgq, rfl, _, rfl⟩
    · have none₄ : ∀ {b : Addr}, h₄.get? b = none → s.heap.get? b = none := fun {b} e => by
        cases e9 : s.heap.get? b with
        | none => rfl
        | some o => have := hk₀ _ _ e9; rw [e] at this; cases this
      obtain ⟨qs5, rfl, hl5, hq5⟩ := hrs
      have hs5 : h₄.objs.size ≤ h5.objs.size := Nat.le_trans hz5 (Nat.le_of_lt (Heap.lt_size hg5))
      refine args_nil ⟨X.keeps (hk₀.trans hk5), ?_⟩
      refine hdet i _ D' qs5 _ _ (hk₀.trans hk5) hg5 (none₄ hf5) hl5 (fun i' q' hq' => let z := hq5 i' q' hq'; ⟨z.1, z.2.1, none₄ z.2.2.1⟩) fun t h6 tk6 hk6 hz6 => ?_
      refine args_nil ?_
      unfold newTuple
      have hk7 : Held h6 (h6.push (tupO [.ref q.1, .int (minor M (lotN i)) t])) := fun b o e => Heap.get?_push_of_some _ e
      refine wpAny_newObj_type ⟨turnEnd_of (h₄ := h₄) hn₄ hc₄ (hs₄.mono (by simp)) ⟨_, _, rfl⟩ ((hk5.trans hk6).trans hk7), ?_⟩ (by show _ ≤ sizeLine; rw [sizeLine_eq]; simp)
      refine hj.snoc (fun b o hb e => hk7 _ _ (hk6 _ _ (hk5 _ _ (hs₄ _ _ (fun q9 => hb (by rw [List.mem_singleton.mp q9]; simp)) e)))) (Heap.get?_push_size _ rfl) ⟨q, t, hqi, rfl⟩ ?_ ?_
      · cases e9 : h1.get? h6.objs.size with
        | none => rfl
        | some o => exact absurd (Heap.lt_size (hk6 _ _ (hk5 _ _ (hk₄ _ _ e9)))) (Nat.lt_irrefl _)
      · intro hm
        refine absurd (hlt _ hm) (Nat.not_lt.mpr ?_)
        exact Nat.le_trans (Nat.le_of_eq hz₄.symm) (Nat.le_trans hs5 hz6)
  · intro pr D rs h' tk hI hl _ hD hk hsz
    refine hQ D pl qs rs h' tk pr ⟨hk _ _ hL.at_, hL.len, fun j q hj => let z := hL.each j q hj; ⟨hk _ _ z.1, z.2⟩, hL.new⟩ ?_ hl ?_ (hk1.trans hk)
    · obtain ⟨os, e, hl', ho⟩ := hI
      refine ⟨os, e, hl', fun j o hj => let z := ho j o hj; ⟨z.1, z.2.1, ?_, z.2.2.2⟩⟩
      cases e9 : s.heap.get? o.1 with
      | none => rfl
      | some o' => have := hk1 _ _ e9; rw [z.2.2.1] at this; cases this
    · cases e9 : s.heap.get? D with
      | none => rfl
      | some o' => have := hk1 _ _ e9; rw [hD] at this; cases this
end

-- part PL
abbrev e3 (elt it0 it1 it2 : Expr) (q0 q1 q2 : Pos) (sc : Scope) (pos : Pos) : Expr := .ListComp elt [⟨.Name "i" q0, it0, [], 0⟩, ⟨.Name "j" q1, it1, [], 0⟩, ⟨.Name "k" q2, it2, [], 0⟩] sc pos
section
variable {prog : Program} {w : World} {A : Around} {E : Value → Shared → Prop} {s : Shared} {env : Env} {R : Result → Shared → Prop} {elt it0 it1 it2 : Expr} {q0 q1 q2 : Pos} {sc : Scope} {pos : Pos} {it acc : Value}
theorem turn_last : compTurn (e3 elt it0 it1 it2 q0 q1 q2 sc pos) 2 it acc env = (standAt it2.pos >>= fun _ => pyNext it >>= fun r => match r with
      | none => pure (.done .next)
      | some v => letOwnedTupleGo (.Name "k" q2) it v >>= fun _ => assign (.Name "k" q2) env v >>= fun _ =>
        (eval elt env >>= fun x => call (.builtin "list.append") [acc, x] >>= fun _ => pure ()) >>= fun _ => again (.compLoop (e3 elt it0 it1 it2 q0 q1 q2 sc pos) 2 it acc env)) := by rfl
theorem turn_one : compTurn (e3 elt it0 it1 it2 q0 q1 q2 sc pos) 1 it acc env = (standAt it1.pos >>= fun _ => pyNext it >>= fun r => match r with
      | none => pure (.done .next)
      | some v => letOwnedTupleGo (.Name "j" q1) it v >>= fun _ => assign (.Name "j" q1) env v >>= fun _ =>
        eval it2 env >>= fun x => standAt it2.pos >>= fun _ => foldedSetIterable it2 env x >>= fun x => holding [x] (pyIter x) >>= fun y => runOwn (.compStart (e3 elt it0 it1 it2 q0 q1 q2 sc pos) 2 y acc env) env >>= fun _ => again (.compLoop (e3 elt it0 it1 it2 q0 q1 q2 sc pos) 1 it acc env)) := by rfl
theorem turn_zero : compTurn (e3 elt it0 it1 it2 q0 q1 q2 sc pos) 0 it acc env = (standAt it0.pos >>= fun _ => pyNext it >>= fun r => match r with
      | none => pure (.done .next)
      | some v => letOwnedTupleGo (.Name "i" q0) it v >>= fun _ => assign (.Name "i" q0) env v >>= fun _ =>
        eval it1 env >>= fun x => standAt it1.pos >>= fun _ => foldedSetIterable it1 env x >>= fun x => holding [x] (pyIter x) >>= fun y => runOwn (.compStart (e3 elt it0 it1 it2 q0 q1 q2 sc pos) 1 y acc env) env >>= fun _ => again (.compLoop (e3 elt it0 it1 it2 q0 q1 q2 sc pos) 0 it acc env)) := by rfl
theorem loop_last (I : Nat → Shared → Prop)
    (turn : ∀ n s, I n s → wpAny (model prog w) A (pyNext it) (fun r s₁ => match r with
      | none => R (.ok .next) s₁
      | some v => wpAny (model prog w) A (assign (.Name "k" q2) env v) (fun _ s₂ => wpAny (model prog w) A (eval elt env) (fun x s₄ =>
          wpAny (model prog w) A (call (.builtin "list.append") [acc, x]) (fun _ s₅ => ∃ m, m < n ∧ I m s₅) (notedBy (model prog w) A env fun e s' => R (.error e) s') s₄) (notedBy (model prog w) A env fun e s' => R (.error e) s') s₂) (notedBy (model prog w) A env fun e s' => R (.error e) s') s₁) (notedBy (model prog w) A env fun e s' => R (.error e) s') s)
    (n : Nat) (h : I n s) : codeAny (model prog w) A (.compLoop (e3 elt it0 it1 it2 q0 q1 q2 sc pos) 2 it acc env) R s := by
  refine codeAny_loop rfl I (fun n s hI => ?_) n h
  show wpAny _ A ((compTurn (e3 elt it0 it1 it2 q0 q1 q2 sc pos) 2 it acc env).onRaise (fun x => do noteFrame x env; theTreesLotGoes x)) _ _ s
  refine wpAny_noted ?_
  rw [turn_last]
  refine wpAny_bind (wpAny_standAt (wpAny_bind (wpAny_mono (turn n s hI) (fun r s₁ h₁ => ?_) fun _ _ h' => h')))
  cases r with
  | none => exact wpAny_pure h₁
  | some v => exact wpAny_bind (wpAny_of_eq rfl (wpAny_bind (wpAny_mono h₁ (fun _ s₂ h₂ => wpAny_bind (wpAny_bind (wpAny_mono h₂ (fun x s₄ h₄ => wpAny_bind (wpAny_mono h₄ (fun _ s₅ h₅ => wpAny_pure (wpAny_pure ⟨rfl, h₅⟩)) fun _ _ h' => h')) fun _ _ h' => h'))) fun _ _ h' => h')))
/-- a loop whose turns begin a further one -/
theorem loop_more {e tgt it' : Expr} {x : Str} {px pz : Pos} {d : Nat} (hq : (Code.compLoop e d it acc env).quiet = true) (htgt : tgt = .Name x px)
    (hden : ∀ s Q E, wpAny (model prog w) A ((compTurn e d it acc env).onRaise (fun x => do noteFrame x env; theTreesLotGoes x)) Q E s → wpAny (model prog w) (A.under (.compLoop e d it acc env)) ((model prog w).den (.compLoop e d it acc env)) Q E s)
    (heq : compTurn e d it acc env = (standAt pz >>= fun _ => pyNext it >>= fun r => match r with
      | none => pure (.done .next)
      | some v => letOwnedTupleGo tgt it v >>= fun _ => assign tgt env v >>= fun _ =>
        eval it' env >>= fun x => standAt it'.pos >>= fun _ => foldedSetIterable it' env x >>= fun x => holding [x] (pyIter x) >>= fun y => runOwn (.compStart e (d + 1) y acc env) env >>= fun _ => again (.compLoop e d it acc env)))
    (hs : ∀ x, foldedSetIterable it' env x = pure x)
    (I : Nat → Shared → Prop)
    (turn : ∀ n s, I n s → wpAny (model prog w) A (pyNext it) (fun r s₁ => match r with
      | none => R (.ok .next) s₁
      | some v => wpAny (model prog w) A (assign tgt env v) (fun _ s₂ => wpAny (model prog w) A (eval it' env) (fun x s₃ => wpAny (model prog w) A (pyIter x) (fun y s₄ =>
          codeAny (model prog w) (A.mark none) (.compStart e (d + 1) y acc env) (fun r s' => match r with | .ok _ => ∃ m, m < n ∧ I m s' | .error e => cameBackBy (model prog w) A env (notedBy (model prog w) A env fun e s' => R (.error e) s') e s') s₄) (notedBy (model prog w) A env fun e s' => R (.error e) s') s₃)
          (notedBy (model prog w) A env fun e s' => R (.error e) s') s₂) (notedBy (model prog w) A env fun e s' => R (.error e) s') s₁) (notedBy (model prog w) A env fun e s' => R (.error e) s') s)
    (n : Nat) (h : I n s) : codeAny (model prog w) A (.compLoop e d it acc env) R s := by
  subst htgt
  refine codeAny_loop hq I (fun n s hI => ?_) n h
  refine hden _ _ _ (wpAny_noted ?_)
  rw [heq]
  refine wpAny_bind (wpAny_standAt (wpAny_bind (wpAny_mono (turn n s hI) (fun r s₁ h₁ => ?_) fun _ _ h' => h')))
  cases r with
  | none => exact wpAny_pure h₁
  | some v =>
    refine wpAny_bind (wpAny_of_eq rfl (wpAny_bind (wpAny_mono h₁ (fun _ s₂ h₂ => wpAny_bind (wpAny_mono h₂ (fun x s₃ h₃ => wpAny_bind (wpAny_standAt (wpAny_bind (wpAny_of_eq (hs x) (wpAny_bind (wpAny_holding (wpAny_mono h₃ (fun y s₄ h₄ => ?_) fun _ _ h' => h'))))))) fun _ _ h' => h')) fun _ _ h' => h')))
    refine wpAny_bind (wpAny_runOwn (codeAny_mono h₄ fun r s' hr => ?_))
    cases r with
    | ok f => exact wpAny_pure ⟨rfl, hr⟩
    | error e => exact hr
theorem comp_assign_localS {x : Str} {px : Pos} {C : Addr} {scope : Scope} {cells : List (Str × Addr)} {v : Value} {m : Str → Option Value} {Q : Unit → Shared → Prop}
    (hkind : scope.kind = .function) (hx : scope.names.lookup x = some .local) (hn : s.heap.Ns C m)
    (h : ∀ (h' : Heap) (tk : Nat), h'.Ns C (fun y => if y = x then some v else m y) → Stays [C] s.heap h' → h'.objs.size = s.heap.objs.size → Q () { s with heap := h', toks := tk }) :
    wpAny (model prog w) A (assign (.Name x px) (compEnvC scope cells C env) v) Q E s := by
  refine wpAny_assign_Name (wpAny_storeName_local (lookup_relabel_local hx) hn (fun h₃ hn₃ hs₃ => ?_) (by simp [compEnvC, relabel, hkind]))
  exact h h₃ _ hn₃ (Stays.ofBut hs₃.extBut) hs₃.1
end
noncomputable def KeyIs (h : Heap) (a : Addr) (m : Mon) : Prop := ∃ t1 t2 t3, h.get? a = some (keyO m.1 m.2.1 m.2.2 t1 t2 t3)
noncomputable def AccAt (hb : Heap) (h : Heap) (D : Addr) (ms : List Mon) : Prop := ∃ os : List Addr, h.get? D = some (LCg.lst (os.map Value.ref)) ∧ Paired (KeyIs h) os ms ∧ ∀ a ∈ os, hb.get? a = none
noncomputable def NoTup (h : Heap) (b : Addr) : Prop := ∀ vs, h.get? b ≠ some (tupO vs)
theorem paired_keep {h h' : Heap} {pr : List Addr} (st : Stays pr h h') (hp : ∀ b ∈ pr, NoTup h b) {os : List Addr} {ms : List Mon} (P : Paired (KeyIs h) os ms) : Paired (KeyIs h') os ms := by
  refine paired_mono (fun a m k => ?_) P
  obtain ⟨t1, t2, t3, e⟩ := k
  exact ⟨t1, t2, t3, st _ _ (fun hm => hp a hm _ e) e⟩
theorem AccAt.stay {lo : Heap} {h h' : Heap} {D : Addr} {ms : List Mon} {pr : List Addr} (x : AccAt lo h D ms) (st : Stays pr h h') (hD : D ∉ pr) (hp : ∀ b ∈ pr, NoTup h b) : AccAt lo h' D ms := by
  obtain ⟨os, e, P, l⟩ := x
  exact ⟨os, st _ _ hD e, paired_keep st hp P, l⟩
theorem noTup_ns {h : Heap} {C : Addr} {m : Str → Option Value} (hn : h.Ns C m) : NoTup h C := fun vs e => by
  obtain ⟨o, es, ep, ho, hd, _⟩ := hn
  rw [ho] at e
  have := Option.some.inj e
  rw [this] at hd
  cases hd
theorem noTup_iter {h : Heap} {I : Addr} {a b c : Int} (hI : IsRangeIter h I a b c) : NoTup h I := fun vs e => by
  have hI' : h.get? I = some _ := hI
  rw [hI'] at e
  have := congrArg Obj.data (Option.some.inj e)
  cases this
theorem noTup_acc {lo : Heap} {h : Heap} {D : Addr} {ms : List Mon} (x : AccAt lo h D ms) : NoTup h D := fun vs e => by
  obtain ⟨os, e', _⟩ := x
  rw [e'] at e
  have h3 : Value.type "list" = Value.type "tuple" := congrArg Obj.cls (Option.some.inj e)
  exact absurd h3 (by decide)
section
variable {prog : Program} {w : World} {A : Around} {E : Value → Shared → Prop} {s : Shared} {env : Env} {R : Result → Shared → Prop} {it0 it1 it2 : Expr} {q0 q1 q2 a1 a2 a3 pt : Pos} {sc scp : Scope} {pos : Pos} {kt : Nat} {cl : List (Str × Addr)}
abbrev tup3 (a1 a2 a3 : Pos) (kt : Nat) (pt : Pos) : Expr := .Tuple [.Name "i" a1, .Name "j" a2, .Name "k" a3] kt pt
theorem lvl2 {C D I : Addr} {lo : Heap} {n : Nat} {m : Str → Option Value} {i j : Int} {ti tj : Tok} {ms0 : List Mon} (hh : A.handled = none) (hsc : scp.kind = .function)
    (hki : scp.names.lookup (Str.ofString "i") = some .local) (hkj : scp.names.lookup (Str.ofString "j") = some .local) (hkk : scp.names.lookup (Str.ofString "k") = some .local)
    (hn : s.heap.Ns C m) (hi : m (Str.ofString "i") = some (.int i ti)) (hj : m (Str.ofString "j") = some (.int j tj)) (hI : IsRangeIter s.heap I 0 n 1) (hA : AccAt lo s.heap D ms0) (hlo : Held lo s.heap) (hbC : lo.get? C = none) (hbD : lo.get? D = none) (hbI : lo.get? I = none) (hCD : C ≠ D) (hCI : C ≠ I) (hDI : D ≠ I) (hb : ms0.length + n ≤ 1000)
    (hR : ∀ h' tk' m', Stays [C, D, I] s.heap h' → h'.Ns C m' → (∀ y, y ≠ Str.ofString "k" → m' y = m y) → AccAt lo h' D (ms0 ++ (List.range n).map fun k : Nat => (i, j, (k : Int))) → R (.ok .next) { s with heap := h', toks := tk' }) :
    codeAny (model prog w) A (.compLoop (e3 (tup3 a1 a2 a3 kt pt) it0 it1 it2 q0 q1 q2 sc pos) 2 (.ref I) (.ref D) (compEnvC scp cl C env)) R s := by
  refine loop_last (fun n' s' => ∃ k h' tk' m', n' = n + 1 - k ∧ k ≤ n ∧ s' = { s with heap := h', toks := tk' } ∧ IsRangeIter h' I ((k : Nat) : Int) ((n : Int) - (k : Nat)) 1 ∧ h'.Ns C m' ∧ (∀ y, y ≠ Str.ofString "k" → m' y = m y) ∧
    AccAt lo h' D (ms0 ++ (List.range k).map fun k : Nat => (i, j, (k : Int))) ∧ Stays [C, D, I] s.heap h') ?_ (n + 1)
    ⟨0, s.heap, s.toks, m, rfl, Nat.zero_le _, rfl, by simpa using hI, hn, fun _ _ => rfl, by simpa using hA, Stays.refl _ _⟩
  rintro n' s' ⟨k, h', tk', m', rfl, hk, rfl, hI', hn', hm', hA', hst⟩
  by_cases hkn : k < n
  · refine wpAny_pyNext_range_item hI' (by omega) fun h1 hI1 hs1 => ?_
    have st1 : Stays [I] h' h1 := Stays.ofBut hs1.extBut
    have hn1 : h1.Ns C m' := hn'.sameBut hs1 hCI
    have hA1 := hA'.stay st1 (by simpa using hDI) (by simpa using noTup_iter hI')
    refine comp_assign_localS hsc hkk hn1 fun h2 tk2 hn2 st2 hz2 => ?_
    have hA2 := hA1.stay st2 (by simpa using hCD.symm) (by simpa using noTup_ns hn1)
    refine Tuple_ (args_cons (cname_local hsc (kind_local hki) hn2 (by rw [if_neg (by decide), hm' _ (by decide)]; exact hi) (args_cons (cname_local hsc (kind_local hkj) hn2 (by rw [if_neg (by decide), hm' _ (by decide)]; exact hj) (args_cons (cname_local hsc (kind_local hkk) hn2 (if_pos rfl) (args_nil ?_)))))))
    unfold newTuple
    refine wpAny_newObj_type ?_ (by show _ ≤ sizeLine; rw [sizeLine_eq]; simp)
    dsimp only
    have hk3 : Held h2 (h2.push (tupO [.int i ti, .int j tj, .int ((k : Nat) : Int) tk'])) := fun b o e => Heap.get?_push_of_some _ e
    have hT : (h2.push (tupO [.int i ti, .int j tj, .int ((k : Nat) : Int) tk'])).get? h2.objs.size = some (tupO [.int i ti, .int j tj, .int ((k : Nat) : Int) tk']) := Heap.get?_push_size _ rfl
    have hsz3 : (h2.push (tupO [.int i ti, .int j tj, .int ((k : Nat) : Int) tk'])).objs.size = h2.objs.size + 1 := Heap.size_push ..
    generalize h2.push (tupO [.int i ti, .int j tj, .int ((k : Nat) : Int) tk']) = h3 at *
    obtain ⟨os, hD2, hP2, hl2⟩ := hA2
    have hol : os.length = ms0.length + k := by rw [paired_length hP2]; simp
    refine append_at (s := { s with heap := h3, toks := _ }) (hk3 _ _ hD2) (fun h4 hs4 hD4 => ?_) (by rw [sizeLine_eq]; simp; omega)
    have st4 : Stays [D] h3 h4 := Stays.ofBut hs4.extBut
    have hTD : h2.objs.size ≠ D := fun e => absurd (Heap.lt_size hD2) (by rw [← e]; exact Nat.lt_irrefl _)
    have stAll : Stays [C, D, I] h' h4 := fun b o hb e => st4 b o (fun q => hb (by simp at q; simp [q])) (hk3 _ _ (st2 b o (fun q => hb (by simp at q; simp [q])) (st1 b o (fun q => hb (by simp at q; simp [q])) e)))
    refine ⟨n + 1 - (k + 1), by omega, k + 1, h4, _, _, rfl, hkn, rfl, ?_, (hn2.keeps hk3).sameBut hs4 hCD, fun y hy => by rw [if_neg hy]; exact hm' y hy, ?_, hst.trans stAll⟩
    · have hI4 : h4.get? I = some _ := st4 I _ (by simpa using hDI.symm) (hk3 _ _ (st2 I _ (by simpa using hCI.symm) hI1))
      show h4.get? I = some _
      rw [hI4]
      have e1 : ((k : Nat) : Int) + 1 = ((k + 1 : Nat) : Int) := by omega
      have e2 : (n : Int) - (k : Nat) - 1 = (n : Int) - ((k + 1 : Nat) : Int) := by omega
      rw [e1, e2]
    · refine ⟨os ++ [h2.objs.size], ?_, ?_, ?_⟩
      · rw [List.map_append]
        exact hD4.trans (congrArg some (LCg.lst_snoc _ _))
      · rw [List.range_succ, List.map_append, ← List.append_assoc]
        have hP3 : Paired (KeyIs h3) os (ms0 ++ (List.range k).map fun k : Nat => (i, j, (k : Int))) := paired_mono (fun a m ⟨t1, t2, t3, e⟩ => ⟨t1, t2, t3, hk3 _ _ e⟩) hP2
        have hD3 : NoTup h3 D := noTup_acc (lo := lo) (ms := ms0 ++ (List.range k).map fun k : Nat => (i, j, (k : Int))) ⟨os, hk3 _ _ hD2, hP3, hl2⟩
        exact Paired.snoc (paired_keep st4 (by simpa using hD3) hP3) ⟨ti, tj, tk', st4 _ _ (by simpa using hTD) hT⟩
      · intro a ha
        rcases List.mem_append.mp ha with ha | ha
        · exact hl2 a ha
        · rw [List.mem_singleton.mp ha]
          have hz1 : h1.objs.size = h'.objs.size := hs1.1
          cases e9 : lo.get? h2.objs.size with
          | none => rfl
          | some o =>
            have nb : h2.objs.size ∉ [C, D, I] := fun hm => by
              simp only [List.mem_cons, List.not_mem_nil, or_false] at hm
              rcases hm with q | q | q
              · rw [q, hbC] at e9; cases e9
              · rw [q, hbD] at e9; cases e9
              · rw [q, hbI] at e9; cases e9
            have e2 : h2.get? h2.objs.size = some o := st2 _ _ (fun q => nb (by simp at q; simp [q])) (st1 _ _ (fun q => nb (by simp at q; simp [q])) (hst _ _ nb (hlo _ _ e9)))
            exact absurd (Heap.lt_size e2) (Nat.lt_irrefl _)
  · obtain rfl : k = n := by omega
    refine wpAny_pyNext_range_end hh hI' (by omega) fun h1 hs1 => ?_
    have st1 : Stays [I] h' h1 := Stays.ofBut hs1
    refine hR h1 _ m' (hst.trans (st1.mono (by simp))) (hn'.at' fun o e => st1 _ o (by simpa using hCI) e) hm' (hA'.stay st1 (by simpa using hDI) (by simpa using noTup_iter hI'))
theorem start_one {elt : Expr} {it acc : Value} (h0 : codeAny (model prog w) A (.compLoop (e3 elt it0 it1 it2 q0 q1 q2 sc pos) 1 it acc env) R s)
    (h : wpAny (model prog w) A (pyIter it) (fun it' s' => codeAny (model prog w) A (.compLoop (e3 elt it0 it1 it2 q0 q1 q2 sc pos) 1 it' acc env) R s')
      (notedBy (model prog w) A env fun x s' => R (.error x) s') s) :
    codeAny (model prog w) A (.compStart (e3 elt it0 it1 it2 q0 q1 q2 sc pos) 1 it acc env) R s := by
  refine codeAny_of_tree ?_
  show wpAny _ _ ((compStart (e3 elt it0 it1 it2 q0 q1 q2 sc pos) 1 it acc env).onRaise (fun x => do noteFrame x env; standAt theWindowsPlace)) _ _ s
  refine wpAny_notedAt ?_
  unfold compStart
  show wpAny _ _ (ask >>= _) _ _ s
  refine wpAny_bind (wpAny_askSetting (wpAny_ite ?_))
  split
  · first
      | exact wpAny_bind (wpAny_pure (wpAny_pure (And.intro rfl h0)))
      | exact wpAny_pure (And.intro rfl h0)
  · first
      | exact wpAny_bind (wpAny_rule (wpAny_bind (wpAny_standAt (wpAny_bind (wpAny_mono h (fun it' s' h' => wpAny_pure (And.intro rfl h')) fun _ _ x => x)))))
      | (refine wpAny_bind (wpAny_rule ?_); show wpAny _ _ (standAt it1.pos >>= _) _ _ s; exact wpAny_bind (wpAny_standAt (wpAny_bind (wpAny_mono h (fun it' s' h' => wpAny_pure (And.intro rfl h')) fun _ _ x => x))))
theorem start_two {elt : Expr} {it acc : Value} (h0 : codeAny (model prog w) A (.compLoop (e3 elt it0 it1 it2 q0 q1 q2 sc pos) 2 it acc env) R s)
    (h : wpAny (model prog w) A (pyIter it) (fun it' s' => codeAny (model prog w) A (.compLoop (e3 elt it0 it1 it2 q0 q1 q2 sc pos) 2 it' acc env) R s')
      (notedBy (model prog w) A env fun x s' => R (.error x) s') s) :
    codeAny (model prog w) A (.compStart (e3 elt it0 it1 it2 q0 q1 q2 sc pos) 2 it acc env) R s := by
  refine codeAny_of_tree ?_
  show wpAny _ _ ((compStart (e3 elt it0 it1 it2 q0 q1 q2 sc pos) 2 it acc env).onRaise (fun x => do noteFrame x env; standAt theWindowsPlace)) _ _ s
  refine wpAny_notedAt ?_
  unfold compStart
  show wpAny _ _ (ask >>= _) _ _ s
  refine wpAny_bind (wpAny_askSetting (wpAny_ite ?_))
  split
  · first
      | exact wpAny_bind (wpAny_pure (wpAny_pure (And.intro rfl h0)))
      | exact wpAny_pure (And.intro rfl h0)
  · first
      | exact wpAny_bind (wpAny_rule (wpAny_bind (wpAny_standAt (wpAny_bind (wpAny_mono h (fun it' s' h' => wpAny_pure (And.intro rfl h')) fun _ _ x => x)))))
      | (refine wpAny_bind (wpAny_rule ?_); show wpAny _ _ (standAt it2.pos >>= _) _ _ s; exact wpAny_bind (wpAny_standAt (wpAny_bind (wpAny_mono h (fun it' s' h' => wpAny_pure (And.intro rfl h')) fun _ _ x => x))))
theorem start_zero {elt : Expr} {it acc : Value} (h0 : codeAny (model prog w) A (.compLoop (e3 elt it0 it1 it2 q0 q1 q2 sc pos) 0 it acc env) R s)
    (h : wpAny (model prog w) A (pyIter it) (fun it' s' => codeAny (model prog w) A (.compLoop (e3 elt it0 it1 it2 q0 q1 q2 sc pos) 0 it' acc env) R s')
      (notedBy (model prog w) A env fun x s' => R (.error x) s') s) :
    codeAny (model prog w) A (.compStart (e3 elt it0 it1 it2 q0 q1 q2 sc pos) 0 it acc env) R s := codeAny_compStart_list h0 h
theorem iter_rangeIter {I : Addr} {a : Int} {n : Nat} {Q : Value → Shared → Prop} (hh : A.handled = none) (hI : IsRangeIter s.heap I a n 1) (h : Q (.ref I) s) : wpAny (model prog w) A (pyIter (.ref I)) Q E s :=
  (LCg.range_walks (prog := prog) (w := w) (I := I) hh a n).self 0 s Q E (by simpa using hI) h
/-- a range's own iterable, laid out: its iterator is new -/
noncomputable def RangeAt (A : Around) (prog : Program) (w : World) (it : Expr) (env : Env) (n : Nat) (s : Shared) : Prop :=
  ∀ (E : Value → Shared → Prop), wpAny (model prog w) A (eval it env) (fun xv s₁ => wpAny (model prog w) A (pyIter xv) (fun y s₂ => ∃ I h tk, y = .ref I ∧ s₂ = { s with heap := h, toks := tk } ∧ Held s.heap h ∧ s.heap.get? I = none ∧ IsRangeIter h I 0 n 1) E s₁) E s
theorem lvl_more {e it' : Expr} {x : Str} {px pz : Pos} {d n : Nat} {C D I : Addr} {lo : Heap} {m : Str → Option Value} {ms0 : List Mon} (blk : Nat → List Mon) (V : Str → Prop) (hVx : V x)
    (hq : (Code.compLoop e d (.ref I) (.ref D) (compEnvC scp cl C env)).quiet = true)
    (hden : ∀ s Q E, wpAny (model prog w) A ((compTurn e d (.ref I) (.ref D) (compEnvC scp cl C env)).onRaise (fun x => do noteFrame x (compEnvC scp cl C env); theTreesLotGoes x)) Q E s → wpAny (model prog w) (A.under (.compLoop e d (.ref I) (.ref D) (compEnvC scp cl C env))) ((model prog w).den (.compLoop e d (.ref I) (.ref D) (compEnvC scp cl C env))) Q E s)
    (heq : compTurn e d (.ref I) (.ref D) (compEnvC scp cl C env) = (standAt pz >>= fun _ => pyNext (.ref I) >>= fun r => match r with
      | none => pure (.done .next)
      | some v => letOwnedTupleGo (.Name x px) (.ref I) v >>= fun _ => assign (.Name x px) (compEnvC scp cl C env) v >>= fun _ =>
        eval it' (compEnvC scp cl C env) >>= fun x => standAt it'.pos >>= fun _ => foldedSetIterable it' (compEnvC scp cl C env) x >>= fun x => holding [x] (pyIter x) >>= fun y => runOwn (.compStart e (d + 1) y (.ref D) (compEnvC scp cl C env)) (compEnvC scp cl C env) >>= fun _ => again (.compLoop e d (.ref I) (.ref D) (compEnvC scp cl C env))))
    (hs : ∀ x, foldedSetIterable it' (compEnvC scp cl C env) x = pure x)
    (hh : A.handled = none) (hsc : scp.kind = .function) (hx : scp.names.lookup x = some .local)
    (hn : s.heap.Ns C m) (hI : IsRangeIter s.heap I 0 n 1) (hA : AccAt lo s.heap D ms0) (hlo : Held lo s.heap) (hbC : lo.get? C = none) (hbD : lo.get? D = none) (hbI : lo.get? I = none) (hCD : C ≠ D) (hCI : C ≠ I) (hDI : D ≠ I)
    (inner : ∀ (k : Nat) (t : Tok) (s2 : Shared) (m2 : Str → Option Value) (E2 : Value → Shared → Prop) (R2 : Shared → Prop), k < n → Held lo s2.heap → s2.heap.Ns C m2 → m2 x = some (.int (k : Int) t) → (∀ y, ¬ V y → m2 y = m y) → AccAt lo s2.heap D (ms0 ++ (List.range k).flatMap blk) →
      (∀ h' tk' m', Stays [C, D] s2.heap h' → h'.Ns C m' → (∀ y, ¬ V y → m' y = m2 y) → AccAt lo h' D ((ms0 ++ (List.range k).flatMap blk) ++ blk k) → R2 { s2 with heap := h', toks := tk' }) →
      ∀ E3, wpAny (model prog w) A (eval it' (compEnvC scp cl C env)) (fun xv s₃ => wpAny (model prog w) A (pyIter xv) (fun y s₄ => codeAny (model prog w) A (.compStart e (d + 1) y (.ref D) (compEnvC scp cl C env)) (fun r s' => match r with | .ok _ => R2 s' | .error e' => E2 e' s') s₄) E3 s₃) E3 s2)
    (hR : ∀ h' tk' m', Stays [C, D, I] s.heap h' → h'.Ns C m' → (∀ y, ¬ V y → m' y = m y) → AccAt lo h' D (ms0 ++ (List.range n).flatMap blk) → R (.ok .next) { s with heap := h', toks := tk' }) :
    codeAny (model prog w) A (.compLoop e d (.ref I) (.ref D) (compEnvC scp cl C env)) R s := by
  have hlo' : ∀ {h' : Heap}, Stays [C, D, I] s.heap h' → Held lo h' := fun {h'} st b o e => st b o (fun q => by
    simp only [List.mem_cons, List.not_mem_nil, or_false] at q
    rcases q with q | q | q
    · rw [q, hbC] at e; cases e
    · rw [q, hbD] at e; cases e
    · rw [q, hbI] at e; cases e) (hlo b o e)
  refine loop_more hq rfl hden heq hs (fun n' s' => ∃ k h' tk' m', n' = n + 1 - k ∧ k ≤ n ∧ s' = { s with heap := h', toks := tk' } ∧ IsRangeIter h' I ((k : Nat) : Int) ((n : Int) - (k : Nat)) 1 ∧ h'.Ns C m' ∧ (∀ y, ¬ V y → m' y = m y) ∧
    AccAt lo h' D (ms0 ++ (List.range k).flatMap blk) ∧ Stays [C, D, I] s.heap h') ?_ (n + 1)
    ⟨0, s.heap, s.toks, m, rfl, Nat.zero_le _, rfl, by simpa using hI, hn, fun _ _ => rfl, by simpa using hA, Stays.refl _ _⟩
  rintro n' s' ⟨k, h', tk', m', rfl, hk, rfl, hI', hn', hm', hA', hst⟩
  by_cases hkn : k < n
  · refine wpAny_pyNext_range_item hI' (by omega) fun h1 hI1 hs1 => ?_
    have st1 : Stays [I] h' h1 := Stays.ofBut hs1.extBut
    have hn1 : h1.Ns C m' := hn'.sameBut hs1 hCI
    have hA1 := hA'.stay st1 (by simpa using hDI) (by simpa using noTup_iter hI')
    refine comp_assign_localS hsc hx hn1 fun h2 tk2 hn2 st2 hz2 => ?_
    have hA2 := hA1.stay st2 (by simpa using hCD.symm) (by simpa using noTup_ns hn1)
    have st02 : Stays [C, D, I] s.heap h2 := hst.trans fun b o hb e => st2 b o (fun q => hb (by simp at q; simp [q])) (st1 b o (fun q => hb (by simp at q; simp [q])) e)
    refine inner k tk' { s with heap := h2, toks := tk2 } _ _ (fun s' => ∃ m, m < n + 1 - k ∧ _) hkn (hlo' st02) hn2 (if_pos rfl) (fun y hy => by rw [if_neg (fun (q : y = x) => hy (by rw [q]; exact hVx))]; exact hm' y hy) hA2 (fun h3 tk3 m3 st3 hn3 hm3 hA3 => ?_) _
    refine ⟨n + 1 - (k + 1), by omega, k + 1, h3, tk3, m3, rfl, hkn, rfl, ?_, hn3, fun y hy => by rw [hm3 y hy, if_neg (fun (q : y = x) => hy (by rw [q]; exact hVx))]; exact hm' y hy, ?_, st02.trans (st3.mono (by simp))⟩
    · have hI4 : h3.get? I = some _ := st3 I _ (by simp; exact ⟨hCI.symm, hDI.symm⟩) (st2 I _ (by simpa using hCI.symm) hI1)
      show h3.get? I = some _
      rw [hI4]
      have e1 : ((k : Nat) : Int) + 1 = ((k + 1 : Nat) : Int) := by omega
      have e2 : (n : Int) - (k : Nat) - 1 = (n : Int) - ((k + 1 : Nat) : Int) := by omega
      rw [e1, e2]
    · rw [List.range_succ, List.flatMap_append, ← List.append_assoc]
      simpa using hA3
  · obtain rfl : k = n := by omega
    refine wpAny_pyNext_range_end hh hI' (by omega) fun h1 hs1 => ?_
    have st1 : Stays [I] h' h1 := Stays.ofBut hs1
    exact hR h1 _ m' (hst.trans (st1.mono (by simp))) (hn'.at' fun o e => st1 _ o (by simpa using hCI) e) hm' (hA'.stay st1 (by simpa using hDI) (by simpa using noTup_iter hI'))
theorem stays_off {a b c : Heap} {pr : List Addr} {I : Addr} (hk : Held a b) (st : Stays (pr ++ [I]) b c) (hI : a.get? I = none) : Stays pr a c := fun d o hd e => st d o (fun q => by
  rcases List.mem_append.mp q with q | q
  · exact hd q
  · rw [List.mem_singleton.mp q, hI] at e; cases e) (hk _ _ e)
theorem NoneOf.up {a b : Heap} {D : Addr} (hk : Held a b) (h : b.get? D = none) : a.get? D = none := by
  cases e : a.get? D with
  | none => rfl
  | some o => rw [hk _ _ e] at h; cases h
noncomputable def rowsOf (n2 : Nat) (i j : Nat) : List Mon := (List.range n2).map fun k : Nat => ((i : Int), (j : Int), (k : Int))
noncomputable def planesOf (n1 n2 : Nat) (i : Nat) : List Mon := (List.range n1).flatMap (rowsOf n2 i)
noncomputable def placesOf (n0 n1 n2 : Nat) : List Mon := (List.range n0).flatMap (planesOf n1 n2)
theorem rows_len (n2 i j : Nat) : (rowsOf n2 i j).length = n2 := by simp [rowsOf]
theorem flat_len {blk : Nat → List Mon} {c : Nat} (h : ∀ i, (blk i).length = c) (k : Nat) : ((List.range k).flatMap blk).length = k * c := by
  induction k with
  | zero => simp
  | succ k ih => rw [List.range_succ, List.flatMap_append, List.length_append, ih]; simp [h, Nat.succ_mul]
theorem ns_live {h : Heap} {C : Addr} {m : Str → Option Value} (hn : h.Ns C m) : ∃ o, h.get? C = some o := by
  obtain ⟨o, _, _, ho, _⟩ := hn; exact ⟨o, ho⟩
set_option maxRecDepth 100000 in
theorem places_comp {n0 n1 n2 : Nat} {Q : Value → Shared → Prop} (hh : A.handled = none) (hclos : closureFor scp env = pure cl) (hsc : scp.kind = .function) (hnames : ∀ y ∈ scp.names, y.2 = .local → scp.names.lookup y.1 = some .local)
    (hcf : ∀ n, cellsFrom n scp.names cl = cl) (hpc : ∀ h, pushCells h scp.names = h)
    (hki : scp.names.lookup (Str.ofString "i") = some .local) (hkj : scp.names.lookup (Str.ofString "j") = some .local) (hkk : scp.names.lookup (Str.ofString "k") = some .local)
    (hb0 : n0 ≤ 3) (hb1 : n1 ≤ 3) (hb2 : n2 ≤ 3)
    (hit0 : RangeAt A prog w it0 env n0 s) (hit1 : ∀ C s', Held s.heap s'.heap → RangeAt A prog w it1 (compEnvC scp cl C env) n1 s') (hit2 : ∀ C s', Held s.heap s'.heap → RangeAt A prog w it2 (compEnvC scp cl C env) n2 s')
    (hs0 : ∀ x, foldedSetIterable it0 env x = pure x) (hs1 : ∀ C x, foldedSetIterable it1 (compEnvC scp cl C env) x = pure x) (hs2 : ∀ C x, foldedSetIterable it2 (compEnvC scp cl C env) x = pure x)
    (hQ : ∀ (D : Addr) (h' : Heap) (tk : Nat), AccAt s.heap h' D (placesOf n0 n1 n2) → s.heap.get? D = none → Held s.heap h' → Q (.ref D) { s with heap := h', toks := tk }) :
    wpAny (model prog w) A (eval (e3 (tup3 a1 a2 a3 kt pt) it0 it1 it2 q0 q1 q2 scp pos) env) Q E s := by
  rw [eval_ListComp]
  refine wpAny_comprehension_free (use := none) rfl hs0 hclos hsc hnames (wpAny_mono (hit0 E) (fun xv s₁ h₁ => wpAny_mono h₁ (fun it s₂ h₂ => ?_) fun _ _ e => e) fun _ _ e => e)
  obtain ⟨I, h, tk, rfl, rfl, hk, hIn, hI⟩ := h₂
  refine wpAny_newObj_type (comp_newEnv ?_)
  dsimp only
  rw [hpc]
  have hk2 : Held h (h.push { cls := .type "list", dict := none, data := .seq ([] : List Value).toArray }) := fun b o e => Heap.get?_push_of_some _ e
  have hD2 : (h.push { cls := .type "list", dict := none, data := .seq ([] : List Value).toArray }).get? h.objs.size = some (LCg.lst []) := Heap.get?_push_size _ rfl
  have hDn : h.get? h.objs.size = none := by
    cases e : h.get? h.objs.size with
    | none => rfl
    | some o => exact absurd (Heap.lt_size e) (Nat.lt_irrefl _)
  have hsz2 : (h.push { cls := .type "list", dict := none, data := .seq ([] : List Value).toArray }).objs.size = h.objs.size + 1 := Heap.size_push ..
  generalize h.push { cls := .type "list", dict := none, data := .seq ([] : List Value).toArray } = h2 at *
  generalize hDe : h.objs.size = D at *
  have hk3 : Held h2 (h2.push { cls := .type "dict", data := .dict #[] }) := fun b o e => Heap.get?_push_of_some _ e
  have hC3 : (h2.push { cls := .type "dict", data := .dict #[] }).Ns h2.objs.size (fun _ => none) := by
    refine ⟨_, #[], 0, Heap.get?_push_size _ rfl, rfl, fun e he => by simp at he, fun _ => by simp [nsFind, findBy]⟩
  have hCn : h2.get? h2.objs.size = none := by
    cases e : h2.get? h2.objs.size with
    | none => rfl
    | some o => exact absurd (Heap.lt_size e) (Nat.lt_irrefl _)
  generalize h2.push { cls := .type "dict", data := .dict #[] } = h3 at *
  rw [hcf]
  generalize hCe : h2.objs.size = C at *
  have hCD : C ≠ D := fun e => by rw [e, hD2] at hCn; cases hCn
  have hIh2 : h2.get? I = some _ := hk2 _ _ hI
  have hDI : D ≠ I := fun e => by rw [e] at hDn; have : h.get? I = some _ := hI; rw [this] at hDn; cases hDn
  have hCI : C ≠ I := fun e => by rw [e, hIh2] at hCn; cases hCn
  have hI3 : IsRangeIter h3 I 0 n0 1 := hk3 _ _ hIh2
  have hA3 : AccAt s.heap h3 D [] := ⟨[], hk3 _ _ hD2, .nil, fun _ h => nomatch h⟩
  have hlo : Held s.heap h3 := (hk.trans hk2).trans hk3
  have hbD : s.heap.get? D = none := NoneOf.up hk hDn
  have hbC : s.heap.get? C = none := NoneOf.up (hk.trans hk2) hCn
  have key : codeAny (model prog w) A (.compLoop (e3 (tup3 a1 a2 a3 kt pt) it0 it1 it2 q0 q1 q2 scp pos) 0 (.ref I) (.ref D) (compEnvC scp cl C env)) (compPost (model prog w) A E none Q (.ref D) C) { s with heap := h3, toks := tk } := by
    refine lvl_more (planesOf n1 n2) (fun y => y = Str.ofString "i" ∨ y = Str.ofString "j" ∨ y = Str.ofString "k") (.inl rfl) rfl (fun _ _ _ h => h) turn_zero (hs1 C) hh hsc hki hC3 hI3 hA3 hlo hbC hbD hIn hCD hCI hDI ?_ ?_
    · intro i ti s2 m2 E2 R2 hi hlo2 hn2 hmi hm2 hA2 cont E3
      refine wpAny_mono (hit1 C s2 hlo2 E3) (fun xv s₃ h₃ => wpAny_mono h₃ (fun y s₄ h₄ => ?_) fun _ _ e => e) fun _ _ e => e
      obtain ⟨I1, h4, tk4, rfl, rfl, hk4, hnI, hI1⟩ := h₄
      have hDl : ∃ o, s2.heap.get? D = some o := by obtain ⟨os, e, _⟩ := hA2; exact ⟨_, e⟩
      have hCI1 : C ≠ I1 := fun e => by obtain ⟨o, ho⟩ := ns_live hn2; rw [e, hnI] at ho; cases ho
      have hDI1 : D ≠ I1 := fun e => by obtain ⟨o, ho⟩ := hDl; rw [e, hnI] at ho; cases ho
      have loop1 : codeAny (model prog w) A (.compLoop (e3 (tup3 a1 a2 a3 kt pt) it0 it1 it2 q0 q1 q2 scp pos) 1 (.ref I1) (.ref D) (compEnvC scp cl C env)) (fun r s' => match r with | .ok _ => R2 s' | .error e' => E2 e' s') { s2 with heap := h4, toks := tk4 } := by
        refine lvl_more (rowsOf n2 i) (fun y => y = Str.ofString "j" ∨ y = Str.ofString "k") (.inl rfl) rfl (fun _ _ _ h => h) turn_one (hs2 C) hh hsc hkj (hn2.keeps hk4) hI1 (hA2.stay (pr := []) (fun b o _ e => hk4 b o e) (by simp) (by simp)) (hlo2.trans hk4) hbC hbD (NoneOf.up hlo2 hnI) hCD hCI1 hDI1 ?_ ?_
        · intro j tj s5 m5 E5 R5 hj hlo5 hn5 hmj hm5 hA5 cont5 E6
          refine wpAny_mono (hit2 C s5 hlo5 E6) (fun xv s₃ h₃ => wpAny_mono h₃ (fun y s₄ h₄ => ?_) fun _ _ e => e) fun _ _ e => e
          obtain ⟨I2, h6, tk6, rfl, rfl, hk6, hnI2, hI2⟩ := h₄
          have hDl5 : ∃ o, s5.heap.get? D = some o := by obtain ⟨os, e, _⟩ := hA5; exact ⟨_, e⟩
          have hCI2 : C ≠ I2 := fun e => by obtain ⟨o, ho⟩ := ns_live hn5; rw [e, hnI2] at ho; cases ho
          have hDI2 : D ≠ I2 := fun e => by obtain ⟨o, ho⟩ := hDl5; rw [e, hnI2] at ho; cases ho
          have hlen : (([] : List Mon) ++ (List.range i).flatMap (planesOf n1 n2) ++ (List.range j).flatMap (rowsOf n2 i)).length + n2 ≤ 1000 := by
            rw [List.length_append, List.nil_append, flat_len (c := n1 * n2) (fun i => by rw [planesOf, flat_len (rows_len n2 i)]), flat_len (rows_len n2 i)]
            have h1 : i * (n1 * n2) ≤ 3 * (3 * 3) := Nat.mul_le_mul (by omega) (Nat.mul_le_mul hb1 hb2)
            have h2 : j * n2 ≤ 3 * 3 := Nat.mul_le_mul (by omega) hb2
            omega
          have loop2 : codeAny (model prog w) A (.compLoop (e3 (tup3 a1 a2 a3 kt pt) it0 it1 it2 q0 q1 q2 scp pos) 2 (.ref I2) (.ref D) (compEnvC scp cl C env)) (fun r s' => match r with | .ok _ => R5 s' | .error e' => E5 e' s') { s5 with heap := h6, toks := tk6 } := by
            refine lvl2 (i := (i : Int)) (j := (j : Int)) hh hsc hki hkj hkk (hn5.keeps hk6) (by rw [hm5 _ (by decide)]; exact hmi) hmj hI2 (hA5.stay (pr := []) (fun b o _ e => hk6 b o e) (by simp) (by simp)) (hlo5.trans hk6) hbC hbD (NoneOf.up hlo5 hnI2) hCD hCI2 hDI2 hlen ?_
            intro h' tk' m' st' hn' hm' hA'
            exact cont5 h' tk' m' (stays_off (pr := [C, D]) hk6 st' hnI2) hn' (fun y hy => hm' y fun e => hy (.inr e)) hA'
          exact start_two loop2 (iter_rangeIter hh hI2 loop2)
        · intro h' tk' m' st' hn' hm' hA'
          refine cont h' tk' m' (stays_off (pr := [C, D]) hk4 st' hnI) hn' (fun y hy => hm' y fun e => hy (.inr e)) ?_
          simpa [planesOf] using hA'
      exact start_one loop1 (iter_rangeIter hh hI1 loop1)
    · intro h' tk' m' st' hn' hm' hA'
      refine ⟨m', hn', fun h'' hs'' => ?_⟩
      have st'' : Stays [C] h' h'' := Stays.ofBut hs''.extBut
      refine hQ D h'' tk' ?_ hbD ?_
      · have := hA'.stay st'' (by simpa using hCD.symm) (by simpa using noTup_ns hn')
        simpa [placesOf] using this
      · intro b o e
        refine st'' b o (fun q => by rw [List.mem_singleton.mp q, hbC] at e; cases e) (st' b o (fun q => ?_) (hlo b o e))
        simp only [List.mem_cons, List.not_mem_nil, or_false] at q
        rcases q with q | q | q
        · rw [q, hbC] at e; cases e
        · rw [q, hbD] at e; cases e
        · rw [q, hIn] at e; cases e
  exact start_zero key (iter_rangeIter hh hI3 key)
end

-- part LT
section
theorem offLT : True := by
  w_top off
  trivial
section
variable {prog : Program} {w : World} {A : Around} {E : Value → Shared → Prop} {s s₀ : Shared}
theorem src_r3 {target : Expr} {t : Tok} (hs : ∃ tk, s = { s₀ with toks := tk }) (hh : A.handled = none) (hgo : ∀ it v, letOwnedTupleGo target it v = pure ()) :
    wpAny (model prog w) A (call (.type "range") [.int 3 t]) (fun xv s₁ => wpAny (model prog w) A (pyIter xv) (SrcAt prog w A target 3 (RangeP 0) s₀) E s₁) E s := by
  obtain ⟨tk, rfl⟩ := hs
  refine call_range_1 ?_
  refine src_range hh (IsRange.new _ _ _ _ _ _ _) (small_one (by decide) (by decide) (by decide) (by decide)) rfl ⟨_, _, rfl⟩ (fun b o e => Heap.get?_push_of_some _ e) ?_ hgo
  rw [Heap.size_push]; exact Nat.le_succ _
theorem src_r18 {target : Expr} {t u : Tok} (hs : ∃ tk, s = { s₀ with toks := tk }) (hh : A.handled = none) (hgo : ∀ it v, letOwnedTupleGo target it v = pure ()) :
    wpAny (model prog w) A (call (.type "range") [.int 1 t, .int 8 u]) (fun xv s₁ => wpAny (model prog w) A (pyIter xv) (SrcAt prog w A target 7 (RangeP 1) s₀) E s₁) E s := by
  obtain ⟨tk, rfl⟩ := hs
  refine call_range_2 ?_
  refine src_range hh (IsRange.new _ _ _ _ _ _ _) (small_one (by decide) (by decide) (by decide) (by decide)) rfl ⟨_, _, rfl⟩ (fun b o e => Heap.get?_push_of_some _ e) ?_ hgo
  rw [Heap.size_push]; exact Nat.le_succ _
end
theorem bits_lot {j : Nat} (hj : j < 7) : bitsTo ((j : Int) + 1) 3 = (lotN j).map fun c : Nat => (c : Int) := by
  rcases j with _ | _ | _ | _ | _ | _ | _ | j
  all_goals first | rfl | omega
theorem lotsIn_of {h0 h : Heap} {pr : List Addr} {ys : List Value} {D : Addr} (H : LotsAt h0 h pr 7 ys) (hD : h.get? D = some (LCg.lst ys)) : ∃ qs, LotsIn h0 h D qs := by
  obtain ⟨qs, rfl, hl, hq⟩ := H
  refine ⟨qs, hD, hl, fun j q hj => ?_, fun j q hj => (hq j q hj).2.2.1⟩
  have z := hq j q hj
  have hj7 : j < 7 := by have := (List.getElem?_eq_some_iff.mp hj).1; omega
  exact ⟨z.1, by rw [← bits_lot hj7]; exact z.2.1⟩
theorem LotsIn.base {h0 h1 h : Heap} {pl : Addr} {qs : List (Addr × List Value)} (x : LotsIn h1 h pl qs) (hk : Held h0 h1) : LotsIn h0 h pl qs :=
  ⟨x.at_, x.len, x.each, fun j q hj => NoneOf.up hk (x.new j q hj)⟩
theorem news_keep {h₀ h h' : Heap} {L : Addr} {news : List (Addr × Obj)} (N : News h₀ L h news) (k : Held h h') : News h₀ L h' news := fun p hp => ⟨k _ _ (N p hp).1, (N p hp).2⟩
local macro_rules | `(tactic| walk_at "call type:range") => `(tactic| refine Stop.out ?_)
local macro_rules | `(tactic| walk_at "eval ListComp") => `(tactic| refine Stop.out ?_)
set_option maxHeartbeats 1000000 in
theorem lots_held (w : World) : TellsH w 3 140 [] [] (fun h0 h r => ∃ pl qs, r = .ref pl ∧ LotsIn h0 h pl qs) := by
  unfold TellsH
  intros; rename_i hN _ _ _ _ hret
  refine wpAny_call ?_
  k_dflt (refine' enterG2 (need := []) ?k1 ?k2 ?k3 ?k4 ?k5 (fun _ h => h) ?kA ?kF ?kK ?k6 ?k7 ?k8 ?k9 ?kB ?_ ?c2 ?c3 ?c4 ?c5)
  case kA => exact rfl
  case kF => exact rfl
  case kK => assumption
  case k1 => k_asm
  case k2 => k_asm
  case k3 => k_asm
  case k4 => k_asm
  case k5 => k_asm
  case k6 => k_is
  case k7 => k_is
  case k8 => ktr_room
  case k9 => exact BindsTo.of_eq rfl
  case kB => exact locs rfl
  case c2 => exact rfl
  case c3 => exact rfl
  case c4 => exact rfl
  case c5 => decide
  k_whole
  intro g' L' h' FG' F' N' B' X' T' l1 G' sz9
  (try dsimp only)
  (try k_lift B')
  (try k_fold)
  have F9 := F'
  k_steps
  refine Stop.mk ?_
  (k_here; k_dflt (
    (rename Fr _ _ _ _ => fF'); (rename News _ _ _ _ => nN')
    (refine' lots_comp ?hsc ?hnames ?hcl ?hcells ?hoc ?hkn ?hsci ?hnamesi ?h1i ?hcli ?hcfi ?hkbi ?hsrc ?hin ?_)
    (case hsc => rfl); (case hnames => decide); (case hcl => with_unfolding_all rfl); (case hcells => intro C; rfl); (case hoc => intro n; rfl); (case hkn => intro C c; rfl)
    (case hsci => rfl); (case hnamesi => decide); (case h1i => rfl); (case hcli => intro C c; with_unfolding_all rfl); (case hcfi => intro c n; rfl); (case hkbi => intro C C' c; first | exact .inr rfl | exact .inl rfl)
    (case hsrc => (iterate 9 (first | walk1 | (dsimp only; walk1) | skip)); refine Stop.mk ?_; (k_here; k_dflt (first
            | exact src_r3 ⟨_, rfl⟩ rfl (fun _ _ => rfl)
            | exact src_r18 ⟨_, rfl⟩ rfl (fun _ _ => rfl))))
    (case hin => (intro C c s₄ E' hk; have F4 := fr_held fF' hk; (iterate 7 (first | walk1 | (dsimp only; walk1) | skip)); refine Stop.mk ?_; (k_here; k_dflt (first
            | exact src_r3 ⟨_, rfl⟩ rfl (fun _ _ => rfl)
            | exact src_r18 ⟨_, rfl⟩ rfl (fun _ _ => rfl)))))
    (intro D' ys' h' tk' pr' hL' hDp' hl' hD' hk'; obtain ⟨qs', hM'⟩ := lotsIn_of hL' hl'; have F9 := fr_held fF' hk'; have N9 := news_keep nN' hk')))
  k_steps
  (rename Fr g' _ _ _ => fF'); (rename News _ _ _ _ => kN'); (rename Fr _ _ _ _ => kF'); (rename LotsIn _ _ _ _ => hM)
  refine hret _ _ _ kF' (back_held hN G' fF' kN' (List.forall_mem_nil _)) (back_size fF' sz9) ⟨_, _, rfl, hM.base (fun b o e => F'.keep b o (G' b o e (by simp)))⟩

end
-- part TA
section
variable {prog : Program} {w : World} {A : Around} {E : Value → Shared → Prop} {s : Shared} {env : Env}
theorem min_tup3 {t : Addr} {a b c : Int} {t1 t2 t3 : Tok} {Q : Value → Shared → Prop} (hh : A.handled = none) (ht : s.heap.get? t = some (keyO a b c t1 t2 t3))
    (h : ∀ M u h' tk', (M ≤ a ∧ M ≤ b ∧ M ≤ c) → (M = a ∨ M = b ∨ M = c) → Held s.heap h' → Q (.int M u) { s with heap := h', toks := tk' }) :
    wpAny (model prog w) A (call (.builtin "min") [.ref t]) Q E s := by
  have hT : s.heap.IsTuple t (ints3 a b c t1 t2 t3).toArray := ⟨_, ht, rfl, _, rfl⟩
  refine call_min_walk (wpAny_pyIter_tuple hT ?_)
  have htl : t < s.heap.objs.size := Heap.lt_size ht
  have W := Walks.tuple (prog := prog) (w := w) (A := A.in1) hh s.heap.objs.size t (Nat.ne_of_lt htl) (ints3 a b c t1 t2 t3).toArray
  refine ⟨s.heap.objs.size, _, _, 3, _, _, (fun i j => decide (([a, b, c].getD i 0) < ([a, b, c].getD j 0))), rfl, W, ⟨⟨_, Heap.get?_push_size _ rfl, rfl, rfl⟩, hT.push _⟩, ?_, by decide, CmpOf.ints_lt (fun i => [a, b, c].getD i 0) ?_, ?_⟩
  · intro x hx
    rw [Heap.size_push]
    simp only [List.mem_cons, List.not_mem_nil, or_false] at hx
    rcases hx with rfl | rfl
    · exact Nat.lt_succ_self _
    · exact Nat.lt_succ_of_lt htl
  · intro i v hv
    rcases i with _ | _ | _ | i
    · cases hv; exact ⟨t1, rfl⟩
    · cases hv; exact ⟨t2, rfl⟩
    · cases hv; exact ⟨t3, rfl⟩
    · simp at hv
  · intro v h' tk hv hk
    obtain ⟨h1, h2⟩ := argBest_lt (fun i => [a, b, c].getD i 0) (3 - 1)
    generalize argBest (fun i j => decide (([a, b, c].getD i 0) < ([a, b, c].getD j 0))) (3 - 1) = q at *
    have hkk : Held s.heap h' := fun b o e => hk b o (fun q => by rw [List.mem_singleton.mp q] at e; exact absurd (Heap.lt_size e) (Nat.lt_irrefl _)) (Heap.get?_push_of_some _ e)
    have c0 := h2 0 (by omega)
    have c1 := h2 1 (by omega)
    have c2 := h2 2 (by omega)
    rcases q with _ | _ | _ | q
    · cases hv; exact h _ _ _ _ ⟨c0, c1, c2⟩ (.inl rfl) hkk
    · cases hv; exact h _ _ _ _ ⟨c0, c1, c2⟩ (.inr (.inl rfl)) hkk
    · cases hv; exact h _ _ _ _ ⟨c0, c1, c2⟩ (.inr (.inr rfl)) hkk
    · omega
theorem any_ints {ys : List Value} {ns : List Int} (hi : IntsAre ys ns) (k : Int) : (ys.any fun y => match y with | .int i _ => i == k | _ => false) = ns.contains k := by
  induction hi with
  | nil => rfl
  | cons n t _ ih => simp only [List.any_cons, List.contains_cons, ih]; rw [Bool.beq_comm (a := k)]
theorem in_lot {l : Addr} {ys : List Value} {ns : List Int} {k : Int} {t : Tok} {Q : Value → Shared → Prop} (hl : s.heap.get? l = some (LCg.lst ys)) (hi : IntsAre ys ns) (h : Q (.bool (ns.contains k)) s) :
    wpAny (model prog w) A (compareOp .In (.int k t) (.ref l)) Q E s := by
  refine PySem.SeqRoads2.in_list (items := ys.toArray) (n := _) (fun y => match y with | .int i _ => i == k | _ => false) (fun y hy => ?_) hl ?_
  · have hy' : y ∈ ys := by simpa using hy
    have : ∃ a u, y = .int a u := by
      clear hl h hy
      induction hi with
      | nil => cases hy'
      | cons n t _ ih =>
        rcases List.mem_cons.mp hy' with rfl | hy'
        · exact ⟨_, _, rfl⟩
        · exact ih hy'
    obtain ⟨a, u, rfl⟩ := this
    exact PySem.MeetsSeq.EqGives.int a k u t
  · rw [← Array.any_toList, show ys.toArray.toList = ys from rfl, any_ints hi k]; exact h
theorem add_sub_ok {a b : Int} {t u : Tok} {Q : Value → Shared → Prop} (h : Q (.int (a - b) s.toks) { s with toks := s.toks + 1 }) : wpAny (model prog w) A (binaryOp .Sub (.int a t) (.int b u)) Q E s := PyProof.Rows.sub_int h
/-- how much a lot takes of a place -/
noncomputable def tk (cs : List Nat) (i : Nat) : Int := if (cs.map fun c : Nat => (c : Int)).contains (i : Int) then 1 else 0
set_option maxRecDepth 100000 in
/-- [one - (1 if at in lot else 0) for at, one in enumerate(place)] -/
theorem lower_comp {cL pl : Addr} {cl : List (Str × Addr)} {cs : List Nat} {ys : List Value} {sc : Scope} {iter : Expr} {p1 p2 p3 p4 p5 p6 p7 p8 p9 p10 p11 p12 : Pos} {k k1 k2 : Nat} {x0 x1 x2 : Int} {t0 t1 t2 : Tok} {Q : Value → Shared → Prop}
    (hh : A.handled = none) (hsc : sc.kind = .function) (hnames : ∀ y ∈ sc.names, y.2 = .local → sc.names.lookup y.1 = some .local)
    (h1 : sc.names.lookup (Str.ofString "at") = some .local) (h2 : sc.names.lookup (Str.ofString "one") = some .local) (hcl : closureFor sc env = pure cl) (hcf : ∀ n, cellsFrom n sc.names cl = cl)
    (hll : cl.lookup (Str.ofString "lot") = some cL) (hkl : ∀ C, (compEnvC sc cl C env).kindOf "lot" = some .cell ∨ (compEnvC sc cl C env).kindOf "lot" = some .free)
    (hcL : s.heap.IsCell cL (some (.ref pl))) (hpl : s.heap.get? pl = some (LCg.lst ys)) (hys : IntsAre ys (cs.map fun c : Nat => (c : Int)))
    (hsrc : wpAny (model prog w) A (eval iter env) (fun xv s₁ => wpAny (model prog w) A (pyIter xv) (SrcAt prog w A (.Tuple [.Name "at" p6, .Name "one" p7] k p8) 3 (EnumP (ints3 x0 x1 x2 t0 t1 t2).toArray) s) E s₁) E s)
    (hQ : ∀ (D : Addr) (v0 v1 v2 : Tok) (h' : Heap) (tk' : Nat), h'.get? D = some (LCg.lst (ints3 (x0 - tk cs 0) (x1 - tk cs 1) (x2 - tk cs 2) v0 v1 v2)) → s.heap.get? D = none → Held s.heap h' → Q (.ref D) { s with heap := h', toks := tk' })
    (hs : ∀ x, foldedSetIterable iter env x = pure x := by intro _; rfl) :
    wpAny (model prog w) A (eval (.ListComp (.BinOp (.Name "one" p1) .Sub (.IfExp (.Compare (.Name "at" p2) [.In] [.Name "lot" p3] p4) (.Constant (.int 1) k1 p5) (.Constant (.int 0) k2 p9) p10) p11) [⟨.Tuple [.Name "at" p6, .Name "one" p7] k p8, iter, [], 0⟩] sc p12) env) Q E s := by
  refine comp_clauseS (P := EnumP (ints3 x0 x1 x2 t0 t1 t2).toArray) hcl hsc hnames (by rw [sizeLine_eq]; omega) hsrc
    (fun _ i zs _ => ∃ v0 v1 v2, zs = (ints3 (x0 - tk cs 0) (x1 - tk cs 1) (x2 - tk cs 2) v0 v1 v2).take i)
    (fun _ _ _ _ _ h _ => h) (fun _ _ _ => ⟨0, 0, 0, rfl⟩) ?_ ?_ hs
  · intro C D oc wr i zs v s₃ m₃ E' hoc' hi hP hn hcs hj hk hlt hnew hCo
    obtain ⟨T, t, x, rfl, hx, hT⟩ := hP
    obtain ⟨v0, v1, v2, rfl⟩ := hj
    rw [hcf]
    refine comp_assign_pair hh hsc h1 h2 hT hn hcs hCo fun h₄ tk₄ hn₄ hc₄ hs₄ => ?_
    refine wpAny_tests_nil ?_
    rw [if_pos rfl]
    have hk₄ : Held s.heap h₄ := held_put hk hs₄ hnew (by simp)
    refine wpAny_BinOp (cname_local hsc (kind_local h2) hn₄ (if_pos rfl) ?_)
    refine IfExp_ (wpAny_isTrue_Compare1 (cname_local hsc (kind_local h1) hn₄ (by rw [if_neg (by decide), if_pos rfl]) ?_))
    refine cname_cell (c := cL) hsc (hkl C) (by simpa [compEnvC] using hll) (by obtain ⟨o, ho, hd⟩ := hcL; exact ⟨o, hk₄ _ _ ho, hd⟩) ?_
    refine in_lot (hk₄ _ _ hpl) hys (wpAny_truthy_bool ?_)
    have fin : ∀ (u : Tok) (tkk : Nat) (d : Int), d = tk cs i → wpAny (model prog w) A (binaryOp .Sub x (.int d u)) (fun y s₆ => TurnEnd C oc s₃ s₆ ∧ ∃ w0 w1 w2, (ints3 (x0 - tk cs 0) (x1 - tk cs 1) (x2 - tk cs 2) v0 v1 v2).take i ++ [y] = (ints3 (x0 - tk cs 0) (x1 - tk cs 1) (x2 - tk cs 2) w0 w1 w2).take (i + 1)) E' { s₃ with heap := h₄, toks := tkk } := by
      rintro u tkk d rfl
      rcases i with _ | _ | _ | i
      · cases hx
        exact add_sub_ok ⟨turnEnd_of hn₄ hc₄ (hs₄.mono (by simp)) ⟨_, _, rfl⟩ (Held.refl _), _, v1, v2, rfl⟩
      · cases hx
        exact add_sub_ok ⟨turnEnd_of hn₄ hc₄ (hs₄.mono (by simp)) ⟨_, _, rfl⟩ (Held.refl _), v0, _, v2, rfl⟩
      · cases hx
        exact add_sub_ok ⟨turnEnd_of hn₄ hc₄ (hs₄.mono (by simp)) ⟨_, _, rfl⟩ (Held.refl _), v0, v1, _, rfl⟩
      · exact absurd hi (by omega)
    by_cases hc : (cs.map fun c : Nat => (c : Int)).contains (i : Int) = true
    · rw [if_pos hc]
      exact const_int (fin _ _ _ (by unfold tk; rw [if_pos hc]))
    · rw [if_neg hc]
      exact const_int (fin _ _ _ (by unfold tk; rw [if_neg hc]))
  · rintro pr D zs h' tk' ⟨v0, v1, v2, rfl⟩ hl _ hD hk _
    exact hQ D v0 v1 v2 h' tk' hl hD hk
end

-- part TT
/-- a dict from triples to ints -/
structure EntI (hb h : Heap) (x : List Int × Addr × Value) (q : Mon × Int) : Prop where
  key : x.1 = keyL q.1
  obj : KeyIs h x.2.1 q.1
  val : ∃ t, x.2.2 = .int q.2 t
  new : hb.get? x.2.1 = none
noncomputable def TabAt (w : World) (hb h : Heap) (d : Addr) (l : PL) : Prop := ∃ o xs, h.get? d = some o ∧ DObj w o xs ∧ Paired (EntI hb h) xs l
theorem keyIs_at {w : World} {h : Heap} {a : Addr} {p : Mon} (x : KeyIs h a p) : KeyAt w h (keyL p) a := by
  obtain ⟨t1, t2, t3, e⟩ := x
  exact keyAt_of e
theorem tab_keys {w : World} {hb h : Heap} {xs : Ents} {l : PL} (P : Paired (EntI hb h) xs l) : KeysAt w h xs := by
  induction P with
  | nil => intro x hx; cases hx
  | cons f _ ih =>
    intro x hx
    rcases List.mem_cons.mp hx with rfl | hx
    · rw [f.key]; exact keyIs_at f.obj
    · exact ih x hx
theorem tab_lk {hb h : Heap} {k : Mon} {xs : Ents} {l : PL} (p : Paired (EntI hb h) xs l) : (lk l k = none ∧ atKey xs (keyL k) = none) ∨ ∃ c a t, lk l k = some c ∧ atKey xs (keyL k) = some (a, .int c t) := by
  induction p with
  | nil => exact .inl ⟨rfl, rfl⟩
  | @cons x q xs l f _ ih =>
    by_cases hq : q.1 = k
    · obtain ⟨t, e⟩ := f.val
      refine .inr ⟨q.2, x.2.1, t, by simp [lk, hq], ?_⟩
      have : x.1 = keyL k := by rw [f.key, hq]
      simp [atKey, this, ← e]
    · have h' : ¬ x.1 = keyL k := fun e => hq (keyL_inj (f.key.symm.trans e))
      have e1 : lk (q :: l) k = lk l k := by simp [lk, hq]
      have e2 : atKey (x :: xs) (keyL k) = atKey xs (keyL k) := by simp [atKey, List.find?_cons, h']
      rw [e1, e2]; exact ih
section
variable {w : World} {A : Around} {E : Value → Shared → Prop} {s : Shared} {d ka : Addr} {l : PL} {p : Mon} {c : Int}
theorem tab_get {hb : Heap} {value slice : Expr} {Q : Value → Shared → Prop} (hT : TabAt w hb s.heap d l) (hk : KeyIs s.heap ka p) (hl : lk l p = some c) (hu : A.units + 1 < cLine)
    (h : ∀ t tk, Q (.int c t) { s with toks := tk })
    (hs : subscripted slice false (.ref d) (.ref ka) = operate [.ref d, .ref ka] (getItem (.ref d) (.ref ka)) := by with_unfolding_all rfl) :
    wpAny (model Pg w) A (subscriptTail value slice (.ref d) (.ref ka)) Q E s := by
  obtain ⟨o, xs, ho, D, P⟩ := hT
  rcases tab_lk (k := p) P with ⟨e, _⟩ | ⟨c', a, t, e, e2⟩
  · rw [hl] at e; cases e
  · rw [hl] at e; cases e
    have D' := D.at ho (tab_keys P)
    exact tail_any D'.typeIs slot_dict_getitem.lookup (wpAny_getItem_heap (knd := IK w) hu (keyIs_at hk) D' e2 (h _ _)) hs
theorem tab_set {hb : Heap} {t : Tok} {Q : Unit → Shared → Prop} (hT : TabAt w hb s.heap d l) (hk : KeyIs s.heap ka p) (hl : lk l p = none) (hnew : hb.get? ka = none) (hu : A.units + 1 < cLine) (hsz : l.length ≤ sizeLine)
    (h : ∀ h' tk, Heap.SameBut d s.heap h' → TabAt w hb h' d (l ++ [(p, c)]) → Q () { s with heap := h', toks := tk }) :
    wpAny (model Pg w) A (setItem (.ref d) (.ref ka) (.int c t)) Q E s := by
  obtain ⟨o, xs, ho, D, P⟩ := hT
  rcases tab_lk (k := p) P with ⟨_, e2⟩ | ⟨c', a, t, e, _⟩
  · refine wpAny_setItem_heap (knd := IK w) hu (keyIs_at hk) (D.at ho (tab_keys P)) (fun h' hD hs => ?_) (by rw [paired_length P]; exact hsz)
    obtain ⟨o', ho', D'⟩ := DObj.of hD
    rw [storedH_new e2] at D'
    have nd : ∀ a m, KeyIs s.heap a m → a ≠ d := fun a m ⟨t1, t2, t3, e9⟩ e8 => by
      rw [e8, ho] at e9
      have h3 := congrArg Obj.cls (Option.some.inj e9)
      rw [D.cls] at h3
      exact absurd (show Value.type "dict" = Value.type "tuple" from h3) (by decide)
    have up : ∀ a m, KeyIs s.heap a m → KeyIs h' a m := fun a m k9 => by
      obtain ⟨t1, t2, t3, e9⟩ := k9
      exact ⟨t1, t2, t3, (hs.2 a (nd a m ⟨t1, t2, t3, e9⟩)).trans e9⟩
    exact h h' _ hs ⟨o', _, ho', D', Paired.snoc (paired_mono (fun x q f => ⟨f.key, up _ _ f.obj, f.val, f.new⟩) P) ⟨rfl, up _ _ hk, ⟨t, rfl⟩, hnew⟩⟩
  · rw [hl] at e; cases e
end
/-- what is no iterator, and what stood below, stays -/
noncomputable def KeepS (g h h' : Heap) : Prop := ∀ b o, h.get? b = some o → ((∀ fs, o.data ≠ .fields fs) ∨ g.get? b ≠ none) → h'.get? b = some o
theorem KeepS.held {g h h' : Heap} (x : KeepS g h h') (k : Held g h) : Held g h' := fun b o e => x b o (k b o e) (.inr (by rw [e]; exact fun q => nomatch q))
theorem KeepS.key {g h h' : Heap} (x : KeepS g h h') {a : Addr} {p : Mon} (k : KeyIs h a p) : KeyIs h' a p := by
  obtain ⟨t1, t2, t3, e⟩ := k
  exact ⟨t1, t2, t3, x _ _ e (.inl fun fs q => by cases q)⟩
theorem KeepS.tab {hb g h h' : Heap} {w : World} {d : Addr} {l : PL} (x : KeepS g h h') (k : TabAt w hb h d l) : TabAt w hb h' d l := by
  obtain ⟨o, xs, ho, D, P⟩ := k
  refine ⟨o, xs, x _ _ ho (.inl fun fs q => ?_), D, paired_mono (fun y q f => ⟨f.key, x.key f.obj, f.val, f.new⟩) P⟩
  obtain ⟨es, ep, _, hd, _⟩ := D.is
  rw [hd] at q; cases q
theorem KeepS.ns {g h h' : Heap} {C : Addr} {m : Str → Option Value} (x : KeepS g h h') (k : h.Ns C m) : h'.Ns C m := by
  obtain ⟨o, es, ep, ho, hd, r⟩ := k
  exact ⟨o, es, ep, x _ _ ho (.inl fun fs q => by rw [hd] at q; cases q), hd, r⟩
theorem KeepS.cell {g h h' : Heap} {C : Addr} {v : Option Value} (x : KeepS g h h') (k : h.IsCell C v) : h'.IsCell C v := by
  obtain ⟨o, ho, hd⟩ := k
  exact ⟨o, x _ _ ho (.inl fun fs q => by rw [hd] at q; cases q), hd⟩
theorem KeepS.seq {g h h' : Heap} {b : Addr} {c : Value} {its : Array Value} {n : Nat} (x : KeepS g h h') (k : h.get? b = some { cls := c, data := .seq its n }) : h'.get? b = some { cls := c, data := .seq its n } :=
  x _ _ k (.inl fun fs q => by cases q)
section
variable {prog : Program} {w : World} {A : Around} {E : Value → Shared → Prop} {s : Shared} {env : Env}
/-- the objects that a loop's iterator owns -/
noncomputable def Flds (wr : List Addr) (h : Heap) : Prop := ∀ b ∈ wr, ∃ o, h.get? b = some o ∧ ∃ fs, o.data = .fields fs
theorem keepS_wr {g h h' : Heap} {wr : List Addr} (hf : Flds wr h) (hg : ∀ b ∈ wr, g.get? b = none) (hk : ∀ b o, b ∉ wr → h.get? b = some o → h'.get? b = some o) : KeepS g h h' := fun b o e hc => hk b o (fun q => by
  obtain ⟨o', e', fs, hd⟩ := hf b q
  rw [e] at e'; cases e'
  rcases hc with hc | hc
  · exact hc fs hd
  · exact hc (hg b q)) e
/-- what a loop's iterable must give -/
noncomputable def KtSrc (prog : Program) (w : World) (A : Around) (target : Expr) (n : Nat) (P : Nat → Value → Heap → Prop) (W : List Addr) (g : Heap) (s : Shared) (J : Heap → Prop) (it : Value) (s₂ : Shared) : Prop :=
  ∃ (I : Addr) (fp wr : List Addr) (Md : Nat → Value → Heap → Prop) (St : Nat → Heap → Prop) (h : Heap) (tk : Nat), it = .ref I ∧ s₂ = { s with heap := h, toks := tk } ∧ KTurns prog w A target I fp wr n P Md St ∧ St 0 h ∧
    (∀ b ∈ wr, g.get? b = none) ∧ (∀ b ∈ fp, b ∈ wr ∨ b ∉ W) ∧ (∀ i h, St i h → Flds wr h) ∧ (∀ i v h, Md i v h → Flds wr h) ∧ J h
theorem kt_core {target : Expr} {body : List Stmt} {n : Nat} {P : Nat → Value → Heap → Prop} {W : List Addr} {g : Heap} {J : Nat → Heap → Prop} {Q : Flow → Shared → Prop} {it : Value} {s₂ : Shared}
    (h₂ : KtSrc prog w A target n P W g s (J 0) it s₂)
    (hJ : ∀ i h h', J i h → KeepS g h h' → J i h') (hW : ∀ i h, J i h → ∀ b ∈ W, ∃ o, h.get? b = some o ∧ ∀ fs, o.data ≠ .fields fs)
    (turn : ∀ i v h tk (E' : Value → Shared → Prop), i < n → P i v h → J i h → wpAny (model prog w) A (assign target env v) (fun _ s₁ => wpAny (model prog w) A (execs body env) (fun f s₂ => (∃ v, f = .ret v ∧ Q f s₂) ∨ (f = .next ∧ ∃ h' tk', s₂ = { s with heap := h', toks := tk' } ∧ Stays W h h' ∧ J (i + 1) h')) E' s₁) E' { s with heap := h, toks := tk })
    (hQ : ∀ h' tk, J n h' → Q .next { s with heap := h', toks := tk }) :
    codeAny (model prog w) A (.forLoop target it body [] env) (fun r s' => match r with | .ok f => Q f s' | .error e => cameBackBy (model prog w) A env E e s') s₂ := by
  obtain ⟨I, fp, wr, Md, St, h, tk, rfl, rfl, Wk, hst, hg, hfp, hf, hfm, hj⟩ := h₂
  refine codeAny_forLoop_any (fun n' s' => ∃ k h' tk', n' = n + 1 - k ∧ k ≤ n ∧ s' = { s with heap := h', toks := tk' } ∧ St k h' ∧ J k h') ?_ (n + 1) ⟨0, h, tk, rfl, Nat.zero_le _, rfl, hst, hj⟩
  rintro n' s' ⟨k, h', tk', rfl, hk, rfl, hst, hj'⟩
  by_cases hkn : k < n
  · refine Wk.item k _ _ _ hkn hst fun v h1 tk1 hv hk1 => ?_
    refine Wk.go k v _ _ _ hv fun h9 hP hst2 hk2 => ?_
    have hj2 := hJ k _ _ (hJ k _ _ hj' (keepS_wr (hf _ _ hst) hg hk1)) (keepS_wr (hfm _ _ _ hv) hg hk2)
    refine wpAny_mono (turn k v h9 tk1 _ hkn hP hj2) (fun _ s2 h2 => wpAny_mono h2 (fun f s3 h3 => ?_) fun _ _ e => e) fun _ _ e => e
    rcases h3 with ⟨v, rfl, hq⟩ | ⟨rfl, h4, tk4, rfl, st4, hj4⟩
    · exact hq
    · refine ⟨n + 1 - (k + 1), by omega, k + 1, h4, tk4, rfl, hkn, rfl, Wk.frame _ _ _ hst2 fun b hb o e => st4 b o (fun hm => ?_) e, hj4⟩
      rcases hfp b hb with q | q
      · obtain ⟨o1, e1, fs, hd⟩ := hf _ _ hst2 b q
        obtain ⟨o2, e2, hn⟩ := hW k h9 hj2 b hm
        rw [e1] at e2; cases e2
        exact hn fs hd
      · exact q hm
  · obtain rfl : k = n := by omega
    refine Wk.done _ _ _ hst fun h1 tk1 hk1 => wpAny_execs_nil ?_
    exact hQ h1 tk1 (hJ _ _ _ hj' (keepS_wr (hf _ _ hst) hg hk1))
theorem for_kt {target iter : Expr} {body : List Stmt} {pos : Pos} {n : Nat} {P : Nat → Value → Heap → Prop} {W : List Addr} {g : Heap} {J : Nat → Heap → Prop} {Q : Flow → Shared → Prop}
    (hiter : wpAny (model prog w) A (eval iter env) (fun xv s₁ => wpAny (model prog w) A (pyIter xv) (KtSrc prog w A target n P W g s (J 0)) E s₁) E s)
    (hJ : ∀ i h h', J i h → KeepS g h h' → J i h') (hW : ∀ i h, J i h → ∀ b ∈ W, ∃ o, h.get? b = some o ∧ ∀ fs, o.data ≠ .fields fs)
    (turn : ∀ i v h tk (E' : Value → Shared → Prop), i < n → P i v h → J i h → wpAny (model prog w) A (assign target env v) (fun _ s₁ => wpAny (model prog w) A (execs body env) (fun f s₂ => (∃ v, f = .ret v ∧ Q f s₂) ∨ (f = .next ∧ ∃ h' tk', s₂ = { s with heap := h', toks := tk' } ∧ Stays W h h' ∧ J (i + 1) h')) E' s₁) E' { s with heap := h, toks := tk })
    (hQ : ∀ h' tk, J n h' → Q .next { s with heap := h', toks := tk })
    (hs : ∀ x, foldedSetIterable iter env x = pure x := by intro _; rfl) :
    wpAny (model prog w) A (exec (.For target iter body [] pos) env) Q E s := by
  refine wpAny_For (wpAny_mono hiter (fun xv s₁ h₁ => wpAny_mono h₁ (fun it s₂ h₂ => ?_) fun _ _ e => e) fun _ _ e => e) hs
  exact kt_core h₂ hJ hW turn hQ
/-- the iterable is a list -/
theorem kt_list {target : Expr} {l : Addr} {its : Array Value} {W : List Addr} {g h : Heap} {tk : Nat} {J : Heap → Prop} (hh : A.handled = none) (hl : h.IsList l its) (hlW : l ∉ W) (hg : Held g h) (hj : ∀ h', Held h h' → J h')
    (hgo : ∀ I l i v (s : Shared) (Q : Unit → Shared → Prop) (E : Value → Shared → Prop), (∃ k : Nat, its[k]? = some v) → s.heap.IsListIter I l i → Q () s → wpAny (model prog w) A (letOwnedTupleGo target (.ref I) v) Q E s) :
    wpAny (model prog w) A (pyIter (.ref l)) (KtSrc prog w A target its.size (fun i v _ => its[i]? = some v) W g s J) E { s with heap := h, toks := tk } := by
  refine wpAny_pyIter_list hl ?_
  have htl : l < h.objs.size := by obtain ⟨o, e, _⟩ := hl; exact Heap.lt_size e
  have Wk := Walks.list (prog := prog) (w := w) (A := A) hh h.objs.size l (Nat.ne_of_lt htl) its
  have K : KTurns prog w A target h.objs.size [h.objs.size, l] [h.objs.size] its.size (fun i v _ => its[i]? = some v) (fun i v h' => its[i]? = some v ∧ (h'.IsListIter h.objs.size l (i + 1) ∧ h'.IsList l its)) (fun i h' => h'.IsListIter h.objs.size l i ∧ h'.IsList l its) :=
    { sub := Wk.sub, frame := Wk.frame, done := Wk.done
      item := fun i s Q E hi st hQ => Wk.item i s Q E hi st fun v h' tk hP st' hk => hQ v h' tk ⟨hP, st'⟩ hk
      go := fun i v s Q E hm hQ => hgo _ _ _ v s Q E ⟨i, hm.1⟩ hm.2.1 (hQ s.heap hm.1 hm.2 fun b o _ e => e) }
  have hI : ∀ {i : Nat} {h' : Heap}, h'.IsListIter h.objs.size l i → Flds [h.objs.size] h' := fun {i h'} ⟨o, e, _, hd⟩ b hb => by rw [List.mem_singleton.mp hb]; exact ⟨o, e, _, hd⟩
  refine ⟨_, _, _, _, _, _, tk, rfl, rfl, K, ⟨⟨_, Heap.get?_push_size _ rfl, rfl, rfl⟩, hl.push _⟩, fun b hb => ?_, fun b hb => ?_, fun i h' st => hI st.1, fun i v h' st => hI st.2.1, hj _ fun b o e => Heap.get?_push_of_some _ e⟩
  · rw [List.mem_singleton.mp hb]
    cases e : g.get? h.objs.size with
    | none => rfl
    | some o => exact absurd (Heap.lt_size (hg _ _ e)) (Nat.lt_irrefl _)
  · rcases List.mem_cons.mp hb with rfl | hb
    · exact .inl (.head _)
    · rw [List.mem_singleton.mp hb]; exact .inr hlW
theorem for_core {target : Expr} {body : List Stmt} {l : Addr} {its : Array Value} {W : List Addr} {g : Heap} {J : Nat → Heap → Prop} {Q : Flow → Shared → Prop} (hh : A.handled = none)
    (hl : s.heap.IsList l its) (hj : J 0 s.heap)
    (hlW : l ∉ W) (hg : ∀ i h, J i h → Held g h) (hJ : ∀ i h h', J i h → KeepS g h h' → J i h') (hW : ∀ i h, J i h → ∀ b ∈ W, ∃ o, h.get? b = some o ∧ ∀ fs, o.data ≠ .fields fs)
    (hgo : ∀ I l i v (s : Shared) (Q : Unit → Shared → Prop) (E : Value → Shared → Prop), (∃ k : Nat, its[k]? = some v) → s.heap.IsListIter I l i → Q () s → wpAny (model prog w) A (letOwnedTupleGo target (.ref I) v) Q E s)
    (turn : ∀ i v h tk (E' : Value → Shared → Prop), its[i]? = some v → J i h → wpAny (model prog w) A (assign target env v) (fun _ s₁ => wpAny (model prog w) A (execs body env) (fun f s₂ => f = .next ∧ ∃ h' tk', s₂ = { s with heap := h', toks := tk' } ∧ Stays W h h' ∧ J (i + 1) h') E' s₁) E' { s with heap := h, toks := tk })
    (hQ : ∀ h' tk, J its.size h' → Q .next { s with heap := h', toks := tk }) :
    wpAny (model prog w) A (pyIter (.ref l)) (fun it s₂ => codeAny (model prog w) A (.forLoop target it body [] env) (fun r s' => match r with | .ok f => Q f s' | .error e => cameBackBy (model prog w) A env E e s') s₂) E s :=
  wpAny_mono (kt_list (W := W) (g := g) (J := J 0) hh hl hlW (hg 0 _ hj) (fun h' hk => hJ 0 _ _ hj fun b o e _ => hk b o e) hgo) (fun it s₂ h₂ => kt_core h₂ hJ hW (fun i v h tk E' _ hv hj => wpAny_mono (turn i v h tk E' hv hj) (fun _ s₁ h₁ => wpAny_mono h₁ (fun f s₂ h₂ => .inr h₂) fun _ _ e => e) fun _ _ e => e) hQ) fun _ _ e => e
theorem for_list_raw {target iter : Expr} {body : List Stmt} {pos : Pos} {l : Addr} {its : Array Value} {W : List Addr} {g : Heap} {J : Nat → Heap → Prop} {Q : Flow → Shared → Prop} (hh : A.handled = none)
    (hiter : wpAny (model prog w) A (eval iter env) (fun xv s₁ => xv = .ref l ∧ ∃ h tk, s₁ = { s with heap := h, toks := tk } ∧ h.IsList l its ∧ J 0 h) E s)
    (hlW : l ∉ W) (hg : ∀ i h, J i h → Held g h) (hJ : ∀ i h h', J i h → KeepS g h h' → J i h') (hW : ∀ i h, J i h → ∀ b ∈ W, ∃ o, h.get? b = some o ∧ ∀ fs, o.data ≠ .fields fs)
    (hgo : ∀ I l i v (s : Shared) (Q : Unit → Shared → Prop) (E : Value → Shared → Prop), (∃ k : Nat, its[k]? = some v) → s.heap.IsListIter I l i → Q () s → wpAny (model prog w) A (letOwnedTupleGo target (.ref I) v) Q E s)
    (turn : ∀ i v h tk (E' : Value → Shared → Prop), its[i]? = some v → J i h → wpAny (model prog w) A (assign target env v) (fun _ s₁ => wpAny (model prog w) A (execs body env) (fun f s₂ => f = .next ∧ ∃ h' tk', s₂ = { s with heap := h', toks := tk' } ∧ Stays W h h' ∧ J (i + 1) h') E' s₁) E' { s with heap := h, toks := tk })
    (hQ : ∀ h' tk, J its.size h' → Q .next { s with heap := h', toks := tk })
    (hs : ∀ x, foldedSetIterable iter env x = pure x := by intro _; rfl) :
    wpAny (model prog w) A (exec (.For target iter body [] pos) env) Q E s := by
  refine for_kt (wpAny_mono hiter (fun xv s₁ h₁ => ?_) fun _ _ e => e) hJ hW (fun i v h tk E' _ hv hj => wpAny_mono (turn i v h tk E' hv hj) (fun _ s₁ h₁ => wpAny_mono h₁ (fun f s₂ h₂ => .inr h₂) fun _ _ e => e) fun _ _ e => e) hQ hs
  obtain ⟨rfl, h, tk, rfl, hl, hj⟩ := h₁
  exact kt_list hh hl hlW (hg _ _ hj) (fun h' hk => hJ 0 _ _ hj fun b o e _ => hk b o e) hgo
end

-- part TU
noncomputable def lowOf (p : Mon) (cs : List Nat) : Mon := (p.1 - tk cs 0, p.2.1 - tk cs 1, p.2.2 - tk cs 2)
noncomputable def okM (p : Mon) : Bool := decide (0 ≤ p.1) && decide (0 ≤ p.2.1) && decide (0 ≤ p.2.2)
noncomputable def sgnd (cs : List Nat) (x : Int) : Int := if Int.fmod (cs.length : Int) 2 == 1 then x else 0 - x
noncomputable def termT (M : Nat → Nat → Int) (T : Mon → Int) (p : Mon) (j : Nat) : Int := if okM (lowOf p (lotN j)) = true then sgnd (lotN j) (minor M (lotN j)) * T (lowOf p (lotN j)) else 0
noncomputable def sumTo (f : Nat → Int) : Nat → Int
  | 0 => 0
  | n + 1 => sumTo f n + f n
/-- the names of _law_table's frame -/
structure EnvT (env : Env) (L cL : Addr) : Prop where
  fn : env.scope.kind = .function
  loc : env.locals = L
  found : env.kindOf (Str.ofString "found") = some .local
  place : env.kindOf (Str.ofString "place") = some .local
  total : env.kindOf (Str.ofString "total") = some .local
  number : env.kindOf (Str.ofString "number") = some .local
  lower : env.kindOf (Str.ofString "lower") = some .local
  lot : env.kindOf (Str.ofString "lot") = some .cell
  cell : env.cells.lookup (Str.ofString "lot") = some cL
  plain : (env.scope.kind == .class || (env.scope.kind == .module && env.locals != env.globals)) = false
theorem EnvT.at_ {env : Env} {L cL : Addr} {h : Heap} {m : Str → Option Value} (e : EnvT env L cL) (hn : h.Ns L m) : h.Ns env.locals m := by rw [e.loc]; exact hn
noncomputable def BuiltIn (w : World) (A : Around) (g : Heap) (env : Env) (L : Addr) (x : Str) (v : Value) : Prop :=
  ∀ (pos : Pos) (s' : Shared) (m : Str → Option Value) (Q E : Value → Shared → Prop), Held g s'.heap → s'.heap.Ns L m → Q v s' → wpAny (model Pg w) A (eval (.Name x pos) env) Q E s'
/-- the lots and the minors, as they lie -/
structure StatM (M : Nat → Nat → Int) (h : Heap) (qs : List (Addr × List Value)) (os : List (Addr × Obj)) : Prop where
  ln : os.length = 7
  lot : ∀ (j : Nat) q, qs[j]? = some q → h.get? q.1 = some (LCg.lst q.2) ∧ IntsAre q.2 ((lotN j).map fun c : Nat => (c : Int))
  tup : ∀ (j : Nat) o, os[j]? = some o → h.get? o.1 = some o.2 ∧ MinorO M qs j o.2
theorem StatM.keep {M : Nat → Nat → Int} {g h h' : Heap} {qs : List (Addr × List Value)} {os : List (Addr × Obj)} (x : StatM M h qs os) (k : KeepS g h h') : StatM M h' qs os :=
  ⟨x.ln, fun j q hj => let z := x.lot j q hj; ⟨k _ _ z.1 (.inl fun fs q => by cases q), z.2⟩, fun j o hj => by
    obtain ⟨z1, q, t, e1, e2⟩ := x.tup j o hj
    exact ⟨k _ _ z1 (.inl fun fs q => by rw [e2] at q; cases q), q, t, e1, e2⟩⟩
structure InJ (w : World) (M : Nat → Nat → Int) (T : Mon → Int) (g : Heap) (L cL D kp : Addr) (l : PL) (p : Mon) (qs : List (Addr × List Value)) (os : List (Addr × Obj)) (m0 : Str → Option Value) (j : Nat) (h : Heap) : Prop where
  ns : ∃ m, h.Ns L m ∧ (∃ t, m (Str.ofString "total") = some (.int (sumTo (termT M T p) j) t)) ∧ ∀ y, y ≠ Str.ofString "total" → y ≠ Str.ofString "number" → y ≠ Str.ofString "lower" → m y = m0 y
  cell : ∃ v, h.IsCell cL v
  tab : TabAt w g h D l
  key : KeyIs h kp p
  held : Held g h
  stat : StatM M h qs os
theorem InJ.keep {w : World} {M : Nat → Nat → Int} {T : Mon → Int} {g : Heap} {L cL D kp : Addr} {l : PL} {p : Mon} {qs : List (Addr × List Value)} {os : List (Addr × Obj)} {m0 : Str → Option Value} {j : Nat} {h h' : Heap} (x : InJ w M T g L cL D kp l p qs os m0 j h) (k : KeepS g h h') : InJ w M T g L cL D kp l p qs os m0 j h' :=
  ⟨let ⟨m, a, b⟩ := x.ns; ⟨m, k.ns a, b⟩, let ⟨v, c⟩ := x.cell; ⟨v, k.cell c⟩, k.tab x.tab, k.key x.key, k.held x.held, x.stat.keep k⟩
noncomputable def NoSeq (h : Heap) (b : Addr) : Prop := ∀ o, h.get? b = some o → ∀ i n, o.data ≠ .seq i n
theorem noSeq_ns {h : Heap} {C : Addr} {m : Str → Option Value} (hn : h.Ns C m) : NoSeq h C := fun o e i n q => by
  obtain ⟨o', es, ep, ho, hd, _⟩ := hn
  rw [ho] at e; cases e
  rw [hd] at q; cases q
theorem noSeq_cell {h : Heap} {C : Addr} {v : Option Value} (hn : h.IsCell C v) : NoSeq h C := fun o e i n q => by
  obtain ⟨o', ho, hd⟩ := hn
  rw [ho] at e; cases e
  rw [hd] at q; cases q
theorem seq_stay {h h' : Heap} {pr : List Addr} (st : Stays pr h h') (hp : ∀ b ∈ pr, NoSeq h b) {b : Addr} {o : Obj} (hb : h.get? b = some o) (hs : ∃ i n, o.data = .seq i n) : h'.get? b = some o :=
  st _ _ (fun hm => by obtain ⟨i, n, e⟩ := hs; exact hp b hm o hb i n e) hb
theorem key_stay {h h' : Heap} {pr : List Addr} (st : Stays pr h h') (hp : ∀ b ∈ pr, NoSeq h b) {a : Addr} {p : Mon} (k : KeyIs h a p) : KeyIs h' a p := by
  obtain ⟨t1, t2, t3, e⟩ := k
  exact ⟨t1, t2, t3, seq_stay st hp e ⟨_, _, rfl⟩⟩
theorem tab_stay {w : World} {hb h h' : Heap} {pr : List Addr} (st : Stays pr h h') (hp : ∀ b ∈ pr, NoSeq h b) {d : Addr} {l : PL} (hd : d ∉ pr) (k : TabAt w hb h d l) : TabAt w hb h' d l := by
  obtain ⟨o, xs, ho, D, P⟩ := k
  exact ⟨o, xs, st _ _ hd ho, D, paired_mono (fun y q f => ⟨f.key, key_stay st hp f.obj, f.val, f.new⟩) P⟩
theorem stat_stay {M : Nat → Nat → Int} {h h' : Heap} {pr : List Addr} {qs : List (Addr × List Value)} {os : List (Addr × Obj)} (st : Stays pr h h') (hp : ∀ b ∈ pr, NoSeq h b) (x : StatM M h qs os) : StatM M h' qs os :=
  ⟨x.ln, fun j q hj => let z := x.lot j q hj; ⟨seq_stay st hp z.1 ⟨_, _, rfl⟩, z.2⟩, fun j o hj => by
    obtain ⟨z1, q, t, e1, e2⟩ := x.tup j o hj
    exact ⟨seq_stay st hp z1 (by rw [e2]; exact ⟨_, _, rfl⟩), q, t, e1, e2⟩⟩
theorem held_stay {g h h' : Heap} {pr : List Addr} (st : Stays pr h h') (hp : ∀ b ∈ pr, g.get? b = none) (x : Held g h) : Held g h' := fun b o e => st b o (fun hm => by rw [hp b hm] at e; cases e) (x b o e)
theorem stays_of_held {pr : List Addr} {h h' : Heap} (k : Held h h') : Stays pr h h' := fun b o _ e => k b o e
theorem keepS_widen {g gs h h' : Heap} (x : KeepS gs h h') (hgs : ∀ b, g.get? b ≠ none → gs.get? b ≠ none) : KeepS g h h' := fun b o e hc => x b o e (hc.imp id (hgs b))
theorem okM_min {p : Mon} {Mn : Int} (h1 : Mn ≤ p.1 ∧ Mn ≤ p.2.1 ∧ Mn ≤ p.2.2) (h2 : Mn = p.1 ∨ Mn = p.2.1 ∨ Mn = p.2.2) : decide (0 ≤ Mn) = okM p := by
  unfold okM
  rw [← Bool.decide_and, ← Bool.decide_and]
  refine decide_eq_decide.mpr ⟨fun h => ?_, fun h => ?_⟩
  · exact ⟨⟨Int.le_trans h h1.1, Int.le_trans h h1.2.1⟩, Int.le_trans h h1.2.2⟩
  · rcases h2 with e | e | e <;> rw [e]
    · exact h.1.1
    · exact h.1.2
    · exact h.2
section
variable {w : World} {A : Around} {E : Value → Shared → Prop} {s : Shared} {env : Env}
theorem minor_mul {a b : Int} {t u : Tok} {Q : Value → Shared → Prop} (ha : -1073741824 < a ∧ a < 1073741824) (h : Q (.int (a * b) s.toks) { s with toks := s.toks + 1 }) : wpAny (model Pg w) A (binaryOp .Mult (.int a t) (.int b u)) Q E s := by
  exact PyProof.Rows.mul_int h (PySem.IntMulOk.of_left (PySem.intBits_le_64 (by omega) (by omega)))
theorem tuple_of_list {l : Addr} {ys : List Value} {k : Nat} {Q : Value → Shared → Prop} (hl : s.heap.get? l = some (lstO ys k)) (hz : ys.length ≤ 1000)
    (h : ∀ D h', h'.get? D = some (tupO ys) → s.heap.get? D = none → Held s.heap h' → Q (.ref D) { s with heap := h' }) : wpAny (model Pg w) A (call (.type "tuple") [.ref l]) Q E s := by
  refine call_tuple_list ⟨_, hl, rfl, _, rfl⟩ (fun h' hk => ?_) (by rw [sizeLine_eq]; simp; omega)
  refine h _ _ (Heap.get?_push_size _ rfl) ?_ fun b o e => Heap.get?_push_of_some _ (hk _ _ e)
  cases e : s.heap.get? h'.objs.size with
  | none => rfl
  | some o => exact absurd (Heap.lt_size (hk _ _ e)) (Nat.lt_irrefl _)
abbrev lowerE (sc : Scope) (p1 p2 p3 p4 p5 p6 p7 p8 p9 p10 p11 p12 e1 e2 e3 : Pos) (k k1 k2 : Nat) : Expr :=
  .ListComp (.BinOp (.Name "one" p1) .Sub (.IfExp (.Compare (.Name "at" p2) [.In] [.Name "lot" p3] p4) (.Constant (.int 1) k1 p5) (.Constant (.int 0) k2 p9) p10) p11) [⟨.Tuple [.Name "at" p6, .Name "one" p7] k p8, .Call (.Name "enumerate" e1) [.Name "place" e2] [] e3, [], 0⟩] sc p12
theorem store_loc {x : Str} {L cL : Addr} {v : Value} {m : Str → Option Value} {Q : Unit → Shared → Prop} (e : EnvT env L cL) (hx : env.kindOf x = some .local) (hn : s.heap.Ns L m)
    (h : ∀ h' tk, h'.Ns L (fun y => if y = x then some v else m y) → Heap.SameBut L s.heap h' → Q () { s with heap := h', toks := tk }) : wpAny (model Pg w) A (storeName env x v) Q E s := by
  have hL := e.loc; subst hL
  exact wpAny_storeName_local hx hn (fun h' hn' hs' => h h' _ hn' hs') e.plain
theorem ns_ne {h : Heap} {C b : Addr} {m : Str → Option Value} {o : Obj} (hn : h.Ns C m) (hb : h.get? b = some o) (hd : ∀ es ep, o.data ≠ .dict es ep) : b ≠ C := fun e => by
  obtain ⟨o', es, ep, ho, hd', _⟩ := hn
  rw [e, ho] at hb
  exact hd es ep (Option.some.inj hb ▸ hd')
theorem cell_ne {h : Heap} {C b : Addr} {v : Option Value} {o : Obj} (hn : h.IsCell C v) (hb : h.get? b = some o) (hd : ∀ v, o.data ≠ .cell v) : b ≠ C := fun e => by
  obtain ⟨o', ho, hd'⟩ := hn
  rw [e, ho] at hb
  exact hd v (Option.some.inj hb ▸ hd')
theorem pick_sgn {L cL : Addr} {cs : List Nat} {mn : Int} {t : Tok} {m : Str → Option Value} {X : Value → Shared → Prop} {f10 f11 f12 f13 : Pos} {kc3 : Nat} (e : EnvT env L cL) (hn : s.heap.Ns L m) (hm : m (Str.ofString "number") = some (.int mn t))
    (h : ∀ t' tk', X (.int (sgnd cs mn) t') { s with toks := tk' }) :
    if (Int.fmod (cs.length : Int) 2 == 1) = true then wpAny (model Pg w) A (eval (.Name "number" f10) env) X E s else wpAny (model Pg w) A (eval (.BinOp (.Constant (.int 0) kc3 f11) .Sub (.Name "number" f12) f13) env) X E s := by
  by_cases hc : (Int.fmod (cs.length : Int) 2 == 1) = true
  · rw [if_pos hc]
    have := h t s.toks
    unfold sgnd at this
    rw [if_pos hc] at this
    exact cname_local e.fn e.number (e.at_ hn) hm this
  · rw [if_neg hc]
    refine wpAny_BinOp (const_int (cname_local e.fn e.number (e.at_ hn) hm (PyProof.Rows.sub_int ?_)))
    have := h (s.toks + 1) (s.toks + 1 + 1)
    unfold sgnd at this
    rw [if_neg hc] at this
    exact this
set_option maxRecDepth 100000 in
set_option maxHeartbeats 1000000 in
theorem inner_for {M : Nat → Nat → Int} {T : Mon → Int} {g : Heap} {L cL D kp lm : Addr} {l : PL} {p : Mon} {qs : List (Addr × List Value)} {os : List (Addr × Obj)} {m0 : Str → Option Value} {cl : List (Str × Addr)} {sc : Scope} {Q : Flow → Shared → Prop}
    {p1 p2 p3 p4 p5 p6 p7 p8 p9 p10 p11 p12 e1 e2 e3 b1 b2 b3 b4 b5 c1 c2 c3 c4 d1 d2 d3 d4 d5 d6 f1 f2 f3 f4 f5 f6 f7 f8 f9 f10 f11 f12 f13 f14 f15 f16 f17 f18 f19 f20 : Pos} {k k1 k2 kk kc kc1 kc2 kc3 : Nat}
    (hh : A.handled = none) (hu : A.units + 1 < cLine) (e : EnvT env L cL)
    (bt : BuiltIn w A g env L (Str.ofString "tuple") (.type "tuple")) (be : BuiltIn w A g env L (Str.ofString "enumerate") (.type "enumerate")) (bm : BuiltIn w A g env L (Str.ofString "min") (.builtin "min")) (bl : BuiltIn w A g env L (Str.ofString "len") (.builtin "len"))
    (hsc : sc.kind = .function) (hnames : ∀ y ∈ sc.names, y.2 = .local → sc.names.lookup y.1 = some .local)
    (hat : sc.names.lookup (Str.ofString "at") = some .local) (hone : sc.names.lookup (Str.ofString "one") = some .local) (hcl : closureFor sc env = pure cl) (hcf : ∀ n, cellsFrom n sc.names cl = cl)
    (hll : cl.lookup (Str.ofString "lot") = some cL) (hkl : ∀ C, (compEnvC sc cl C env).kindOf "lot" = some .cell ∨ (compEnvC sc cl C env).kindOf "lot" = some .free)
    (hmf : m0 (Str.ofString "found") = some (.ref D)) (hmp : m0 (Str.ofString "place") = some (.ref kp)) (hb : ∀ j, j < 7 → -1073741824 < sgnd (lotN j) (minor M (lotN j)) ∧ sgnd (lotN j) (minor M (lotN j)) < 1073741824)
    (hT : ∀ j, j < 7 → okM (lowOf p (lotN j)) = true → lk l (lowOf p (lotN j)) = some (T (lowOf p (lotN j))))
    (hminors : env.kindOf (Str.ofString "minors") = some .local) (hmm : m0 (Str.ofString "minors") = some (.ref lm)) (hlm : s.heap.get? lm = some (LCg.lst (os.map fun o => Value.ref o.1)))
    (hJ0 : InJ w M T g L cL D kp l p qs os m0 0 s.heap) (hLg : g.get? L = none) (hcg : g.get? cL = none) (hDL : D ≠ L)
    (hQ : ∀ h' tk, InJ w M T g L cL D kp l p qs os m0 7 h' → Stays [L, cL] s.heap h' → Q .next { s with heap := h', toks := tk }) :
    wpAny (model Pg w) A (exec (.For (.Tuple [.Name "lot" b1, .Name "number" b2] kk b3) (.Name "minors" b4)
      [.Assign [.Name "lower" c1] (.Call (.Name "tuple" c2) [lowerE sc p1 p2 p3 p4 p5 p6 p7 p8 p9 p10 p11 p12 e1 e2 e3 k k1 k2] [] c3) c4,
       .If (.Compare (.Call (.Name "min" d1) [.Name "lower" d2] [] d3) [.GtE] [.Constant (.int 0) kc d4] d5)
        [.Assign [.Name "total" f1] (.BinOp (.Name "total" f2) .Add (.BinOp (.IfExp (.Compare (.BinOp (.Call (.Name "len" f3) [.Name "lot" f4] [] f5) .Mod (.Constant (.int 2) kc1 f6) f7) [.Eq] [.Constant (.int 1) kc2 f8] f9) (.Name "number" f10) (.BinOp (.Constant (.int 0) kc3 f11) .Sub (.Name "number" f12) f13) f14) .Mult (.Subscript (.Name "found" f15) (.Name "lower" f16) f17) f18) f19) f20] [] d6] [] b5) env) Q E s := by
  have solid : ∀ i h, InJ w M T g L cL D kp l p qs os m0 i h → ∀ b ∈ [L, cL], ∃ o, h.get? b = some o ∧ ∀ fs, o.data ≠ .fields fs := by
    intro i h hj b hb
    simp only [List.mem_cons, List.not_mem_nil, or_false] at hb
    rcases hb with rfl | rfl
    · obtain ⟨m, ⟨o, es, ep, ho, hd, _⟩, _⟩ := hj.ns
      exact ⟨o, ho, fun fs q => by rw [hd] at q; cases q⟩
    · obtain ⟨v, o, ho, hd⟩ := hj.cell
      exact ⟨o, ho, fun fs q => by rw [hd] at q; cases q⟩
  have hlm' : lm ∉ [L, cL] := by
    intro hm
    simp only [List.mem_cons, List.not_mem_nil, or_false] at hm
    rcases hm with q | q
    · obtain ⟨m, hn, _⟩ := hJ0.ns
      exact ns_ne hn hlm (fun es ep q => by cases q) q
    · obtain ⟨v, hc⟩ := hJ0.cell
      exact cell_ne hc hlm (fun v q => by cases q) q
  have gsub : ∀ b, g.get? b ≠ none → (hideAll s.heap [L, cL]).get? b ≠ none := fun b hb => by
    cases e9 : g.get? b with
    | none => exact absurd e9 hb
    | some o =>
      rw [hideAll_get _ (hJ0.held b o e9) (fun hm => by
        simp only [List.mem_cons, List.not_mem_nil, or_false] at hm
        rcases hm with q | q
        · rw [q, hLg] at e9; cases e9
        · rw [q, hcg] at e9; cases e9)]
      exact fun q => nomatch q
  have hgs : ∀ {h : Heap}, Stays [L, cL] s.heap h → Held (hideAll s.heap [L, cL]) h := fun {h} st b o e9 => st b o (fun hm => by rw [hideAll_none _ hm] at e9; cases e9) (of_hideAll _ e9)
  refine for_list_raw (g := hideAll s.heap [L, cL]) (l := lm) (W := [L, cL]) (its := (os.map fun o => Value.ref o.1).toArray) (J := fun j h => InJ w M T g L cL D kp l p qs os m0 j h ∧ Stays [L, cL] s.heap h) hh ?_ hlm' (fun i h hj => hgs hj.2) ?_ (fun i h hj => solid i h hj.1) ?_ ?_ ?_
  · obtain ⟨m, hn, ht, hm⟩ := hJ0.ns
    refine cname_local e.fn hminors (e.at_ hn) (by rw [hm _ (by decide) (by decide) (by decide)]; exact hmm) ⟨rfl, _, _, rfl, ⟨_, hlm, rfl, _, rfl⟩, hJ0, Stays.refl _ _⟩
  · rintro i h h' ⟨hj, hst⟩ hks
    refine ⟨hj.keep (keepS_widen hks gsub), fun b o hb e9 => hks b o (hst b o hb e9) (.inr ?_)⟩
    rw [hideAll_get _ e9 hb]; exact fun q => nomatch q
  · intro I l' i v s' Q' E' hv hi hq
    obtain ⟨k', hv⟩ := hv
    have : ∃ a, v = .ref a := by
      rw [List.getElem?_toArray, List.getElem?_map] at hv
      cases e9 : os[k']? with
      | none => rw [e9] at hv; cases hv
      | some o => rw [e9] at hv; cases hv; exact ⟨_, rfl⟩
    obtain ⟨a, rfl⟩ := this
    exact wpAny_letOwnedTupleGo_listiter hi hq
  · rintro i v h tk9 E' hv ⟨hj, hst⟩
    have hv' : ∃ o, os[i]? = some o ∧ v = .ref o.1 := by
      rw [List.getElem?_toArray, List.getElem?_map] at hv
      cases e9 : os[i]? with
      | none => rw [e9] at hv; cases hv
      | some o => rw [e9] at hv; cases hv; exact ⟨o, rfl, rfl⟩
    obtain ⟨o, hoi, rfl⟩ := hv'
    have hi7 : i < 7 := by have := (List.getElem?_eq_some_iff.mp hoi).1; have := hj.stat.ln; omega
    obtain ⟨ho, q, t, hq, ho2⟩ := hj.stat.tup i o hoi
    obtain ⟨hlq, hys⟩ := hj.stat.lot i q hq
    rw [ho2] at ho
    obtain ⟨m, hn, ⟨tt, hmt⟩, hm⟩ := hj.ns
    obtain ⟨cv, hc⟩ := hj.cell
    have hp0 : ∀ b ∈ [L, cL], NoSeq h b := by
      intro b hb
      simp only [List.mem_cons, List.not_mem_nil, or_false] at hb
      rcases hb with rfl | rfl
      · exact noSeq_ns hn
      · exact noSeq_cell hc
    have hpg : ∀ b ∈ [L, cL], g.get? b = none := by
      intro b hb
      simp only [List.mem_cons, List.not_mem_nil, or_false] at hb
      rcases hb with rfl | rfl <;> assumption
    have hLc : L ≠ cL := by
      intro q9
      obtain ⟨o9, es, ep, ho9, hd9, _⟩ := hn
      exact cell_ne hc ho9 (fun v q => by rw [hd9] at q; cases q) q9
    have hDc : D ≠ cL := by
      obtain ⟨o9, xs, ho9, D9, _⟩ := hj.tab
      obtain ⟨es, ep, _, hd9, _⟩ := D9.is
      exact cell_ne hc ho9 (fun v q => by rw [hd9] at q; cases q)
    have hDW : D ∉ [L, cL] := by simp [hDL, hDc]
    refine wpAny_assign_Tuple hh ⟨_, ho, rfl, _, rfl⟩ rfl rfl fun h1 he1 => ?_
    have k1 : Held h h1 := fun b o e9 => he1 b o (Nat.ne_of_lt (Heap.lt_size e9)) e9
    show wpAny _ _ (assignInOrder [assign (.Name "lot" b1) env, assign (.Name "number" b2) env] [.ref q.1, .int (minor M (lotN i)) t]) _ _ _
    refine assignInOrder_cons (wpAny_assign_Name (wpAny_storeName_cell e.fn e.lot e.cell (v₀ := cv) (by obtain ⟨oc, hoc, hdc⟩ := hc; exact ⟨oc, k1 _ _ hoc, hdc⟩) fun h2 hc2 hs2 => ?_))
    have hn2 : h2.Ns L m := (hn.keeps k1).sameBut hs2 hLc
    refine assignInOrder_cons (wpAny_assign_Name (store_loc e e.number hn2 fun h3 tk3 hn3 hs3 => ?_))
    refine assignInOrder_nil ?_
    have st2 : Stays [cL] h1 h2 := Stays.ofBut hs2.extBut
    have st3 : Stays [L] h2 h3 := Stays.ofBut hs3.extBut
    have S3 : Stays [L, cL] h h3 := fun b o hb e9 => st3 b o (fun q => hb (by simp at q; simp [q])) (st2 b o (fun q => hb (by simp at q; simp [q])) (k1 b o e9))
    have hc3 : h3.IsCell cL (some (.ref q.1)) := by obtain ⟨oc, hoc, hdc⟩ := hc2; exact ⟨oc, st3 _ _ (by simpa using hLc.symm) hoc, hdc⟩
    have held3 : Held g h3 := held_stay S3 hpg hj.held
    have key3 : KeyIs h3 kp p := key_stay S3 hp0 hj.key
    obtain ⟨u1, u2, u3, hkp3⟩ := key3
    have mp : ∀ {m' : Str → Option Value}, (∀ y, y ≠ Str.ofString "number" → y ≠ Str.ofString "lower" → m' y = m y) → m' (Str.ofString "place") = some (.ref kp) ∧ m' (Str.ofString "found") = some (.ref D) := fun {m'} hm' => by
      rw [hm' _ (by decide) (by decide), hm' _ (by decide) (by decide), hm _ (by decide) (by decide) (by decide), hm _ (by decide) (by decide) (by decide)]; exact ⟨hmp, hmf⟩
    refine wpAny_execs_cons (wpAny_Assign_Name (Call_ (bt c2 _ _ _ _ held3 hn3 (PySem.Pv.callWith_type1 (args_cons ?_)))))
    refine lower_comp (cs := lotN i) (x0 := p.1) (x1 := p.2.1) (x2 := p.2.2) (t0 := u1) (t1 := u2) (t2 := u3) hh hsc hnames hat hone hcl hcf hll hkl hc3 (seq_stay S3 hp0 hlq ⟨_, _, rfl⟩) hys ?_ (fun D' v0 v1 v2 h4 tk4 hD4 hn4 hk4 => ?_) (fun _ => rfl)
    · refine Call_ (be e1 _ _ _ _ held3 hn3 (PySem.Pv.callWith_type1 (args_cons (cname_local e.fn e.place (e.at_ hn3) (mp (m' := fun y => if y = Str.ofString "number" then some (Value.int (minor M (lotN i)) t) else m y) (fun y hy1 hy2 => by rw [if_neg hy1])).1 (args_nil ?_)))))
      exact src_enumT hh rfl ⟨_, hkp3, rfl, _, rfl⟩ ⟨_, _, rfl⟩ (Held.refl _) (Nat.le_refl _)
    · refine args_nil (tuple_of_list hD4 (by simp) fun D5 h5 hD5 hn5 hk5 => ?_)
      have hn5' := (hn3.keeps hk4).keeps hk5
      refine store_loc e e.lower hn5' fun h6 tk6 hn6 hs6 => ?_
      have st6 : Stays [L] h5 h6 := Stays.ofBut hs6.extBut
      have S6 : Stays [L, cL] h h6 := fun b o hb e9 => st6 b o (fun q => hb (by simp at q; simp [q])) (hk5 _ _ (hk4 _ _ (S3 b o hb e9)))
      have held6 : Held g h6 := held_stay S6 hpg hj.held
      have hD5L : D5 ∉ [L] := by
        intro q9
        rw [List.mem_singleton.mp q9] at hD5
        exact noSeq_ns hn5' _ hD5 _ _ rfl
      have hD6 : h6.get? D5 = some (keyO (lowOf p (lotN i)).1 (lowOf p (lotN i)).2.1 (lowOf p (lotN i)).2.2 v0 v1 v2) := st6 _ _ hD5L hD5
      have hc6 : h6.IsCell cL (some (.ref q.1)) := by obtain ⟨oc, hoc, hdc⟩ := hc3; exact ⟨oc, st6 _ _ (by simpa using hLc.symm) (hk5 _ _ (hk4 _ _ hoc)), hdc⟩
      refine wpAny_execs_cons (wpAny_If (wpAny_isTrue_Compare1 (Call_ (bm d1 _ _ _ _ held6 hn6 (callWith_builtin1 (args_cons (cname_local e.fn e.lower (e.at_ hn6) (if_pos rfl) (args_nil (min_tup3 hh hD6 fun Mn u h7 tk7 hle hor hk7 => const_int (PyProof.Rows.ge_int (wpAny_truthy_bool ?_)))))))))))
      rw [okM_min hle hor]
      dsimp only
      have hn7 := hn6.keeps hk7
      have S7 : Stays [L, cL] h h7 := S6.trans (stays_of_held hk7)
      have mt7 : ∀ y, y ≠ Str.ofString "number" → y ≠ Str.ofString "lower" → (if y = Str.ofString "lower" then some (Value.ref D5) else if y = Str.ofString "number" then some (Value.int (minor M (lotN i)) t) else m y) = m y := fun y hy1 hy2 => by rw [if_neg hy2, if_neg hy1]
      have done : ∀ (h' : Heap) (tk' : Nat) (m' : Str → Option Value), Stays [L, cL] h h' → h'.Ns L m' → h'.IsCell cL (some (.ref q.1)) → (∃ t, m' (Str.ofString "total") = some (.int (sumTo (termT M T p) (i + 1)) t)) → (∀ y, y ≠ Str.ofString "total" → y ≠ Str.ofString "number" → y ≠ Str.ofString "lower" → m' y = m y) →
          InJ w M T g L cL D kp l p qs os m0 (i + 1) h' ∧ Stays [L, cL] s.heap h' := fun h' tk' m' st' hn' hc' ht' hm' =>
        ⟨⟨⟨m', hn', ht', fun y a b c => (hm' y a b c).trans (hm y a b c)⟩, ⟨_, hc'⟩, tab_stay st' hp0 hDW hj.tab, key_stay st' hp0 hj.key, held_stay st' hpg hj.held, stat_stay st' hp0 hj.stat⟩, hst.trans st'⟩
      have hc7 : h7.IsCell cL (some (.ref q.1)) := by obtain ⟨oc, hoc, hdc⟩ := hc6; exact ⟨oc, hk7 _ _ hoc, hdc⟩
      by_cases hok : okM (lowOf p (lotN i)) = true
      · rw [if_pos hok]
        have hp7 : ∀ b ∈ [L, cL], NoSeq h7 b := by
          intro b hb
          simp only [List.mem_cons, List.not_mem_nil, or_false] at hb
          rcases hb with rfl | rfl
          · exact noSeq_ns hn7
          · exact noSeq_cell hc7
        have hl7 : h7.get? q.1 = some (LCg.lst q.2) := seq_stay S7 hp0 hlq ⟨_, _, rfl⟩
        have hsz : q.2.toArray.size = (lotN i).length := by have := ints_len hys; simpa using this
        refine wpAny_execs_cons (wpAny_Assign_Name (wpAny_BinOp (cname_local e.fn e.total (e.at_ hn7) ((mt7 _ (by decide) (by decide)).trans hmt) (wpAny_BinOp (IfExp_ (wpAny_isTrue_Compare1 (wpAny_BinOp ?_)))))))
        refine Call_ (bl f3 _ _ _ _ (held_stay S7 hpg hj.held) hn7 (callWith_builtin1 (args_cons (cname_cell e.fn (.inl e.lot) e.cell hc7 (args_nil ?_)))))
        refine PyProof.Rows.len_list ⟨_, hl7, rfl, _, rfl⟩ (by rw [hsz]; have := (lotN_lt i).2; omega) ?_
        refine const_int (mod_int' (show (2 : Int) ≠ 0 by decide) (const_int (eq_int (wpAny_truthy_bool ?_))))
        rw [hsz]
        refine pick_sgn e hn7 (by rw [if_neg (by decide), if_pos rfl]) fun t' tk' => ?_
        refine Subscript_ (cname_local e.fn e.found (e.at_ hn7) ((mt7 _ (by decide) (by decide)).trans (mp (m' := m) fun _ _ _ => rfl).2) ?_)
        refine cname_local e.fn e.lower (e.at_ hn7) (if_pos rfl) ?_
        refine tab_get (p := lowOf p (lotN i)) (tab_stay S7 hp0 hDW hj.tab) ⟨_, _, _, hk7 _ _ hD6⟩ (hT i hi7 hok) hu (fun t9 tk10 => ?_)
        refine minor_mul (hb i hi7) (PyProof.Rows.add_int (store_loc e e.total hn7 fun h8 tk8 hn8 hs8 => ?_))
        have e9 : sumTo (termT M T p) i + sgnd (lotN i) (minor M (lotN i)) * T (lowOf p (lotN i)) = sumTo (termT M T p) (i + 1) := by simp only [sumTo, termT, if_pos hok]
        have st8 : Stays [L] h7 h8 := Stays.ofBut hs8.extBut
        have S8 : Stays [L, cL] h h8 := fun b o hb e9 => st8 b o (fun q => hb (by simp at q; simp [q])) (S7 b o hb e9)
        have hc8 : h8.IsCell cL (some (.ref q.1)) := by obtain ⟨oc, hoc, hdc⟩ := hc7; exact ⟨oc, st8 _ _ (by simpa using hLc.symm) hoc, hdc⟩
        refine wpAny_execs_nil (wpAny_execs_nil ⟨rfl, h8, _, rfl, S8, done h8 0 _ S8 hn8 hc8 ⟨_, (if_pos rfl).trans (congrArg (fun z => some (Value.int z _)) e9)⟩ fun y c a b => by rw [if_neg c]; exact mt7 y a b⟩)
      · rw [if_neg hok]
        refine wpAny_execs_nil (wpAny_execs_nil ⟨rfl, h7, _, rfl, S7, done h7 0 _ S7 hn7 hc7 ⟨tt, ?_⟩ fun y _ a b => mt7 y a b⟩)
        rw [mt7 _ (by decide) (by decide), hmt]
        simp only [sumTo, termT, if_neg hok, Int.add_zero]
  · intro h' tk hj
    have : (os.map fun o => Value.ref o.1).toArray.size = 7 := by simpa using hj.1.stat.ln
    rw [this] at hj
    exact hQ h' tk hj.1 hj.2
end

-- part RA
section
variable {prog : Program} {w : World} {A : Around} {E : Value → Shared → Prop} {s : Shared} {env : Env}
theorem kt_range {target : Expr} {r : Addr} {a : Int} {n : Nat} {t u v : Tok} {W : List Addr} {g h : Heap} {tk : Nat} {J : Heap → Prop} (hh : A.handled = none) (hr : IsRange h r a (a + (n : Int)) 1 t u v) (ha : 0 ≤ a) (ha' : a + (n : Int) < 1000) (hg : Held g h) (hj : ∀ h', Held h h' → J h')
    (hgo : ∀ it v, letOwnedTupleGo target it v = pure ()) :
    wpAny (model prog w) A (pyIter (.ref r)) (KtSrc prog w A target n (fun i v _ => ∃ t, v = .int (a + (i : Int)) t) W g s J) E { s with heap := h, toks := tk } := by
  refine wpAny_pyIter_range hr (small_one (by omega) (by omega) (by omega) (by omega)) ?_
  have hrs : Builtin.Range.rangeSize a (a + (n : Int)) 1 = (n : Int) := by
    rw [rangeSize_one]
    split <;> omega
  rw [hrs]
  dsimp only
  have Wk := LCg.range_walks (prog := prog) (w := w) (A := A) (I := h.objs.size) hh a n
  have K := KTurns.ofWalks (target := target) Wk fun i v s Q E _ hq => wpAny_of_eq (hgo _ v) hq
  have hI : ∀ {i : Nat} {h' : Heap}, IsRangeIter h' h.objs.size (a + (i : Nat) * 1) ((n : Int) - (i : Nat)) 1 → Flds [h.objs.size] h' := fun {i h'} e b hb => by rw [List.mem_singleton.mp hb]; exact ⟨_, e, _, rfl⟩
  refine ⟨_, _, _, _, _, _, tk, rfl, rfl, K, ?_, fun b hb => ?_, fun b hb => .inl hb, fun i h' st => hI st, fun i v h' st => hI st.2, hj _ fun b o e => Heap.get?_push_of_some _ e⟩
  · show IsRangeIter _ _ _ _ _
    simpa using Heap.get?_push_size h (o := { cls := .type "range_iterator", data := .fields #[rawInt a, rawInt (n : Int), rawInt 1] }) rfl
  · rw [List.mem_singleton.mp hb]
    cases e : g.get? h.objs.size with
    | none => rfl
    | some o => exact absurd (Heap.lt_size (hg _ _ e)) (Nat.lt_irrefl _)
/-- a loop over a range: what its turns write (W) is no iterator, and what is no iterator stays when the loop takes its next item -/
theorem for_range {target iter : Expr} {body : List Stmt} {pos : Pos} {a : Int} {n : Nat} {W : List Addr} {g : Heap} {J : Nat → Heap → Prop} {Q : Flow → Shared → Prop} (hh : A.handled = none)
    (hiter : wpAny (model prog w) A (eval iter env) (fun xv s₁ => ∃ r h tk t u v, xv = .ref r ∧ s₁ = { s with heap := h, toks := tk } ∧ IsRange h r a (a + (n : Int)) 1 t u v ∧ J 0 h) E s)
    (ha : 0 ≤ a) (ha' : a + (n : Int) < 1000)
    (hg : ∀ i h, J i h → Held g h) (hJ : ∀ i h h', J i h → KeepS g h h' → J i h') (hW : ∀ i h, J i h → ∀ b ∈ W, ∃ o, h.get? b = some o ∧ ∀ fs, o.data ≠ .fields fs)
    (hgo : ∀ it v, letOwnedTupleGo target it v = pure ())
    (turn : ∀ i t h tk (E' : Value → Shared → Prop), i < n → J i h → wpAny (model prog w) A (assign target env (.int (a + (i : Int)) t)) (fun _ s₁ => wpAny (model prog w) A (execs body env) (fun f s₂ => (∃ v, f = .ret v ∧ Q f s₂) ∨ (f = .next ∧ ∃ h' tk', s₂ = { s with heap := h', toks := tk' } ∧ Stays W h h' ∧ J (i + 1) h')) E' s₁) E' { s with heap := h, toks := tk })
    (hQ : ∀ h' tk, J n h' → Q .next { s with heap := h', toks := tk })
    (hs : ∀ x, foldedSetIterable iter env x = pure x := by intro _; rfl) :
    wpAny (model prog w) A (exec (.For target iter body [] pos) env) Q E s := by
  refine for_kt (P := fun i v _ => ∃ t, v = .int (a + (i : Int)) t) (wpAny_mono hiter (fun xv s₁ h₁ => ?_) fun _ _ e => e) hJ hW (fun i v h tk E' hi hP hj => by obtain ⟨t, rfl⟩ := hP; exact turn i t h tk E' hi hj) hQ hs
  obtain ⟨r, h, tk, t, u, v, rfl, rfl, hr, hj⟩ := h₁
  exact kt_range hh hr ha ha' (hg _ _ hj) (fun h' hk => hJ 0 _ _ hj fun b o e _ => hk b o e) hgo
/-- range(a, b) is made -/
theorem range_two {a b : Int} {t u : Tok} {J : Heap → Prop} (hJ : ∀ h', Held s.heap h' → J h') :
    wpAny (model prog w) A (call (.type "range") [.int a t, .int b u]) (fun xv s₁ => ∃ r h tk t u v, xv = .ref r ∧ s₁ = { s with heap := h, toks := tk } ∧ IsRange h r a b 1 t u v ∧ J h) E s :=
  call_range_2 ⟨_, _, _, _, _, _, rfl, rfl, IsRange.new _ _ _ _ _ _ _, hJ _ fun _ _ e => Heap.get?_push_of_some _ e⟩
theorem range_one {b : Int} {t : Tok} {J : Heap → Prop} (hJ : ∀ h', Held s.heap h' → J h') :
    wpAny (model prog w) A (call (.type "range") [.int b t]) (fun xv s₁ => ∃ r h tk t u v, xv = .ref r ∧ s₁ = { s with heap := h, toks := tk } ∧ IsRange h r 0 b 1 t u v ∧ J h) E s :=
  call_range_1 ⟨_, _, _, _, _, _, rfl, rfl, IsRange.new _ _ _ _ _ _ _, hJ _ fun _ _ e => Heap.get?_push_of_some _ e⟩
end
/-- a list of n ints -/
noncomputable def RowN (h : Heap) (a : Addr) (f : Nat → Int) (n : Nat) : Prop := ∃ ys : List Value, h.IsList a ys.toArray ∧ ys.length = n ∧ ∀ j, j < n → ∃ t, ys[j]? = some (.int (f j) t)
/-- a list of n lists of n ints -/
structure MatN (h : Heap) (pa : Addr) (ρ : Nat → Addr) (M : Nat → Nat → Int) (n : Nat) : Prop where
  top : ∃ vs : List Value, h.IsList pa vs.toArray ∧ vs.length = n ∧ ∀ i, i < n → vs[i]? = some (.ref (ρ i))
  row : ∀ i, i < n → RowN h (ρ i) (M i) n
theorem KeepS.list {g h h' : Heap} {a : Addr} {its : Array Value} (k : KeepS g h h') (x : h.IsList a its) : h'.IsList a its := by
  obtain ⟨o, ho, hc, n, hd⟩ := x
  exact ⟨o, k _ _ ho (.inl fun fs q => by rw [hd] at q; cases q), hc, n, hd⟩
theorem KeepS.rowN {g h h' : Heap} {a : Addr} {f : Nat → Int} {n : Nat} (k : KeepS g h h') (x : RowN h a f n) : RowN h' a f n := let ⟨ys, hl, r⟩ := x; ⟨ys, k.list hl, r⟩
theorem KeepS.matN {g h h' : Heap} {pa : Addr} {ρ : Nat → Addr} {M : Nat → Nat → Int} {n : Nat} (k : KeepS g h h') (x : MatN h pa ρ M n) : MatN h' pa ρ M n :=
  ⟨let ⟨vs, hl, r⟩ := x.top; ⟨vs, k.list hl, r⟩, fun i hi => k.rowN (x.row i hi)⟩
theorem keepS_held {g h h' : Heap} (x : Held h h') : KeepS g h h' := fun b o e _ => x b o e
theorem ns_off {h : Heap} {C b : Addr} {m : Str → Option Value} {o : Obj} (hn : h.Ns C m) (hb : h.get? b = some o) (hd : ∀ es ep, o.data ≠ .dict es ep) : b ≠ C := fun e => by
  obtain ⟨o', es, ep, ho, hd', _⟩ := hn
  rw [e, ho] at hb
  exact hd es ep (Option.some.inj hb ▸ hd')
/-- a name is set: lists stay -/
theorem keepS_name {h h' : Heap} {L : Addr} {m : Str → Option Value} {x : Addr} {o : Obj} (hn : h.Ns L m) (hs : Heap.SameBut L h h') (hx : h.get? x = some o) (hd : ∀ es ep, o.data ≠ .dict es ep) : h'.get? x = some o :=
  (hs.2 x (ns_off hn hx hd)).trans hx
theorem list_name {h h' : Heap} {L a : Addr} {m : Str → Option Value} {its : Array Value} (hn : h.Ns L m) (hs : Heap.SameBut L h h') (x : h.IsList a its) : h'.IsList a its := by
  obtain ⟨o, ho, hc, n, hd⟩ := x
  exact ⟨o, keepS_name hn hs ho (fun es ep q => by rw [hd] at q; cases q), hc, n, hd⟩
theorem mat_name {h h' : Heap} {L pa : Addr} {m : Str → Option Value} {ρ : Nat → Addr} {M : Nat → Nat → Int} {n : Nat} (hn : h.Ns L m) (hs : Heap.SameBut L h h') (x : MatN h pa ρ M n) : MatN h' pa ρ M n :=
  ⟨let ⟨vs, hl, r⟩ := x.top; ⟨vs, list_name hn hs hl, r⟩, fun i hi => let ⟨ys, hl, r⟩ := x.row i hi; ⟨ys, list_name hn hs hl, r⟩⟩
theorem mat_ext {h : Heap} {pa : Addr} {ρ : Nat → Addr} {M M' : Nat → Nat → Int} {n : Nat} (x : MatN h pa ρ M n) (e : ∀ i j, i < n → j < n → M i j = M' i j) : MatN h pa ρ M' n :=
  ⟨x.top, fun i hi => let ⟨ys, hl, hn, r⟩ := x.row i hi; ⟨ys, hl, hn, fun j hj => by rw [← e i j hi hj]; exact r j hj⟩⟩
section
variable {w : World} {A : Around} {E : Value → Shared → Prop} {s : Shared} {env : Env}
theorem item_raw {value slice : Expr} {l : Addr} {vs : List Value} {k : Nat} {u : Tok} {x : Value} {Q : Value → Shared → Prop} (hl : s.heap.IsList l vs.toArray) (hk : k < 1000) (hx : vs[k]? = some x) (h : Q x s)
    (hs : subscripted slice false (.ref l) (.int (k : Int) u) = operate [.ref l, .int (k : Int) u] (getItem (.ref l) (.int (k : Int) u)) := by with_unfolding_all rfl) :
    wpAny (model Pg w) A (subscriptTail value slice (.ref l) (.int (k : Int) u)) Q E s :=
  item_listR hl (by omega) (by omega) (by simpa using hx) h hs
theorem set_raw {l : Addr} {vs : List Value} {k : Nat} {u : Tok} {v : Value} {Q : Unit → Shared → Prop} (hl : s.heap.IsList l vs.toArray) (hk : k < vs.length) (hz : k < 1000)
    (h : ∀ h', h'.IsList l (vs.set k v).toArray → Heap.SameBut l s.heap h' → Q () { s with heap := h' }) : wpAny (model Pg w) A (setItem (.ref l) (.int (k : Int) u) v) Q E s :=
  wpAny_setItem_list hl (by omega) (by omega) (by simpa using hk) fun h' hl' hs => h h' (by simpa using hl') hs
theorem len_raw {l : Addr} {vs : List Value} {n : Nat} {Q : Value → Shared → Prop} (hl : s.heap.IsList l vs.toArray) (hn : vs.length = n) (hz : n < 1000) (h : Q (.int (n : Int) (s.toks + 1)) { s with toks := s.toks + 1 + 1 }) :
    wpAny (model Pg w) A (call (.builtin "len") [.ref l]) Q E s := by
  refine PyProof.Rows.len_list hl (by simp; omega) ?_
  rw [show (vs.toArray.size : Int) = (n : Int) by simp [hn]]
  exact h
/-- m[i][j] is read -/
theorem mat_item {e1 e2 e3 : Expr} {p1 p2 : Pos} {pa : Addr} {ρ : Nat → Addr} {M : Nat → Nat → Int} {n i j : Nat} {t u : Tok} {Q : Value → Shared → Prop} (hi : i < n) (hj : j < n) (hz : n < 1000)
    (h1 : wpAny (model Pg w) A (eval e1 env) (fun v s₁ => v = .ref pa ∧ s₁ = s) E s) (h2 : wpAny (model Pg w) A (eval e2 env) (fun v s₁ => v = .int (i : Int) t ∧ s₁ = s) E s) (h3 : wpAny (model Pg w) A (eval e3 env) (fun v s₁ => v = .int (j : Int) u ∧ s₁ = s) E s)
    (hM : MatN s.heap pa ρ M n) (h : ∀ t, Q (.int (M i j) t) s)
    (hs : ∀ l k u, subscripted e2 false (.ref l) (.int (k : Int) u) = operate [.ref l, .int (k : Int) u] (getItem (.ref l) (.int (k : Int) u)) := by intros; with_unfolding_all rfl)
    (hs' : ∀ l k u, subscripted e3 false (.ref l) (.int (k : Int) u) = operate [.ref l, .int (k : Int) u] (getItem (.ref l) (.int (k : Int) u)) := by intros; with_unfolding_all rfl) :
    wpAny (model Pg w) A (eval (.Subscript (.Subscript e1 e2 p1) e3 p2) env) Q E s := by
  obtain ⟨vs, hl, hn, hv⟩ := hM.top
  obtain ⟨ys, hl', hn', hy⟩ := hM.row i hi
  obtain ⟨t', hy⟩ := hy j hj
  refine Subscript_ (Subscript_ (wpAny_mono h1 (fun v s₁ e => ?_) fun _ _ e => e))
  obtain ⟨rfl, rfl⟩ := e
  refine wpAny_mono h2 (fun v s₁ e => ?_) fun _ _ e => e
  obtain ⟨rfl, rfl⟩ := e
  refine item_raw hl (by omega) (hv i hi) (wpAny_mono h3 (fun v s₁ e => ?_) fun _ _ e => e) (hs _ _ _)
  obtain ⟨rfl, rfl⟩ := e
  exact item_raw hl' (by omega) hy (h t') (hs' _ _ _)
end

-- part RB
theorem list_stay {h h' : Heap} {W : List Addr} {a : Addr} {its : Array Value} (st : Stays W h h') (hp : ∀ b ∈ W, NoSeq h b) (x : h.IsList a its) : h'.IsList a its := by
  obtain ⟨o, ho, hc, n, hd⟩ := x
  exact ⟨o, seq_stay st hp ho ⟨_, _, hd⟩, hc, n, hd⟩
theorem mat_stay {h h' : Heap} {W : List Addr} {pa : Addr} {ρ : Nat → Addr} {M : Nat → Nat → Int} {n : Nat} (st : Stays W h h') (hp : ∀ b ∈ W, NoSeq h b) (x : MatN h pa ρ M n) : MatN h' pa ρ M n :=
  ⟨let ⟨vs, hl, r⟩ := x.top; ⟨vs, list_stay st hp hl, r⟩, fun i hi => let ⟨ys, hl, r⟩ := x.row i hi; ⟨ys, list_stay st hp hl, r⟩⟩
theorem hide_held {W : List Addr} {h h' : Heap} (st : Stays W h h') : Held (hideAll h W) h' := fun b o e9 => st b o (fun hm => by rw [hideAll_none _ hm] at e9; cases e9) (of_hideAll _ e9)
theorem hide_stays {W : List Addr} {h h' h'' : Heap} (st : Stays W h h') (k : KeepS (hideAll h W) h' h'') : Stays W h h'' := fun b o hb e9 => k b o (st b o hb e9) (.inr (by rw [hideAll_get _ e9 hb]; exact fun q => nomatch q))
/-- a def's frame -/
structure EnvP (env : Env) (L : Addr) : Prop where
  fn : env.scope.kind = .function
  loc : env.locals = L
  plain : (env.scope.kind == .class || (env.scope.kind == .module && env.locals != env.globals)) = false
theorem EnvP.at_ {env : Env} {L : Addr} {h : Heap} {m : Str → Option Value} (e : EnvP env L) (hn : h.Ns L m) : h.Ns env.locals m := by rw [e.loc]; exact hn
section
variable {w : World} {A : Around} {E : Value → Shared → Prop} {s : Shared} {env : Env}
theorem store_nm {x : Str} {L : Addr} {v : Value} {m : Str → Option Value} {Q : Unit → Shared → Prop} (e : EnvP env L) (hx : env.kindOf x = some .local) (hn : s.heap.Ns L m)
    (h : ∀ h' tk, h'.Ns L (fun y => if y = x then some v else m y) → Heap.SameBut L s.heap h' → Q () { s with heap := h', toks := tk }) : wpAny (model Pg w) A (storeName env x v) Q E s := by
  have hL := e.loc; subst hL
  exact wpAny_storeName_local hx hn (fun h' hn' hs' => h h' _ hn' hs') e.plain
theorem nm {x : Str} {px : Pos} {L : Addr} {v : Value} {m : Str → Option Value} {Q : Value → Shared → Prop} (e : EnvP env L) (hx : env.kindOf x = some .local) (hn : s.heap.Ns L m) (hv : m x = some v) (h : Q v s)
    (hd : (x == ("__debug__" : Str)) = false := by decide) : wpAny (model Pg w) A (eval (.Name x px) env) Q E s := cname_local e.fn hx (e.at_ hn) hv h hd
set_option maxHeartbeats 1000000 in
theorem pivot_for {L pa : Addr} {ρ : Nat → Addr} {M : Nat → Nat → Int} {n st : Nat} {ts : Tok} {g : Heap} {m0 : Str → Option Value} {Q : Flow → Shared → Prop} {p1 p2 p3 p4 p5 p6 p7 p8 q1 q2 q3 q4 q5 q6 q7 r1 r2 r3 : Pos} {kc : Nat}
    (hh : A.handled = none) (e : EnvP env L) (kr : env.kindOf (Str.ofString "row") = some .local) (ka : env.kindOf (Str.ofString "a") = some .local) (ks : env.kindOf (Str.ofString "step") = some .local)
    (br : BuiltIn w A g env L (Str.ofString "range") (.type "range")) (bl : BuiltIn w A g env L (Str.ofString "len") (.builtin "len"))
    (hn : s.heap.Ns L m0) (ma : m0 (Str.ofString "a") = some (.ref pa)) (ms : m0 (Str.ofString "step") = some (.int (st : Int) ts)) (hM : MatN s.heap pa ρ M n) (hst : st < n) (hz : n < 1000) (hg : Held g s.heap)
    (hret : ∀ i t h' tk m', st ≤ i → i < n → M i st ≠ 0 → h'.Ns L m' → Stays [L] s.heap h' → Q (.ret (.int (i : Int) t)) { s with heap := h', toks := tk })
    (hQ : ∀ h' tk m', h'.Ns L m' → Stays [L] s.heap h' → (∀ i, st ≤ i → i < n → M i st = 0) → Q .next { s with heap := h', toks := tk }) :
    wpAny (model Pg w) A (exec (.For (.Name "row" p1) (.Call (.Name "range" p2) [.Name "step" p3, .Call (.Name "len" p4) [.Name "a" p5] [] p6] [] p7)
      [.If (.Compare (.Subscript (.Subscript (.Name "a" q1) (.Name "row" q2) q3) (.Name "step" q4) q5) [.NotEq] [.Constant (.int 0) kc q6] q7) [.Return (some (.Name "row" r1)) r2] [] r3] [] p8) env) Q E s := by
  have np : ∀ b ∈ [L], NoSeq s.heap b := fun b hb => by rw [List.mem_singleton.mp hb]; exact noSeq_ns hn
  refine for_range (a := (st : Int)) (n := n - st) (W := [L]) (g := hideAll s.heap [L]) (J := fun i h => (∃ m, h.Ns L m ∧ ∀ y, y ≠ Str.ofString "row" → m y = m0 y) ∧ Stays [L] s.heap h ∧ ∀ k, st ≤ k → k < st + i → M k st = 0) hh ?_ (by omega) (by omega)
    (fun i h hj => hide_held hj.2.1) (fun i h h' hj k => ⟨let ⟨m, a, b⟩ := hj.1; ⟨m, k.ns a, b⟩, hide_stays hj.2.1 k, hj.2.2⟩) ?_ (fun _ _ => rfl) ?_ ?_
  · obtain ⟨vs, hl, hln, _⟩ := hM.top
    refine Call_ (br _ _ _ _ _ hg hn (PySem.Pv.callWith_type1 (args_cons (nm e ks hn ms (args_cons (Call_ (bl _ _ _ _ _ hg hn (callWith_builtin1 (args_cons (nm e ka hn ma (args_nil (len_raw hl hln hz (args_nil ?_)))))))))))))
    have := range_two (prog := Pg) (w := w) (A := A) (E := E) (s := { s with toks := s.toks + 1 + 1 }) (a := (st : Int)) (b := (n : Int)) (t := ts) (u := s.toks + 1) (J := fun h => (∃ m, h.Ns L m ∧ ∀ y, y ≠ Str.ofString "row" → m y = m0 y) ∧ Stays [L] s.heap h ∧ ∀ k, st ≤ k → k < st + 0 → M k st = 0)
      (fun h' hk => ⟨⟨m0, hn.keeps hk, fun _ _ => rfl⟩, stays_of_held hk, fun k a b => absurd a (by omega)⟩)
    rw [show (st : Int) + ((n - st : Nat) : Int) = (n : Int) by omega]
    exact this
  · rintro i h ⟨⟨m, ⟨o, es, ep, ho, hd, _⟩, _⟩, _⟩ b hb
    rw [List.mem_singleton.mp hb]
    exact ⟨o, ho, fun fs q => by rw [hd] at q; cases q⟩
  · rintro i t h tk E' hi ⟨⟨m, hm, hme⟩, hs, hz0⟩
    refine wpAny_assign_Name (store_nm e kr hm fun h1 tk1 hn1 hs1 => ?_)
    have st1 : Stays [L] s.heap h1 := hs.trans (Stays.ofBut hs1.extBut)
    have M1 := mat_stay st1 np hM
    rw [show (st : Int) + (i : Int) = ((st + i : Nat) : Int) by omega] at hn1
    have g1 : ∀ y, y ≠ Str.ofString "row" → (if y = Str.ofString "row" then some (Value.int ((st + i : Nat) : Int) t) else m y) = m0 y := fun y hy => by rw [if_neg hy, hme y hy]
    refine wpAny_execs_cons (wpAny_If (wpAny_isTrue_Compare1 (mat_item (i := st + i) (j := st) (show st + i < n by omega) hst hz (nm e ka hn1 ((g1 _ (by decide)).trans ma) ⟨rfl, rfl⟩) (nm e kr hn1 (if_pos rfl) ⟨rfl, rfl⟩) (nm e ks hn1 ((g1 _ (by decide)).trans ms) ⟨rfl, rfl⟩) M1 fun t' => const_int (PyProof.Rows.ne_int (wpAny_truthy_bool ?_)))))
    by_cases h0 : M (st + i) st = 0
    · rw [h0, show ((0 : Int) != 0) = false from rfl, if_neg Bool.false_ne_true]
      refine wpAny_execs_nil (wpAny_execs_nil (.inr ⟨rfl, h1, _, rfl, Stays.ofBut hs1.extBut, ⟨_, hn1, g1⟩, st1, fun k a b => ?_⟩))
      by_cases hk : k < st + i
      · exact hz0 k a hk
      · rw [show k = st + i by omega]; exact h0
    · rw [show (M (st + i) st != 0) = true by simpa using h0, if_pos rfl]
      refine wpAny_execs_cons (wpAny_Return_some (nm e kr hn1 (if_pos rfl) (.inl ⟨_, rfl, hret (st + i) t h1 _ _ (by omega) (by omega) h0 hn1 st1⟩)))
  · rintro h' tk ⟨⟨m, hm, _⟩, hs, hz0⟩
    exact hQ h' tk m hm hs fun i a b => hz0 i a (by omega)
end

-- part RC
abbrev updM (M : Nat → Nat → Int) (i j : Nat) (x : Int) : Nat → Nat → Int := fun a b => if a = i ∧ b = j then x else M a b
/-- the addresses of the rows -/
structure Apart (pa : Addr) (ρ : Nat → Addr) (n : Nat) : Prop where
  inj : ∀ i j, i < n → j < n → ρ i = ρ j → i = j
  top : ∀ i, i < n → ρ i ≠ pa
theorem isList_but {h h' : Heap} {a b : Addr} {its : Array Value} (x : h.IsList a its) (hs : Heap.SameBut b h h') (hne : a ≠ b) : h'.IsList a its :=
  let ⟨o, ho, r⟩ := x; ⟨o, (hs.2 a hne).trans ho, r⟩
noncomputable def rowsA (ρ : Nat → Addr) (n : Nat) : List Addr := (List.range n).map ρ
theorem mem_rows {ρ : Nat → Addr} {n i : Nat} (hi : i < n) : ρ i ∈ rowsA ρ n := List.mem_map_of_mem (List.mem_range.mpr hi)
section
variable {w : World} {A : Around} {E : Value → Shared → Prop} {s : Shared} {env : Env}
theorem fdivL {a b : Int} {t u : Tok} {Q : Value → Shared → Prop} (hb : b ≠ 0) (hz : -1073741824 < b ∧ b < 1073741824) (h : Q (.int (a.fdiv b) s.toks) { s with toks := s.toks + 1 }) : wpAny (model Pg w) A (binaryOp .FloorDiv (.int a t) (.int b u)) Q E s := floordiv_int hb h (Or.inl (PyProof.noPylong_small (by omega)))
theorem mat_put {pa : Addr} {ρ : Nat → Addr} {M : Nat → Nat → Int} {n i j : Nat} {x : Int} {t u : Tok} {Q : Unit → Shared → Prop} (ap : Apart pa ρ n) (hM : MatN s.heap pa ρ M n) (hi : i < n) (hj : j < n) (hz : n < 1000)
    (h : ∀ h', Heap.SameBut (ρ i) s.heap h' → MatN h' pa ρ (updM M i j x) n → Q () { s with heap := h' }) : wpAny (model Pg w) A (setItem (.ref (ρ i)) (.int (j : Int) u) (.int x t)) Q E s := by
  obtain ⟨ys, hl, hn, hy⟩ := hM.row i hi
  refine set_raw hl (by omega) (by omega) fun h' hl' hs => h h' hs ⟨?_, fun k hk => ?_⟩
  · obtain ⟨vs, hv, r⟩ := hM.top
    exact ⟨vs, isList_but hv hs (ap.top i hi).symm, r⟩
  · by_cases e : k = i
    · subst e
      refine ⟨_, hl', by rw [List.length_set]; exact hn, fun b hb => ?_⟩
      by_cases e2 : b = j
      · subst e2
        exact ⟨t, by rw [List.getElem?_set_self (by omega)]; simp [updM]⟩
      · obtain ⟨t', hb'⟩ := hy b hb
        exact ⟨t', by rw [List.getElem?_set_ne (fun q => e2 q.symm), hb']; simp [updM, e2]⟩
    · obtain ⟨zs, hz', hzn, r⟩ := hM.row k hk
      refine ⟨zs, isList_but hz' hs (fun q => e (ap.inj k i hk hi q)), hzn, fun b hb => ?_⟩
      obtain ⟨t', hb'⟩ := r b hb
      exact ⟨t', by simp only [updM, e, false_and, if_false]; exact hb'⟩
/-- m[i] is read -/
theorem mat_row {e1 e2 : Expr} {p1 : Pos} {pa : Addr} {ρ : Nat → Addr} {M : Nat → Nat → Int} {n i : Nat} {t : Tok} {Q : Value → Shared → Prop} (hi : i < n) (hz : n < 1000)
    (h1 : wpAny (model Pg w) A (eval e1 env) (fun v s₁ => v = .ref pa ∧ s₁ = s) E s) (h2 : wpAny (model Pg w) A (eval e2 env) (fun v s₁ => v = .int (i : Int) t ∧ s₁ = s) E s)
    (hM : MatN s.heap pa ρ M n) (h : Q (.ref (ρ i)) s)
    (hs : ∀ l k u, subscripted e2 false (.ref l) (.int (k : Int) u) = operate [.ref l, .int (k : Int) u] (getItem (.ref l) (.int (k : Int) u)) := by intros; with_unfolding_all rfl) :
    wpAny (model Pg w) A (eval (.Subscript e1 e2 p1) env) Q E s := by
  obtain ⟨vs, hl, hn, hv⟩ := hM.top
  refine Subscript_ (wpAny_mono h1 (fun v s₁ e => ?_) fun _ _ e => e)
  obtain ⟨rfl, rfl⟩ := e
  refine wpAny_mono h2 (fun v s₁ e => ?_) fun _ _ e => e
  obtain ⟨rfl, rfl⟩ := e
  exact item_raw hl (by omega) (hv i hi) h (hs _ _ _)
noncomputable def stepV (M : Nat → Nat → Int) (st r b : Nat) (d : Int) : Int := (M r b * M st st - M r st * M st b).fdiv d
noncomputable def inM (M : Nat → Nat → Int) (st r : Nat) (d : Int) (k : Nat) : Nat → Nat → Int := fun a b => if a = r ∧ st < b ∧ b < st + 1 + k then stepV M st r b d else M a b
theorem inM_zero {M : Nat → Nat → Int} {st r : Nat} {d : Int} : inM M st r d 0 = M := by
  funext a b
  unfold inM
  rw [if_neg (by omega)]
theorem inM_succ {M : Nat → Nat → Int} {st r : Nat} {d : Int} {k : Nat} : updM (inM M st r d k) r (st + 1 + k) (stepV M st r (st + 1 + k) d) = inM M st r d (k + 1) := by
  funext a b
  unfold updM inM
  by_cases h1 : a = r ∧ b = st + 1 + k
  · rw [if_pos h1, if_pos (by omega), h1.2]
  · rw [if_neg h1]
    by_cases h2 : a = r ∧ st < b ∧ b < st + 1 + k
    · rw [if_pos h2, if_pos (by omega)]
    · rw [if_neg h2, if_neg (by omega)]
theorem noSeq_off {h : Heap} {L a : Addr} {its : Array Value} (hL : NoSeq h L) (ha : h.IsList a its) : a ≠ L := fun e => by
  obtain ⟨o, ho, _, n, hd⟩ := ha
  rw [e] at ho
  exact hL o ho _ _ hd
set_option maxHeartbeats 1000000 in
theorem inner_col {L pa : Addr} {ρ : Nat → Addr} {M : Nat → Nat → Int} {n st r : Nat} {d : Int} {ts tr td t1 t2 : Tok} {g : Heap} {m0 : Str → Option Value} {Q : Flow → Shared → Prop}
    {p1 p2 p3 p4 p5 p6 p7 p8 p9 p10 x1 x2 x3 x4 x5 y1 y2 y3 y4 y5 y6 y7 y8 y9 y10 y11 y12 y13 y14 y15 y16 y17 y18 : Pos} {kc : Nat}
    (hh : A.handled = none) (e : EnvP env L) (kr : env.kindOf (Str.ofString "row") = some .local) (kcl : env.kindOf (Str.ofString "column") = some .local) (ka : env.kindOf (Str.ofString "a") = some .local) (ks : env.kindOf (Str.ofString "step") = some .local)
    (kl : env.kindOf (Str.ofString "lead") = some .local) (kf : env.kindOf (Str.ofString "first") = some .local) (kd : env.kindOf (Str.ofString "ahead") = some .local)
    (br : BuiltIn w A g env L (Str.ofString "range") (.type "range")) (bl : BuiltIn w A g env L (Str.ofString "len") (.builtin "len"))
    (hn : s.heap.Ns L m0) (ma : m0 (Str.ofString "a") = some (.ref pa)) (ms : m0 (Str.ofString "step") = some (.int (st : Int) ts)) (mr : m0 (Str.ofString "row") = some (.int (r : Int) tr)) (md : m0 (Str.ofString "ahead") = some (.int d td))
    (ml : m0 (Str.ofString "lead") = some (.int (M st st) t1)) (mf : m0 (Str.ofString "first") = some (.int (M r st) t2))
    (ap : Apart pa ρ n) (hM : MatN s.heap pa ρ M n) (hst : st < n) (hr : r < n) (hsr : st ≠ r) (hz : n < 1000) (hg : Held g s.heap) (hd : d ≠ 0) (hd2 : -1073741824 < d ∧ d < 1073741824) (hb : ∀ j, j < n → -1073741824 < M r j ∧ M r j < 1073741824)
    (hQ : ∀ h' tk m', h'.Ns L m' → (∀ y, y ≠ Str.ofString "column" → m' y = m0 y) → Stays [L, ρ r] s.heap h' → MatN h' pa ρ (inM M st r d (n - (st + 1))) n → Q .next { s with heap := h', toks := tk }) :
    wpAny (model Pg w) A (exec (.For (.Name "column" p1) (.Call (.Name "range" p2) [.BinOp (.Name "step" p3) .Add (.Constant (.int 1) kc p9) p10, .Call (.Name "len" p4) [.Name "a" p5] [] p6] [] p7)
      [.Assign [.Subscript (.Subscript (.Name "a" x1) (.Name "row" x2) x3) (.Name "column" x4) x5] (.BinOp (.BinOp (.BinOp (.Subscript (.Subscript (.Name "a" y1) (.Name "row" y2) y3) (.Name "column" y4) y5) .Mult (.Name "lead" y6) y7) .Sub (.BinOp (.Name "first" y8) .Mult (.Subscript (.Subscript (.Name "a" y9) (.Name "step" y10) y11) (.Name "column" y12) y13) y14) y15) .FloorDiv (.Name "ahead" y16) y17) y18] [] p8) env) Q E s := by
  refine for_range (a := ((st + 1 : Nat) : Int)) (n := n - (st + 1)) (W := [L, ρ r]) (g := hideAll s.heap [L, ρ r]) (J := fun k h => (∃ m, h.Ns L m ∧ ∀ y, y ≠ Str.ofString "column" → m y = m0 y) ∧ MatN h pa ρ (inM M st r d k) n ∧ Stays [L, ρ r] s.heap h) hh ?_ (by omega) (by omega)
    (fun i h hj => hide_held hj.2.2) (fun i h h' hj k => ⟨let ⟨m, a, b⟩ := hj.1; ⟨m, k.ns a, b⟩, k.matN hj.2.1, hide_stays hj.2.2 k⟩) ?_ (fun _ _ => rfl) ?_ ?_
  · obtain ⟨vs, hl, hln, _⟩ := hM.top
    refine Call_ (br _ _ _ _ _ hg hn (PySem.Pv.callWith_type1 (args_cons (wpAny_BinOp (nm e ks hn ms (const_int (PyProof.Rows.add_int (args_cons (Call_ (bl _ _ _ _ _ hg hn (callWith_builtin1 (args_cons (nm e ka hn ma (args_nil (len_raw hl hln hz (args_nil ?_))))))))))))))))
    rw [show ((st + 1 : Nat) : Int) + ((n - (st + 1) : Nat) : Int) = (n : Int) by omega, show ((st + 1 : Nat) : Int) = (st : Int) + 1 by omega]
    refine range_two (J := fun h => (∃ m, h.Ns L m ∧ ∀ y, y ≠ Str.ofString "column" → m y = m0 y) ∧ MatN h pa ρ (inM M st r d 0) n ∧ Stays [L, ρ r] s.heap h) fun h' hk => ⟨⟨m0, hn.keeps hk, fun _ _ => rfl⟩, ?_, stays_of_held hk⟩
    rw [inM_zero]
    exact (keepS_held (g := h') hk).matN hM
  · rintro i h ⟨⟨m, ⟨o, es, ep, ho, hd', _⟩, _⟩, hM', _⟩ b hb
    rcases List.mem_cons.mp hb with rfl | hb
    · exact ⟨o, ho, fun fs q => by rw [hd'] at q; cases q⟩
    · rw [List.mem_singleton.mp hb]
      obtain ⟨ys, ⟨o2, ho2, _, n2, hd2⟩, _⟩ := hM'.row r hr
      exact ⟨o2, ho2, fun fs q => by rw [hd2] at q; cases q⟩
  · rintro i t h tk E' hi ⟨⟨m, hm, hme⟩, hM', hs⟩
    refine wpAny_assign_Name (store_nm e kcl hm fun h1 tk1 hn1 hs1 => ?_)
    have M1 := mat_name hm hs1 hM'
    rw [show ((st + 1 : Nat) : Int) + (i : Int) = ((st + 1 + i : Nat) : Int) by omega] at hn1
    have g1 : ∀ y, y ≠ Str.ofString "column" → (if y = Str.ofString "column" then some (Value.int ((st + 1 + i : Nat) : Int) t) else m y) = m0 y := fun y hy => by rw [if_neg hy, hme y hy]
    have hc : st + 1 + i < n := by omega
    have v1 : inM M st r d i r (st + 1 + i) = M r (st + 1 + i) := by unfold inM; rw [if_neg (by omega)]
    have v2 : inM M st r d i st (st + 1 + i) = M st (st + 1 + i) := by unfold inM; rw [if_neg (by omega)]
    refine wpAny_execs_cons (wpAny_Assign_Subscript (wpAny_BinOp (wpAny_BinOp (wpAny_BinOp (mat_item (i := r) (j := st + 1 + i) hr hc hz (nm e ka hn1 ((g1 _ (by decide)).trans ma) ⟨rfl, rfl⟩) (nm e kr hn1 ((g1 _ (by decide)).trans mr) ⟨rfl, rfl⟩) (nm e kcl hn1 (if_pos rfl) ⟨rfl, rfl⟩) M1 fun t3 => ?_)))))
    refine nm e kl hn1 ((g1 _ (by decide)).trans ml) (minor_mul (by rw [v1]; exact hb _ hc) (wpAny_BinOp (nm e kf hn1 ((g1 _ (by decide)).trans mf) ?_)))
    refine mat_item (i := st) (j := st + 1 + i) hst hc hz (nm e ka hn1 ((g1 _ (by decide)).trans ma) ⟨rfl, rfl⟩) (nm e ks hn1 ((g1 _ (by decide)).trans ms) ⟨rfl, rfl⟩) (nm e kcl hn1 (if_pos rfl) ⟨rfl, rfl⟩) M1 fun t4 => ?_
    refine minor_mul (hb _ hst) (PyProof.Rows.sub_int (nm e kd hn1 ((g1 _ (by decide)).trans md) (fdivL hd hd2 ?_)))
    refine mat_row hr hz (nm e ka hn1 ((g1 _ (by decide)).trans ma) ⟨rfl, rfl⟩) (nm e kr hn1 ((g1 _ (by decide)).trans mr) ⟨rfl, rfl⟩) M1 (nm e kcl hn1 (if_pos rfl) ?_)
    rw [v1, v2]
    refine mat_put ap M1 hr hc hz fun h2 hs2 M2 => wpAny_execs_nil (.inr ⟨rfl, h2, _, rfl, ?_, ⟨_, hn1.sameBut hs2 ?_, g1⟩, ?_, ?_⟩)
    · exact ((Stays.ofBut hs1.extBut).mono (by simp)).trans ((Stays.ofBut hs2.extBut).mono (by simp))
    · obtain ⟨ys, hl, _⟩ := M1.row r hr
      exact (noSeq_off (noSeq_ns hn1) hl).symm
    · rw [← inM_succ]; exact M2
    · exact hs.trans (((Stays.ofBut hs1.extBut).mono (by simp)).trans ((Stays.ofBut hs2.extBut).mono (by simp)))
  · rintro h' tk ⟨⟨m, hm, hme⟩, hM', hs⟩
    exact hQ h' tk m hm hme hs hM'
end

-- part RD
noncomputable def outM (M : Nat → Nat → Int) (st : Nat) (d : Int) (k : Nat) : Nat → Nat → Int := fun a b => if st < a ∧ a < st + 1 + k then (if b = st then 0 else if st < b then stepV M st a b d else M a b) else M a b
theorem outM_zero {M : Nat → Nat → Int} {st : Nat} {d : Int} : outM M st d 0 = M := by
  funext a b
  unfold outM
  rw [if_neg (by omega)]
theorem outM_row {M : Nat → Nat → Int} {st : Nat} {d : Int} {k a b : Nat} (h : st + 1 + k ≤ a ∨ a ≤ st) : outM M st d k a b = M a b := by
  unfold outM
  rw [if_neg (by omega)]
theorem outM_succ {M : Nat → Nat → Int} {st n : Nat} {d : Int} {k : Nat} (a b : Nat) (hb : b < n) : updM (inM (outM M st d k) st (st + 1 + k) d (n - (st + 1))) (st + 1 + k) st 0 a b = outM M st d (k + 1) a b := by
  by_cases ha : a = st + 1 + k
  · subst ha
    have e : ∀ x, outM M st d k (st + 1 + k) x = M (st + 1 + k) x := fun x => outM_row (.inl (Nat.le_refl _))
    have e2 : ∀ x, outM M st d k st x = M st x := fun x => outM_row (.inr (Nat.le_refl _))
    unfold updM inM
    rw [e, show stepV (outM M st d k) st (st + 1 + k) b d = stepV M st (st + 1 + k) b d by unfold stepV; rw [e, e, e2, e2]]
    unfold outM
    rw [if_pos (show st < st + 1 + k ∧ st + 1 + k < st + 1 + (k + 1) by omega)]
    by_cases h1 : b = st
    · rw [if_pos ⟨rfl, h1⟩, if_pos h1]
    · rw [if_neg (fun q => h1 q.2), if_neg h1]
      by_cases h2 : st < b
      · rw [if_pos (by omega), if_pos h2]
      · rw [if_neg (by omega), if_neg h2]
  · unfold updM inM
    rw [if_neg (fun q => ha q.1), if_neg (fun q => ha q.1)]
    unfold outM
    by_cases h : st < a ∧ a < st + 1 + k
    · rw [if_pos h, if_pos (show st < a ∧ a < st + 1 + (k + 1) by omega)]
    · rw [if_neg h, if_neg (show ¬ (st < a ∧ a < st + 1 + (k + 1)) by omega)]
section
variable {w : World} {A : Around} {E : Value → Shared → Prop} {s : Shared} {env : Env}
set_option maxHeartbeats 1000000 in
theorem outer_row {L pa : Addr} {ρ : Nat → Addr} {M : Nat → Nat → Int} {n st : Nat} {d : Int} {ts td t1 : Tok} {g : Heap} {m0 : Str → Option Value} {Q : Flow → Shared → Prop}
    {p1 p2 p3 p4 p5 p6 p7 p8 p9 p10 x1 x2 x3 x4 x5 y1 y2 y3 y4 y5 y6 y7 y8 y9 y10 y11 y12 y13 y14 y15 y16 y17 y18 q1 q2 q3 q4 q5 q6 q7 q8 q9 q10 u1 u2 u3 u4 u5 u6 u7 v1 v2 v3 v4 v5 v6 v7 : Pos} {kc kc2 kc3 : Nat}
    (hh : A.handled = none) (e : EnvP env L) (kr : env.kindOf (Str.ofString "row") = some .local) (kcl : env.kindOf (Str.ofString "column") = some .local) (ka : env.kindOf (Str.ofString "a") = some .local) (ks : env.kindOf (Str.ofString "step") = some .local)
    (kl : env.kindOf (Str.ofString "lead") = some .local) (kf : env.kindOf (Str.ofString "first") = some .local) (kd : env.kindOf (Str.ofString "ahead") = some .local)
    (br : BuiltIn w A g env L (Str.ofString "range") (.type "range")) (bl : BuiltIn w A g env L (Str.ofString "len") (.builtin "len"))
    (hn : s.heap.Ns L m0) (ma : m0 (Str.ofString "a") = some (.ref pa)) (ms : m0 (Str.ofString "step") = some (.int (st : Int) ts)) (md : m0 (Str.ofString "ahead") = some (.int d td))
    (ml : m0 (Str.ofString "lead") = some (.int (M st st) t1))
    (ap : Apart pa ρ n) (hM : MatN s.heap pa ρ M n) (hst : st < n) (hz : n < 1000) (hg : Held g s.heap) (hgr : ∀ b ∈ L :: rowsA ρ n, g.get? b = none) (hd : d ≠ 0) (hd2 : -1073741824 < d ∧ d < 1073741824) (hb : ∀ i j, i < n → j < n → -1073741824 < M i j ∧ M i j < 1073741824)
    (hQ : ∀ h' tk m', h'.Ns L m' → Stays (L :: rowsA ρ n) s.heap h' → MatN h' pa ρ (outM M st d (n - (st + 1))) n → Q .next { s with heap := h', toks := tk }) :
    wpAny (model Pg w) A (exec (.For (.Name "row" q1) (.Call (.Name "range" q2) [.BinOp (.Name "step" q3) .Add (.Constant (.int 1) kc2 q4) q5, .Call (.Name "len" q6) [.Name "a" q7] [] q8] [] q9)
      [.Assign [.Name "first" u1] (.Subscript (.Subscript (.Name "a" u2) (.Name "row" u3) u4) (.Name "step" u5) u6) u7,
       .For (.Name "column" p1) (.Call (.Name "range" p2) [.BinOp (.Name "step" p3) .Add (.Constant (.int 1) kc p9) p10, .Call (.Name "len" p4) [.Name "a" p5] [] p6] [] p7)
      [.Assign [.Subscript (.Subscript (.Name "a" x1) (.Name "row" x2) x3) (.Name "column" x4) x5] (.BinOp (.BinOp (.BinOp (.Subscript (.Subscript (.Name "a" y1) (.Name "row" y2) y3) (.Name "column" y4) y5) .Mult (.Name "lead" y6) y7) .Sub (.BinOp (.Name "first" y8) .Mult (.Subscript (.Subscript (.Name "a" y9) (.Name "step" y10) y11) (.Name "column" y12) y13) y14) y15) .FloorDiv (.Name "ahead" y16) y17) y18] [] p8,
       .Assign [.Subscript (.Subscript (.Name "a" v1) (.Name "row" v2) v3) (.Name "step" v4) v5] (.Constant (.int 0) kc3 v6) v7] [] q10) env) Q E s := by
  refine for_range (a := ((st + 1 : Nat) : Int)) (n := n - (st + 1)) (W := L :: rowsA ρ n) (g := hideAll s.heap (L :: rowsA ρ n)) (J := fun k h => (∃ m, h.Ns L m ∧ ∀ y, y ≠ Str.ofString "column" → y ≠ Str.ofString "row" → y ≠ Str.ofString "first" → m y = m0 y) ∧ MatN h pa ρ (outM M st d k) n ∧ Stays (L :: rowsA ρ n) s.heap h) hh ?_ (by omega) (by omega)
    (fun i h hj => hide_held hj.2.2) (fun i h h' hj k => ⟨let ⟨m, a, b⟩ := hj.1; ⟨m, k.ns a, b⟩, k.matN hj.2.1, hide_stays hj.2.2 k⟩) ?_ (fun _ _ => rfl) ?_ ?_
  · obtain ⟨vs, hl, hln, _⟩ := hM.top
    refine Call_ (br _ _ _ _ _ hg hn (PySem.Pv.callWith_type1 (args_cons (wpAny_BinOp (nm e ks hn ms (const_int (PyProof.Rows.add_int (args_cons (Call_ (bl _ _ _ _ _ hg hn (callWith_builtin1 (args_cons (nm e ka hn ma (args_nil (len_raw hl hln hz (args_nil ?_))))))))))))))))
    rw [show ((st + 1 : Nat) : Int) + ((n - (st + 1) : Nat) : Int) = (n : Int) by omega, show ((st + 1 : Nat) : Int) = (st : Int) + 1 by omega]
    refine range_two (J := fun h => (∃ m, h.Ns L m ∧ ∀ y, y ≠ Str.ofString "column" → y ≠ Str.ofString "row" → y ≠ Str.ofString "first" → m y = m0 y) ∧ MatN h pa ρ (outM M st d 0) n ∧ Stays (L :: rowsA ρ n) s.heap h) fun h' hk => ⟨⟨m0, hn.keeps hk, fun _ _ _ _ => rfl⟩, ?_, stays_of_held hk⟩
    rw [outM_zero]
    exact (keepS_held (g := h') hk).matN hM
  · rintro i h ⟨⟨m, ⟨o, es, ep, ho, hd', _⟩, _⟩, hM', _⟩ b hb
    rcases List.mem_cons.mp hb with rfl | hb
    · exact ⟨o, ho, fun fs q => by rw [hd'] at q; cases q⟩
    · obtain ⟨r, hr, rfl⟩ := List.mem_map.mp hb
      obtain ⟨ys, ⟨o2, ho2, _, n2, hd2⟩, _⟩ := hM'.row r (List.mem_range.mp hr)
      exact ⟨o2, ho2, fun fs q => by rw [hd2] at q; cases q⟩
  · rintro i t h tk E' hi ⟨⟨m, hm, hme⟩, hM', hs⟩
    have hr : st + 1 + i < n := by omega
    refine wpAny_assign_Name (store_nm e kr hm fun h1 tk1 hn1 hs1 => ?_)
    have M1 := mat_name hm hs1 hM'
    rw [show ((st + 1 : Nat) : Int) + (i : Int) = ((st + 1 + i : Nat) : Int) by omega] at hn1
    have g1 : ∀ y, y ≠ Str.ofString "column" → y ≠ Str.ofString "row" → y ≠ Str.ofString "first" → (if y = Str.ofString "row" then some (Value.int ((st + 1 + i : Nat) : Int) t) else m y) = m0 y := fun y a b c => by rw [if_neg b, hme y a b c]
    refine wpAny_execs_cons (wpAny_Assign_Name (mat_item (i := st + 1 + i) (j := st) hr hst hz (nm e ka hn1 ((g1 _ (by decide) (by decide) (by decide)).trans ma) ⟨rfl, rfl⟩) (nm e kr hn1 (if_pos rfl) ⟨rfl, rfl⟩) (nm e ks hn1 ((g1 _ (by decide) (by decide) (by decide)).trans ms) ⟨rfl, rfl⟩) M1 fun t3 => store_nm e kf hn1 fun h2 tk2 hn2 hs2 => ?_))
    have M2 := mat_name hn1 hs2 M1
    have st2 : Stays (L :: rowsA ρ n) h h2 := ((Stays.ofBut hs1.extBut).mono (by simp)).trans ((Stays.ofBut hs2.extBut).mono (by simp))
    have g2 : ∀ y, y ≠ Str.ofString "column" → y ≠ Str.ofString "row" → y ≠ Str.ofString "first" → (if y = Str.ofString "first" then some (Value.int (outM M st d i (st + 1 + i) st) t3) else if y = Str.ofString "row" then some (Value.int ((st + 1 + i : Nat) : Int) t) else m y) = m0 y := fun y a b c => by rw [if_neg c]; exact g1 y a b c
    have vr : ∀ x, outM M st d i (st + 1 + i) x = M (st + 1 + i) x := fun x => outM_row (.inl (Nat.le_refl _))
    have vs : ∀ x, outM M st d i st x = M st x := fun x => outM_row (.inr (Nat.le_refl _))
    refine wpAny_execs_cons (inner_col (r := st + 1 + i) (M := outM M st d i) (m0 := fun y => if y = Str.ofString "first" then some (Value.int (outM M st d i (st + 1 + i) st) t3) else if y = Str.ofString "row" then some (Value.int ((st + 1 + i : Nat) : Int) t) else m y) hh e kr kcl ka ks kl kf kd br bl hn2 ((g2 _ (by decide) (by decide) (by decide)).trans ma) ((g2 _ (by decide) (by decide) (by decide)).trans ms) ((if_neg (by decide)).trans (if_pos rfl)) ((g2 _ (by decide) (by decide) (by decide)).trans md) ((g2 _ (by decide) (by decide) (by decide)).trans (by rw [vs]; exact ml)) (if_pos rfl)
      ap M2 hst hr (by omega) hz (held_stay (hs.trans st2) hgr hg) hd hd2 (fun j hj => by rw [vr]; exact hb _ _ hr hj) fun h3 tk3 m3 hn3 hm3 st3 M3 => ?_)
    have st3' : Stays (L :: rowsA ρ n) h2 h3 := st3.mono fun b hb => by
      rcases List.mem_cons.mp hb with rfl | hb
      · exact .head _
      · rw [List.mem_singleton.mp hb]; exact .tail _ (mem_rows hr)
    have g3 : ∀ y, y ≠ Str.ofString "column" → y ≠ Str.ofString "row" → y ≠ Str.ofString "first" → m3 y = m0 y := fun y a b c => (hm3 y a).trans (g2 y a b c)
    refine wpAny_execs_cons (wpAny_Assign_Subscript (const_int (mat_row hr hz (nm e ka hn3 ((g3 _ (by decide) (by decide) (by decide)).trans ma) ⟨rfl, rfl⟩) (nm e kr hn3 ((hm3 _ (by decide)).trans ((if_neg (by decide)).trans (if_pos rfl))) ⟨rfl, rfl⟩) M3 (nm e ks hn3 ((g3 _ (by decide) (by decide) (by decide)).trans ms) ?_))))
    refine mat_put ap M3 hr hst hz fun h4 hs4 M4 => wpAny_execs_nil (.inr ⟨rfl, h4, _, rfl, ?_, ⟨m3, hn3.sameBut hs4 ?_, g3⟩, mat_ext M4 fun a b _ hb' => outM_succ a b hb', ?_⟩)
    · exact (st2.trans st3').trans ((Stays.ofBut hs4.extBut).mono fun b hb => by rw [List.mem_singleton.mp hb]; exact .tail _ (mem_rows hr))
    · obtain ⟨ys, hl, _⟩ := M3.row (st + 1 + i) hr
      exact (noSeq_off (noSeq_ns hn3) hl).symm
    · exact hs.trans ((st2.trans st3').trans ((Stays.ofBut hs4.extBut).mono fun b hb => by rw [List.mem_singleton.mp hb]; exact .tail _ (mem_rows hr)))
  · rintro h' tk ⟨⟨m, hm, _⟩, hM', hs⟩
    exact hQ h' tk m hm hs hM'
set_option maxHeartbeats 1000000 in
theorem bareiss_body {L pa : Addr} {ρ : Nat → Addr} {M : Nat → Nat → Int} {n st : Nat} {d : Int} {ts td : Tok} {g : Heap} {m0 : Str → Option Value} {Q : Flow → Shared → Prop}
    {p1 p2 p3 p4 p5 p6 p7 p8 p9 p10 x1 x2 x3 x4 x5 y1 y2 y3 y4 y5 y6 y7 y8 y9 y10 y11 y12 y13 y14 y15 y16 y17 y18 q1 q2 q3 q4 q5 q6 q7 q8 q9 q10 u1 u2 u3 u4 u5 u6 u7 v1 v2 v3 v4 v5 v6 v7 z1 z2 z3 z4 z5 z6 z7 : Pos} {kc kc2 kc3 : Nat}
    (hh : A.handled = none) (e : EnvP env L) (kr : env.kindOf (Str.ofString "row") = some .local) (kcl : env.kindOf (Str.ofString "column") = some .local) (ka : env.kindOf (Str.ofString "a") = some .local) (ks : env.kindOf (Str.ofString "step") = some .local)
    (kl : env.kindOf (Str.ofString "lead") = some .local) (kf : env.kindOf (Str.ofString "first") = some .local) (kd : env.kindOf (Str.ofString "ahead") = some .local)
    (br : BuiltIn w A g env L (Str.ofString "range") (.type "range")) (bl : BuiltIn w A g env L (Str.ofString "len") (.builtin "len"))
    (hn : s.heap.Ns L m0) (ma : m0 (Str.ofString "a") = some (.ref pa)) (ms : m0 (Str.ofString "step") = some (.int (st : Int) ts)) (md : m0 (Str.ofString "ahead") = some (.int d td))
    (ap : Apart pa ρ n) (hM : MatN s.heap pa ρ M n) (hst : st < n) (hz : n < 1000) (hg : Held g s.heap) (hgr : ∀ b ∈ L :: rowsA ρ n, g.get? b = none) (hd : d ≠ 0) (hd2 : -1073741824 < d ∧ d < 1073741824) (hb : ∀ i j, i < n → j < n → -1073741824 < M i j ∧ M i j < 1073741824)
    (hQ : ∀ h' tk m', h'.Ns L m' → Stays (L :: rowsA ρ n) s.heap h' → MatN h' pa ρ (outM M st d (n - (st + 1))) n → Q .next { s with heap := h', toks := tk }) :
    wpAny (model Pg w) A (execs [.Assign [.Name "lead" z1] (.Subscript (.Subscript (.Name "a" z2) (.Name "step" z3) z4) (.Name "step" z5) z6) z7, .For (.Name "row" q1) (.Call (.Name "range" q2) [.BinOp (.Name "step" q3) .Add (.Constant (.int 1) kc2 q4) q5, .Call (.Name "len" q6) [.Name "a" q7] [] q8] [] q9)
      [.Assign [.Name "first" u1] (.Subscript (.Subscript (.Name "a" u2) (.Name "row" u3) u4) (.Name "step" u5) u6) u7,
       .For (.Name "column" p1) (.Call (.Name "range" p2) [.BinOp (.Name "step" p3) .Add (.Constant (.int 1) kc p9) p10, .Call (.Name "len" p4) [.Name "a" p5] [] p6] [] p7)
      [.Assign [.Subscript (.Subscript (.Name "a" x1) (.Name "row" x2) x3) (.Name "column" x4) x5] (.BinOp (.BinOp (.BinOp (.Subscript (.Subscript (.Name "a" y1) (.Name "row" y2) y3) (.Name "column" y4) y5) .Mult (.Name "lead" y6) y7) .Sub (.BinOp (.Name "first" y8) .Mult (.Subscript (.Subscript (.Name "a" y9) (.Name "step" y10) y11) (.Name "column" y12) y13) y14) y15) .FloorDiv (.Name "ahead" y16) y17) y18] [] p8,
       .Assign [.Subscript (.Subscript (.Name "a" v1) (.Name "row" v2) v3) (.Name "step" v4) v5] (.Constant (.int 0) kc3 v6) v7] [] q10] env) Q E s := by
  refine wpAny_execs_cons (wpAny_Assign_Name (mat_item (i := st) (j := st) hst hst hz (nm e ka hn ma ⟨rfl, rfl⟩) (nm e ks hn ms ⟨rfl, rfl⟩) (nm e ks hn ms ⟨rfl, rfl⟩) hM fun t3 => store_nm e kl hn fun h1 tk1 hn1 hs1 => ?_))
  have st1 : Stays (L :: rowsA ρ n) s.heap h1 := (Stays.ofBut hs1.extBut).mono (by simp)
  refine wpAny_execs_cons (outer_row (m0 := fun y => if y = Str.ofString "lead" then some (Value.int (M st st) t3) else m0 y) hh e kr kcl ka ks kl kf kd br bl hn1 ((if_neg (by decide)).trans ma) ((if_neg (by decide)).trans ms) ((if_neg (by decide)).trans md) (if_pos rfl) ap (mat_name hn hs1 hM) hst hz (held_stay st1 hgr hg) hgr hd hd2 hb
    fun h' tk m' hn' st hM' => wpAny_execs_nil (hQ h' tk m' hn' (st1.trans st) hM'))
end

-- part RE
theorem offRE : True := by
  w_top off
  trivial
/-- a matrix in a ledger -/
structure MatL (need : List (Addr × Obj)) (pa : Addr) (ρ : Nat → Addr) (M : Nat → Nat → Int) (n : Nat) : Prop where
  top : ∃ (o : Obj) (vs : List Value) (c : Nat), (pa, o) ∈ need ∧ o.cls = .type "list" ∧ o.data = .seq vs.toArray c ∧ vs.length = n ∧ ∀ i, i < n → vs[i]? = some (.ref (ρ i))
  row : ∀ i, i < n → ∃ (o : Obj) (ys : List Value) (c : Nat), (ρ i, o) ∈ need ∧ o.cls = .type "list" ∧ o.data = .seq ys.toArray c ∧ ys.length = n ∧ ∀ j, j < n → ∃ t, ys[j]? = some (.int (M i j) t)
theorem MatL.at_ {need : List (Addr × Obj)} {h₀ h : Heap} {L pa : Addr} {ρ : Nat → Addr} {M : Nat → Nat → Int} {n : Nat} (x : MatL need pa ρ M n) (N : News h₀ L h need) : MatN h pa ρ M n :=
  ⟨let ⟨o, vs, c, hm, hc, hd, r⟩ := x.top; ⟨vs, ⟨o, (N _ hm).1, hc, c, hd⟩, r⟩, fun i hi => let ⟨o, ys, c, hm, hc, hd, r⟩ := x.row i hi; ⟨ys, ⟨o, (N _ hm).1, hc, c, hd⟩, r⟩⟩
/-- what a called def that may write what it needs gives -/
noncomputable def TellsW (w : World) (d : Nat) (f : Addr) (args : List Value) (need : List (Addr × Obj)) (Ret : Heap → Value → Prop) : Prop :=
  ∀ (loose : List Str) (mean : ExcName → Option Value) (mg mb : Str → Option Value) (dp un : Nat) (gd : Option (List Code)) (cn : Str) (cs : Scope) (a : Addr) (ccd : Value) (cl : List (Str × Addr)) (outer : List Env) (A₀ : Around) (base h₀ : Heap) (L : Addr) (m : Str → Option Value) (s : Shared) (Q E : Value → Shared → Prop),
    Below A₀ base outer h₀ → Fr h₀ L s.heap m → (Mine.hd.heap_1 w.params).In h₀ → News h₀ L s.heap need → Top Mine.viewQ loose mean mg mb h₀ → cs.kind = .function →
    dp + d < recursionLimit → un + 8 * d < cLine →
    (∀ r h' tk', Fr h₀ L h' m → Stays (need.map (·.1)) s.heap h' → s.heap.objs.size ≤ h'.objs.size → Ret h' r → Q r { s with heap := h', toks := tk' }) →
    wpAny (model Pg w) (ktrTop dp un gd cn cs L a ccd cl outer) (call (.ref f) args) Q E s
noncomputable def PivR (M : Nat → Nat → Int) (n st : Nat) (r : Value) : Prop := (∃ (i : Nat) (t : Tok), r = .int (i : Int) t ∧ st ≤ i ∧ i < n ∧ M i st ≠ 0) ∨ (r = .none ∧ ∀ i, st ≤ i → i < n → M i st = 0)
section
variable {h₀ g h h' h'' : Heap} {L L' : Addr} {m m' : Str → Option Value} {need : List (Addr × Obj)}
/-- what the def's frame alone was changed over -/
theorem back_stay (G : GSub h g (need.map (·.1))) (F' : Fr g L' h' m') (hz : h.objs.size ≤ L') {W : List Addr} (hW : ∀ b ∈ W, b = L' ∨ b ∈ need.map (·.1)) (st : Stays W h' h'') : Stays (need.map (·.1)) h h'' := fun b o hb e => by
  refine st b o (fun hm => ?_) (F'.keep b o (G b o e hb))
  rcases hW b hm with q | q
  · have h1 : @LT.lt Nat _ b L' := Nat.lt_of_lt_of_le (Heap.lt_size e) hz
    rw [q] at h1; exact Nat.lt_irrefl _ h1
  · exact hb q
theorem back_all (N : News h₀ L h need) (G : GSub h g (need.map (·.1))) (F' : Fr g L' h' m') (N' : News g L' h' need) (hz : h.objs.size ≤ L') (st : Stays [L'] h' h'') : Held h h'' := fun b o e => by
  have h1 : @LT.lt Nat _ b L' := Nat.lt_of_lt_of_le (Heap.lt_size e) hz
  refine st b o (fun hm => by rw [List.mem_singleton.mp hm] at h1; exact Nat.lt_irrefl _ h1) ?_
  by_cases hm : b ∈ need.map (·.1)
  · obtain ⟨q, hq, rfl⟩ := List.mem_map.mp hm
    rw [(N q hq).1] at e
    rw [(N' q hq).1, e]
  · exact F'.keep b o (G b o e hm)
theorem fr_stay (F' : Fr g L' h' m') {W : List Addr} (hW : ∀ b ∈ W, g.get? b = none) (st : Stays W h' h'') (hn : h''.Ns L' m) : Fr g L' h'' m := ⟨hn, fun b o e => st b o (fun hm => by rw [hW b hm] at e; cases e) (F'.keep b o e), F'.above⟩
theorem fr_none (F' : Fr g L' h' m') : ∀ b ∈ [L'], g.get? b = none := fun b hb => by rw [List.mem_singleton.mp hb]; exact Heap.get?_none_of_le F'.above
theorem fr_size (hn : h''.Ns L' m) (hz : h.objs.size ≤ L') : h.objs.size ≤ h''.objs.size := Nat.le_trans hz (Nat.le_of_lt hn.lt)
end
theorem const_none {A : Around} {w : World} {E : Value → Shared → Prop} {s : Shared} {env : Env} {k : Nat} {pos : Pos} {Q : Value → Shared → Prop} (h : Q .none s) : wpAny (model Pg w) A (eval (.Constant .none k pos) env) Q E s := fun _ _ _ => h
set_option maxHeartbeats 2000000 in
theorem pivot_held (w : World) (need : List (Addr × Obj)) (pa : Addr) (ρ : Nat → Addr) (M : Nat → Nat → Int) (n st : Nat) (t : Tok) (hM : MatL need pa ρ M n) (hst : st < n) (hz : n < 1000) : TellsH w 1 111 [.ref pa, .int (st : Int) t] need (fun _ _ r => PivR M n st r) := by
  unfold TellsH
  intro loose mean mg mb dp un gd cn cs a ccd cl outer A₀ base h₀ L m s Q E hB hF hX hN hT hcs hdp hun hret
  refine wpAny_call ?_
  k_dflt (refine' enterG2 ?k1 ?k2 ?k3 ?k4 ?k5 (fun _ h => h) ?kA ?kF ?kK ?k6 ?k7 ?k8 ?k9 ?kB ?_ ?c2 ?c3 ?c4 ?c5)
  case kA => exact rfl
  case kF => exact rfl
  case kK => assumption
  case k1 => k_asm
  case k2 => k_asm
  case k3 => k_asm
  case k4 => k_asm
  case k5 => k_asm
  case k6 => k_is
  case k7 => k_is
  case k8 => ktr_room
  case k9 => exact BindsTo.of_eq rfl
  case kB => exact locs rfl
  case c2 => exact rfl
  case c3 => exact rfl
  case c4 => exact rfl
  case c5 => decide
  intro g' L' h' FG' F' N' B' X' T' l1 G' sz9
  have F' : Fr g' L' h' (fun y => [(Str.ofString "step", Value.int (st : Int) t), (Str.ofString "a", Value.ref pa)].lookup y) := F'
  have done : ∀ (r : Value) (h'' : Heap) (tk : Nat) (m' : Str → Option Value), h''.Ns L' m' → Stays [L'] h' h'' → PivR M n st r → LeaveK h₀ L m g' (fun r s' => match r with | .ok (.ret v) => Q v s' | .error e => E e s' | _ => False) r { s with heap := h'', toks := tk } := fun r h'' tk m' hn st hp =>
    leaveK_ (fr_stay F' (fr_none F') st hn) PyProof.Rows.News.nil fun F9 _ => hret r h'' tk F9 (back_all hN G' F' N' sz9 st) (fr_size hn sz9) hp
  have frOf : ∀ (s' : Shared) (m : Str → Option Value), Held g' s'.heap → s'.heap.Ns L' m → Fr g' L' s'.heap m := fun s' m hk hn => ⟨hn, hk, F'.above⟩
  show wpAny _ _ (execs _ _) _ _ _
  refine wpAny_execs_cons ?_
  k_dflt (refine' pivot_for (g := g') (L := L') (M := M) (ρ := ρ) (n := n) ?hh ?e ?kr ?ka ?ks ?br ?bl F'.ns ?ma ?ms (hM.at_ N') hst hz F'.keep ?hret ?hQ)
  case hh => rfl
  case e => exact ⟨rfl, rfl, rfl⟩
  case kr => rfl
  case ka => rfl
  case ks => rfl
  case br => intro pos s' m Q E hh hn h; have F4 := frOf s' m hh hn; walk1; exact h
  case bl => intro pos s' m Q E hh hn h; have F4 := frOf s' m hh hn; walk1; exact h
  case ma => rfl
  case ms => rfl
  case hret => intro i t h'' tk m' a b c hn st; exact done _ h'' tk m' hn st (.inl ⟨i, t, rfl, a, b, c⟩)
  case hQ =>
    intro h'' tk m' hn st hz
    show wpAny _ _ (execs _ _) _ _ _
    refine wpAny_execs_cons (wpAny_Return_some (const_none ?_))
    exact done _ h'' tk m' hn st (.inr ⟨rfl, hz⟩)
set_option maxHeartbeats 2000000 in
theorem bareiss_held (w : World) (need : List (Addr × Obj)) (pa : Addr) (ρ : Nat → Addr) (M : Nat → Nat → Int) (n st : Nat) (d : Int) (t td : Tok) (hM : MatL need pa ρ M n) (ap : Apart pa ρ n) (hst : st < n) (hz : n < 1000) (hd : d ≠ 0) (hd2 : -1073741824 < d ∧ d < 1073741824) (hb : ∀ i j, i < n → j < n → -1073741824 < M i j ∧ M i j < 1073741824) :
    TellsW w 1 118 [.ref pa, .int (st : Int) t, .int d td] need (fun h r => r = .none ∧ MatN h pa ρ (outM M st d (n - (st + 1))) n) := by
  unfold TellsW
  intro loose mean mg mb dp un gd cn cs a ccd cl outer A₀ base h₀ L m s Q E hB hF hX hN hT hcs hdp hun hret
  refine wpAny_call ?_
  k_dflt (refine' enterG2 ?k1 ?k2 ?k3 ?k4 ?k5 (fun _ h => h) ?kA ?kF ?kK ?k6 ?k7 ?k8 ?k9 ?kB ?_ ?c2 ?c3 ?c4 ?c5)
  case kA => exact rfl
  case kF => exact rfl
  case kK => assumption
  case k1 => k_asm
  case k2 => k_asm
  case k3 => k_asm
  case k4 => k_asm
  case k5 => k_asm
  case k6 => k_is
  case k7 => k_is
  case k8 => ktr_room
  case k9 => exact BindsTo.of_eq rfl
  case kB => exact locs rfl
  case c2 => exact rfl
  case c3 => exact rfl
  case c4 => exact rfl
  case c5 => decide
  intro g' L' h' FG' F' N' B' X' T' l1 G' sz9
  have F' : Fr g' L' h' (fun y => [(Str.ofString "ahead", Value.int d td), (Str.ofString "step", Value.int (st : Int) t), (Str.ofString "a", Value.ref pa)].lookup y) := F'
  have M0 := hM.at_ N'
  have memR : ∀ b ∈ rowsA ρ n, b ∈ need.map (·.1) := fun b hb => by
    obtain ⟨i, hi, rfl⟩ := List.mem_map.mp hb
    obtain ⟨o, ys, c, hm, _⟩ := hM.row i (List.mem_range.mp hi)
    exact List.mem_map_of_mem hm
  have gnone : ∀ b ∈ L' :: rowsA ρ n, g'.get? b = none := fun b hb => by
    rcases List.mem_cons.mp hb with rfl | hb
    · exact Heap.get?_none_of_le F'.above
    · obtain ⟨q, hq, rfl⟩ := List.mem_map.mp (memR b hb)
      exact (N' q hq).2.2
  have frOf : ∀ (s' : Shared) (m : Str → Option Value), Held g' s'.heap → s'.heap.Ns L' m → Fr g' L' s'.heap m := fun s' m hk hn => ⟨hn, hk, F'.above⟩
  show wpAny _ _ (execs _ _) _ _ _
  k_dflt (refine' bareiss_body (g := g') (L := L') (M := M) (ρ := ρ) (n := n) (d := d) rfl ?e rfl rfl rfl rfl rfl rfl rfl ?br ?bl F'.ns ?ma ?ms ?md ap M0 hst hz F'.keep gnone hd hd2 hb ?hQ)
  case e => exact ⟨rfl, rfl, rfl⟩
  case br => intro pos s' m Q E hh hn h; have F4 := frOf s' m hh hn; walk1; exact h
  case bl => intro pos s' m Q E hh hn h; have F4 := frOf s' m hh hn; walk1; exact h
  case ma => rfl
  case ms => rfl
  case md => rfl
  case hQ =>
    intro h'' tk m' hn st hM'
    refine leaveK_ (fr_stay F' gnone st hn) PyProof.Rows.News.nil fun F9 _ => hret .none h'' tk F9 (back_stay G' F' sz9 (fun b hb => ?_) st) (fr_size hn sz9) ⟨rfl, hM'⟩
    rcases List.mem_cons.mp hb with q | q
    · exact .inl q
    · exact .inr (memR b q)

-- part RF
section
variable {M : Model} {A : Around} {E : Value → Shared → Prop} {s : Shared} {env : Env}
theorem assign_sub {o i : Expr} {pos : Pos} {v : Value} {Q : Unit → Shared → Prop}
    (h : wpAny M A (eval o env) (fun ov s₂ => wpAny M A (eval i env) (fun iv s₃ => wpAny M A (setItem ov iv v) (fun _ => Q ()) E s₃) E s₂) E s) : wpAny M A (assign (.Subscript o i pos) env v) Q E s := fun Γ p hΓ => by
  simp only [assign_Subscript, Sem.wp_bind', Sem.wp_holding, Sem.wp_cmd_standAt, Sem.wp_release]
  exact Sem.wp_mono M Γ _ (fun ov p₂ s₂ h₂ => Sem.wp_mono M Γ _ (fun iv _ s₃ h₃ => h₃ Γ _ hΓ) (fun _ _ _ h' => h') _ _ (h₂ Γ p₂ hΓ)) (fun _ _ _ h' => h') _ _ (h Γ _ hΓ)
end
noncomputable def swapX {α : Type} (f : Nat → α) (i j : Nat) : Nat → α := fun a => f (if a = i then j else if a = j then i else a)
theorem swapR_row (A : Nat → Nat → Int) (i j a : Nat) : swapR A i j a = swapX A i j a := rfl
theorem swapX_lt {i j n a : Nat} (hi : i < n) (hj : j < n) (ha : a < n) : (if a = i then j else if a = j then i else a) < n := by
  split
  · exact hj
  · split
    · exact hi
    · exact ha
theorem apart_swap {pa : Addr} {ρ : Nat → Addr} {n i j : Nat} (ap : Apart pa ρ n) (hi : i < n) (hj : j < n) : Apart pa (swapX ρ i j) n := by
  refine ⟨fun a b ha hb e => ?_, fun a ha => ap.top _ (swapX_lt hi hj ha)⟩
  have := ap.inj _ _ (swapX_lt hi hj ha) (swapX_lt hi hj hb) e
  (repeat' split at this) <;> omega
theorem mat_swap {h h' : Heap} {pa : Addr} {ρ : Nat → Addr} {A : Nat → Nat → Int} {n i j : Nat} {vs : List Value} (hM : MatN h pa ρ A n) (ap : Apart pa ρ n) (hi : i < n) (hj : j < n) (hv : vs.length = n) (hvs : ∀ k, k < n → vs[k]? = some (.ref (ρ k)))
    (hl : h'.IsList pa ((vs.set j (.ref (ρ i))).set i (.ref (ρ j))).toArray) (st : Stays [pa] h h') : MatN h' pa (swapX ρ i j) (swapR A i j) n := by
  refine ⟨⟨_, hl, by simp [hv], fun k hk => ?_⟩, fun k hk => ?_⟩
  · unfold swapX
    by_cases h1 : k = i
    · subst h1
      rw [if_pos rfl, List.getElem?_set_self (by simp; omega)]
    · rw [if_neg h1, List.getElem?_set_ne (fun q => h1 q.symm)]
      by_cases h2 : k = j
      · subst h2
        rw [if_pos rfl, List.getElem?_set_self (by omega)]
      · rw [if_neg h2, List.getElem?_set_ne (fun q => h2 q.symm)]
        exact hvs k hk
  · rw [swapR_row]
    obtain ⟨ys, ⟨o, ho, r1⟩, r⟩ := hM.row _ (swapX_lt hi hj hk)
    exact ⟨ys, ⟨o, st _ _ (fun q => ap.top _ (swapX_lt hi hj hk) (List.mem_singleton.mp q)) ho, r1⟩, r⟩
theorem ns_stay {h h' : Heap} {W : List Addr} {L : Addr} {m : Str → Option Value} (hn : h.Ns L m) (st : Stays W h h') (hL : L ∉ W) : h'.Ns L m := by
  obtain ⟨o, es, ep, ho, r⟩ := hn
  exact ⟨o, es, ep, st _ _ hL ho, r⟩
theorem mat_off {h : Heap} {L pa : Addr} {ρ : Nat → Addr} {A : Nat → Nat → Int} {n : Nat} {m : Str → Option Value} (hn : h.Ns L m) (hM : MatN h pa ρ A n) : L ∉ pa :: rowsA ρ n := fun hm => by
  rcases List.mem_cons.mp hm with q | q
  · obtain ⟨vs, hl, _⟩ := hM.top
    exact noSeq_off (noSeq_ns hn) hl q.symm
  · obtain ⟨i, hi, e⟩ := List.mem_map.mp q
    obtain ⟨ys, hl, _⟩ := hM.row i (List.mem_range.mp hi)
    exact noSeq_off (noSeq_ns hn) hl e
noncomputable def CallPiv (w : World) (A : Around) (env : Env) (g : Heap) (L Df : Addr) (n : Nat) (ex : Expr) : Prop :=
  ∀ (s' : Shared) (Q' E' : Value → Shared → Prop) (m : Str → Option Value) (ρ : Nat → Addr) (B : Nat → Nat → Int) (st : Nat) (t : Tok), Held g s'.heap → s'.heap.Ns L m → m (Str.ofString "found") = some (.ref Df) → m (Str.ofString "step") = some (.int (st : Int) t) → MatN s'.heap Df ρ B n → (∀ b ∈ Df :: rowsA ρ n, g.get? b = none) → st < n →
    (∀ r h' tk, Held s'.heap h' → PivR B n st r → Q' r { s' with heap := h', toks := tk }) → wpAny (model Pg w) A (eval ex env) Q' E' s'
noncomputable def CallBar (w : World) (A : Around) (env : Env) (g : Heap) (L Df : Addr) (n : Nat) (ex : Expr) : Prop :=
  ∀ (s' : Shared) (Q' E' : Value → Shared → Prop) (m : Str → Option Value) (ρ : Nat → Addr) (B : Nat → Nat → Int) (st : Nat) (d : Int) (t td : Tok), Held g s'.heap → s'.heap.Ns L m → m (Str.ofString "found") = some (.ref Df) → m (Str.ofString "step") = some (.int (st : Int) t) → m (Str.ofString "ahead") = some (.int d td) → MatN s'.heap Df ρ B n → Apart Df ρ n → (∀ b ∈ Df :: rowsA ρ n, g.get? b = none) → st < n → d ≠ 0 → (-1073741824 < d ∧ d < 1073741824) → (∀ i j, i < n → j < n → -1073741824 < B i j ∧ B i j < 1073741824) →
    (∀ h' tk, Stays (Df :: rowsA ρ n) s'.heap h' → MatN h' Df ρ (outM B st d (n - (st + 1))) n → Q' .none { s' with heap := h', toks := tk }) → wpAny (model Pg w) A (eval ex env) Q' E' s'
structure DetJ (L Df : Addr) (ρ0 : Nat → Addr) (D : Int) (n : Nat) (h0 : Heap) (s : Nat) (h : Heap) (ρ : Nat → Addr) (B : Nat → Nat → Int) (σ d : Int) (m : Str → Option Value) : Prop where
  ns : h.Ns L m
  fnd : m (Str.ofString "found") = some (.ref Df)
  sgn : ∃ t, m (Str.ofString "sign") = some (.int σ t)
  ahd : ∃ t, m (Str.ofString "ahead") = some (.int d t)
  mat : MatN h Df ρ B n
  ap : Apart Df ρ n
  mem : ∀ b ∈ rowsA ρ n, b ∈ rowsA ρ0 n
  mem2 : ∀ b ∈ rowsA ρ0 n, b ∈ rowsA ρ n
  inv : InvD D B σ d n s
  st : Stays (L :: Df :: rowsA ρ0 n) h0 h
theorem DetJ.keep {L Df : Addr} {ρ0 ρ : Nat → Addr} {D : Int} {n s : Nat} {h0 h h' : Heap} {B : Nat → Nat → Int} {σ d : Int} {m : Str → Option Value} (x : DetJ L Df ρ0 D n h0 s h ρ B σ d m) (k : KeepS (hideAll h0 (L :: Df :: rowsA ρ0 n)) h h') : DetJ L Df ρ0 D n h0 s h' ρ B σ d m :=
  ⟨k.ns x.ns, x.fnd, x.sgn, x.ahd, k.matN x.mat, x.ap, x.mem, x.mem2, x.inv, hide_stays x.st k⟩
theorem bnd_lt {s n : Nat} (hs : s < n) (hn : n ≤ 3) : bndS s < 1073741824 := by
  have : s = 0 ∨ s = 1 ∨ s = 2 := by omega
  rcases this with rfl | rfl | rfl <;> decide
section
variable {w : World} {A : Around} {E : Value → Shared → Prop} {s : Shared} {env : Env}
set_option maxHeartbeats 1000000 in
/-- a turn's end: the elimination, and the next divisor -/
theorem det_rest {L Df : Addr} {ρ0 ρ : Nat → Addr} {D : Int} {n st : Nat} {g h0 : Heap} {B : Nat → Nat → Int} {σ d : Int} {t : Tok} {m : Str → Option Value} {Q : Flow → Shared → Prop} {c2 : Expr} {j6 k1 k2 k3 k4 k5 k6 k7 : Pos}
    (e : EnvP env L) (hint : interactive env = false) (hsw : ∀ l, swapsWith c2 none l env = pure false) (kf : env.kindOf (Str.ofString "found") = some .local) (ks : env.kindOf (Str.ofString "step") = some .local) (kh : env.kindOf (Str.ofString "ahead") = some .local)
    (hbar : CallBar w A env g L Df n c2) (hg : Held g h0) (gn : ∀ b ∈ L :: Df :: rowsA ρ0 n, g.get? b = none) (hn3 : n ≤ 3) (hst : st < n)
    (x : DetJ L Df ρ0 D n h0 st s.heap ρ B σ d m) (ms : m (Str.ofString "step") = some (.int (st : Int) t)) (hp : B st st ≠ 0)
    (h : ∀ h' tk m', DetJ L Df ρ0 D n h0 (st + 1) h' ρ (outM B st d (n - (st + 1))) σ (B st st) m' → Stays (L :: Df :: rowsA ρ0 n) s.heap h' → Q .next { s with heap := h', toks := tk }) :
    wpAny (model Pg w) A (execs [.Expr c2 j6, .Assign [.Name "ahead" k1] (.Subscript (.Subscript (.Name "found" k2) (.Name "step" k3) k4) (.Name "step" k5) k6) k7] env) Q E s := by
  have gn' : ∀ b ∈ Df :: rowsA ρ n, g.get? b = none := fun b hb => by
    rcases List.mem_cons.mp hb with rfl | hb
    · exact gn _ (by simp)
    · exact gn _ (.tail _ (.tail _ (x.mem b hb)))
  obtain ⟨td, ma⟩ := x.ahd
  have bl : ∀ {y : Int}, Bd (bndS st) y → -1073741824 < y ∧ y < 1073741824 := fun hy => bd_lt hy (bnd_lt hst hn3)
  refine wpAny_execs_cons (wpAny_Expr_any (hbar _ _ _ m ρ B st d t td (held_stay x.st gn hg) x.ns x.fnd ms ma x.mat x.ap gn' hst x.inv.nz (bl x.inv.bdd) (fun i j hi hj => bl (x.inv.bd i j hi hj)) fun h1 tk1 st1 M1 => ?_) hint (hsw _))
  have hn1 := ns_stay x.ns st1 (mat_off x.ns x.mat)
  refine wpAny_execs_cons (wpAny_Assign_Name (mat_item (i := st) (j := st) hst hst (by omega) (nm e kf hn1 x.fnd ⟨rfl, rfl⟩) (nm e ks hn1 ms ⟨rfl, rfl⟩) (nm e ks hn1 ms ⟨rfl, rfl⟩) M1 fun t2 => store_nm e kh hn1 fun h2 tk2 hn2 hs2 => wpAny_execs_nil ?_))
  have e1 : outM B st d (n - (st + 1)) st st = B st st := outM_row (.inr (Nat.le_refl _))
  obtain ⟨tg, mg⟩ := x.sgn
  have S : Stays (L :: Df :: rowsA ρ0 n) s.heap h2 := (st1.mono fun b hb => by
    rcases List.mem_cons.mp hb with rfl | hb
    · simp
    · exact .tail _ (.tail _ (x.mem b hb))).trans ((Stays.ofBut hs2.extBut).mono (by simp))
  refine h h2 _ _ ⟨hn2, (if_neg (by decide)).trans x.fnd, ⟨tg, (if_neg (by decide)).trans mg⟩, ⟨t2, (if_pos rfl).trans (congrArg (fun z => some (Value.int z t2)) e1)⟩, mat_name hn1 hs2 M1, x.ap, x.mem, x.mem2, inv_step x.inv hst hn3 hp (fun a b ha hb => ?_), x.st.trans S⟩ S
  unfold outM stepV
  by_cases q : st < a
  · rw [if_pos q, if_pos (by omega)]
  · rw [if_neg q, if_neg (by omega)]
end

-- part RG
section
variable {w : World} {A : Around} {E : Value → Shared → Prop} {s : Shared} {env : Env}
set_option maxHeartbeats 1000000 in
/-- two rows change places -/
theorem det_swap {L Df : Addr} {ρ0 ρ : Nat → Addr} {D : Int} {n st r : Nat} {h0 : Heap} {B : Nat → Nat → Int} {σ d : Int} {t tr : Tok} {m : Str → Option Value} {Q : Flow → Shared → Prop} {f1 f2 f3 f4 f5 f6 f7 g1 g2 g3 g4 g5 g6 g7 g8 i1 i2 i3 i4 : Pos} {kt kt2 : Nat}
    (hh : A.handled = none) (e : EnvP env L) (kf : env.kindOf (Str.ofString "found") = some .local) (ks : env.kindOf (Str.ofString "step") = some .local) (kr : env.kindOf (Str.ofString "row") = some .local) (kg : env.kindOf (Str.ofString "sign") = some .local)
    (hw : swappedStores [.Tuple [.Subscript (.Name "found" f1) (.Name "row" f2) f3, .Subscript (.Name "found" f4) (.Name "step" f5) f6] kt f7] (.Tuple [.Subscript (.Name "found" g1) (.Name "step" g2) g3, .Subscript (.Name "found" g4) (.Name "row" g5) g6] kt2 g7) env = pure none)
    (hn3 : n ≤ 3) (hst : st < r) (hr : r < n)
    (x : DetJ L Df ρ0 D n h0 st s.heap ρ B σ d m) (ms : m (Str.ofString "step") = some (.int (st : Int) t)) (mr : m (Str.ofString "row") = some (.int (r : Int) tr))
    (h : ∀ h' tk m', DetJ L Df ρ0 D n h0 st h' (swapX ρ st r) (swapR B st r) (-σ) d m' → m' (Str.ofString "step") = some (.int (st : Int) t) → Stays (L :: Df :: rowsA ρ0 n) s.heap h' → Q .next { s with heap := h', toks := tk }) :
    wpAny (model Pg w) A (execs [.Assign [.Tuple [.Subscript (.Name "found" f1) (.Name "row" f2) f3, .Subscript (.Name "found" f4) (.Name "step" f5) f6] kt f7] (.Tuple [.Subscript (.Name "found" g1) (.Name "step" g2) g3, .Subscript (.Name "found" g4) (.Name "row" g5) g6] kt2 g7) g8,
      .Assign [.Name "sign" i1] (.UnaryOp .USub (.Name "sign" i2) i3) i4] env) Q E s := by
  have hsn : st < n := by omega
  obtain ⟨vs, hl, hv, hvs⟩ := x.mat.top
  have off := mat_off x.ns x.mat
  refine wpAny_execs_cons (Assign_Tuple (Tuple_ (args_cons (mat_row hsn (by omega) (nm e kf x.ns x.fnd ⟨rfl, rfl⟩) (nm e ks x.ns ms ⟨rfl, rfl⟩) x.mat (args_cons (mat_row hr (by omega) (nm e kf x.ns x.fnd ⟨rfl, rfl⟩) (nm e kr x.ns mr ⟨rfl, rfl⟩) x.mat (args_nil ?_)))))) (hw := hw))
  unfold newTuple
  refine wpAny_newObj_type ?_ (by show _ ≤ sizeLine; rw [sizeLine_eq]; simp)
  dsimp only
  have hk2 : Held s.heap (s.heap.push (tupO [.ref (ρ st), .ref (ρ r)])) := fun b o e => Heap.get?_push_of_some _ e
  have hz2 : (s.heap.push (tupO [.ref (ρ st), .ref (ρ r)])).get? s.heap.objs.size = some (tupO [.ref (ρ st), .ref (ρ r)]) := Heap.get?_push_size _ rfl
  generalize s.heap.push (tupO [.ref (ρ st), .ref (ρ r)]) = h2 at *
  generalize s.heap.objs.size = z at *
  refine wpAny_assign_Tuple hh ⟨_, hz2, rfl, _, rfl⟩ rfl rfl fun h3 he3 => ?_
  have hk3 : Held h2 h3 := fun b o e9 => he3 b o (Nat.ne_of_lt (Heap.lt_size e9)) e9
  have K3 : KeepS s.heap s.heap h3 := keepS_held (hk2.trans hk3)
  have n3 := K3.ns x.ns
  have M3 := K3.matN x.mat
  have l3 := K3.list hl
  show wpAny _ _ (assignInOrder [assign (.Subscript (.Name "found" f1) (.Name "row" f2) f3) env, assign (.Subscript (.Name "found" f4) (.Name "step" f5) f6) env] [.ref (ρ st), .ref (ρ r)]) _ _ _
  refine assignInOrder_cons (assign_sub (nm e kf n3 x.fnd (nm e kr n3 mr (set_raw l3 (by omega) (by omega) fun h4 l4 s4 => ?_))))
  have fL : Df ≠ L := fun q => off (q ▸ .head _)
  have n4 := n3.sameBut s4 fL.symm
  refine assignInOrder_cons (assign_sub (nm e kf n4 x.fnd (nm e ks n4 ms (set_raw l4 (by simp; omega) (by omega) fun h5 l5 s5 => assignInOrder_nil ?_))))
  have n5 := n4.sameBut s5 fL.symm
  have st5 : Stays [Df] h3 h5 := (Stays.ofBut s4.extBut).trans (Stays.ofBut s5.extBut)
  have M5 := mat_swap M3 x.ap hsn hr hv hvs l5 st5
  obtain ⟨tg, mg⟩ := x.sgn
  obtain ⟨td, ma⟩ := x.ahd
  refine wpAny_execs_cons (wpAny_Assign_Name (UnaryOp_ (nm e kg n5 mg (PyProof.Rows.neg_int (store_nm e kg n5 fun h6 tk6 hn6 hs6 => wpAny_execs_nil ?_)))))
  have S : Stays (L :: Df :: rowsA ρ0 n) s.heap h6 := (stays_of_held (hk2.trans hk3)).trans ((st5.mono (by simp)).trans ((Stays.ofBut hs6.extBut).mono (by simp)))
  refine h h6 _ _ ⟨hn6, (if_neg (by decide)).trans x.fnd, ⟨_, if_pos rfl⟩, ⟨td, (if_neg (by decide)).trans ma⟩, mat_name n5 hs6 M5, apart_swap x.ap hsn hr, fun b hb => ?_, fun b hb => ?_, inv_swap x.inv hst hr hn3, x.st.trans S⟩ ((if_neg (by decide)).trans ms) S
  · obtain ⟨i, hi, rfl⟩ := List.mem_map.mp hb
    exact x.mem _ (mem_rows (swapX_lt hsn hr (List.mem_range.mp hi)))
  · obtain ⟨i, hi, rfl⟩ := List.mem_map.mp (x.mem2 b hb)
    have hi := List.mem_range.mp hi
    refine List.mem_map.mpr ⟨if i = st then r else if i = r then st else i, List.mem_range.mpr (swapX_lt hsn hr hi), ?_⟩
    unfold swapX
    congr 1
    (repeat' split) <;> omega
set_option maxHeartbeats 2000000 in
theorem det_for {L Df cA pa : Addr} {ρ0 : Nat → Addr} {M : Nat → Nat → Int} {n : Nat} {ts td : Tok} {g : Heap} {m0 : Str → Option Value} {vs0 : List Value} {Q : Flow → Shared → Prop} {c1 c2 : Expr}
    {a1 a2 a3 a4 a5 a6 b1 b6 d1 d2 d3 x1 x2 x3 e1 e2 e3 f1 f2 f3 f4 f5 f6 f7 g1 g2 g3 g4 g5 g6 g7 g8 i1 i2 i3 i4 i5 j6 k1 k2 k3 k4 k5 k6 k7 l1 : Pos} {kt kt2 kn k0 : Nat}
    (hh : A.handled = none) (e : EnvP env L) (hint : interactive env = false) (hsw : ∀ l, swapsWith c2 none l env = pure false) (hsw1 : ∀ l, swapsWith c1 (some (.Name "row" b1)) l env = pure false)
    (hw : swappedStores [.Tuple [.Subscript (.Name "found" f1) (.Name "row" f2) f3, .Subscript (.Name "found" f4) (.Name "step" f5) f6] kt f7] (.Tuple [.Subscript (.Name "found" g1) (.Name "step" g2) g3, .Subscript (.Name "found" g4) (.Name "row" g5) g6] kt2 g7) env = pure none)
    (kf : env.kindOf (Str.ofString "found") = some .local) (ks : env.kindOf (Str.ofString "step") = some .local) (kr : env.kindOf (Str.ofString "row") = some .local) (kg : env.kindOf (Str.ofString "sign") = some .local) (kh : env.kindOf (Str.ofString "ahead") = some .local)
    (kc : env.kindOf (Str.ofString "a") = some .cell) (hca : env.cells.lookup (Str.ofString "a") = some cA) (hcell : s.heap.IsCell cA (some (.ref pa))) (hpa : s.heap.IsList pa vs0.toArray) (hpl : vs0.length = n)
    (br : BuiltIn w A g env L (Str.ofString "range") (.type "range")) (bl : BuiltIn w A g env L (Str.ofString "len") (.builtin "len")) (hpiv : CallPiv w A env g L Df n c1) (hbar : CallBar w A env g L Df n c2)
    (hn : s.heap.Ns L m0) (mf : m0 (Str.ofString "found") = some (.ref Df)) (mg : m0 (Str.ofString "sign") = some (.int 1 ts)) (ma : m0 (Str.ofString "ahead") = some (.int 1 td))
    (hM : MatN s.heap Df ρ0 M n) (ap : Apart Df ρ0 n) (h1 : 1 ≤ n) (hn3 : n ≤ 3) (hb : ∀ i j, i < n → j < n → Bd 2 (M i j)) (hg : Held g s.heap) (gn : ∀ b ∈ L :: Df :: rowsA ρ0 n, g.get? b = none)
    (hret : ∀ h' tk t m', h'.Ns L m' → Stays (L :: Df :: rowsA ρ0 n) s.heap h' → Q (.ret (.int (detN M n) t)) { s with heap := h', toks := tk })
    (hQ : ∀ h' tk m' σ d, h'.Ns L m' → Stays (L :: Df :: rowsA ρ0 n) s.heap h' → (∃ t, m' (Str.ofString "sign") = some (.int σ t)) → (∃ t, m' (Str.ofString "ahead") = some (.int d t)) → (σ = 1 ∨ σ = -1) → σ * d = detN M n → Q .next { s with heap := h', toks := tk }) :
    wpAny (model Pg w) A (exec (.For (.Name "step" a1) (.Call (.Name "range" a2) [.Call (.Name "len" a3) [.Name "a" a4] [] a5] [] a6)
      [.Assign [.Name "row" b1] c1 b6,
       .If (.Compare (.Name "row" x1) [.Is] [.Constant .none kn x2] x3) [.Return (some (.Constant (.int 0) k0 d1)) d2] [] d3,
       .If (.Compare (.Name "row" e1) [.NotEq] [.Name "step" e2] e3) [.Assign [.Tuple [.Subscript (.Name "found" f1) (.Name "row" f2) f3, .Subscript (.Name "found" f4) (.Name "step" f5) f6] kt f7] (.Tuple [.Subscript (.Name "found" g1) (.Name "step" g2) g3, .Subscript (.Name "found" g4) (.Name "row" g5) g6] kt2 g7) g8,
          .Assign [.Name "sign" i1] (.UnaryOp .USub (.Name "sign" i2) i3) i4] [] i5,
       .Expr c2 j6, .Assign [.Name "ahead" k1] (.Subscript (.Subscript (.Name "found" k2) (.Name "step" k3) k4) (.Name "step" k5) k6) k7] [] l1) env) Q E s := by
  refine for_range (a := 0) (n := n) (W := L :: Df :: rowsA ρ0 n) (g := hideAll s.heap (L :: Df :: rowsA ρ0 n)) (J := fun k h => ∃ ρ B σ d m, DetJ L Df ρ0 (detN M n) n s.heap k h ρ B σ d m) hh ?_ (by omega) (by omega)
    (fun i h ⟨_, _, _, _, _, x⟩ => hide_held x.st) (fun i h h' ⟨ρ, B, σ, d, m, x⟩ k => ⟨ρ, B, σ, d, m, x.keep k⟩) ?_ (fun _ _ => rfl) ?_ ?_
  · refine Call_ (br _ _ _ _ _ hg hn (PySem.Pv.callWith_type1 (args_cons (Call_ (bl _ _ _ _ _ hg hn (callWith_builtin1 (args_cons (cname_cell e.fn (.inl kc) hca hcell (args_nil (len_raw hpa hpl (by omega) (args_nil ?_)))))))))))
    rw [Int.zero_add]
    exact range_one (J := fun h => ∃ ρ B σ d m, DetJ L Df ρ0 (detN M n) n s.heap 0 h ρ B σ d m) fun h' hk => ⟨ρ0, M, 1, 1, m0, hn.keeps hk, mf, ⟨ts, mg⟩, ⟨td, ma⟩, (keepS_held (g := h') hk).matN hM, ap, fun b hb => hb, fun b hb => hb, inv_init h1 hn3 hb, stays_of_held hk⟩
  · rintro i h ⟨ρ, B, σ, d, m, x⟩ b hb
    rcases List.mem_cons.mp hb with rfl | hb
    · obtain ⟨o, es, ep, ho, hd, _⟩ := x.ns
      exact ⟨o, ho, fun fs q => by rw [hd] at q; cases q⟩
    rcases List.mem_cons.mp hb with rfl | hb
    · obtain ⟨vs, ⟨o, ho, _, c, hd⟩, _⟩ := x.mat.top
      exact ⟨o, ho, fun fs q => by rw [hd] at q; cases q⟩
    · obtain ⟨k, hk, rfl⟩ := List.mem_map.mp (x.mem2 b hb)
      obtain ⟨ys, ⟨o, ho, _, c, hd⟩, _⟩ := x.mat.row k (List.mem_range.mp hk)
      exact ⟨o, ho, fun fs q => by rw [hd] at q; cases q⟩
  · rintro i t h tk E' hi ⟨ρ, B, σ, d, m, x⟩
    refine wpAny_assign_Name (store_nm e ks x.ns fun h1 tk1 hn1 hs1 => ?_)
    rw [Int.zero_add] at hn1
    have x1 : DetJ L Df ρ0 (detN M n) n s.heap i h1 ρ B σ d (fun y => if y = Str.ofString "step" then some (Value.int (i : Int) t) else m y) := by
      obtain ⟨tg, mg⟩ := x.sgn
      obtain ⟨td, ma⟩ := x.ahd
      exact ⟨hn1, (if_neg (by decide)).trans x.fnd, ⟨tg, (if_neg (by decide)).trans mg⟩, ⟨td, (if_neg (by decide)).trans ma⟩, mat_name x.ns hs1 x.mat, x.ap, x.mem, x.mem2, x.inv, x.st.trans ((Stays.ofBut hs1.extBut).mono (by simp))⟩
    have gn' : ∀ b ∈ Df :: rowsA ρ n, g.get? b = none := fun b hb => by
      rcases List.mem_cons.mp hb with rfl | hb
      · exact gn _ (by simp)
      · exact gn _ (.tail _ (.tail _ (x.mem b hb)))
    refine wpAny_execs_cons (wpAny_Assign_Name (hpiv _ _ _ _ ρ B i t (held_stay x1.st gn hg) hn1 x1.fnd (if_pos rfl) x1.mat gn' hi fun r h2 tk2 hk2 hr2 => ?_) (hsw1 _))
    have x2 := x1.keep (keepS_held hk2)
    refine store_nm e kr x2.ns fun h3 tk3 hn3' hs3 => ?_
    have x3 : DetJ L Df ρ0 (detN M n) n s.heap i h3 ρ B σ d (fun y => if y = Str.ofString "row" then some r else if y = Str.ofString "step" then some (Value.int (i : Int) t) else m y) := by
      obtain ⟨tg, mg⟩ := x2.sgn
      obtain ⟨td, ma⟩ := x2.ahd
      exact ⟨hn3', (if_neg (by decide)).trans x2.fnd, ⟨tg, (if_neg (by decide)).trans mg⟩, ⟨td, (if_neg (by decide)).trans ma⟩, mat_name x2.ns hs3 x2.mat, x2.ap, x2.mem, x2.mem2, x2.inv, x2.st.trans ((Stays.ofBut hs3.extBut).mono (by simp))⟩
    have S3 : Stays (L :: Df :: rowsA ρ0 n) h h3 := ((Stays.ofBut hs1.extBut).mono (by simp)).trans ((stays_of_held hk2).trans ((Stays.ofBut hs3.extBut).mono (by simp)))
    have ms3 : (fun y => if y = Str.ofString "row" then some r else if y = Str.ofString "step" then some (Value.int (i : Int) t) else m y) (Str.ofString "step") = some (.int (i : Int) t) := (if_neg (by decide)).trans (if_pos rfl)
    refine wpAny_execs_cons (wpAny_If (wpAny_isTrue_Compare1 (nm e kr hn3' (if_pos rfl) (const_none (is_none_gen (wpAny_truthy_bool ?_))))))
    rcases hr2 with ⟨r, tr, rfl, hr1, hr2, hr3⟩ | ⟨rfl, h0⟩
    · rw [show (Value.int (r : Int) tr == Value.none) = false from rfl, if_neg Bool.false_ne_true]
      refine wpAny_execs_nil (wpAny_execs_cons (wpAny_If (wpAny_isTrue_Compare1 (nm e kr hn3' (if_pos rfl) (nm e ks hn3' ms3 (PyProof.Rows.ne_int (wpAny_truthy_bool ?_)))))))
      by_cases q : r = i
      · subst q
        rw [show ((r : Int) != (r : Int)) = false by simp, if_neg Bool.false_ne_true]
        refine wpAny_execs_nil (det_rest e hint hsw kf ks kh hbar hg gn hn3 hi x3 ms3 hr3 fun h' tk m' x' S' => .inr ⟨rfl, h', tk, rfl, S3.trans S', _, _, _, _, _, x'⟩)
      · rw [show ((r : Int) != (i : Int)) = true by simp; omega, if_pos rfl]
        refine det_swap hh e kf ks kr kg hw hn3 (by omega) hr2 x3 ms3 (if_pos rfl) fun h4 tk4 m4 x4 ms4 S4 => ?_
        refine det_rest e hint hsw kf ks kh hbar hg gn hn3 hi x4 ms4 (by unfold swapR; rw [if_pos rfl]; exact hr3) fun h' tk m' x' S' => .inr ⟨rfl, h', tk, rfl, S3.trans (S4.trans S'), _, _, _, _, _, x'⟩
    · rw [show (Value.none == Value.none) = true from rfl, if_pos rfl]
      refine wpAny_execs_cons (wpAny_Return_some (const_int (.inl ⟨_, rfl, ?_⟩)))
      rw [← inv_zero x.inv hi hn3 h0]
      exact hret h3 _ _ _ hn3' x3.st
  · rintro h' tk ⟨ρ, B, σ, d, m, x⟩
    exact hQ h' tk m σ d x.ns x.st x.sgn x.ahd x.inv.sig (inv_end x.inv h1 hn3)
end

-- part RH
theorem Held.list {h h' : Heap} {a : Addr} {its : Array Value} (k : Held h h') (x : h.IsList a its) : h'.IsList a its := let ⟨o, ho, r⟩ := x; ⟨o, k _ _ ho, r⟩
theorem Held.matN {h h' : Heap} {pa : Addr} {ρ : Nat → Addr} {M : Nat → Nat → Int} {n : Nat} (k : Held h h') (x : MatN h pa ρ M n) : MatN h' pa ρ M n := (keepS_held (g := h) k).matN x
theorem Held.cell {h h' : Heap} {c : Addr} {v : Option Value} (k : Held h h') (x : h.IsCell c v) : h'.IsCell c v := let ⟨o, ho, hd⟩ := x; ⟨o, k _ _ ho, hd⟩
theorem item_ref {vs : List Value} {ρ : Nat → Addr} {n i : Nat} {v : Value} (hvs : ∀ i, i < n → vs[i]? = some (.ref (ρ i))) (hi : i < n) (hv : vs.toArray[i]? = some v) : v = .ref (ρ i) := by
  rw [List.getElem?_toArray, hvs i hi] at hv
  exact (Option.some.inj hv).symm
section
variable {w : World} {A : Around} {E : Value → Shared → Prop} {s : Shared} {env : Env}
set_option maxHeartbeats 1000000 in
/-- [row for row in a if len(row) != len(a)] -/
theorem square_comp {cA pa : Addr} {ρ : Nat → Addr} {M : Nat → Nat → Int} {n : Nat} {sc : Scope} {p1 p2 p3 p4 p5 p6 p7 p8 p9 p10 p11 : Pos} {Q : Value → Shared → Prop} (hh : A.handled = none)
    (hsc : sc.kind = .function) (hnames : ∀ y ∈ sc.names, y.2 = .local → sc.names.lookup y.1 = some .local)
    (h1 : sc.names.lookup (Str.ofString "row") = some .local) (hcl : closureFor sc env = pure [((Str.ofString "a"), cA)])
    (hcf : ∀ n, cellsFrom n sc.names [((Str.ofString "a"), cA)] = [((Str.ofString "a"), cA)])
    (hkb : ∀ C, (compEnvC sc [((Str.ofString "a"), cA)] C env).kindOf "a" = some .cell ∨ (compEnvC sc [((Str.ofString "a"), cA)] C env).kindOf "a" = some .free)
    (hlen : ∀ (C : Addr) (s' : Shared) (px : Pos) (Q' E' : Value → Shared → Prop), Held s.heap s'.heap → Q' (.builtin "len") s' → wpAny (model Pg w) A (eval (.Name "len" px) (compEnvC sc [((Str.ofString "a"), cA)] C env)) Q' E' s')
    (hfn : env.scope.kind = .function) (hka : env.kindOf (Str.ofString "a") = some .cell) (hca : env.cells.lookup (Str.ofString "a") = some cA)
    (hc : s.heap.IsCell cA (some (.ref pa))) (hM : MatN s.heap pa ρ M n) (hz : n < 1000)
    (hQ : ∀ (D : Addr) (h' : Heap) (tk : Nat), h'.get? D = some (LCg.lst []) → s.heap.get? D = none → Held s.heap h' → Q (.ref D) { s with heap := h', toks := tk }) :
    wpAny (model Pg w) A (eval (.ListComp (.Name "row" p1) [⟨.Name "row" p2, .Name "a" p3, [.Compare (.Call (.Name "len" p4) [.Name "row" p5] [] p6) [.NotEq] [.Call (.Name "len" p7) [.Name "a" p8] [] p9] p10], 0⟩] sc p11) env) Q E s := by
  obtain ⟨vs, hl, hv, hvs⟩ := hM.top
  refine comp_clauseS (P := ItemP vs.toArray) (n := n) hcl hsc hnames (by rw [sizeLine_eq]; omega) (cname_cell hfn (.inl hka) hca hc (src_name hh (by simp [hv]) hl))
    (fun _ _ ys _ => ys = []) (fun _ _ _ _ _ h _ => h) (fun _ _ _ => rfl) ?_ ?_ (fun _ => rfl)
  · intro C D oc wr i ys v s₃ m₃ E' hoc' hi hP hn hcs hj hk hlt hnew hCo
    obtain rfl := item_ref hvs hi hP
    rw [hcf]
    refine comp_assign_local hsc h1 hn hcs hCo fun h₄ tk₄ hn₄ hc₄ hs₄ => ?_
    have hk₄ : Held s.heap h₄ := fun d o e => hs₄ d o (fun q => by rw [List.mem_singleton.mp q, hnew C (by simp)] at e; cases e) (hk d o e)
    obtain ⟨zs, hzl, hzn, _⟩ := hM.row i hi
    refine tests_one (wpAny_isTrue_Compare1 (Call_ (hlen C _ _ _ _ hk₄ (callWith_builtin1 (args_cons (cname_local hsc (kind_local h1) hn₄ (if_pos rfl) (args_nil (len_raw (hk₄.list hzl) hzn hz ?_))))))))
    refine Call_ (hlen C _ _ _ _ hk₄ (callWith_builtin1 (args_cons (cname_cell (c := cA) hsc (hkb C) (by simp [compEnvC]) (hk₄.cell hc) (args_nil (len_raw (hk₄.list hl) hv hz (PyProof.Rows.ne_int (wpAny_truthy_bool ?_))))))))
    rw [show ((n : Int) != (n : Int)) = false by simp, if_neg Bool.false_ne_true]
    exact ⟨turnEnd_of hn₄ hc₄ (hs₄.mono (by simp)) ⟨_, _, rfl⟩ (Held.refl _), hj⟩
  · rintro pr D ys h' tk rfl hD _ hDn hk _
    exact hQ D h' tk hD hDn hk
/-- copies made so far -/
noncomputable def CopyJ (M : Nat → Nat → Int) (n : Nat) (h0 : Heap) (pr : List Addr) (i : Nat) (ys : List Value) (h : Heap) : Prop :=
  ∃ qs : List Addr, ys = qs.map Value.ref ∧ qs.length = i ∧ qs.Nodup ∧ ∀ (j : Nat) q, qs[j]? = some q → RowN h q (M j) n ∧ h0.get? q = none ∧ q ∉ pr
theorem rowN_stay {h h' : Heap} {q : Addr} {f : Nat → Int} {n : Nat} {pr : List Addr} (x : RowN h q f n) (st : Stays pr h h') (hq : q ∉ pr) : RowN h' q f n :=
  let ⟨ys, ⟨o, ho, r⟩, r'⟩ := x; ⟨ys, ⟨o, st _ _ hq ho, r⟩, r'⟩
theorem rowN_lt {h : Heap} {q : Addr} {f : Nat → Int} {n : Nat} (x : RowN h q f n) : q < h.objs.size := let ⟨_, ⟨_, ho, _⟩, _⟩ := x; Heap.lt_size ho
theorem comp_assign_localZ {x : Str} {px : Pos} {C : Addr} {oc : List Addr} {scope : Scope} {cells : List (Str × Addr)} {v : Value} {m : Str → Option Value} {Q : Unit → Shared → Prop}
    (hkind : scope.kind = .function) (hx : scope.names.lookup x = some .local) (hn : s.heap.Ns C m) (hc : ∀ c ∈ oc, ∃ v, s.heap.IsCell c v) (hCo : C ∉ oc)
    (h : ∀ (h' : Heap) (tk : Nat), h'.Ns C (fun y => if y = x then some v else m y) → (∀ c ∈ oc, ∃ v, h'.IsCell c v) → Stays [C] s.heap h' → h'.objs.size = s.heap.objs.size → Q () { s with heap := h', toks := tk }) :
    wpAny (model Pg w) A (assign (.Name x px) (compEnvC scope cells C env) v) Q E s := by
  refine wpAny_assign_Name (wpAny_storeName_local (lookup_relabel_local hx) hn (fun h₃ hn₃ hs₃ => ?_) (by simp [compEnvC, relabel, hkind]))
  exact h h₃ _ hn₃ (fun c hc' => by obtain ⟨v, o, ho, hd⟩ := hc c hc'; exact ⟨v, o, hs₃.extBut c o (fun (q : c = C) => hCo (q ▸ hc')) ho, hd⟩) (Stays.ofBut hs₃.extBut) hs₃.1
set_option maxHeartbeats 1000000 in
/-- [list(row) for row in a] -/
theorem copy_comp {cA pa : Addr} {ρ : Nat → Addr} {M : Nat → Nat → Int} {n : Nat} {sc : Scope} {p1 p2 p3 p4 p5 p6 : Pos} {Q : Value → Shared → Prop} (hh : A.handled = none)
    (hsc : sc.kind = .function) (hnames : ∀ y ∈ sc.names, y.2 = .local → sc.names.lookup y.1 = some .local)
    (h1 : sc.names.lookup (Str.ofString "row") = some .local) (hcl : closureFor sc env = pure []) (hcf : ∀ n, cellsFrom n sc.names [] = [])
    (hlist : ∀ (C : Addr) (s' : Shared) (px : Pos) (Q' E' : Value → Shared → Prop), Held s.heap s'.heap → Q' (.type "list") s' → wpAny (model Pg w) A (eval (.Name "list" px) (compEnvC sc [] C env)) Q' E' s')
    (hfn : env.scope.kind = .function) (hka : env.kindOf (Str.ofString "a") = some .cell) (hca : env.cells.lookup (Str.ofString "a") = some cA)
    (hc : s.heap.IsCell cA (some (.ref pa))) (hM : MatN s.heap pa ρ M n) (hz : n < 1000)
    (hQ : ∀ (D : Addr) (ρ' : Nat → Addr) (h' : Heap) (tk : Nat), MatN h' D ρ' M n → Apart D ρ' n → (∀ b ∈ D :: rowsA ρ' n, s.heap.get? b = none) → Held s.heap h' → Q (.ref D) { s with heap := h', toks := tk }) :
    wpAny (model Pg w) A (eval (.ListComp (.Call (.Name "list" p1) [.Name "row" p2] [] p3) [⟨.Name "row" p4, .Name "a" p5, [], 0⟩] sc p6) env) Q E s := by
  obtain ⟨vs, hl, hv, hvs⟩ := hM.top
  refine comp_clauseS (P := ItemP vs.toArray) (n := n) hcl hsc hnames (by rw [sizeLine_eq]; omega) (cname_cell hfn (.inl hka) hca hc (src_name hh (by simp [hv]) hl))
    (fun pr i ys h => CopyJ M n s.heap pr i ys h) ?_ (fun _ _ _ => ⟨[], rfl, rfl, List.nodup_nil, fun j q h => by simp at h⟩) ?_ ?_ (fun _ => rfl)
  · rintro pr i ys h h' ⟨qs, e, hl, hd, hq⟩ hst
    exact ⟨qs, e, hl, hd, fun j q hj => let z := hq j q hj; ⟨rowN_stay z.1 hst z.2.2, z.2⟩⟩
  · intro C D oc wr i ys v s₃ m₃ E' hoc' hi hP hn hcs hj hk hlt hnew hCo
    obtain rfl := item_ref hvs hi hP
    rw [hcf]
    refine comp_assign_localZ hsc h1 hn hcs hCo fun h₄ tk₄ hn₄ hc₄ hs₄ hz₄ => ?_
    have hk₄ : Held s.heap h₄ := fun d o e => hs₄ d o (fun q => by rw [List.mem_singleton.mp q, hnew C (by simp)] at e; cases e) (hk d o e)
    obtain ⟨zs, hzl, hzn, hzs⟩ := hM.row i hi
    obtain ⟨o, ho, hoc, c9, hd⟩ := hk₄.list hzl
    refine wpAny_tests_nil ?_
    rw [if_pos rfl]
    refine Call_ (hlist C _ _ _ _ hk₄ (PySem.Pv.callWith_type1 (args_cons (cname_local hsc (kind_local h1) hn₄ (if_pos rfl) (args_nil ?_)))))
    refine call_list_seq _ (.inl rfl) ho hoc hd (fun h5 c5 hk5 h5g => ?_) (by rw [sizeLine_eq]; simp; omega)
    refine ⟨turnEnd_of hn₄ hc₄ (hs₄.mono (by simp)) ⟨_, _, rfl⟩ hk5, ?_⟩
    obtain ⟨qs, e, hlq, hdq, hq⟩ := hj
    have h4s : s₃.heap.objs.size ≤ h₄.objs.size := Nat.le_of_eq hz₄.symm
    refine ⟨qs ++ [h₄.objs.size], by simp [e], by simp [hlq], ?_, fun j q hjq => ?_⟩
    · refine List.nodup_append.mpr ⟨hdq, by simp, fun a ha b hb => ?_⟩
      obtain ⟨j, hj'⟩ := List.mem_iff_getElem?.mp ha
      have z := rowN_lt (rowN_stay (hq j a hj').1 (hs₄.mono (pr' := C :: D :: (oc ++ wr)) (by simp)) (hq j a hj').2.2)
      rw [List.mem_singleton.mp hb]
      exact Nat.ne_of_lt z
    · by_cases hjl : j < qs.length
      · rw [List.getElem?_append_left hjl] at hjq
        have z := hq j q hjq
        have z1 := rowN_stay z.1 (hs₄.mono (pr' := C :: D :: (oc ++ wr)) (by simp)) z.2.2
        exact ⟨rowN_stay (pr := []) z1 (stays_of_held hk5) (by simp), z.2⟩
      · rw [List.getElem?_append_right (by omega)] at hjq
        have e0 : j - qs.length = 0 := by
          have := (List.getElem?_eq_some_iff.mp hjq).1
          simp at this; omega
        rw [e0] at hjq
        obtain rfl : h₄.objs.size = q := by simpa using hjq
        obtain rfl : j = i := by omega
        refine ⟨⟨zs, ⟨_, h5g, rfl, c5, rfl⟩, hzn, hzs⟩, ?_, fun hm => ?_⟩
        · cases e9 : s.heap.get? h₄.objs.size with
          | none => rfl
          | some o9 => exact absurd (Heap.lt_size (hk₄ _ _ e9)) (Nat.lt_irrefl _)
        · have := hlt _ hm
          have h4s' : @LE.le Nat _ s₃.heap.objs.size h₄.objs.size := h4s
          have this' : @LT.lt Nat _ h₄.objs.size s₃.heap.objs.size := this
          omega
  · rintro pr D ys h' tk ⟨qs, rfl, hlq, hdq, hq⟩ hD hDp hDn hk _
    have at_ : ∀ i, i < n → qs[i]? = some (qs.getD i 0) := fun i hi => by
      rw [List.getD_eq_getElem?_getD, List.getElem?_eq_getElem (by omega)]; rfl
    refine hQ D (fun i => qs.getD i 0) h' tk ⟨⟨_, ⟨_, hD, rfl, _, rfl⟩, by simpa using hlq, fun i hi => by rw [List.getElem?_map, at_ i hi]; rfl⟩, fun i hi => (hq i _ (at_ i hi)).1⟩ ⟨fun i j hi hj e => ?_, fun i hi e => ?_⟩ (fun b hb => ?_) hk
    · exact (List.getElem?_inj (by omega) hdq).mp ((at_ i hi).trans (by rw [e]; exact (at_ j hj).symm))
    · exact (hq i _ (at_ i hi)).2.2 (e ▸ hDp)
    · rcases List.mem_cons.mp hb with rfl | hb
      · exact hDn
      · obtain ⟨i, hi, rfl⟩ := List.mem_map.mp hb
        exact (hq i _ (at_ i (List.mem_range.mp hi))).2.1
end

-- part RI
section
variable {w : World} {A : Around} {E : Value → Shared → Prop} {s : Shared} {env : Env}
theorem ne_raw {l b : Addr} {n n2 : Nat} {Q : Value → Shared → Prop} (ho : s.heap.get? l = some (lstO [] n)) (ho2 : s.heap.get? b = some (lstO [] n2)) (hu : A.units < cLine) (h : Q (.bool false) s) :
    wpAny (model Pg w) A (compareOp .NotEq (.ref l) (.ref b)) Q E s := by
  refine cmp_ofNotEq ?_
  exact richCompare_meets_room (op := .NotEq) ⟨_, ho, rfl⟩ ⟨_, ho2, rfl⟩ F.slot_list_ne F.entry_list_ne (F.args_list_ne_2 _ _) (PySem.SeqAt.list_neAt l b #[] #[] n n2 none none #[] #[] rfl (fun _ => true))
    ⟨ho, ho2, fun j h1 _ => absurd h1 (Nat.not_lt_zero _), ⟨(fun x => nomatch x), h⟩⟩ hu
set_option maxHeartbeats 2000000 in
/-- the body of determinant -/
theorem det_body {L cA pa : Addr} {ρ : Nat → Addr} {M : Nat → Nat → Int} {n : Nat} {g : Heap} {m0 : Str → Option Value} {Q : Flow → Shared → Prop} {c1 c2 : Expr} {sc sc2 : Scope} {raising : List Stmt}
    {q1 q2 q3 q4 q5 q6 q7 q8 q9 q10 q11 q12 q13 q14 y1 y2 y3 y4 y5 y6 y7 y8 y9 y10 y11 y12 y13 y14 a1 a2 a3 a4 a5 a6 b1 b6 d1 d2 d3 x1 x2 x3 e1 e2 e3 f1 f2 f3 f4 f5 f6 f7 g1 g2 g3 g4 g5 g6 g7 g8 i1 i2 i3 i4 i5 j6 k1 k2 k3 k4 k5 k6 k7 l1 z1 z2 z3 z4 : Pos} {kt kt2 kn k0 ky1 ky2 ky3 ky4 : Nat}
    (hh : A.handled = none) (hu : A.units < cLine) (e : EnvP env L) (hint : interactive env = false) (hsw : ∀ l, swapsWith c2 none l env = pure false) (hsw1 : ∀ l, swapsWith c1 (some (.Name "row" b1)) l env = pure false)
    (hw : swappedStores [.Tuple [.Subscript (.Name "found" f1) (.Name "row" f2) f3, .Subscript (.Name "found" f4) (.Name "step" f5) f6] kt f7] (.Tuple [.Subscript (.Name "found" g1) (.Name "step" g2) g3, .Subscript (.Name "found" g4) (.Name "row" g5) g6] kt2 g7) env = pure none)
    (hw2 : swappedStores [.Tuple [.Name "found" y1, .Name "sign" y2, .Name "ahead" y3] ky1 y4] (.Tuple [.ListComp (.Call (.Name "list" y5) [.Name "row" y6] [] y7) [⟨.Name "row" y8, .Name "a" y9, [], 0⟩] sc2 y10, .Constant (.int 1) ky2 y11, .Constant (.int 1) ky3 y12] ky4 y13) env = pure (some [Str.ofString "found", Str.ofString "sign", Str.ofString "ahead"]))
    (kf : env.kindOf (Str.ofString "found") = some .local) (ks : env.kindOf (Str.ofString "step") = some .local) (kr : env.kindOf (Str.ofString "row") = some .local) (kg : env.kindOf (Str.ofString "sign") = some .local) (kh : env.kindOf (Str.ofString "ahead") = some .local)
    (kc : env.kindOf (Str.ofString "a") = some .cell) (hca : env.cells.lookup (Str.ofString "a") = some cA) (hcell : s.heap.IsCell cA (some (.ref pa))) (hcL : cA ≠ L)
    (hsc : sc.kind = .function) (hnames : ∀ y ∈ sc.names, y.2 = .local → sc.names.lookup y.1 = some .local) (hr1 : sc.names.lookup (Str.ofString "row") = some .local) (hcl : closureFor sc env = pure [((Str.ofString "a"), cA)])
    (hcf : ∀ n, cellsFrom n sc.names [((Str.ofString "a"), cA)] = [((Str.ofString "a"), cA)])
    (hkb : ∀ C, (compEnvC sc [((Str.ofString "a"), cA)] C env).kindOf "a" = some .cell ∨ (compEnvC sc [((Str.ofString "a"), cA)] C env).kindOf "a" = some .free)
    (hlen : ∀ (C : Addr) (s' : Shared) (px : Pos) (Q' E' : Value → Shared → Prop), Held s.heap s'.heap → Q' (.builtin "len") s' → wpAny (model Pg w) A (eval (.Name "len" px) (compEnvC sc [((Str.ofString "a"), cA)] C env)) Q' E' s')
    (hsc2 : sc2.kind = .function) (hnames2 : ∀ y ∈ sc2.names, y.2 = .local → sc2.names.lookup y.1 = some .local) (hr2 : sc2.names.lookup (Str.ofString "row") = some .local) (hcl2 : closureFor sc2 env = pure []) (hcf2 : ∀ n, cellsFrom n sc2.names [] = [])
    (hlist : ∀ (C : Addr) (s' : Shared) (px : Pos) (Q' E' : Value → Shared → Prop), Held s.heap s'.heap → Q' (.type "list") s' → wpAny (model Pg w) A (eval (.Name "list" px) (compEnvC sc2 [] C env)) Q' E' s')
    (br : BuiltIn w A g env L (Str.ofString "range") (.type "range")) (bl : BuiltIn w A g env L (Str.ofString "len") (.builtin "len")) (hpiv : ∀ Df, CallPiv w A env g L Df n c1) (hbar : ∀ Df, CallBar w A env g L Df n c2)
    (hn : s.heap.Ns L m0) (hM : MatN s.heap pa ρ M n) (hn1 : 1 ≤ n) (hn3 : n ≤ 3) (hb : ∀ i j, i < n → j < n → Bd 2 (M i j)) (hg : Held g s.heap) (gL : g.get? L = none)
    (hret : ∀ h' tk t m', h'.Ns L m' → Stays [L] s.heap h' → Q (.ret (.int (detN M n) t)) { s with heap := h', toks := tk }) :
    wpAny (model Pg w) A (execs [.If (.Compare (.ListComp (.Name "row" q1) [⟨.Name "row" q2, .Name "a" q3, [.Compare (.Call (.Name "len" q4) [.Name "row" q5] [] q6) [.NotEq] [.Call (.Name "len" q7) [.Name "a" q8] [] q9] q10], 0⟩] sc q11) [.NotEq] [.List [] q12] q13) raising [] q14,
      .Assign [.Tuple [.Name "found" y1, .Name "sign" y2, .Name "ahead" y3] ky1 y4] (.Tuple [.ListComp (.Call (.Name "list" y5) [.Name "row" y6] [] y7) [⟨.Name "row" y8, .Name "a" y9, [], 0⟩] sc2 y10, .Constant (.int 1) ky2 y11, .Constant (.int 1) ky3 y12] ky4 y13) y14,
      .For (.Name "step" a1) (.Call (.Name "range" a2) [.Call (.Name "len" a3) [.Name "a" a4] [] a5] [] a6)
      [.Assign [.Name "row" b1] c1 b6,
       .If (.Compare (.Name "row" x1) [.Is] [.Constant .none kn x2] x3) [.Return (some (.Constant (.int 0) k0 d1)) d2] [] d3,
       .If (.Compare (.Name "row" e1) [.NotEq] [.Name "step" e2] e3) [.Assign [.Tuple [.Subscript (.Name "found" f1) (.Name "row" f2) f3, .Subscript (.Name "found" f4) (.Name "step" f5) f6] kt f7] (.Tuple [.Subscript (.Name "found" g1) (.Name "step" g2) g3, .Subscript (.Name "found" g4) (.Name "row" g5) g6] kt2 g7) g8,
          .Assign [.Name "sign" i1] (.UnaryOp .USub (.Name "sign" i2) i3) i4] [] i5,
       .Expr c2 j6, .Assign [.Name "ahead" k1] (.Subscript (.Subscript (.Name "found" k2) (.Name "step" k3) k4) (.Name "step" k5) k6) k7] [] l1,
      .Return (some (.BinOp (.Name "sign" z1) .Mult (.Name "ahead" z2) z3)) z4] env) Q E s := by
  have hz : n < 1000 := by omega
  obtain ⟨vs0, hl0, hv0, _⟩ := hM.top
  refine wpAny_execs_cons (wpAny_If (wpAny_isTrue_Compare1 (square_comp hh hsc hnames hr1 hcl hcf hkb hlen e.fn kc hca hcell hM hz fun D h1 tk1 hD hDn hk1 => List_ (args_nil (wpAny_newList ?_)))))
  have hk2 : Held h1 (h1.push (lstO [] 0)) := fun b o e => Heap.get?_push_of_some _ e
  have hz2 : (h1.push (lstO [] 0)).get? h1.objs.size = some (lstO [] 0) := Heap.get?_push_size _ rfl
  show wpAny _ _ (compareOp _ (.ref D) (.ref h1.objs.size)) _ _ { s with heap := h1.push (lstO [] 0), toks := tk1 }
  generalize h1.push (lstO [] 0) = h2 at *
  generalize h1.objs.size = z9 at *
  refine ne_raw (hk2 _ _ hD) hz2 hu (wpAny_truthy_bool ?_)
  rw [if_neg Bool.false_ne_true]
  have K2 : Held s.heap h2 := hk1.trans hk2
  refine wpAny_execs_nil (wpAny_execs_cons (Assign_Tuple_swapped (Tuple_ (args_cons (copy_comp hh hsc2 hnames2 hr2 hcl2 hcf2 (fun C s' px Q' E' hk h => hlist C s' px Q' E' (K2.trans hk) h) e.fn kc hca (K2.cell hcell) (K2.matN hM) hz fun Df ρ' h3 tk3 M3 ap3 new3 hk3 => args_cons (const_int (args_cons (const_int (args_nil ?_))))))) (hw := hw2)))
  unfold newTuple
  refine wpAny_newObj_type ?_ (by show _ ≤ sizeLine; rw [sizeLine_eq]; simp)
  dsimp only
  have hk4 : Held h3 (h3.push (tupO [.ref Df, .int 1 tk3, .int 1 (tk3 + 1)])) := fun b o e => Heap.get?_push_of_some _ e
  have hz4 : (h3.push (tupO [.ref Df, .int 1 tk3, .int 1 (tk3 + 1)])).get? h3.objs.size = some (tupO [.ref Df, .int 1 tk3, .int 1 (tk3 + 1)]) := Heap.get?_push_size _ rfl
  generalize h3.push (tupO [.ref Df, .int 1 tk3, .int 1 (tk3 + 1)]) = h4 at *
  generalize h3.objs.size = z8 at *
  refine unpackItems_tuple (items := #[.ref Df, .int 1 tk3, .int 1 (tk3 + 1)]) hh ⟨_, hz4, rfl, _, rfl⟩ fun h5 he5 => ?_
  have hk5 : Held h4 h5 := fun b o e9 => he5 b o (Nat.ne_of_lt (Heap.lt_size e9)) e9
  have K5 : Held s.heap h5 := K2.trans (hk3.trans (hk4.trans hk5))
  have n5 := hn.keeps K5
  show wpAny _ _ (assignInOrder [fun v => bindName env (Str.ofString "ahead") v, fun v => bindName env (Str.ofString "sign") v, fun v => bindName env (Str.ofString "found") v] [.int 1 (tk3 + 1), .int 1 tk3, .ref Df]) _ _ _
  refine assignInOrder_cons (bindName_ (store_nm e kh n5 fun h6 tk6 n6 s6 => assignInOrder_cons (bindName_ (store_nm e kg n6 fun h7 tk7 n7 s7 => assignInOrder_cons (bindName_ (store_nm e kf n7 fun h8 tk8 n8 s8 => assignInOrder_nil ?_))))))
  have S8 : Stays [L] h5 h8 := (Stays.ofBut s6.extBut).trans ((Stays.ofBut s7.extBut).trans (Stays.ofBut s8.extBut))
  have S0 : Stays [L] s.heap h8 := (stays_of_held K5).trans S8
  have npL : ∀ b ∈ [L], NoSeq h5 b := fun b hb => by rw [List.mem_singleton.mp hb]; exact noSeq_ns n5
  have M8 : MatN h8 Df ρ' M n := mat_stay S8 npL ((hk4.trans hk5).matN M3)
  have l8 : h8.IsList pa vs0.toArray := list_stay S8 npL (K5.list hl0)
  have c8 : h8.IsCell cA (some (.ref pa)) := by
    obtain ⟨o, ho, hd⟩ := K5.cell hcell
    exact ⟨o, S8 _ _ (by simpa using hcL) ho, hd⟩
  have gn8 : ∀ b ∈ L :: Df :: rowsA ρ' n, g.get? b = none := fun b hb => by
    rcases List.mem_cons.mp hb with rfl | hb
    · exact gL
    · cases q : g.get? b with
      | none => rfl
      | some o => exact absurd (K2 b o (hg b o q)) (by rw [new3 b hb]; exact fun q => nomatch q)
  have new0 : ∀ {W : List Addr} {h' : Heap}, (∀ b ∈ W, b = L ∨ b ∈ Df :: rowsA ρ' n) → Stays W h8 h' → Stays [L] s.heap h' := fun {W h'} hW st b o hb e9 => by
    refine st b o (fun hm => ?_) (S0 b o hb e9)
    rcases hW b hm with q | q
    · exact hb (by simp [q])
    · exact absurd (K2 b o e9) (by rw [new3 b q]; exact fun q => nomatch q)
  have memW : ∀ b ∈ L :: Df :: rowsA ρ' n, b = L ∨ b ∈ Df :: rowsA ρ' n := fun b hb => List.mem_cons.mp hb
  refine wpAny_execs_cons (det_for (m0 := fun y => if y = Str.ofString "found" then some (Value.ref Df) else if y = Str.ofString "sign" then some (.int 1 tk3) else if y = Str.ofString "ahead" then some (.int 1 (tk3 + 1)) else m0 y) hh e hint hsw hsw1 hw kf ks kr kg kh kc hca c8 l8 hv0 br bl (hpiv Df) (hbar Df) n8 (if_pos rfl) ((if_neg (by decide)).trans (if_pos rfl)) ((if_neg (by decide)).trans ((if_neg (by decide)).trans (if_pos rfl))) M8 ap3 hn1 hn3 hb
    (held_stay S0 (fun b hb => by rw [List.mem_singleton.mp hb]; exact gL) hg) gn8 (fun h' tk t m' hn' st => hret h' tk t m' hn' (new0 memW st)) fun h' tk m' σ d hn' st hsg hah hσ hD => ?_)
  obtain ⟨tσ, hσm⟩ := hsg
  obtain ⟨tdd, hdm⟩ := hah
  refine wpAny_execs_cons (wpAny_Return_some (wpAny_BinOp (nm e kg hn' hσm (nm e kh hn' hdm (minor_mul (by omega) ?_)))))
  rw [hD]
  exact hret h' _ _ m' hn' (new0 memW st)
end

-- part RJ
theorem offRJ : True := by
  w_top off
  trivial
/-- what stands at given addresses, as a ledger -/
noncomputable def ledOf (h : Heap) (as : List Addr) : List (Addr × Obj) := as.map fun a => (a, (h.get? a).getD (lstO [] 0))
theorem led_keys {h : Heap} {as : List Addr} : (ledOf h as).map (·.1) = as := by
  unfold ledOf
  rw [List.map_map]
  exact List.map_id as
theorem led_mem {h : Heap} {as : List Addr} {a : Addr} {o : Obj} (ha : a ∈ as) (ho : h.get? a = some o) : (a, o) ∈ ledOf h as := List.mem_map.mpr ⟨a, ha, by rw [ho]; rfl⟩
theorem mat_led {h : Heap} {pa : Addr} {ρ : Nat → Addr} {M : Nat → Nat → Int} {n : Nat} (hM : MatN h pa ρ M n) : MatL (ledOf h (pa :: rowsA ρ n)) pa ρ M n := by
  refine ⟨?_, fun i hi => ?_⟩
  · obtain ⟨vs, ⟨o, ho, hc, c, hd⟩, r⟩ := hM.top
    exact ⟨o, vs, c, led_mem (.head _) ho, hc, hd, r⟩
  · obtain ⟨ys, ⟨o, ho, hc, c, hd⟩, r⟩ := hM.row i hi
    exact ⟨o, ys, c, led_mem (.tail _ (mem_rows hi)) ho, hc, hd, r⟩
theorem mat_some {h : Heap} {pa : Addr} {ρ : Nat → Addr} {M : Nat → Nat → Int} {n : Nat} (hM : MatN h pa ρ M n) : ∀ b ∈ pa :: rowsA ρ n, ∃ o, h.get? b = some o := fun b hb => by
  rcases List.mem_cons.mp hb with rfl | hb
  · obtain ⟨vs, ⟨o, ho, _⟩, _⟩ := hM.top
    exact ⟨o, ho⟩
  · obtain ⟨i, hi, rfl⟩ := List.mem_map.mp hb
    obtain ⟨ys, ⟨o, ho, _⟩, _⟩ := hM.row i (List.mem_range.mp hi)
    exact ⟨o, ho⟩
theorem mat_news {h₀ h : Heap} {L pa : Addr} {m : Str → Option Value} {ρ : Nat → Addr} {M : Nat → Nat → Int} {n : Nat} (hM : MatN h pa ρ M n) (hn : h.Ns L m) (g0 : ∀ b ∈ pa :: rowsA ρ n, h₀.get? b = none) : News h₀ L h (ledOf h (pa :: rowsA ρ n)) := fun p hp => by
  obtain ⟨a, ha, rfl⟩ := List.mem_map.mp hp
  obtain ⟨o, ho⟩ := mat_some hM a ha
  exact ⟨by show h.get? a = some ((h.get? a).getD _); rw [ho]; rfl, fun q => mat_off hn hM (q ▸ ha), g0 a ha⟩
section
variable {w : World} {loose : List Str} {mean : ExcName → Option Value} {mg mb : Str → Option Value} {dp un : Nat} {gd : Option (List Code)} {cn : Str} {cs : Scope} {a : Addr} {ccd : Value} {cl : List (Str × Addr)} {outer : List Env} {A₀ : Around} {base h₀ : Heap} {L : Addr}
theorem call_piv {Df : Addr} {n : Nat} {x1 x2 x3 x4 : Pos} {env : Env} (e : EnvP env L) (kf : env.kindOf (Str.ofString "found") = some .local) (ks : env.kindOf (Str.ofString "step") = some .local)
    (B : Below A₀ base outer h₀) (X : (Mine.hd.heap_1 w.params).In h₀) (T : Top Mine.viewQ loose mean mg mb h₀) (hk : cs.kind = .function) (ab : h₀.objs.size ≤ L) (hz : n < 1000)
    (hd : dp + 1 < recursionLimit) (hu : un + 8 * 1 < cLine) (n1 : BuiltIn w (ktrTop dp un gd cn cs L a ccd cl outer) h₀ env L (Str.ofString "pivot_row") (.ref 111)) (z1 : keepIn (Mine.hd.heap_1 w.params) (.ref 111) = true) :
    CallPiv w (ktrTop dp un gd cn cs L a ccd cl outer) env h₀ L Df n (.Call (.Name "pivot_row" x1) [.Name "found" x2, .Name "step" x3] [] x4) := by
  intro s' Q' E' m ρ M st t hg hn mf ms hM g0 hst ret
  have F : Fr h₀ L s'.heap m := ⟨hn, hg, ab⟩
  refine Call_ (n1 _ _ _ _ _ hg hn (callWith_K X z1 (args_cons (nm e kf hn mf (args_cons (nm e ks hn ms (args_nil ⟨X.keeps hg, ?_⟩)))))))
  exact TellsH.use B F X (mat_news hM hn g0) T hk (pivot_held w _ Df ρ M n st t (mat_led hM) hst hz) hd hu fun r h' tk' F' hk' hz' hr => ret r h' tk' hk' hr
theorem call_bar {Df : Addr} {n : Nat} {x1 x2 x3 x4 x5 : Pos} {env : Env} (e : EnvP env L) (kf : env.kindOf (Str.ofString "found") = some .local) (ks : env.kindOf (Str.ofString "step") = some .local) (kh : env.kindOf (Str.ofString "ahead") = some .local)
    (B : Below A₀ base outer h₀) (X : (Mine.hd.heap_1 w.params).In h₀) (T : Top Mine.viewQ loose mean mg mb h₀) (hk : cs.kind = .function) (ab : h₀.objs.size ≤ L) (hz : n < 1000)
    (hd : dp + 1 < recursionLimit) (hu : un + 8 * 1 < cLine) (n1 : BuiltIn w (ktrTop dp un gd cn cs L a ccd cl outer) h₀ env L (Str.ofString "bareiss_step") (.ref 118)) (z1 : keepIn (Mine.hd.heap_1 w.params) (.ref 118) = true) :
    CallBar w (ktrTop dp un gd cn cs L a ccd cl outer) env h₀ L Df n (.Call (.Name "bareiss_step" x1) [.Name "found" x2, .Name "step" x3, .Name "ahead" x5] [] x4) := by
  intro s' Q' E' m ρ M st d t td hg hn mf ms ma hM ap g0 hst hd0 hd1 hb ret
  have F : Fr h₀ L s'.heap m := ⟨hn, hg, ab⟩
  refine Call_ (n1 _ _ _ _ _ hg hn (callWith_K X z1 (args_cons (nm e kf hn mf (args_cons (nm e ks hn ms (args_cons (nm e kh hn ma (args_nil ⟨X.keeps hg, ?_⟩)))))))))
  refine bareiss_held w _ Df ρ M n st d t td (mat_led hM) ap hst hz hd0 hd1 hb _ _ _ _ _ _ _ _ _ _ _ _ _ _ _ _ _ _ _ _ _ B F X (mat_news hM hn g0) T hk hd hu fun r h' tk' F' st' hz' hr => ?_
  obtain ⟨rfl, hM'⟩ := hr
  rw [led_keys] at st'
  exact ret h' tk' st' hM'
end
set_option maxHeartbeats 4000000 in
theorem det_held (w : World) (need : List (Addr × Obj)) (pa : Addr) (ρ : Nat → Addr) (M : Nat → Nat → Int) (n : Nat) (hM : MatL need pa ρ M n) (hn1 : 1 ≤ n) (hn3 : n ≤ 3) (hb : ∀ i j, i < n → j < n → Bd 2 (M i j)) : TellsH w 3 123 [.ref pa] need (fun _ _ r => ∃ t, r = .int (detN M n) t) := by
  unfold TellsH
  intro loose mean mg mb dp un gd cn cs a ccd cl outer A₀ base h₀ L m s Q E hB hF hX hN hT hcs hdp hun hret
  refine wpAny_call ?_
  k_dflt (refine' enterC2 ?k1 ?k2 ?k3 ?k4 ?k5 (fun _ h => h) ?kA ?kF ?kK ?k6 ?k7 ?k8 ?k9 ?kB ?kD ?_ ?c2 ?c3 ?c4)
  case kA => exact rfl
  case kF => exact rfl
  case kK => assumption
  case k1 => k_asm
  case k2 => k_asm
  case k3 => k_asm
  case k4 => k_asm
  case k5 => k_asm
  case k6 => k_is
  case k7 => k_is
  case k8 => ktr_room
  case k9 => exact BindsTo.of_eq rfl
  case kB => exact rfl
  case kD => decide +kernel
  case c2 => exact rfl
  case c3 => exact rfl
  case c4 => exact rfl
  intro g' L' h' tk' cells' FG' F' N' Y' B' X' T' l1 G' sz9
  obtain ⟨o1, hE, d1⟩ := CellsAre.one Y'
  subst hE
  have d1 : o1.data = .cell (some (.ref pa)) := d1
  have F' : Fr g' L' h' (fun _ => none) := F'
  have nA := N' (L' + 1, o1) (.head _)
  have Nn : News g' L' h' need := fun p hp => N' p (List.mem_append_right _ hp)
  have frOf : ∀ (s' : Shared) (m : Str → Option Value), Held g' s'.heap → s'.heap.Ns L' m → Fr g' L' s'.heap m := fun s' m hk hn => ⟨hn, hk, F'.above⟩
  show wpAny _ _ (execs _ _) _ _ _
  k_dflt (refine' det_body (g := g') (L := L') (cA := L' + 1) (pa := pa) (M := M) (ρ := ρ) (n := n) ?ihh ?ihu ?ie ?iint ?isw ?isw1 ?iw ?iw2 ?ikf ?iks ?ikr ?ikg ?ikh ?ikc ?ica ⟨o1, nA.1, d1⟩ nA.2.1 ?isc ?inames ?ir1 ?icl ?icf ?ikb ?ilen ?isc2 ?inames2 ?ir2 ?icl2 ?icf2 ?ilist ?ibr ?ibl ?ipiv ?ibar F'.ns (hM.at_ Nn) hn1 hn3 hb F'.keep (Heap.get?_none_of_le F'.above) ?iret)
  case ihh => rfl
  case ihu => ktr_units
  case ie => exact ⟨rfl, rfl, rfl⟩
  case iint => rfl
  case isw => intro l; rfl
  case isw1 => intro l; rfl
  case iw => rfl
  case iw2 => rfl
  case ikf => rfl
  case iks => rfl
  case ikr => rfl
  case ikg => rfl
  case ikh => rfl
  case ikc => rfl
  case ica => with_unfolding_all rfl
  case isc => rfl
  case inames => decide
  case ir1 => rfl
  case icl => with_unfolding_all rfl
  case icf => intro n; with_unfolding_all rfl
  case ikb => intro C; first | exact .inr rfl | exact .inl rfl
  case ilen =>
    intro C s' px Q' E' hk h
    have F4 : Fr g' L' s'.heap (fun _ => none) := fr_held F' hk
    walk1
    exact h
  case isc2 => rfl
  case inames2 => decide
  case ir2 => rfl
  case icl2 => with_unfolding_all rfl
  case icf2 => intro n; with_unfolding_all rfl
  case ilist =>
    intro C s' px Q' E' hk h
    have F4 : Fr g' L' s'.heap (fun _ => none) := fr_held F' hk
    walk1
    exact h
  case ibr => intro pos s' m Q E hh hn h; have F4 := frOf s' m hh hn; walk1; exact h
  case ibl => intro pos s' m Q E hh hn h; have F4 := frOf s' m hh hn; walk1; exact h
  case ipiv =>
    intro Df
    k_dflt (refine' call_piv ?e1 ?kf ?ks B' X' T' ?hk F'.above (by omega) ?hd ?hu ?n1 ?z1)
    case e1 => exact ⟨rfl, rfl, rfl⟩
    case kf => rfl
    case ks => rfl
    case hk => rfl
    case hd => ktr_room
    case hu => ktr_units
    case n1 => intro pos s' m Q E hh hn h; have F4 := frOf s' m hh hn; walk1; exact h
    case z1 => with_unfolding_all rfl
  case ibar =>
    intro Df
    k_dflt (refine' call_bar ?e1 ?kf ?ks ?kh B' X' T' ?hk F'.above (by omega) ?hd ?hu ?n1 ?z1)
    case e1 => exact ⟨rfl, rfl, rfl⟩
    case kf => rfl
    case ks => rfl
    case kh => rfl
    case hk => rfl
    case hd => ktr_room
    case hu => ktr_units
    case n1 => intro pos s' m Q E hh hn h; have F4 := frOf s' m hh hn; walk1; exact h
    case z1 => with_unfolding_all rfl
  case iret =>
    intro h'' tk t m' hn st
    exact leaveK_ (fr_stay F' (fr_none F') st hn) PyProof.Rows.News.nil fun F9 _ => hret _ h'' tk F9 (back_all hN G' F' Nn sz9 st) (fr_size hn sz9) ⟨t, rfl⟩

-- part RP
theorem offRP : True := by
  w_top off
  trivial
noncomputable def perm3 (a b c d e f g h i : Int) : Int := a * e * i + a * f * h + b * d * i + b * f * g + c * d * h + c * e * g
noncomputable def permT (M : Nat → Nat → Int) (i j : Nat) : Int := if i = j then 0 else M 0 i * M 1 j * M 2 (3 - i - j)
theorem perm_sum (M : Nat → Nat → Int) : sumTo (fun i => sumTo (permT M i) 3) 3 = perm3 (M 0 0) (M 0 1) (M 0 2) (M 1 0) (M 1 1) (M 1 2) (M 2 0) (M 2 1) (M 2 2) := by
  simp [sumTo, permT, perm3, Int.add_assoc]
section
variable {w : World} {A : Around} {E : Value → Shared → Prop} {s : Shared} {env : Env}
set_option maxHeartbeats 1000000 in
theorem perm_in {L pa : Addr} {ρ : Nat → Addr} {M : Nat → Nat → Int} {i : Nat} {S : Int} {t1 tf : Tok} {g : Heap} {m0 : Str → Option Value} {Q : Flow → Shared → Prop}
    {p1 p2 p3 p4 p5 x1 x2 x3 x4 y1 y2 y3 y4 y5 y6 y7 y8 y9 y10 y11 y12 y13 y14 y15 y16 y17 y18 y19 y20 y21 y22 y23 y24 y25 : Pos} {k1 k2 k3 k4 k5 : Nat}
    (hh : A.handled = none) (e : EnvP env L) (kf : env.kindOf (Str.ofString "found") = some .local) (ka : env.kindOf (Str.ofString "a") = some .local) (k1' : env.kindOf (Str.ofString "one") = some .local) (k2' : env.kindOf (Str.ofString "other") = some .local)
    (br : BuiltIn w A g env L (Str.ofString "range") (.type "range"))
    (hn : s.heap.Ns L m0) (ma : m0 (Str.ofString "a") = some (.ref pa)) (m1 : m0 (Str.ofString "one") = some (.int (i : Int) t1)) (mf : m0 (Str.ofString "found") = some (.int S tf)) (hM : MatN s.heap pa ρ M 3) (hi : i < 3) (hg : Held g s.heap) (hb : ∀ i j, Bd 2 (M i j))
    (hQ : ∀ h' tk m', h'.Ns L m' → Stays [L] s.heap h' → (∃ t, m' (Str.ofString "found") = some (.int (S + sumTo (permT M i) 3) t)) → (∀ y, y ≠ Str.ofString "found" → y ≠ Str.ofString "other" → m' y = m0 y) → Q .next { s with heap := h', toks := tk }) :
    wpAny (model Pg w) A (exec (.For (.Name "other" p1) (.Call (.Name "range" p2) [.Constant (.int 3) k1 p3] [] p4)
      [.If (.Compare (.Name "one" x1) [.NotEq] [.Name "other" x2] x3)
        [.Assign [.Name "found" y1] (.BinOp (.Name "found" y2) .Add (.BinOp (.BinOp (.Subscript (.Subscript (.Name "a" y3) (.Constant (.int 0) k2 y4) y5) (.Name "one" y6) y7) .Mult (.Subscript (.Subscript (.Name "a" y8) (.Constant (.int 1) k3 y9) y10) (.Name "other" y11) y12) y13) .Mult (.Subscript (.Subscript (.Name "a" y14) (.Constant (.int 2) k4 y15) y16) (.BinOp (.BinOp (.Constant (.int 3) k5 y17) .Sub (.Name "one" y18) y19) .Sub (.Name "other" y20) y21) y22) y23) y24) y25] [] x4] [] p5) env) Q E s := by
  have np : ∀ b ∈ [L], NoSeq s.heap b := fun b hb => by rw [List.mem_singleton.mp hb]; exact noSeq_ns hn
  refine for_range (a := 0) (n := 3) (W := [L]) (g := hideAll s.heap [L]) (J := fun k h => (∃ m, h.Ns L m ∧ (∃ t, m (Str.ofString "found") = some (.int (S + sumTo (permT M i) k) t)) ∧ ∀ y, y ≠ Str.ofString "found" → y ≠ Str.ofString "other" → m y = m0 y) ∧ Stays [L] s.heap h) hh ?_ (by omega) (by omega)
    (fun i h hj => hide_held hj.2) (fun i h h' hj k => ⟨let ⟨m, a, b⟩ := hj.1; ⟨m, k.ns a, b⟩, hide_stays hj.2 k⟩) ?_ (fun _ _ => rfl) ?_ ?_
  · refine Call_ (br _ _ _ _ _ hg hn (PySem.Pv.callWith_type1 (args_cons (const_int (args_nil ?_)))))
    exact range_one (J := fun h => (∃ m, h.Ns L m ∧ (∃ t, m (Str.ofString "found") = some (.int (S + sumTo (permT M i) 0) t)) ∧ ∀ y, y ≠ Str.ofString "found" → y ≠ Str.ofString "other" → m y = m0 y) ∧ Stays [L] s.heap h) fun h' hk => ⟨⟨m0, hn.keeps hk, ⟨tf, by rw [mf]; simp [sumTo]⟩, fun _ _ _ => rfl⟩, stays_of_held hk⟩
  · rintro i h ⟨⟨m, ⟨o, es, ep, ho, hd, _⟩, _⟩, _⟩ b hb
    rw [List.mem_singleton.mp hb]
    exact ⟨o, ho, fun fs q => by rw [hd] at q; cases q⟩
  · rintro j t h tk E' hj ⟨⟨m, hm, ⟨tf, mf⟩, hme⟩, hs⟩
    refine wpAny_assign_Name (store_nm e k2' hm fun h1 tk1 hn1 hs1 => ?_)
    rw [Int.zero_add] at hn1
    have st1 : Stays [L] s.heap h1 := hs.trans (Stays.ofBut hs1.extBut)
    have M1 := mat_stay st1 np hM
    have g1 : ∀ y, y ≠ Str.ofString "found" → y ≠ Str.ofString "other" → (if y = Str.ofString "other" then some (Value.int (j : Int) t) else m y) = m0 y := fun y a b => by rw [if_neg b, hme y a b]
    have a1 := (g1 (Str.ofString "a") (by decide) (by decide)).trans ma
    have o2 : (fun y => if y = Str.ofString "other" then some (Value.int (j : Int) t) else m y) (Str.ofString "other") = some (.int (j : Int) t) := if_pos rfl
    have o1 := (g1 (Str.ofString "one") (by decide) (by decide)).trans m1
    refine wpAny_execs_cons (wpAny_If (wpAny_isTrue_Compare1 (nm e k1' hn1 o1 (nm e k2' hn1 (if_pos rfl) (PyProof.Rows.ne_int (wpAny_truthy_bool ?_))))))
    by_cases q : i = j
    · subst q
      rw [show ((i : Int) != (i : Int)) = false by simp, if_neg Bool.false_ne_true]
      refine wpAny_execs_nil (wpAny_execs_nil (.inr ⟨rfl, h1, _, rfl, Stays.ofBut hs1.extBut, ⟨_, hn1, ⟨tf, ?_⟩, g1⟩, st1⟩))
      refine (if_neg (by decide)).trans (mf.trans ?_)
      simp [sumTo, permT]
    · rw [show ((i : Int) != (j : Int)) = true by simp; omega, if_pos rfl]
      have lt3 : 3 - i - j < 3 := by omega
      have e3 : (3 : Int) - (i : Int) - (j : Int) = ((3 - i - j : Nat) : Int) := by omega
      have bl : ∀ {x y : Int}, Bd x y → x < 1073741824 → -1073741824 < y ∧ y < 1073741824 := fun h h' => bd_lt h h'
      obtain ⟨vs, hl, hvl, hvs⟩ := M1.top
      have rowAt : ∀ (r c : Nat) (kk : Nat) (e2 : Expr) (q1 q2 q3 q4 : Pos) (s' : Shared) (Q' : Value → Shared → Prop), s'.heap = h1 → r < 3 → c < 3 → (∀ (s'' : Shared) (Q'' : Value → Shared → Prop), s''.heap = h1 → (∀ t tk, Q'' (.int (c : Int) t) { s'' with toks := tk }) → wpAny (model Pg w) A (eval e2 env) Q'' E' s'') →
          (∀ l k u, subscripted e2 false (.ref l) (.int (k : Int) u) = operate [.ref l, .int (k : Int) u] (getItem (.ref l) (.int (k : Int) u))) → (∀ t tk, Q' (.int (M r c) t) { s' with toks := tk }) → wpAny (model Pg w) A (eval (.Subscript (.Subscript (.Name "a" q1) (.Constant (.int (r : Int)) kk q2) q3) e2 q4) env) Q' E' s' := by
        rintro r c kk e2 q1 q2 q3 q4 s' Q' rfl hr hc he hsub hq
        obtain ⟨ys, hyl, hyn, hy⟩ := M1.row r hr
        obtain ⟨t', hy⟩ := hy c hc
        refine Subscript_ (Subscript_ (nm e ka hn1 a1 (const_int (item_raw hl (by omega) (hvs r hr) (he _ _ rfl fun t tk => item_raw hyl (by omega) hy (hq t' tk) (hsub _ _ _)) (by with_unfolding_all rfl)))))
      refine wpAny_execs_cons (wpAny_Assign_Name (wpAny_BinOp (nm e kf hn1 ((if_neg (by decide)).trans mf) (wpAny_BinOp (wpAny_BinOp ?_)))))
      refine rowAt 0 i _ _ _ _ _ _ _ _ rfl (by omega) hi (fun s'' Q'' hs'' hq => nm e k1' (m := fun y => if y = Str.ofString "other" then some (Value.int (j : Int) t) else m y) (by rw [hs'']; exact hn1) o1 (hq _ _)) (by intros; with_unfolding_all rfl) fun t3 tk3 => ?_
      refine rowAt 1 j _ _ _ _ _ _ _ _ rfl (by omega) hj (fun s'' Q'' hs'' hq => nm e k2' (m := fun y => if y = Str.ofString "other" then some (Value.int (j : Int) t) else m y) (by rw [hs'']; exact hn1) o2 (hq _ _)) (by intros; with_unfolding_all rfl) fun t4 tk4 => ?_
      refine minor_mul (bl (hb _ _) (by decide)) ?_
      refine rowAt 2 (3 - i - j) _ _ _ _ _ _ _ _ rfl (by omega) lt3 (fun s'' Q'' hs'' hq => wpAny_BinOp (wpAny_BinOp (const_int (nm e k1' (m := fun y => if y = Str.ofString "other" then some (Value.int (j : Int) t) else m y) (by rw [hs'']; exact hn1) o1 (PyProof.Rows.sub_int (nm e k2' (m := fun y => if y = Str.ofString "other" then some (Value.int (j : Int) t) else m y) (by rw [hs'']; exact hn1) o2 (PyProof.Rows.sub_int ?_))))))) (by intros; with_unfolding_all rfl) fun t5 tk5 => ?_
      · rw [e3]; exact hq _ _
      refine minor_mul (bl (bd_mul (hb _ _) (hb _ _)) (by decide)) (PyProof.Rows.add_int (store_nm e kf hn1 fun h2 tk2 hn2 hs2 => ?_))
      refine wpAny_execs_nil (wpAny_execs_nil (.inr ⟨rfl, h2, _, rfl, (Stays.ofBut hs1.extBut).trans (Stays.ofBut hs2.extBut), ⟨_, hn2, ⟨_, (if_pos rfl).trans (congrArg (fun z => some (Value.int z _)) ?_)⟩, fun y a b => by rw [if_neg a]; exact g1 y a b⟩, st1.trans (Stays.ofBut hs2.extBut)⟩))
      simp only [sumTo, permT, if_neg q, Int.add_assoc]
  · rintro h' tk ⟨⟨m, hm, hf, hme⟩, hs⟩
    exact hQ h' tk m hm hs hf hme
set_option maxHeartbeats 1000000 in
theorem perm_out {L pa : Addr} {ρ : Nat → Addr} {M : Nat → Nat → Int} {g : Heap} {m0 : Str → Option Value} {Q : Flow → Shared → Prop}
    {p1 p2 p3 p4 p5 x1 x2 x3 x4 y1 y2 y3 y4 y5 y6 y7 y8 y9 y10 y11 y12 y13 y14 y15 y16 y17 y18 y19 y20 y21 y22 y23 y24 y25 z1 z2 z3 z4 z5 z6 z7 z8 z9 z10 : Pos} {k1 k2 k3 k4 k5 k6 k7 : Nat}
    (hh : A.handled = none) (e : EnvP env L) (kf : env.kindOf (Str.ofString "found") = some .local) (ka : env.kindOf (Str.ofString "a") = some .local) (k1' : env.kindOf (Str.ofString "one") = some .local) (k2' : env.kindOf (Str.ofString "other") = some .local)
    (br : BuiltIn w A g env L (Str.ofString "range") (.type "range"))
    (hn : s.heap.Ns L m0) (ma : m0 (Str.ofString "a") = some (.ref pa)) (hM : MatN s.heap pa ρ M 3) (hg : Held g s.heap) (gL : g.get? L = none) (hb : ∀ i j, Bd 2 (M i j))
    (hQ : ∀ h' tk t m', h'.Ns L m' → Stays [L] s.heap h' → Q (.ret (.int (perm3 (M 0 0) (M 0 1) (M 0 2) (M 1 0) (M 1 1) (M 1 2) (M 2 0) (M 2 1) (M 2 2)) t)) { s with heap := h', toks := tk }) :
    wpAny (model Pg w) A (execs [.Assign [.Name "found" z1] (.Constant (.int 0) k6 z2) z3, .For (.Name "one" z4) (.Call (.Name "range" z5) [.Constant (.int 3) k7 z6] [] z7) [.For (.Name "other" p1) (.Call (.Name "range" p2) [.Constant (.int 3) k1 p3] [] p4)
      [.If (.Compare (.Name "one" x1) [.NotEq] [.Name "other" x2] x3)
        [.Assign [.Name "found" y1] (.BinOp (.Name "found" y2) .Add (.BinOp (.BinOp (.Subscript (.Subscript (.Name "a" y3) (.Constant (.int 0) k2 y4) y5) (.Name "one" y6) y7) .Mult (.Subscript (.Subscript (.Name "a" y8) (.Constant (.int 1) k3 y9) y10) (.Name "other" y11) y12) y13) .Mult (.Subscript (.Subscript (.Name "a" y14) (.Constant (.int 2) k4 y15) y16) (.BinOp (.BinOp (.Constant (.int 3) k5 y17) .Sub (.Name "one" y18) y19) .Sub (.Name "other" y20) y21) y22) y23) y24) y25] [] x4] [] p5] [] z8, .Return (some (.Name "found" z9)) z10] env) Q E s := by
  have np : ∀ b ∈ [L], NoSeq s.heap b := fun b hb => by rw [List.mem_singleton.mp hb]; exact noSeq_ns hn
  have gL' : ∀ b ∈ [L], g.get? b = none := fun b hb => by rw [List.mem_singleton.mp hb]; exact gL
  refine wpAny_execs_cons (wpAny_Assign_Name (const_int (store_nm e kf hn fun h0 tk0 n0 s0 => ?_)))
  have S0 : Stays [L] s.heap h0 := Stays.ofBut s0.extBut
  have a0 : (fun y => if y = Str.ofString "found" then some (Value.int 0 s.toks) else m0 y) (Str.ofString "a") = some (.ref pa) := (if_neg (by decide)).trans ma
  refine wpAny_execs_cons (for_range (a := 0) (n := 3) (W := [L]) (g := hideAll s.heap [L]) (J := fun k h => (∃ m, h.Ns L m ∧ (∃ t, m (Str.ofString "found") = some (.int (sumTo (fun i => sumTo (permT M i) 3) k) t)) ∧ m (Str.ofString "a") = some (.ref pa)) ∧ Stays [L] s.heap h) hh ?_ (by omega) (by omega)
    (fun i h hj => hide_held hj.2) (fun i h h' hj k => ⟨let ⟨m, a, b⟩ := hj.1; ⟨m, k.ns a, b⟩, hide_stays hj.2 k⟩) ?_ (fun _ _ => rfl) ?_ ?_)
  · refine Call_ (br _ _ _ _ _ (held_stay S0 gL' hg) n0 (PySem.Pv.callWith_type1 (args_cons (const_int (args_nil ?_)))))
    exact range_one (J := fun h => (∃ m, h.Ns L m ∧ (∃ t, m (Str.ofString "found") = some (.int (sumTo (fun i => sumTo (permT M i) 3) 0) t)) ∧ m (Str.ofString "a") = some (.ref pa)) ∧ Stays [L] s.heap h) fun h' hk => ⟨⟨_, n0.keeps hk, ⟨_, if_pos rfl⟩, a0⟩, S0.trans (stays_of_held hk)⟩
  · rintro i h ⟨⟨m, ⟨o, es, ep, ho, hd, _⟩, _⟩, _⟩ b hb
    rw [List.mem_singleton.mp hb]
    exact ⟨o, ho, fun fs q => by rw [hd] at q; cases q⟩
  · rintro i t h tk E' hi ⟨⟨m, hm, ⟨tf, mf⟩, ma'⟩, hs⟩
    refine wpAny_assign_Name (store_nm e k1' hm fun h1 tk1 hn1 hs1 => ?_)
    rw [Int.zero_add] at hn1
    have st1 : Stays [L] s.heap h1 := hs.trans (Stays.ofBut hs1.extBut)
    refine wpAny_execs_cons (perm_in (i := i) (M := M) (m0 := fun y => if y = Str.ofString "one" then some (Value.int (i : Int) t) else m y) hh e kf ka k1' k2' br hn1 ((if_neg (by decide)).trans ma') (if_pos rfl) ((if_neg (by decide)).trans mf) (mat_stay st1 np hM) hi (held_stay st1 gL' hg) hb fun h' tk m' hn' st' hf' hm' => wpAny_execs_nil (.inr ⟨rfl, h', _, rfl, (Stays.ofBut hs1.extBut).trans st', ⟨m', hn', hf', (hm' _ (by decide) (by decide)).trans ((if_neg (by decide)).trans ma')⟩, st1.trans st'⟩))
  · rintro h' tk ⟨⟨m, hm, ⟨t, mf⟩, _⟩, hs⟩
    rw [perm_sum] at mf
    exact wpAny_execs_cons (wpAny_Return_some (nm e kf hm mf (hQ h' tk t m hm hs)))
end
set_option maxHeartbeats 2000000 in
theorem perm_held (w : World) (need : List (Addr × Obj)) (pa : Addr) (ρ : Nat → Addr) (M : Nat → Nat → Int) (hM : MatL need pa ρ M 3) (hb : ∀ i j, Bd 2 (M i j)) : TellsH w 1 152 [.ref pa] need (fun _ _ r => ∃ t, r = .int (perm3 (M 0 0) (M 0 1) (M 0 2) (M 1 0) (M 1 1) (M 1 2) (M 2 0) (M 2 1) (M 2 2)) t) := by
  unfold TellsH
  intro loose mean mg mb dp un gd cn cs a ccd cl outer A₀ base h₀ L m s Q E hB hF hX hN hT hcs hdp hun hret
  refine wpAny_call ?_
  k_dflt (refine' enterG2 ?k1 ?k2 ?k3 ?k4 ?k5 (fun _ h => h) ?kA ?kF ?kK ?k6 ?k7 ?k8 ?k9 ?kB ?_ ?c2 ?c3 ?c4 ?c5)
  case kA => exact rfl
  case kF => exact rfl
  case kK => assumption
  case k1 => k_asm
  case k2 => k_asm
  case k3 => k_asm
  case k4 => k_asm
  case k5 => k_asm
  case k6 => k_is
  case k7 => k_is
  case k8 => ktr_room
  case k9 => exact BindsTo.of_eq rfl
  case kB => exact locs rfl
  case c2 => exact rfl
  case c3 => exact rfl
  case c4 => exact rfl
  case c5 => decide
  intro g' L' h' FG' F' N' B' X' T' l1 G' sz9
  have F' : Fr g' L' h' (fun y => [(Str.ofString "a", Value.ref pa)].lookup y) := F'
  have frOf : ∀ (s' : Shared) (m : Str → Option Value), Held g' s'.heap → s'.heap.Ns L' m → Fr g' L' s'.heap m := fun s' m hk hn => ⟨hn, hk, F'.above⟩
  show wpAny _ _ (execs _ _) _ _ _
  k_dflt (refine' perm_out (g := g') (L := L') (M := M) (ρ := ρ) ?hh ?e ?kf ?ka ?k1 ?k2 ?br F'.ns ?ma (hM.at_ N') F'.keep (Heap.get?_none_of_le F'.above) hb ?hQ)
  case hh => rfl
  case e => exact ⟨rfl, rfl, rfl⟩
  case kf => rfl
  case ka => rfl
  case k1 => rfl
  case k2 => rfl
  case br => intro pos s' m Q E hh hn h; have F4 := frOf s' m hh hn; walk1; exact h
  case ma => rfl
  case hQ => intro h'' tk t m' hn st; exact leaveK_ (fr_stay F' (fr_none F') st hn) PyProof.Rows.News.nil fun F9 _ => hret _ h'' tk F9 (back_all hN G' F' N' sz9 st) (fr_size hn sz9) ⟨t, rfl⟩

-- part RL
section
variable {prog : Program} {w : World} {A : Around} {E : Value → Shared → Prop} {s : Shared} {env : Env}
/-- the iterable is enumerate of a list -/
theorem kt_enum {elts : List Expr} {k : Nat} {pos : Pos} {l : Addr} {its : Array Value} {W : List Addr} {g h : Heap} {tk : Nat} {J : Heap → Prop} (hh : A.handled = none) (hl : h.IsList l its) (hlW : l ∉ W) (hg : Held g h) (hj : ∀ h', Held h h' → J h') :
    wpAny (model prog w) A (call (.type "enumerate") [.ref l]) (fun xv s₁ => wpAny (model prog w) A (pyIter xv) (KtSrc prog w A (.Tuple elts k pos) its.size (EnumP its) W g s J) E s₁) E { s with heap := h, toks := tk } := by
  refine call_enumerate_list hl fun h' hE hI hsz hk => ?_
  refine wpAny_pyIter_enum hE ?_
  have hlt : @LT.lt Nat _ l h.objs.size := by obtain ⟨o, e, _⟩ := hl; exact Heap.lt_size e
  have K := KTurns.ofWalksU (elts := elts) (k := k) (pos := pos) (WalksT.enumerate (prog := prog) (w := w) (A := A) hh (h.objs.size + 1) h.objs.size l (Nat.succ_ne_self _) (Nat.ne_of_lt (Nat.lt_succ_of_lt hlt)) (Nat.ne_of_lt hlt) its).toU
  have fl : ∀ {i : Int} {old : Value} {h9 : Heap} {k9 : Nat}, IsEnum h9 (h.objs.size + 1) h.objs.size i old → h9.IsListIter h.objs.size l k9 → Flds [h.objs.size + 1, h.objs.size] h9 := fun {i old h9 k9} he ⟨o, e, _, hd⟩ b hb => by
    rcases List.mem_cons.mp hb with rfl | hb
    · exact ⟨_, he, _, rfl⟩
    · rw [List.mem_singleton.mp hb]; exact ⟨o, e, _, hd⟩
  refine ⟨_, _, _, _, _, h', tk, rfl, rfl, kturns_mono K ?_, ⟨⟨_, hE⟩, hI, hl.at fun o e => hk _ o e⟩, fun b hb => ?_, fun b hb => ?_, fun i h9 ⟨⟨_, he⟩, hi, _⟩ => fl he hi, ?_, hj _ fun b o e => hk b o e⟩
  · rintro i v h9 ⟨T, vals, rfl, ⟨t, x, hx, rfl⟩, hT⟩
    exact ⟨T, t, x, rfl, hx, hT⟩
  · cases e : g.get? b with
    | none => rfl
    | some o =>
      have z : @LT.lt Nat _ b h.objs.size := Heap.lt_size (hg _ _ e)
      rcases List.mem_cons.mp hb with rfl | hb
      · omega
      · rw [List.mem_singleton.mp hb] at z; omega
  · rcases List.mem_cons.mp hb with rfl | hb
    · exact .inl (.head _)
    · rcases List.mem_cons.mp hb with rfl | hb
      · exact .inl (.tail _ (.head _))
      · rw [List.mem_singleton.mp hb]; exact .inr hlW
  · rintro i v h9 ⟨T, vals, rfl, _, _, ⟨x, ho⟩, hi, _⟩
    exact fun b hb => by
      rcases List.mem_cons.mp hb with rfl | hb
      · exact ⟨_, ho, _, rfl⟩
      · obtain ⟨o, e, _, hd⟩ := hi
        rw [List.mem_singleton.mp hb]; exact ⟨o, e, _, hd⟩
end
/-- an entry of a polynomial, in a heap -/
structure EntR (hb h : Heap) (x : List Int × Addr × Value) (q : Mon × Int) : Prop where
  key : x.1 = keyL q.1
  obj : KeyIs h x.2.1 q.1
  new : hb.get? x.2.1 = none
  val : ∃ va t t', x.2.2 = .ref va ∧ h.get? va = some (ratO q.2 t t') ∧ hb.get? va = none
noncomputable def PolyR (w : World) (hb h : Heap) (d : Addr) (l : PL) : Prop := ∃ o xs, h.get? d = some o ∧ DObj w o xs ∧ Paired (EntR hb h) xs l
theorem EntR.keep {hb g h h' : Heap} {x : List Int × Addr × Value} {q : Mon × Int} (e : EntR hb h x q) (k : KeepS g h h') : EntR hb h' x q :=
  ⟨e.key, k.key e.obj, e.new, let ⟨va, t, t', a, b, c⟩ := e.val; ⟨va, t, t', a, k.seq b, c⟩⟩
theorem EntR.stay {hb h h' : Heap} {W : List Addr} {x : List Int × Addr × Value} {q : Mon × Int} (e : EntR hb h x q) (st : Stays W h h') (hp : ∀ b ∈ W, NoSeq h b) : EntR hb h' x q :=
  ⟨e.key, key_stay st hp e.obj, e.new, let ⟨va, t, t', a, b, c⟩ := e.val; ⟨va, t, t', a, seq_stay st hp b ⟨_, _, rfl⟩, c⟩⟩
theorem KeepS.polyR {hb g h h' : Heap} {w : World} {d : Addr} {l : PL} (k : KeepS g h h') (x : PolyR w hb h d l) : PolyR w hb h' d l := by
  obtain ⟨o, xs, ho, D, P⟩ := x
  refine ⟨o, xs, k _ _ ho (.inl fun fs q => ?_), D, paired_mono (fun y q f => f.keep k) P⟩
  obtain ⟨es, ep, _, hd, _⟩ := D.is
  rw [hd] at q; cases q
theorem polyR_stay {w : World} {hb h h' : Heap} {W : List Addr} {d : Addr} {l : PL} (x : PolyR w hb h d l) (st : Stays W h h') (hp : ∀ b ∈ W, NoSeq h b) (hd : d ∉ W) : PolyR w hb h' d l := by
  obtain ⟨o, xs, ho, D, P⟩ := x
  exact ⟨o, xs, st _ _ hd ho, D, paired_mono (fun y q f => f.stay st hp) P⟩
theorem polyR_dict {w : World} {hb h : Heap} {d : Addr} {l : PL} (x : PolyR w hb h d l) : ∃ o, h.get? d = some o ∧ ∃ es ep, o.data = .dict es ep := by
  obtain ⟨o, xs, ho, D, _⟩ := x
  obtain ⟨es, ep, _, hd, _⟩ := D.is
  exact ⟨o, ho, es, ep, hd⟩
theorem atKey_no {hb h : Heap} {p : Mon} {xs : Ents} {l : PL} (P : Paired (EntR hb h) xs l) (hl : lk l p = none) : atKey xs (keyL p) = none := by
  induction P with
  | nil => rfl
  | @cons x q xs l f _ ih =>
    by_cases h9 : q.1 = p
    · simp [lk, h9] at hl
    · have h' : ¬ x.1 = keyL p := fun e => h9 (keyL_inj (f.key.symm.trans e))
      have e2 : atKey (x :: xs) (keyL p) = atKey xs (keyL p) := by simp [atKey, List.find?_cons, h']
      rw [e2]
      exact ih (by rw [← hl]; simp [lk, h9])
section
variable {w : World} {A : Around} {E : Value → Shared → Prop} {s : Shared} {env : Env}
theorem poly_put {hb : Heap} {d ka va : Addr} {l : PL} {p : Mon} {c : Int} {t t' : Tok} {Q : Unit → Shared → Prop} (hT : PolyR w hb s.heap d l) (hk : KeyIs s.heap ka p) (hl : lk l p = none) (hkn : hb.get? ka = none) (hv : s.heap.get? va = some (ratO c t t')) (hvn : hb.get? va = none) (hu : A.units + 1 < cLine) (hsz : l.length ≤ sizeLine)
    (h : ∀ h' tk, Heap.SameBut d s.heap h' → PolyR w hb h' d (l ++ [(p, c)]) → Q () { s with heap := h', toks := tk }) :
    wpAny (model Pg w) A (setItem (.ref d) (.ref ka) (.ref va)) Q E s := by
  have hd9 := polyR_dict hT
  obtain ⟨o, xs, ho, D, P⟩ := hT
  have keys : KeysAt w s.heap xs := fun x hx => by
    have : ∀ {xs : Ents} {l : PL}, Paired (EntR hb s.heap) xs l → ∀ x ∈ xs, KeyAt w s.heap x.1 x.2.1 := by
      intro xs l P
      induction P with
      | nil => intro x hx; cases hx
      | cons f _ ih =>
        intro x hx
        rcases List.mem_cons.mp hx with rfl | hx
        · rw [f.key]; exact keyIs_at f.obj
        · exact ih x hx
    exact this P x hx
  refine wpAny_setItem_heap (knd := IK w) hu (keyIs_at hk) (D.at ho keys) (fun h' hD hs => ?_) (by rw [paired_length P]; exact hsz)
  obtain ⟨o', ho', D'⟩ := DObj.of hD
  rw [storedH_new (atKey_no P hl)] at D'
  have st : Stays [d] s.heap h' := Stays.ofBut hs.extBut
  have np : ∀ b ∈ [d], NoSeq s.heap b := fun b hb => by
    rw [List.mem_singleton.mp hb]
    obtain ⟨o9, ho9, es, ep, hd⟩ := hd9
    exact fun o' e' i n q => by rw [ho9] at e'; cases e'; rw [hd] at q; cases q
  exact h h' _ hs ⟨o', _, ho', D', Paired.snoc (paired_mono (fun x q f => f.stay st np) P) ⟨rfl, key_stay st np hk, hkn, ⟨va, t, t', rfl, seq_stay st np hv ⟨_, _, rfl⟩, hvn⟩⟩⟩
noncomputable def unitM (k : Nat) : Mon := ((if (0 : Int) = (k : Int) then 1 else 0), (if (1 : Int) = (k : Int) then 1 else 0), (if (2 : Int) = (k : Int) then 1 else 0))
noncomputable def lineL (f : Nat → Int) : Nat → PL
  | 0 => []
  | k + 1 => if f k = 0 then lineL f k else lineL f k ++ [(unitM k, f k)]
theorem lineL_no {f : Nat → Int} {k : Nat} (hk : k < 3) : lk (lineL f k) (unitM k) = none := by
  have : k = 0 ∨ k = 1 ∨ k = 2 := by omega
  rcases this with rfl | rfl | rfl
  · rfl
  · unfold lineL lineL
    split <;> rfl
  · unfold lineL lineL lineL
    split <;> split <;> rfl
theorem lineL_len {f : Nat → Int} : ∀ k, (lineL f k).length ≤ k
  | 0 => Nat.le_refl _
  | k + 1 => by
    have := lineL_len (f := f) k
    unfold lineL
    split
    · omega
    · simp; omega
end

-- part RM
section
variable {w : World} {A : Around} {E : Value → Shared → Prop} {s : Shared} {env : Env}
set_option maxHeartbeats 2000000 in
theorem line_for {L cA D pn : Addr} {f : Nat → Int} {hb g : Heap} {m0 : Str → Option Value} {sc : Scope} {Q : Flow → Shared → Prop}
    {p1 p2 p3 p4 p5 p6 p8 q1 q2 q3 q4 q5 q6 q7 x1 x2 x3 x4 y1 y2 y3 y4 y5 y6 y7 y8 y9 z1 z2 z3 : Pos} {k1 k2 k3 k4 k5 k6 k7 : Nat}
    (hh : A.handled = none) (hu : A.units + 1 < cLine) (e : EnvP env L) (kn : env.kindOf (Str.ofString "number") = some .local) (kf : env.kindOf (Str.ofString "found") = some .local) (ks : env.kindOf (Str.ofString "numbers") = some .local)
    (ka : env.kindOf (Str.ofString "at") = some .cell) (hca : env.cells.lookup (Str.ofString "at") = some cA)
    (be : BuiltIn w A g env L (Str.ofString "enumerate") (.type "enumerate")) (bt : BuiltIn w A g env L (Str.ofString "tuple") (.type "tuple")) (br : BuiltIn w A g env L (Str.ofString "range") (.type "range"))
    (hsc : sc.kind = .function) (hnames : ∀ y ∈ sc.names, y.2 = .local → sc.names.lookup y.1 = some .local)
    (hsp : sc.names.lookup (Str.ofString "spot") = some .local) (hcl : closureFor sc env = pure [((Str.ofString "at"), cA)]) (hcf : ∀ n, cellsFrom n sc.names [((Str.ofString "at"), cA)] = [((Str.ofString "at"), cA)])
    (hkb : ∀ C, (compEnvC sc [((Str.ofString "at"), cA)] C env).kindOf "at" = some .cell ∨ (compEnvC sc [((Str.ofString "at"), cA)] C env).kindOf "at" = some .free)
    (hn : s.heap.Ns L m0) (ms : m0 (Str.ofString "numbers") = some (.ref pn)) (mf : m0 (Str.ofString "found") = some (.ref D)) (hc : ∃ v, s.heap.IsCell cA v) (hcL : cA ≠ L) (hDL : D ≠ L)
    (hR : RowN s.heap pn f 3) (hP : PolyR w hb s.heap D []) (hbs : Held hb s.heap) (hg : Held g s.heap) (gn : ∀ b ∈ [L, cA, D], g.get? b = none) (hbn : ∀ b ∈ [L, cA, D], hb.get? b = none)
    (hQ : ∀ h' tk m', h'.Ns L m' → m' (Str.ofString "found") = some (.ref D) → Stays [L, cA, D] s.heap h' → PolyR w hb h' D (lineL f 3) → Q .next { s with heap := h', toks := tk }) :
    wpAny (model Pg w) A (exec (.For (.Tuple [.Name "at" p1, .Name "number" p2] k1 p3) (.Call (.Name "enumerate" p4) [.Name "numbers" p5] [] p6)
      [.If (.Compare (.Name "number" x1) [.NotEq] [.Constant (.int 0) k2 x2] x3)
        [.Assign [.Subscript (.Name "found" y1) (.Call (.Name "tuple" y2) [.ListComp (.IfExp (.Compare (.Name "spot" q1) [.Eq] [.Name "at" q2] q3) (.Constant (.int 1) k3 q4) (.Constant (.int 0) k4 q5) q7) [⟨.Name "spot" q6, .Call (.Name "range" z1) [.Constant (.int 3) k5 z2] [] z3, [], 0⟩] sc y3] [] y4) y5] (.Tuple [.Name "number" y6, .Constant (.int 1) k6 y7] k7 y8) y9] [] x4] [] p8) env) Q E s := by
  obtain ⟨ys, hl, hln, hy⟩ := hR
  have npOf : ∀ {h : Heap} {m : Str → Option Value} {v : Option Value} {l : PL}, h.Ns L m → h.IsCell cA v → PolyR w hb h D l → ∀ b ∈ [L, cA, D], NoSeq h b := fun {h m v l} a b c d hd => by
    simp only [List.mem_cons, List.not_mem_nil, or_false] at hd
    rcases hd with rfl | rfl | rfl
    · exact noSeq_ns a
    · exact noSeq_cell b
    · obtain ⟨o9, ho9, es, ep, hd9⟩ := polyR_dict c
      exact fun o' e' i n q => by rw [ho9] at e'; cases e'; rw [hd9] at q; cases q
  have npS := fun b hb' => let ⟨v, c⟩ := hc; npOf hn c hP b hb'
  have hpn : pn ∉ [L, cA, D] := fun hm => by
    obtain ⟨o, ho, _, n, hd⟩ := hl
    exact npS pn hm o ho _ _ hd
  refine for_kt (n := 3) (P := EnumP ys.toArray) (W := [L, cA, D]) (g := hideAll s.heap [L, cA, D]) (J := fun i h => (∃ m, h.Ns L m ∧ ∀ y, y ≠ Str.ofString "number" → m y = m0 y) ∧ (∃ v, h.IsCell cA v) ∧ PolyR w hb h D (lineL f i) ∧ Stays [L, cA, D] s.heap h) ?_
    (fun i h h' hj k => ⟨let ⟨m, a, b⟩ := hj.1; ⟨m, k.ns a, b⟩, let ⟨v, c⟩ := hj.2.1; ⟨v, k.cell c⟩, k.polyR hj.2.2.1, hide_stays hj.2.2.2 k⟩) ?_ ?_ ?_
  · refine Call_ (be _ _ _ _ _ hg hn (PySem.Pv.callWith_type1 (args_cons (nm e ks hn ms (args_nil ?_)))))
    have := kt_enum (prog := Pg) (w := w) (A := A) (E := E) (s := s) (elts := [.Name "at" p1, .Name "number" p2]) (k := k1) (pos := p3) (W := [L, cA, D]) (g := hideAll s.heap [L, cA, D]) (h := s.heap) (tk := s.toks) (J := fun h => (∃ m, h.Ns L m ∧ ∀ y, y ≠ Str.ofString "number" → m y = m0 y) ∧ (∃ v, h.IsCell cA v) ∧ PolyR w hb h D (lineL f 0) ∧ Stays [L, cA, D] s.heap h) hh hl hpn (hide_held (Stays.refl _ _))
      (fun h' hk => ⟨⟨m0, hn.keeps hk, fun _ _ => rfl⟩, let ⟨v, o, ho, hd⟩ := hc; ⟨v, o, hk _ _ ho, hd⟩, (keepS_held (g := h') hk).polyR hP, stays_of_held hk⟩)
    rw [show ys.toArray.size = 3 by simp [hln]] at this
    exact this
  · rintro i h ⟨⟨m, ⟨o, es, ep, ho, hd, _⟩, _⟩, ⟨v, o2, ho2, hd2⟩, hP', _⟩ b hb'
    simp only [List.mem_cons, List.not_mem_nil, or_false] at hb'
    rcases hb' with rfl | rfl | rfl
    · exact ⟨o, ho, fun fs q => by rw [hd] at q; cases q⟩
    · exact ⟨o2, ho2, fun fs q => by rw [hd2] at q; cases q⟩
    · obtain ⟨o9, ho9, es, ep, hd9⟩ := polyR_dict hP'
      exact ⟨o9, ho9, fun fs q => by rw [hd9] at q; cases q⟩
  · rintro i v h tk E' hi ⟨T, t, x, rfl, hx, ⟨oT, hoT, hcT, nT, hdT⟩⟩ ⟨⟨m, hm, hme⟩, ⟨cv, hcv⟩, hP', hs⟩
    obtain ⟨t9, hx9⟩ := hy i hi
    obtain rfl : x = .int (f i) t9 := by rw [List.getElem?_toArray, hx9] at hx; exact (Option.some.inj hx).symm
    have np := npOf hm hcv hP'
    have LcA : L ≠ cA := hcL.symm
    have DcA : D ≠ cA := fun q => by
      obtain ⟨o9, ho9, es, ep, hd9⟩ := polyR_dict hP'
      exact cell_ne hcv ho9 (fun v q => by rw [hd9] at q; cases q) q
    refine wpAny_assign_Tuple hh ⟨_, hoT, hcT, _, hdT⟩ rfl rfl fun h1 he1 => ?_
    have k1 : Held h h1 := fun b o e9 => he1 b o (Nat.ne_of_lt (Heap.lt_size e9)) e9
    show wpAny _ _ (assignInOrder [assign (.Name "at" p1) env, assign (.Name "number" p2) env] [.int (i : Int) t, .int (f i) t9]) _ _ _
    refine assignInOrder_cons (wpAny_assign_Name (wpAny_storeName_cell e.fn ka hca (v₀ := cv) (by obtain ⟨oc, hoc, hdc⟩ := hcv; exact ⟨oc, k1 _ _ hoc, hdc⟩) fun h2 hc2 hs2 => ?_))
    have hn2 : h2.Ns L m := (hm.keeps k1).sameBut hs2 LcA
    refine assignInOrder_cons (wpAny_assign_Name (store_nm e kn hn2 fun h3 tk3 hn3 hs3 => assignInOrder_nil ?_))
    have S3 : Stays [L, cA, D] h h3 := (stays_of_held k1).trans (((Stays.ofBut hs2.extBut).mono (by simp)).trans ((Stays.ofBut hs3.extBut).mono (by simp)))
    have S3' : Stays [L, cA] h h3 := (stays_of_held k1).trans (((Stays.ofBut hs2.extBut).mono (by simp)).trans ((Stays.ofBut hs3.extBut).mono (by simp)))
    have hc3 : h3.IsCell cA (some (.int (i : Int) t)) := by obtain ⟨oc, hoc, hdc⟩ := hc2; exact ⟨oc, (hs3.2 cA hcL).trans hoc, hdc⟩
    have P3 : PolyR w hb h3 D (lineL f i) := polyR_stay hP' S3' (fun b hb' => np b (by simp at hb' ⊢; rcases hb' with q | q <;> simp [q])) (by simp [hDL, DcA])
    have g3 : ∀ y, y ≠ Str.ofString "number" → (if y = Str.ofString "number" then some (Value.int (f i) t9) else m y) = m0 y := fun y a => by rw [if_neg a, hme y a]
    have f3 := (g3 (Str.ofString "found") (by decide)).trans mf
    have H3 : Held g h3 := held_stay (hs.trans S3) gn hg
    refine wpAny_execs_cons (wpAny_If (wpAny_isTrue_Compare1 (nm e kn hn3 (if_pos rfl) (const_int (PyProof.Rows.ne_int (wpAny_truthy_bool ?_))))))
    by_cases hz : f i = 0
    · rw [hz, show ((0 : Int) != 0) = false from rfl, if_neg Bool.false_ne_true]
      rw [hz] at hn3 g3
      refine wpAny_execs_nil (wpAny_execs_nil (.inr ⟨rfl, h3, _, rfl, S3, ⟨_, hn3, g3⟩, ⟨_, hc3⟩, ?_, hs.trans S3⟩))
      unfold lineL
      rw [if_pos hz]; exact P3
    · rw [show (f i != 0) = true by simpa using hz, if_pos rfl]
      refine wpAny_execs_cons (wpAny_Assign_Subscript (Tuple_ (args_cons (nm e kn hn3 (if_pos rfl) (args_cons (const_int (args_nil ?_)))))))
      unfold newTuple
      refine wpAny_newObj_type ?_ (by show _ ≤ sizeLine; rw [sizeLine_eq]; simp)
      dsimp only
      have hk4 : Held h3 (h3.push (tupO [.int (f i) t9, .int 1 (tk3 + 1)])) := fun b o e => Heap.get?_push_of_some _ e
      have hz4 : (h3.push (tupO [.int (f i) t9, .int 1 (tk3 + 1)])).get? h3.objs.size = some (ratO (f i) t9 (tk3 + 1)) := Heap.get?_push_size _ rfl
      have hv4 : h3.get? h3.objs.size = none := by
        cases q : h3.get? h3.objs.size with
        | none => rfl
        | some o => exact absurd (Heap.lt_size q) (Nat.lt_irrefl _)
      generalize h3.push (tupO [.int (f i) t9, .int 1 (tk3 + 1)]) = h4 at *
      generalize h3.objs.size = va at *
      have B3 : Held hb h3 := held_stay (hs.trans S3) hbn hbs
      have n4 := hn3.keeps hk4
      have c4 : h4.IsCell cA (some (.int (i : Int) t)) := by obtain ⟨oc, hoc, hdc⟩ := hc3; exact ⟨oc, hk4 _ _ hoc, hdc⟩
      refine nm e kf n4 f3 (Call_ (bt _ _ _ _ _ (H3.trans hk4) n4 (PySem.Pv.callWith_type1 (args_cons ?_))))
      refine line_comp (c := cA) (x := (i : Int)) (t := t) hsc hnames hsp hcl hcf hkb c4 ?_ (fun D' v0 v1 v2 h5 tk5 hD5 hDn5 hk5 => ?_) (fun _ => rfl)
      · refine Call_ (br _ _ _ _ _ (H3.trans hk4) n4 (PySem.Pv.callWith_type1 (args_cons (const_int (args_nil (wpAny_mono (src_range_n hh (by decide) (fun _ _ => rfl)) (fun xv s₁ h => wpAny_mono h (fun it s₂ h => ⟨h.at_⟩) fun _ _ e => e) fun _ _ e => e))))))
      · refine args_nil (tuple_of_list hD5 (by simp) fun D6 h6 hD6 hDn6 hk6 => ?_)
        have K6 : Held h3 h6 := hk4.trans (hk5.trans hk6)
        have P6 : PolyR w hb h6 D (lineL f i) := (keepS_held (g := h6) K6).polyR P3
        refine poly_put (p := unitM i) (c := f i) P6 ⟨v0, v1, v2, hD6⟩ (lineL_no hi) ?_ (hk6 _ _ (hk5 _ _ hz4)) ?_ hu (by rw [sizeLine_eq]; have := lineL_len (f := f) i; omega) fun h7 tk7 s7 P7 => ?_
        · cases q : hb.get? D6 with
          | none => rfl
          | some o => rw [hk5 _ _ (hk4 _ _ (B3 _ _ q))] at hDn6; cases hDn6
        · cases q : hb.get? va with
          | none => rfl
          | some o => rw [B3 _ _ q] at hv4; cases hv4
        · have S7 : Stays [L, cA, D] h h7 := S3.trans ((stays_of_held K6).trans ((Stays.ofBut s7.extBut).mono (by simp)))
          refine wpAny_execs_nil (wpAny_execs_nil (.inr ⟨rfl, h7, _, rfl, S7, ⟨_, (hn3.keeps K6).sameBut s7 hDL.symm, g3⟩, ⟨some (.int (i : Int) t), ?_⟩, ?_, hs.trans S7⟩))
          · obtain ⟨oc, hoc, hdc⟩ := hc3
            exact ⟨oc, (s7.2 cA DcA.symm).trans (K6 _ _ hoc), hdc⟩
          · unfold lineL
            rw [if_neg hz]; exact P7
  · rintro h' tk ⟨⟨m, hm, hme⟩, _, hP', hs⟩
    exact hQ h' tk m hm ((hme _ (by decide)).trans mf) hs hP'
end

-- part RN
theorem offRN : True := by
  w_top off
  trivial
noncomputable def IsLine (a b c : Int) (l : PL) : Prop := (∀ f, ev l f = a * f (1, 0, 0) + b * f (0, 1, 0) + c * f (0, 0, 1)) ∧ nrm l ≤ a.natAbs + b.natAbs + c.natAbs ∧ l.length ≤ 3
theorem lineL_ev {x : Nat → Int} {f : Mon → Int} (k : Nat) : ev (lineL x (k + 1)) f = ev (lineL x k) f + x k * f (unitM k) := by
  show ev (if x k = 0 then lineL x k else lineL x k ++ [(unitM k, x k)]) f = _
  split
  · rename_i h; rw [h, Int.zero_mul, Int.add_zero]
  · rw [ev_append, ev_cons, ev_nil, Int.add_zero]
theorem lineL_nrm {x : Nat → Int} (k : Nat) : nrm (lineL x (k + 1)) ≤ nrm (lineL x k) + (x k).natAbs := by
  show nrm (if x k = 0 then lineL x k else lineL x k ++ [(unitM k, x k)]) ≤ _
  split
  · omega
  · rw [nrm_append, nrm_cons]; exact Nat.le_refl _
theorem lineL_is {x : Nat → Int} : IsLine (x 0) (x 1) (x 2) (lineL x 3) := by
  refine ⟨fun f => ?_, ?_, lineL_len 3⟩
  · rw [lineL_ev, lineL_ev, lineL_ev, show ev (lineL x 0) f = 0 from rfl, Int.zero_add]; rfl
  · have h1 : nrm (lineL x 1) ≤ nrm (lineL x 0) + (x 0).natAbs := lineL_nrm 0
    have h2 : nrm (lineL x 2) ≤ nrm (lineL x 1) + (x 1).natAbs := lineL_nrm 1
    have h3 : nrm (lineL x 3) ≤ nrm (lineL x 2) + (x 2).natAbs := lineL_nrm 2
    have h0 : nrm (lineL x 0) = 0 := rfl
    omega
theorem dict_new {w : World} {hb h : Heap} : PolyR w hb (h.push { cls := .type "dict", data := .dict #[] }) h.objs.size [] := by
  obtain ⟨o, ho, hd⟩ := Heap.dictOf_iff.mp (Heap.DictOf.new (knd := intKind Pg w) h)
  exact ⟨o, [], ho, DObj.ofInt hd, .nil⟩
section
variable {w : World} {A : Around} {E : Value → Shared → Prop} {s : Shared} {env : Env}
theorem line_body {L cA pn : Addr} {f : Nat → Int} {hb g : Heap} {m0 : Str → Option Value} {sc : Scope} {Q : Flow → Shared → Prop}
    {p1 p2 p3 p4 p5 p6 p7 p8 q1 q2 q3 q4 q5 q6 q7 x1 x2 x3 x4 y1 y2 y3 y4 y5 y6 y7 y8 y9 z1 z2 z3 z4 z5 z6 z7 : Pos} {k1 k2 k3 k4 k5 k6 k7 : Nat}
    (hh : A.handled = none) (hu : A.units + 1 < cLine) (e : EnvP env L) (kn : env.kindOf (Str.ofString "number") = some .local) (kf : env.kindOf (Str.ofString "found") = some .local) (ks : env.kindOf (Str.ofString "numbers") = some .local)
    (ka : env.kindOf (Str.ofString "at") = some .cell) (hca : env.cells.lookup (Str.ofString "at") = some cA)
    (be : BuiltIn w A g env L (Str.ofString "enumerate") (.type "enumerate")) (bt : BuiltIn w A g env L (Str.ofString "tuple") (.type "tuple")) (br : BuiltIn w A g env L (Str.ofString "range") (.type "range"))
    (hsc : sc.kind = .function) (hnames : ∀ y ∈ sc.names, y.2 = .local → sc.names.lookup y.1 = some .local)
    (hsp : sc.names.lookup (Str.ofString "spot") = some .local) (hcl : closureFor sc env = pure [((Str.ofString "at"), cA)]) (hcf : ∀ n, cellsFrom n sc.names [((Str.ofString "at"), cA)] = [((Str.ofString "at"), cA)])
    (hkb : ∀ C, (compEnvC sc [((Str.ofString "at"), cA)] C env).kindOf "at" = some .cell ∨ (compEnvC sc [((Str.ofString "at"), cA)] C env).kindOf "at" = some .free)
    (hn : s.heap.Ns L m0) (ms : m0 (Str.ofString "numbers") = some (.ref pn)) (hc : ∃ v, s.heap.IsCell cA v) (hcL : cA ≠ L)
    (hR : RowN s.heap pn f 3) (hbs : Held hb s.heap) (hg : Held g s.heap) (gn : ∀ b ∈ [L, cA], g.get? b = none) (hbn : ∀ b ∈ [L, cA], hb.get? b = none)
    (hret : ∀ D h' tk m', h'.Ns L m' → s.heap.get? D = none → s.heap.objs.size ≤ D → Stays [L, cA] s.heap h' → PolyR w hb h' D (lineL f 3) → Q (.ret (.ref D)) { s with heap := h', toks := tk }) :
    wpAny (model Pg w) A (execs [.Assign [.Name "found" z4] (.Dict [] [] z5) z6, .For (.Tuple [.Name "at" p1, .Name "number" p2] k1 p3) (.Call (.Name "enumerate" p4) [.Name "numbers" p5] [] p6)
      [.If (.Compare (.Name "number" x1) [.NotEq] [.Constant (.int 0) k2 x2] x3)
        [.Assign [.Subscript (.Name "found" y1) (.Call (.Name "tuple" y2) [.ListComp (.IfExp (.Compare (.Name "spot" q1) [.Eq] [.Name "at" q2] q3) (.Constant (.int 1) k3 q4) (.Constant (.int 0) k4 q5) q7) [⟨.Name "spot" q6, .Call (.Name "range" z1) [.Constant (.int 3) k5 z2] [] z3, [], 0⟩] sc y3] [] y4) y5] (.Tuple [.Name "number" y6, .Constant (.int 1) k6 y7] k7 y8) y9] [] x4] [] p8, .Return (some (.Name "found" z7)) p7] env) Q E s := by
  have hcv := hc
  obtain ⟨v, oc, hoc, hdc⟩ := hcv
  refine wpAny_execs_cons (wpAny_Assign_Name (wpAny_Dict_empty ?_))
  have P0 := dict_new (w := w) (hb := hb) (h := s.heap)
  have hk0 : Held s.heap (s.heap.push { cls := .type "dict", data := .dict #[] }) := fun b o e => Heap.get?_push_of_some _ e
  have hD0 : s.heap.get? s.heap.objs.size = none := by
    cases q : s.heap.get? s.heap.objs.size with
    | none => rfl
    | some o => exact absurd (Heap.lt_size q) (Nat.lt_irrefl _)
  generalize s.heap.push { cls := .type "dict", data := .dict #[] } = h0 at *
  have hDs : s.heap.objs.size ≤ s.heap.objs.size := Nat.le_refl _
  generalize hDe : s.heap.objs.size = D at *
  have hDL : D ≠ L := fun q => by obtain ⟨o, _, _, ho, _⟩ := hn; rw [q, ho] at hD0; cases hD0
  refine store_nm e kf (hn.keeps hk0) fun h1 tk1 n1 s1 => ?_
  have S1 : Stays [L] s.heap h1 := (stays_of_held hk0).trans (Stays.ofBut s1.extBut)
  have n0 := hn.keeps hk0
  have P1 : PolyR w hb h1 D [] := polyR_stay P0 (Stays.ofBut s1.extBut) (fun b hb' => by rw [List.mem_singleton.mp hb']; exact noSeq_ns n0) (by simpa using hDL)
  have gn3 : ∀ {x : Heap}, Held x s.heap → (∀ b ∈ [L, cA], x.get? b = none) → ∀ b ∈ [L, cA, D], x.get? b = none := fun {x} hx hx2 b hb' => by
    simp only [List.mem_cons, List.not_mem_nil, or_false] at hb'
    rcases hb' with rfl | rfl | rfl
    · exact hx2 _ (by simp)
    · exact hx2 _ (by simp)
    · cases q : x.get? b with
      | none => rfl
      | some o => rw [hx _ _ q] at hD0; cases hD0
  have hR1 : RowN h1 pn f 3 := by
    obtain ⟨ys, hl, r⟩ := hR
    exact ⟨ys, list_stay S1 (fun b hb' => by rw [List.mem_singleton.mp hb']; exact noSeq_ns hn) hl, r⟩
  refine wpAny_execs_cons (line_for (D := D) (f := f) (hb := hb) (g := g) (m0 := fun y => if y = Str.ofString "found" then some (Value.ref D) else m0 y) hh hu e kn kf ks ka hca be bt br hsc hnames hsp hcl hcf hkb n1 ((if_neg (by decide)).trans ms) (if_pos rfl) ⟨v, oc, S1 _ _ (by simpa using hcL) hoc, hdc⟩ hcL hDL hR1 P1
    (held_stay S1 (fun b hb' => hbn b (by simp at hb'; simp [hb'])) hbs) (held_stay S1 (fun b hb' => gn b (by simp at hb'; simp [hb'])) hg) (gn3 hg gn) (gn3 hbs hbn) fun h' tk m' hn' hf' st hP => wpAny_execs_cons (wpAny_Return_some (nm e kf hn' hf' (hret D h' tk m' hn' hD0 hDs ?_ hP))))
  intro b o hb' e9
  refine st b o (fun hm => ?_) (S1 b o (fun q => hb' (by simp at q; simp [q])) e9)
  simp only [List.mem_cons, List.not_mem_nil, or_false] at hm
  rcases hm with q | q | q
  · exact hb' (by simp [q])
  · exact hb' (by simp [q])
  · rw [q, hD0] at e9; cases e9
end
set_option maxHeartbeats 2000000 in
theorem line_held (w : World) (need : List (Addr × Obj)) (pn : Addr) (f : Nat → Int) (hR : ∃ (o : Obj) (ys : List Value) (c : Nat), (pn, o) ∈ need ∧ o.cls = .type "list" ∧ o.data = .seq ys.toArray c ∧ ys.length = 3 ∧ ∀ j, j < 3 → ∃ t, ys[j]? = some (.int (f j) t)) :
    TellsH w 2 135 [.ref pn] need (fun h0 h r => ∃ D, r = .ref D ∧ h0.get? D = none ∧ h0.objs.size ≤ D ∧ PolyR w h0 h D (lineL f 3)) := by
  unfold TellsH
  intro loose mean mg mb dp un gd cn cs a ccd cl outer A₀ base h₀ L m s Q E hB hF hX hN hT hcs hdp hun hret
  refine wpAny_call ?_
  k_dflt (refine' enterC2 ?k1 ?k2 ?k3 ?k4 ?k5 (fun _ h => h) ?kA ?kF ?kK ?k6 ?k7 ?k8 ?k9 ?kB ?kD ?_ ?c2 ?c3 ?c4)
  case kA => exact rfl
  case kF => exact rfl
  case kK => assumption
  case k1 => k_asm
  case k2 => k_asm
  case k3 => k_asm
  case k4 => k_asm
  case k5 => k_asm
  case k6 => k_is
  case k7 => k_is
  case k8 => ktr_room
  case k9 => exact BindsTo.of_eq rfl
  case kB => exact rfl
  case kD => decide +kernel
  case c2 => exact rfl
  case c3 => exact rfl
  case c4 => exact rfl
  intro g' L' h' tk' cells' FG' F' N' Y' B' X' T' l1 G' sz9
  obtain ⟨o1, hE, d1⟩ := CellsAre.one Y'
  subst hE
  have d1 : o1.data = .cell none := d1
  have F' : Fr g' L' h' (fun y => if y = Str.ofString "numbers" then some (Value.ref pn) else none) := F'
  have nA := N' (L' + 1, o1) (.head _)
  have Nn : News g' L' h' need := fun p hp => N' p (List.mem_append_right _ hp)
  have frOf : ∀ (s' : Shared) (m : Str → Option Value), Held g' s'.heap → s'.heap.Ns L' m → Fr g' L' s'.heap m := fun s' m hk hn => ⟨hn, hk, F'.above⟩
  have gL : g'.get? L' = none := Heap.get?_none_of_le F'.above
  have big : ∀ b ∈ [L', L' + 1], s.heap.get? b = none := fun b hb => by
    cases q : s.heap.get? b with
    | none => rfl
    | some o =>
      have z : @LT.lt Nat _ b L' := Nat.lt_of_lt_of_le (Heap.lt_size q) sz9
      simp only [List.mem_cons, List.not_mem_nil, or_false] at hb
      rcases hb with rfl | rfl
      · exact absurd z (Nat.lt_irrefl _)
      · exact absurd z (Nat.not_lt.mpr (Nat.le_succ _))
  have K0 : Held s.heap h' := back_all hN G' F' Nn sz9 (Stays.refl _ _)
  obtain ⟨o9, ys, c9, hm9, hc9, hd9, hln, hy⟩ := hR
  show wpAny _ _ (execs _ _) _ _ _
  k_dflt (refine' line_body (g := g') (hb := s.heap) (L := L') (cA := L' + 1) (pn := pn) (f := f) ?ihh ?ihu ?ie ?ikn ?ikf ?iks ?ika ?ica ?ibe ?ibt ?ibr ?isc ?inames ?isp ?icl ?icf ?ikb F'.ns ?ims ⟨_, o1, nA.1, d1⟩ nA.2.1 ⟨ys, ⟨o9, (Nn _ hm9).1, hc9, c9, hd9⟩, hln, hy⟩ K0 F'.keep ?ign big ?iret)
  case ihh => rfl
  case ihu => ktr_units
  case ie => exact ⟨rfl, rfl, rfl⟩
  case ikn => rfl
  case ikf => rfl
  case iks => rfl
  case ika => rfl
  case ica => with_unfolding_all rfl
  case ibe => intro pos s' m Q E hh hn h; have F4 := frOf s' m hh hn; walk1; exact h
  case ibt => intro pos s' m Q E hh hn h; have F4 := frOf s' m hh hn; walk1; exact h
  case ibr => intro pos s' m Q E hh hn h; have F4 := frOf s' m hh hn; walk1; exact h
  case isc => rfl
  case inames => decide
  case isp => rfl
  case icl => with_unfolding_all rfl
  case icf => intro n; with_unfolding_all rfl
  case ikb => intro C; first | exact .inr rfl | exact .inl rfl
  case ims => exact if_pos rfl
  case ign =>
    intro b hb
    simp only [List.mem_cons, List.not_mem_nil, or_false] at hb
    rcases hb with rfl | rfl
    · exact gL
    · exact nA.2.2
  case iret =>
    intro D h'' tk m' hn hD hDs st hP
    have st' : Held s.heap h'' := fun b o e => st b o (fun hm => by rw [big b hm] at e; cases e) (K0 b o e)
    refine leaveK_ (fr_stay F' (W := [L', L' + 1]) (fun b hb => ?_) st hn) PyProof.Rows.News.nil fun F9 _ => hret _ h'' tk F9 st' (fr_size hn sz9) ⟨D, rfl, ?_, Nat.le_trans sz9 (Nat.le_trans (Nat.le_of_lt F'.ns.lt) hDs), hP⟩
    · simp only [List.mem_cons, List.not_mem_nil, or_false] at hb
      rcases hb with rfl | rfl
      · exact gL
      · exact nA.2.2
    · cases q : s.heap.get? D with
      | none => rfl
      | some o => rw [K0 _ _ q] at hD; cases hD
/-- a polynomial of a heap, as a ledger -/
theorem poly_led {hb h : Heap} {xs : Ents} {l : PL} (P : Paired (EntR hb h) xs l) : ∃ bl : List (Addr × Obj), Paired (EntOf bl) xs l ∧ ∀ p ∈ bl, h.get? p.1 = some p.2 ∧ p.2.cls = .type "tuple" ∧ hb.get? p.1 = none := by
  induction P with
  | nil => exact ⟨[], .nil, fun p hp => nomatch hp⟩
  | @cons x q xs l f _ ih =>
    obtain ⟨bl, hP, hB⟩ := ih
    obtain ⟨t1, t2, t3, e⟩ := f.obj
    obtain ⟨va, t, t', e1, e2, e3⟩ := f.val
    refine ⟨(x.2.1, keyO q.1.1 q.1.2.1 q.1.2.2 t1 t2 t3) :: (va, ratO q.2 t t') :: bl, .cons ⟨f.key, ⟨t1, t2, t3, .head _⟩, va, t, t', e1, .tail _ (.head _)⟩ (paired_mono (fun _ _ e => e.mono fun p hp _ => .tail _ (.tail _ hp)) hP), fun p hp => ?_⟩
    rcases List.mem_cons.mp hp with rfl | hp
    · exact ⟨e, rfl, f.new⟩
    rcases List.mem_cons.mp hp with rfl | hp
    · exact ⟨e2, rfl, e3⟩
    · exact hB p hp
theorem line_tells (w : World) (pn : Addr) (a b c : Int) (u1 u2 u3 : Tok) (kn : Nat) (news : List (Addr × Obj)) (hk : (pn, lstO [.int a u1, .int b u2, .int c u3] kn) ∈ news) :
    Tells w 2 135 [.ref pn] news (RetW w (IsLine a b c) news) := by
  unfold Tells
  intro loose mean mg mb dp un gd cn cs a9 ccd cl outer A₀ base h₀ L m s Q E hB hF hX hN hT hcs hdp hun hret
  refine line_held w news pn (fun j => if j = 0 then a else if j = 1 then b else c) ⟨_, _, _, hk, rfl, rfl, rfl, fun j hj => by rcases j with _ | _ | _ | j <;> first | exact ⟨_, rfl⟩ | omega⟩ _ _ _ _ _ _ _ _ _ _ _ _ _ _ _ _ _ _ _ _ _ hB hF hX hN hT hcs hdp hun ?_
  rintro r h' tk' F' hk' hz' ⟨D, rfl, hD, hDs, o, xs, ho, Dd, P⟩
  obtain ⟨bl, hP, hbl⟩ := poly_led P
  have up : ∀ {x : Addr}, s.heap.get? x = none → x ≠ L ∧ h₀.get? x = none := fun {x} e => ⟨fun q => (by obtain ⟨o, _, _, ho, _⟩ := hF.ns; rw [q, ho] at e; cases e), NoneOf.up hF.keep e⟩
  have off : ∀ {x : Addr}, s.heap.get? x = none → ∀ p ∈ news, p.1 ≠ x := fun {x} e p hp q => by rw [← q, (hN p hp).1] at e; cases e
  refine hret (.ref D) ((D, o) :: (bl ++ news)) h' tk' F' (fun p hp => ?_) ⟨D, o, bl, _, rfl, rfl, ⟨(PolyAt.weak ⟨xs, Dd, hP⟩).mono fun p hp _ => List.mem_append_left _ hp, fun p hp => ⟨fun q => ?_, (hbl p hp).2.1, off (hbl p hp).2.2⟩, ?_, off hD⟩, lineL_is (x := fun j => if j = 0 then a else if j = 1 then b else c)⟩
  · rcases List.mem_cons.mp hp with rfl | hp
    · exact ⟨ho, up hD⟩
    rcases List.mem_append.mp hp with hp | hp
    · exact ⟨(hbl p hp).1, up (hbl p hp).2.2⟩
    · exact ⟨hk' _ _ (hN p hp).1, (hN p hp).2⟩
  · have z := (hbl p hp).1
    rw [q, ho] at z
    have y := (hbl p hp).2.1
    rw [← Option.some.inj z, Dd.cls] at y
    exact absurd (show Value.type "dict" = Value.type "tuple" from y) (by decide)
  · have b1 : @LT.lt Nat _ sysModules h₀.objs.size := big_of hX (by k_is)
    have b2 : @LE.le Nat _ h₀.objs.size L := hF.above
    have b3 : @LT.lt Nat _ L s.heap.objs.size := hF.ns.lt
    have b4 : @LE.le Nat _ s.heap.objs.size D := hDs
    exact beq_eq_false_iff_ne.mpr (fun q => by subst q; omega)

-- part TV
noncomputable def tabL (T : Mon → Int) (ps : List Mon) (i : Nat) : PL := if i = 0 then [((0, 0, 0), 1)] else (ps.take i).map fun p => (p, T p)
noncomputable def boxOk (ps : List Mon) : Bool := (List.range ps.length).all fun q =>
  (decide (ps.getD q (0, 0, 0) = (0, 0, 0)) == (q == 0)) && (q == 0 || (!(ps.take q).contains (ps.getD q (0, 0, 0)) && (List.range 7).all fun j => !(okM (lowOf (ps.getD q (0, 0, 0)) (lotN j))) || (ps.take q).contains (lowOf (ps.getD q (0, 0, 0)) (lotN j))))
theorem box_all : ((List.range 3).all fun a => (List.range 3).all fun b => (List.range 3).all fun c => boxOk (placesOf (a + 1) (b + 1) (c + 1))) = true := by decide +kernel
theorem box_ok {a b c : Nat} (ha : a < 3) (hb : b < 3) (hc : c < 3) : boxOk (placesOf (a + 1) (b + 1) (c + 1)) = true := by
  have h := box_all
  rw [List.all_eq_true] at h
  have h1 := h a (List.mem_range.mpr ha)
  rw [List.all_eq_true] at h1
  have h2 := h1 b (List.mem_range.mpr hb)
  rw [List.all_eq_true] at h2
  exact h2 c (List.mem_range.mpr hc)
theorem lk_map_some {T : Mon → Int} {ps : List Mon} {k : Mon} (h : k ∈ ps) : lk (ps.map fun p => (p, T p)) k = some (T k) := by
  induction ps with
  | nil => cases h
  | cons p ps ih =>
    by_cases e : p = k
    · subst e; simp [lk]
    · have : k ∈ ps := by
        rcases List.mem_cons.mp h with h | h
        · exact absurd h.symm e
        · exact h
      have := ih this
      unfold lk at this ⊢
      simpa [List.find?_cons, e] using this
theorem lk_map_none {T : Mon → Int} {ps : List Mon} {k : Mon} (h : k ∉ ps) : lk (ps.map fun p => (p, T p)) k = none := by
  induction ps with
  | nil => rfl
  | cons p ps ih =>
    have e : ¬ p = k := fun e => h (by simp [e])
    have := ih (fun hm => h (.tail _ hm))
    unfold lk at this ⊢
    simpa [List.find?_cons, e] using this
structure BoxAt (ps : List Mon) (i : Nat) (p : Mon) : Prop where
  zero : p = (0, 0, 0) ↔ i = 0
  new : i ≠ 0 → p ∉ ps.take i
  low : i ≠ 0 → ∀ j, j < 7 → okM (lowOf p (lotN j)) = true → lowOf p (lotN j) ∈ ps.take i
theorem boxAt_of {ps : List Mon} (h : boxOk ps = true) {i : Nat} {p : Mon} (hi : ps[i]? = some p) : BoxAt ps i p := by
  unfold boxOk at h
  rw [List.all_eq_true] at h
  have hil := (List.getElem?_eq_some_iff.mp hi).1
  have h1 := h i (List.mem_range.mpr hil)
  have hp : ps.getD i (0, 0, 0) = p := by rw [List.getD_eq_getElem?_getD, hi]; rfl
  rw [hp, Bool.and_eq_true] at h1
  obtain ⟨h1, h2⟩ := h1
  have hz : p = (0, 0, 0) ↔ i = 0 := by
    have := eq_of_beq h1
    by_cases e : p = (0, 0, 0) <;> by_cases e' : i = 0 <;> simp [e, e'] at this ⊢
  refine ⟨hz, fun hi0 => ?_, fun hi0 j hj hok => ?_⟩
  · rcases Bool.or_eq_true _ _ ▸ h2 with h3 | h3
    · exact absurd (eq_of_beq h3) hi0
    · rw [Bool.and_eq_true] at h3
      have := h3.1
      simpa using this
  · rcases Bool.or_eq_true _ _ ▸ h2 with h3 | h3
    · exact absurd (eq_of_beq h3) hi0
    · rw [Bool.and_eq_true, List.all_eq_true] at h3
      have := h3.2 j (List.mem_range.mpr hj)
      rw [hok] at this
      simpa using this
section
variable {w : World} {A : Around} {E : Value → Shared → Prop} {s : Shared} {env : Env}
theorem ne_key {a b : Addr} {p q : Mon} {Q : Value → Shared → Prop} (hu : A.units < cLine) (ha : KeyIs s.heap a p) (hb : KeyIs s.heap b q) (h : Q (.bool (!decide (p = q))) s) :
    wpAny (model Pg w) A (compareOp .NotEq (.ref a) (.ref b)) Q E s := by
  obtain ⟨t1, t2, t3, ea⟩ := ha
  obtain ⟨u1, u2, u3, eb⟩ := hb
  refine cmp_ofNotEq ?_
  refine PySem.SeqAt.RcNeAt.tuples (items := (ints3 p.1 p.2.1 p.2.2 t1 t2 t3).toArray) (items2 := (ints3 q.1 q.2.1 q.2.2 u1 u2 u3).toArray) (e := fun j => [p.1, p.2.1, p.2.2].getD j 0 == [q.1, q.2.1, q.2.2].getD j 0) ⟨_, ea, rfl, _, rfl⟩ ⟨_, eb, rfl, _, rfl⟩ hu ?_ _ _ _ _ ?_
  · intro j h1 h2
    rcases j with _ | _ | _ | j
    · exact (PySem.MeetsSeq.EqGives.int _ _ _ _).at _ _
    · exact (PySem.MeetsSeq.EqGives.int _ _ _ _).at _ _
    · exact (PySem.MeetsSeq.EqGives.int _ _ _ _).at _ _
    · simp at h1; omega
  · have : (!((List.range (min (ints3 p.1 p.2.1 p.2.2 t1 t2 t3).toArray.size (ints3 q.1 q.2.1 q.2.2 u1 u2 u3).toArray.size)).all (fun j => [p.1, p.2.1, p.2.2].getD j 0 == [q.1, q.2.1, q.2.2].getD j 0) && (ints3 p.1 p.2.1 p.2.2 t1 t2 t3).toArray.size == (ints3 q.1 q.2.1 q.2.2 u1 u2 u3).toArray.size)) = !decide (p = q) := by
      obtain ⟨p1, p2, p3⟩ := p
      obtain ⟨q1, q2, q3⟩ := q
      show (!(((p1 == q1) && ((p2 == q2) && ((p3 == q3) && true))) && true)) = !decide ((p1, p2, p3) = (q1, q2, q3))
      congr 1
      by_cases e1 : p1 = q1 <;> by_cases e2 : p2 = q2 <;> by_cases e3 : p3 = q3 <;> simp [e1, e2, e3]
    rw [this]; exact h
structure OutJ (w : World) (M : Nat → Nat → Int) (T : Mon → Int) (g : Heap) (L cL D lm : Addr) (ps : List Mon) (ks : List Addr) (qs : List (Addr × List Value)) (os : List (Addr × Obj)) (m0 : Str → Option Value) (i : Nat) (h : Heap) : Prop where
  ns : ∃ m, h.Ns L m ∧ ∀ y, y ≠ Str.ofString "place" → y ≠ Str.ofString "total" → y ≠ Str.ofString "number" → y ≠ Str.ofString "lower" → m y = m0 y
  cell : ∃ v, h.IsCell cL v
  tab : TabAt w g h D (tabL T ps i)
  keys : Paired (KeyIs h) ks ps
  new : ∀ a ∈ ks, g.get? a = none
  held : Held g h
  stat : StatM M h qs os
  lots : h.get? lm = some (LCg.lst (os.map fun o => Value.ref o.1))
theorem paired_at {α β : Type} {F : α → β → Prop} {l₁ : List α} {l₂ : List β} (P : Paired F l₁ l₂) : ∀ {i : Nat} {a : α}, l₁[i]? = some a → ∃ b, l₂[i]? = some b ∧ F a b := by
  induction P with
  | nil => intro i a h; simp at h
  | cons f _ ih =>
    intro i a h
    cases i with
    | zero => simp only [List.getElem?_cons_zero, Option.some.injEq] at h; subst h; exact ⟨_, rfl, f⟩
    | succ i => simp only [List.getElem?_cons_succ] at h ⊢; exact ih h
theorem tabL_len {T : Mon → Int} {ps : List Mon} {i : Nat} (hl : ps.length ≤ 27) : (tabL T ps i).length ≤ 27 := by
  unfold tabL
  split
  · decide
  · rw [List.length_map, List.length_take]; omega
theorem tabL_next {T : Mon → Int} {ps : List Mon} {i : Nat} {p : Mon} (hp : ps[i]? = some p) (hi : i ≠ 0) : tabL T ps i ++ [(p, T p)] = tabL T ps (i + 1) := by
  unfold tabL
  rw [if_neg hi, if_neg (Nat.succ_ne_zero _), List.take_add_one, hp, List.map_append]; rfl
theorem tabL_zero {T : Mon → Int} {ps : List Mon} (hp : ps[0]? = some (0, 0, 0)) (hT : T (0, 0, 0) = 1) : tabL T ps 0 = tabL T ps (0 + 1) := by
  unfold tabL
  rw [if_pos rfl, if_neg (Nat.succ_ne_zero _), List.take_add_one, hp]; simp [hT]
set_option maxRecDepth 100000 in
set_option maxHeartbeats 1000000 in
theorem outer_for {M : Nat → Nat → Int} {T : Mon → Int} {g : Heap} {L cL D lm : Addr} {ps : List Mon} {qs : List (Addr × List Value)} {os : List (Addr × Obj)} {m0 : Str → Option Value} {cl : List (Str × Addr)} {sc : Scope} {Q : Flow → Shared → Prop} {iter : Expr}
    {p1 p2 p3 p4 p5 p6 p7 p8 p9 p10 p11 p12 e1 e2 e3 b1 b2 b3 b4 b5 c1 c2 c3 c4 d1 d2 d3 d4 d5 d6 f1 f2 f3 f4 f5 f6 f7 f8 f9 f10 f11 f12 f13 f14 f15 f16 f17 f18 f19 f20 g1 g2 g3 g4 g5 g6 g7 g8 g9 g10 g11 g12 g13 g14 g15 g16 g17 : Pos} {k k1 k2 kk kc kc1 kc2 kc3 kz1 kz2 kz3 kz4 kz5 : Nat}
    (hh : A.handled = none) (hu : A.units + 1 < cLine) (e : EnvT env L cL)
    (bt : BuiltIn w A g env L (Str.ofString "tuple") (.type "tuple")) (be : BuiltIn w A g env L (Str.ofString "enumerate") (.type "enumerate")) (bm : BuiltIn w A g env L (Str.ofString "min") (.builtin "min")) (bl : BuiltIn w A g env L (Str.ofString "len") (.builtin "len"))
    (hsc : sc.kind = .function) (hnames : ∀ y ∈ sc.names, y.2 = .local → sc.names.lookup y.1 = some .local)
    (hat : sc.names.lookup (Str.ofString "at") = some .local) (hone : sc.names.lookup (Str.ofString "one") = some .local) (hcl : closureFor sc env = pure cl) (hcf : ∀ n, cellsFrom n sc.names cl = cl)
    (hll : cl.lookup (Str.ofString "lot") = some cL) (hkl : ∀ C, (compEnvC sc cl C env).kindOf "lot" = some .cell ∨ (compEnvC sc cl C env).kindOf "lot" = some .free)
    (hmf : m0 (Str.ofString "found") = some (.ref D)) (hb : ∀ j, j < 7 → -1073741824 < sgnd (lotN j) (minor M (lotN j)) ∧ sgnd (lotN j) (minor M (lotN j)) < 1073741824)
    (hbox : boxOk ps = true) (hlen : ps.length ≤ 27) (hT0 : T (0, 0, 0) = 1) (hTs : ∀ p ∈ ps, p ≠ (0, 0, 0) → T p = sumTo (termT M T p) 7)
    (hminors : env.kindOf (Str.ofString "minors") = some .local) (hmm : m0 (Str.ofString "minors") = some (.ref lm)) (hlm : s.heap.get? lm = some (LCg.lst (os.map fun o => Value.ref o.1)))
    (hn : s.heap.Ns L m0) (hc : ∃ v, s.heap.IsCell cL v) (htab : TabAt w g s.heap D [((0, 0, 0), 1)]) (hstat : StatM M s.heap qs os) (hheld : Held g s.heap) (hLg : g.get? L = none) (hcg : g.get? cL = none) (hDg : g.get? D = none) (hDL : D ≠ L)
    (hplaces : ∀ (Q' : Value → Shared → Prop), (∀ (Dp : Addr) (h' : Heap) (tk : Nat), AccAt s.heap h' Dp ps → s.heap.get? Dp = none → Held s.heap h' → Q' (.ref Dp) { s with heap := h', toks := tk }) → wpAny (model Pg w) A (eval iter env) Q' E s)
    (hfs : ∀ x, foldedSetIterable iter env x = pure x)
    (hQ : ∀ h' tk m', h'.Ns L m' → m' (Str.ofString "found") = some (.ref D) → TabAt w g h' D (tabL T ps ps.length) → Held g h' → Q .next { s with heap := h', toks := tk }) :
    wpAny (model Pg w) A (exec (.For (.Name "place" g1) iter
      [.If (.Compare (.Name "place" g2) [.NotEq] [.Tuple [.Constant (.int 0) kz1 g3, .Constant (.int 0) kz2 g4, .Constant (.int 0) kz3 g5] kz4 g6] g7)
       [.Assign [.Name "total" g8] (.Constant (.int 0) kz5 g9) g10,
        .For (.Tuple [.Name "lot" b1, .Name "number" b2] kk b3) (.Name "minors" b4)
      [.Assign [.Name "lower" c1] (.Call (.Name "tuple" c2) [lowerE sc p1 p2 p3 p4 p5 p6 p7 p8 p9 p10 p11 p12 e1 e2 e3 k k1 k2] [] c3) c4,
       .If (.Compare (.Call (.Name "min" d1) [.Name "lower" d2] [] d3) [.GtE] [.Constant (.int 0) kc d4] d5)
        [.Assign [.Name "total" f1] (.BinOp (.Name "total" f2) .Add (.BinOp (.IfExp (.Compare (.BinOp (.Call (.Name "len" f3) [.Name "lot" f4] [] f5) .Mod (.Constant (.int 2) kc1 f6) f7) [.Eq] [.Constant (.int 1) kc2 f8] f9) (.Name "number" f10) (.BinOp (.Constant (.int 0) kc3 f11) .Sub (.Name "number" f12) f13) f14) .Mult (.Subscript (.Name "found" f15) (.Name "lower" f16) f17) f18) f19) f20] [] d6] [] b5,
        .Assign [.Subscript (.Name "found" g11) (.Name "place" g12) g13] (.Name "total" g14) g15] [] g16] [] g17) env) Q E s := by
  refine wpAny_For (hplaces _ fun Dp hp tkp hacc hDpn hkp => ?_) hfs
  obtain ⟨ks, hDp, hks, hkn⟩ := hacc
  have hn1 := hn.keeps hkp
  obtain ⟨cv0, hc0⟩ := hc
  have hc1 : hp.IsCell cL cv0 := by obtain ⟨oc, hoc, hdc⟩ := hc0; exact ⟨oc, hkp _ _ hoc, hdc⟩
  have htab1 : TabAt w g hp D [((0, 0, 0), 1)] := tab_stay (pr := []) (stays_of_held hkp) (by simp) (by simp) htab
  have hstat1 : StatM M hp qs os := stat_stay (pr := []) (stays_of_held hkp) (by simp) hstat
  have dictD : ∀ {h : Heap} {l : PL}, TabAt w g h D l → ∃ o, h.get? D = some o ∧ (∃ es ep, o.data = .dict es ep) := fun ⟨o, xs, ho, Dd, _⟩ => by
    obtain ⟨es, ep, _, hd, _⟩ := Dd.is
    exact ⟨o, ho, es, ep, hd⟩
  have solid : ∀ i h, OutJ w M T g L cL D lm ps ks qs os m0 i h → ∀ b ∈ [L, cL, D], NoSeq h b ∧ ∃ o, h.get? b = some o ∧ ∀ fs, o.data ≠ .fields fs := by
    intro i h hj b hb
    simp only [List.mem_cons, List.not_mem_nil, or_false] at hb
    rcases hb with rfl | rfl | rfl
    · obtain ⟨m, hn', _⟩ := hj.ns
      obtain ⟨o, es, ep, ho, hd, _⟩ := id hn'
      exact ⟨noSeq_ns hn', o, ho, fun fs q => by rw [hd] at q; cases q⟩
    · obtain ⟨v, hc'⟩ := hj.cell
      obtain ⟨o, ho, hd⟩ := id hc'
      exact ⟨noSeq_cell hc', o, ho, fun fs q => by rw [hd] at q; cases q⟩
    · obtain ⟨o, ho, es, ep, hd⟩ := dictD hj.tab
      exact ⟨(fun o' e' i n q => by rw [ho] at e'; cases e'; rw [hd] at q; cases q), o, ho, fun fs q => by rw [hd] at q; cases q⟩
  have hJ0 : OutJ w M T g L cL D lm ps ks qs os m0 0 hp := ⟨⟨m0, hn1, fun _ _ _ _ _ => rfl⟩, ⟨_, hc1⟩, htab1, hks, fun a ha => NoneOf.up hheld (hkn a ha), hheld.trans hkp, hstat1, hkp _ _ hlm⟩
  have hDpW : Dp ∉ [L, cL, D] := fun hm => (solid 0 hp hJ0 Dp hm).1 _ hDp _ _ rfl
  have gnone : ∀ b ∈ [L, cL, D], g.get? b = none := by
    intro b hb
    simp only [List.mem_cons, List.not_mem_nil, or_false] at hb
    rcases hb with rfl | rfl | rfl <;> assumption
  have gsub : ∀ b, g.get? b ≠ none → (hideAll hp [L, cL, D]).get? b ≠ none := fun b hb => by
    cases e9 : g.get? b with
    | none => exact absurd e9 hb
    | some o =>
      rw [hideAll_get _ (hJ0.held b o e9) (fun hm => by rw [gnone b hm] at e9; cases e9)]
      exact fun q => nomatch q
  have hgs : ∀ {h : Heap}, Stays [L, cL, D] hp h → Held (hideAll hp [L, cL, D]) h := fun {h} st b o e9 => st b o (fun hm => by rw [hideAll_none _ hm] at e9; cases e9) (of_hideAll _ e9)
  refine for_core (g := hideAll hp [L, cL, D]) (l := Dp) (W := [L, cL, D]) (its := (ks.map Value.ref).toArray) (J := fun i h => OutJ w M T g L cL D lm ps ks qs os m0 i h ∧ Stays [L, cL, D] hp h) hh ⟨_, hDp, rfl, _, rfl⟩ ⟨hJ0, Stays.refl _ _⟩ hDpW (fun i h hj => hgs hj.2) ?_ (fun i h hj b hb => (solid i h hj.1 b hb).2) (fun I l' i v s' Q' E' _ _ hq => wpAny_of_eq rfl hq) ?_ ?_
  · rintro i h h' ⟨hj, hst⟩ hks'
    have kg := keepS_widen hks' gsub
    refine ⟨⟨let ⟨m, a, b⟩ := hj.ns; ⟨m, kg.ns a, b⟩, let ⟨v, c⟩ := hj.cell; ⟨v, kg.cell c⟩, kg.tab hj.tab, paired_mono (fun a m k => kg.key k) hj.keys, hj.new, kg.held hj.held, hj.stat.keep kg, kg _ _ hj.lots (.inl fun fs q => by cases q)⟩, fun b o hb e9 => hks' b o (hst b o hb e9) (.inr ?_)⟩
    rw [hideAll_get _ e9 hb]; exact fun q => nomatch q
  · rintro i v h tk9 E' hv ⟨hj, hst⟩
    have hv' : ∃ kp, ks[i]? = some kp ∧ v = .ref kp := by
      rw [List.getElem?_toArray, List.getElem?_map] at hv
      cases e9 : ks[i]? with
      | none => rw [e9] at hv; cases hv
      | some o => rw [e9] at hv; cases hv; exact ⟨o, rfl, rfl⟩
    obtain ⟨kp, hki, rfl⟩ := hv'
    obtain ⟨p, hpi, hkp'⟩ := paired_at hj.keys hki
    have B := boxAt_of hbox hpi
    obtain ⟨m, hnm, hm⟩ := hj.ns
    obtain ⟨cv, hcv⟩ := hj.cell
    have hp0 : ∀ b ∈ [L, cL, D], NoSeq h b := fun b hb => (solid i h hj b hb).1
    have hLc : L ≠ cL := by
      intro q9
      obtain ⟨o9, es, ep, ho9, hd9, _⟩ := hnm
      exact cell_ne hcv ho9 (fun v q => by rw [hd9] at q; cases q) q9
    have hDc : D ≠ cL := by
      obtain ⟨o9, ho9, es, ep, hd9⟩ := dictD hj.tab
      exact cell_ne hcv ho9 (fun v q => by rw [hd9] at q; cases q)
    refine wpAny_assign_Name (store_loc e e.place hnm fun h1 tk1 hn1' hs1 => ?_)
    have st1 : Stays [L] h h1 := Stays.ofBut hs1.extBut
    have S1 : Stays [L, cL, D] h h1 := st1.mono (by simp)
    have key1 : KeyIs h1 kp p := key_stay S1 hp0 hkp'
    refine wpAny_execs_cons (wpAny_If (wpAny_isTrue_Compare1 (cname_local e.fn e.place (e.at_ hn1') (if_pos rfl) (Tuple_ (args_cons (const_int (args_cons (const_int (args_cons (const_int (args_nil ?_)))))))))))
    unfold newTuple
    refine wpAny_newObj_type ?_ (by show _ ≤ sizeLine; rw [sizeLine_eq]; simp)
    dsimp only
    have hk2 : Held h1 (h1.push (tupO [.int 0 tk1, .int 0 (tk1 + 1), .int 0 (tk1 + 1 + 1)])) := fun b o e => Heap.get?_push_of_some _ e
    have hz2 : (h1.push (tupO [.int 0 tk1, .int 0 (tk1 + 1), .int 0 (tk1 + 1 + 1)])).get? h1.objs.size = some (tupO [.int 0 tk1, .int 0 (tk1 + 1), .int 0 (tk1 + 1 + 1)]) := Heap.get?_push_size _ rfl
    generalize h1.push (tupO [.int 0 tk1, .int 0 (tk1 + 1), .int 0 (tk1 + 1 + 1)]) = h2 at *
    generalize h1.objs.size = z at *
    obtain ⟨u1, u2, u3, ekp⟩ := key1
    refine ne_key (p := p) (q := (0, 0, 0)) (Nat.lt_of_succ_lt hu) ⟨_, _, _, hk2 _ _ ekp⟩ ⟨_, _, _, hz2⟩ (wpAny_truthy_bool ?_)
    have S2 : Stays [L, cL, D] h h2 := S1.trans (stays_of_held hk2)
    have hn2 := hn1'.keeps hk2
    have hc2 : h2.IsCell cL cv := by obtain ⟨oc, hoc, hdc⟩ := hcv; exact ⟨oc, hk2 _ _ (st1 _ _ (by simpa using hLc.symm) hoc), hdc⟩
    have hDW1 : D ∉ [L] := by simpa using hDL
    have tab2 : TabAt w g h2 D (tabL T ps i) := tab_stay (pr := []) (stays_of_held hk2) (by simp) (by simp) (tab_stay st1 (fun b hb => hp0 b (by simp at hb; simp [hb])) hDW1 hj.tab)
    have stat2 : StatM M h2 qs os := stat_stay S2 hp0 hj.stat
    have lm2 : h2.get? lm = some (LCg.lst (os.map fun o => Value.ref o.1)) := seq_stay S2 hp0 hj.lots ⟨_, _, rfl⟩
    have held2 : Held g h2 := held_stay S2 gnone hj.held
    have keys2 : Paired (KeyIs h2) ks ps := paired_mono (fun a m k => key_stay S2 hp0 k) hj.keys
    by_cases hi0 : i = 0
    · have hp00 := B.zero.mpr hi0
      rw [show (!decide (p = (0, 0, 0))) = false by simp [hp00], if_neg Bool.false_ne_true]
      refine wpAny_execs_nil (wpAny_execs_nil ⟨rfl, h2, _, rfl, S2, ⟨⟨_, hn2, fun y a _ _ _ => by rw [if_neg a]; exact hm y a (by assumption) (by assumption) (by assumption)⟩, ⟨_, hc2⟩, ?_, keys2, hj.new, held2, stat2, lm2⟩, hst.trans S2⟩)
      subst hi0
      rw [← tabL_zero (by rw [hpi, hp00]) hT0]
      exact tab2
    · have hpn : p ≠ (0, 0, 0) := fun q => hi0 (B.zero.mp q)
      rw [show (!decide (p = (0, 0, 0))) = true by simp [hpn], if_pos rfl]
      refine wpAny_execs_cons (wpAny_Assign_Name (const_int (store_loc e e.total hn2 fun h3 tk3 hn3 hs3 => ?_)))
      have st3 : Stays [L] h2 h3 := Stays.ofBut hs3.extBut
      have hp2 : ∀ b ∈ [L], NoSeq h2 b := fun b hb => by rw [List.mem_singleton.mp hb]; exact noSeq_ns hn2
      have hc3 : h3.IsCell cL cv := by obtain ⟨oc, hoc, hdc⟩ := hc2; exact ⟨oc, st3 _ _ (by simpa using hLc.symm) hoc, hdc⟩
      have hLgn : ∀ b ∈ [L], g.get? b = none := fun b hb => by rw [List.mem_singleton.mp hb]; exact hLg
      have hm3 : ∀ y, y ≠ Str.ofString "place" → y ≠ Str.ofString "total" → y ≠ Str.ofString "number" → y ≠ Str.ofString "lower" → (if y = Str.ofString "total" then some (Value.int 0 (tk1 + 1 + 1 + 1)) else if y = Str.ofString "place" then some (Value.ref kp) else m y) = m0 y := fun y a b c d => by rw [if_neg b, if_neg a]; exact hm y a b c d
      have inJ : InJ w M T g L cL D kp (tabL T ps i) p qs os (fun y => if y = Str.ofString "total" then some (Value.int 0 (tk1 + 1 + 1 + 1)) else if y = Str.ofString "place" then some (Value.ref kp) else m y) 0 h3 :=
        ⟨⟨_, hn3, ⟨_, if_pos rfl⟩, fun _ _ _ _ => rfl⟩, ⟨_, hc3⟩, tab_stay st3 hp2 hDW1 tab2, key_stay st3 hp2 ⟨_, _, _, hk2 _ _ ekp⟩, held_stay st3 hLgn held2, stat_stay st3 hp2 stat2⟩
      refine wpAny_execs_cons (inner_for (g := g) (D := D) (lm := lm) (m0 := fun y => if y = Str.ofString "total" then some (Value.int 0 (tk1 + 1 + 1 + 1)) else if y = Str.ofString "place" then some (Value.ref kp) else m y) hh hu e bt be bm bl hsc hnames hat hone hcl hcf hll hkl ((hm3 _ (by decide) (by decide) (by decide) (by decide)).trans hmf) ((if_neg (by decide)).trans (if_pos rfl)) hb ?_ hminors ((hm3 _ (by decide) (by decide) (by decide) (by decide)).trans hmm) (seq_stay st3 hp2 lm2 ⟨_, _, rfl⟩) inJ hLg hcg hDL fun h4 tk4 hj4 st4 => ?_)
      · intro j hj' hok
        have hlow := B.low hi0 j hj' hok
        unfold tabL
        rw [if_neg hi0]
        exact lk_map_some hlow
      · obtain ⟨m4, hn4, ⟨t4, ht4⟩, hm4⟩ := hj4.ns
        have e4 : sumTo (termT M T p) 7 = T p := (hTs p (List.mem_of_getElem? hpi) hpn).symm
        rw [e4] at ht4
        have hpl4 : m4 (Str.ofString "place") = some (.ref kp) := by rw [hm4 _ (by decide) (by decide) (by decide)]; exact (if_neg (by decide)).trans (if_pos rfl)
        have hfo4 : m4 (Str.ofString "found") = some (.ref D) := by rw [hm4 _ (by decide) (by decide) (by decide)]; exact (hm3 _ (by decide) (by decide) (by decide) (by decide)).trans hmf
        refine wpAny_execs_cons (wpAny_Assign_Subscript (cname_local e.fn e.total (e.at_ hn4) ht4 (cname_local e.fn e.found (e.at_ hn4) hfo4 (cname_local e.fn e.place (e.at_ hn4) hpl4 ?_))))
        have hnew : lk (tabL T ps i) p = none := by
          unfold tabL
          rw [if_neg hi0]
          exact lk_map_none (B.new hi0)
        refine tab_set (c := T p) hj4.tab hj4.key hnew (hj.new kp (List.mem_of_getElem? hki)) hu (by rw [sizeLine_eq]; have := tabL_len (T := T) (i := i) hlen; omega) fun h5 tk5 hs5 htab5 => ?_
        have st5 : Stays [D] h4 h5 := Stays.ofBut hs5.extBut
        have np4 : ∀ b ∈ [D], NoSeq h4 b := fun b hb => by
          rw [List.mem_singleton.mp hb]
          obtain ⟨o9, ho9, es, ep, hd9⟩ := dictD hj4.tab
          exact fun o' e' i n q => by rw [ho9] at e'; cases e'; rw [hd9] at q; cases q
        have S3 : Stays [L, cL, D] h h3 := S2.trans (st3.mono (by simp))
        have S4 : Stays [L, cL, D] h h4 := S3.trans (st4.mono (fun d hd => by simp at hd; rcases hd with rfl | rfl <;> simp))
        have S5 : Stays [L, cL, D] h h5 := S4.trans (st5.mono (by simp))
        obtain ⟨cv4, hcv4⟩ := hj4.cell
        have hc5 : h5.IsCell cL cv4 := by obtain ⟨oc, hoc, hdc⟩ := hcv4; exact ⟨oc, st5 _ _ (by simpa using hDc.symm) hoc, hdc⟩
        refine wpAny_execs_nil (wpAny_execs_nil ⟨rfl, h5, _, rfl, S5, ⟨⟨_, hn4.sameBut hs5 hDL.symm, fun y a b c d => by rw [hm4 y b c d]; exact hm3 y a b c d⟩, ⟨_, hc5⟩, ?_, paired_mono (fun a m k => key_stay S5 hp0 k) hj.keys, hj.new, held_stay S5 gnone hj.held, stat_stay S5 hp0 hj.stat, seq_stay S5 hp0 hj.lots ⟨_, _, rfl⟩⟩, hst.trans S5⟩)
        rw [← tabL_next hpi hi0]
        exact htab5
  · intro h' tk hj
    have hsz : (ks.map Value.ref).toArray.size = ps.length := by simpa using paired_length hks
    rw [hsz] at hj
    obtain ⟨m', hn', hm'⟩ := hj.1.ns
    exact hQ h' tk m' hn' (by rw [hm' _ (by decide) (by decide) (by decide) (by decide)]; exact hmf) hj.1.tab hj.1.held
end

-- part CX
section
variable {prog : Program} {w : World} {A : Around} {E : Value → Shared → Prop} {s : Shared} {env : Env}
/-- a comprehension that is stored under a local name -/
theorem comp_exec {elt target iter : Expr} {ifs : List Expr} {scope : Scope} {cl : List (Str × Addr)} {pos spos py : Pos} {y : Str} {mL : Str → Option Value} {G : Value → Shared → Prop} {Q : Flow → Shared → Prop}
    (hsw : swapsWith (.ListComp elt [⟨target, iter, ifs, 0⟩] scope pos) (some (.Name y py)) spos.line env = pure true)
    (hclos : closureFor scope env = pure cl) (hkind : scope.kind = .function) (hnames : ∀ y ∈ scope.names, y.2 = .local → scope.names.lookup y.1 = some .local)
    (hy : env.kindOf y = some .local) (hp : (env.scope.kind == .class || (env.scope.kind == .module && env.locals != env.globals)) = false)
    (hG : ∀ v s', G v s' → s'.heap.Ns env.locals mL)
    (h : wpAny (model prog w) A (eval iter env) (fun xv s₁ => wpAny (model prog w) A (pyIter xv) (fun it s₂ => ∃ I, it = .ref I ∧
      wpAny (model prog w) A (newList []) (fun acc s₃ => wpAny (model prog w) A (newFunctionEnv scope env.globals cl [] env.qual none .none (some env)) (fun cenv s₄ =>
        codeAny (model prog w) A (.compStart (.ListComp elt [⟨target, iter, ifs, 0⟩] scope pos) 0 (.ref I) acc { cenv with scope := relabel scope env }) (compPost (model prog w) A E none G acc cenv.locals) s₄) E s₃) E s₂) E s₁) E s)
    (hQ : ∀ v s' h', G v s' → h'.Ns env.locals (fun x => if x = y then some v else mL x) → Heap.SameBut env.locals s'.heap h' → Q .next { s' with heap := h', toks := s'.toks + 1 })
    (hs : ∀ x, foldedSetIterable iter env x = pure x := by intro _; rfl) :
    wpAny (model prog w) A (exec (.Assign [.Name y py] (.ListComp elt [⟨target, iter, ifs, 0⟩] scope pos) spos) env) Q E s := by
  rw [exec_Assign_Name_used _ _ _ _ hsw]
  refine wpAny_bind (wpAny_standAt (wpAny_bind ?_))
  show wpAny _ A (do let _ ← comprehension (.ListComp elt [⟨target, iter, ifs, 0⟩] scope pos) scope env _ (newList []) false (eval iter env) (some (assign (.Name y py) env))) _ _ s
  refine wpAny_bind (wpAny_mono (wpAny_comprehension_free (use := some (assign (.Name y py) env)) (Q := fun _ s' => Q .next s') rfl hs hclos hkind hnames
    (wpAny_mono h (fun xv s₁ h₁ => wpAny_mono h₁ (fun it s₂ h₂ => ?_) fun _ _ e => e) fun _ _ e => e)) (fun _ s' hq => wpAny_pure (wpAny_pure hq)) fun _ _ e => e)
  obtain ⟨I, rfl, h₃⟩ := h₂
  refine wpAny_mono h₃ (fun acc s₃ h₄ => wpAny_mono h₄ (fun cenv s₄ h₅ => codeAny_mono h₅ fun r s' hr => ?_) fun _ _ e => e) fun _ _ e => e
  generalize hCe : cenv.locals = C at *
  cases r with
  | error x => exact hr
  | ok f =>
    obtain ⟨m, hn, hall⟩ := hr
    have hg0 := hall s'.heap (Heap.SameBut.refl _ _)
    have hnL : s'.heap.Ns env.locals mL := hG _ _ hg0
    have hCL : C ≠ env.locals := by
      intro e
      obtain ⟨o, es, ep, ho, hd, _⟩ := id hn
      have hg1 := hall (s'.heap.update C fun o => { o with data := .cell none }) (Heap.SameBut.update ..)
      obtain ⟨o', es', ep', ho', hd', _⟩ := hG _ _ hg1
      rw [← e] at ho'
      have := Heap.get?_update_self (fun o => { o with data := .cell none }) ho (by rfl)
      rw [this] at ho'
      cases ho'
      cases hd'
    show wpAny _ A (assign (.Name y py) env acc) _ _ _
    refine wpAny_assign_Name (wpAny_storeName_local hy hnL (fun h₂ hn₂ hs₂ => ?_) hp)
    refine ⟨m, hn.sameBut hs₂ hCL, fun h'' hs'' => ?_⟩
    obtain ⟨oL, esL, epL, hoL, hdL, _⟩ := id hnL
    have hns'' : h''.Ns env.locals (fun x => if x = y then some acc else mL x) := hn₂.sameBut hs'' hCL.symm
    obtain ⟨o2, _, _, ho2, _, _⟩ := id hns''
    have hup := Heap.get?_update_self (fun _ => oL) ho2 (Heap.get?_some_iff.mp hoL).2
    have sb : Heap.SameBut C s'.heap (h''.update env.locals fun _ => oL) := by
      have su := Heap.SameBut.update h'' env.locals fun _ => oL
      refine ⟨su.1.trans (hs''.1.trans hs₂.1), fun b hb => ?_⟩
      by_cases hbL : b = env.locals
      · rw [hbL, hup, hoL]
      · rw [su.2 b hbL, hs''.2 b hb, hs₂.2 b hbL]
    have hgf := hall _ sb
    have su := Heap.SameBut.update h'' env.locals fun _ => oL
    exact hQ acc _ h'' hgf hns'' ⟨su.1.symm, fun b hb => (su.2 b hb).symm⟩
end

-- part TW
section
variable {w : World} {A : Around} {E : Value → Shared → Prop} {s : Shared} {env : Env}
abbrev rngE (d : Int) (r1 r2 r3 r4 r5 r6 r7 : Pos) (kd k1 : Nat) : Expr := .Call (.Name "range" r1) [.BinOp (.Subscript (.Name "powers" r2) (.Constant (.int d) kd r3) r4) .Add (.Constant (.int 1) k1 r5) r6] [] r7
/-- range(powers[d] + 1) -/
theorem range_at {g : Heap} {L cP pp : Addr} {m : Str → Option Value} {d nd : Nat} {its : List Value} {kc : Nat} {t : Tok} {r1 r2 r3 r4 r5 r6 r7 : Pos} {kd k1 : Nat} (hh : A.handled = none) (hk : env.scope.kind = .function)
    (br : BuiltIn w A g env L (Str.ofString "range") (.type "range")) (hg : Held g s.heap) (hn : s.heap.Ns L m)
    (hx : env.kindOf (Str.ofString "powers") = some .cell ∨ env.kindOf (Str.ofString "powers") = some .free) (hc : env.cells.lookup (Str.ofString "powers") = some cP) (hcP : s.heap.IsCell cP (some (.ref pp))) (hpp : s.heap.get? pp = some (lstO its kc))
    (hit : its[d]? = some (.int nd t)) (hd : d < 3) (hnd : nd < 3) : RangeAt A Pg w (rngE d r1 r2 r3 r4 r5 r6 r7 kd k1) env (nd + 1) s := by
  intro E'
  refine Call_ (br r1 _ _ _ _ hg hn (PySem.Pv.callWith_type1 (args_cons (wpAny_BinOp (Subscript_ (cname_cell hk hx hc hcP (const_int ?_)))))))
  refine item_listR ⟨_, hpp, rfl, _, rfl⟩ (Int.natCast_nonneg _) (by omega) (by simpa using hit) ?_
  refine const_int (PyProof.Rows.add_int (args_nil (call_range_1 ?_)))
  refine wpAny_pyIter_range (IsRange.new _ _ _ _ _ _ _) (small_one (by decide) (by decide) (by omega) (by omega)) ?_
  refine ⟨_, _, _, rfl, rfl, fun b o e => Heap.get?_push_of_some _ (Heap.get?_push_of_some _ e), ?_, ?_⟩
  · cases e : s.heap.get? _ with
    | none => rfl
    | some o =>
      have := Heap.lt_size e
      dsimp only at this
      rw [Heap.size_push] at this
      exact absurd this (Nat.not_lt.mpr (Nat.le_succ _))
  · rw [rangeSize_one, if_pos (by omega)]
    show Heap.get? _ _ = some _
    rw [show ((nd + 1 : Nat) : Int) = (nd : Int) + 1 - 0 by omega]
    exact Heap.get?_push_size _ rfl
theorem found_dict {k1 k2 k3 k4 k5 : Nat} {r1 r2 r3 r4 r5 r6 : Pos} {Q : Value → Shared → Prop} (hu : A.units < cLine)
    (h : ∀ D h' tk, TabAt w s.heap h' D [((0, 0, 0), 1)] → s.heap.get? D = none → Held s.heap h' → Q (.ref D) { s with heap := h', toks := tk }) :
    wpAny (model Pg w) A (eval (.Dict [some (.Tuple [.Constant (.int 0) k1 r1, .Constant (.int 0) k2 r2, .Constant (.int 0) k3 r3] k4 r4)] [.Constant (.int 1) k5 r5] r6) env) Q E s := by
  refine wpAny_Dict_any rfl rfl (List.cons_ne_nil _ _) (Nat.le_of_ble_eq_true rfl) ?_
  refine pairTrees_cons_walk ?_
  refine Tuple_ ?_
  refine args_cons (const_int ?_)
  refine args_cons (const_int ?_)
  refine args_cons (const_int ?_)
  refine args_nil ?_
  unfold newTuple
  refine wpAny_newObj_type ?_ (by show _ ≤ sizeLine; rw [sizeLine_eq]; simp)
  refine const_int (pairTrees_nil_walk ?_)
  dsimp only
  have hD0 : s.heap.get? s.heap.objs.size = none := by
    cases e : s.heap.get? s.heap.objs.size with
    | none => rfl
    | some o => exact absurd (Heap.lt_size e) (Nat.lt_irrefl _)
  have hk1 : Held s.heap (s.heap.push { cls := .type "dict", data := .dict #[] }) := fun b o e => Heap.get?_push_of_some _ e
  have hD1 : (s.heap.push { cls := .type "dict", data := .dict #[] }).get? s.heap.objs.size = some { cls := .type "dict", data := .dict #[] } := Heap.get?_push_size _ rfl
  generalize s.heap.push { cls := .type "dict", data := .dict #[] } = h1 at *
  have hka0 : ∀ b, h1.get? b = none → s.heap.get? b = none := fun b => NoneOf.up hk1
  generalize s.heap.objs.size = D at *
  have hk2 : Held h1 (h1.push (tupO [.int 0 s.toks, .int 0 (s.toks + 1), .int 0 (s.toks + 1 + 1)])) := fun b o e => Heap.get?_push_of_some _ e
  have hz2 : (h1.push (tupO [.int 0 s.toks, .int 0 (s.toks + 1), .int 0 (s.toks + 1 + 1)])).get? h1.objs.size = some (tupO [.int 0 s.toks, .int 0 (s.toks + 1), .int 0 (s.toks + 1 + 1)]) := Heap.get?_push_size _ rfl
  generalize h1.push (tupO [.int 0 s.toks, .int 0 (s.toks + 1), .int 0 (s.toks + 1 + 1)]) = h2 at *
  have hkan : h1.get? h1.objs.size = none := by
    cases e : h1.get? h1.objs.size with
    | none => rfl
    | some o => exact absurd (Heap.lt_size e) (Nat.lt_irrefl _)
  generalize h1.objs.size = ka at *
  have hkey : KeyIs h2 ka (0, 0, 0) := ⟨_, _, _, hz2⟩
  unfold storeAll
  rw [List.forIn_cons]
  refine wpAny_bind (wpAny_bind (wpAny_dictSet_heap (hsz := Nat.zero_le _) (knd := IK w) (k := keyL (0, 0, 0)) hu (keyIs_at hkey) ((DObj.nil (w := w)).at (hk2 _ _ hD1) (fun x hx => nomatch hx)) fun h' hm' hs => wpAny_pure ?_))
  simp only []
  rw [List.forIn_nil]
  obtain ⟨o', ho', D'⟩ := DObj.of hm'
  have hka : ka ≠ D := fun e => by
    rw [e, hk2 _ _ hD1] at hz2
    have h3 := congrArg Obj.cls (Option.some.inj hz2)
    exact absurd (show Value.type "dict" = Value.type "tuple" from h3) (by decide)
  refine wpAny_pure (h D h' _ ⟨o', _, ho', D', .cons ⟨rfl, ⟨_, _, _, (hs.2 _ hka).trans hz2⟩, ⟨_, rfl⟩, hka0 _ hkan⟩ .nil⟩ hD0 ?_)
  intro b o e
  refine (hs.2 b fun q => ?_).trans (hk2 _ _ (hk1 _ _ e))
  rw [q, hD0] at e; cases e
end

-- part TX
theorem offTX : True := by
  w_top off
  trivial
structure BdM (M : Nat → Nat → Int) : Prop where
  bd : ∀ i j, Bd 2 (M i j)
theorem minor_bd {M : Nat → Nat → Int} (b : BdM M) (j : Nat) : -1073741824 < sgnd (lotN j) (minor M (lotN j)) ∧ sgnd (lotN j) (minor M (lotN j)) < 1073741824 := by
  have h0 : ∀ cs x, Bd 1000 x → -1073741824 < sgnd cs x ∧ sgnd cs x < 1073741824 := fun cs x hx => by
    have := hx.1; have := hx.2
    unfold sgnd
    split <;> constructor <;> omega
  have m2 : ∀ i j k l, Bd 4 (M i j * M k l) := fun i j k l => bd_mul (b.bd i j) (b.bd k l)
  have d2 : ∀ i j k l i' j' k' l', Bd 8 (M i j * M k l - M i' j' * M k' l') := fun i j k l i' j' k' l' => by
    have h1 := m2 i j k l; have h2 := m2 i' j' k' l'
    have := h1.1; have := h1.2; have := h2.1; have := h2.2
    constructor <;> omega
  have d3 : ∀ x y, Bd 2 x → Bd 8 y → Bd 64 (x * y) := fun x y hx hy => bd_mul (bd_le hx (by decide)) hy
  refine h0 _ _ ?_
  have one : ∀ i, Bd 1000 (M i i) := fun i => bd_le (b.bd i i) (by decide)
  have two : ∀ i j, Bd 1000 (det2 (M i i) (M i j) (M j i) (M j j)) := fun i j => bd_le (d2 i i j j i j j i) (by decide)
  rcases j with _ | _ | _ | _ | _ | _ | j
  · exact one 0
  · exact one 1
  · exact two 0 1
  · exact one 2
  · exact two 0 2
  · exact two 1 2
  · show Bd 1000 (det3 (M 0 0) (M 0 1) (M 0 2) (M 1 0) (M 1 1) (M 1 2) (M 2 0) (M 2 1) (M 2 2))
    unfold det3
    have h1 := d3 _ _ (b.bd 0 0) (d2 1 1 2 2 1 2 2 1)
    have h2 := d3 _ _ (b.bd 0 1) (d2 1 0 2 2 1 2 2 0)
    have h3 := d3 _ _ (b.bd 0 2) (d2 1 0 2 1 1 1 2 0)
    generalize M 0 0 * (M 1 1 * M 2 2 - M 1 2 * M 2 1) = x at *
    generalize M 0 1 * (M 1 0 * M 2 2 - M 1 2 * M 2 0) = y at *
    generalize M 0 2 * (M 1 0 * M 2 1 - M 1 1 * M 2 0) = z at *
    have := h1.1; have := h1.2; have := h2.1; have := h2.2; have := h3.1; have := h3.2
    constructor <;> omega
section
variable {w : World} {loose : List Str} {mean : ExcName → Option Value} {mg mb : Str → Option Value} {dp un : Nat} {gd : Option (List Code)} {cn : Str} {cs : Scope} {a : Addr} {ccd : Value} {cl : List (Str × Addr)} {outer : List Env} {A₀ : Around} {base h₀ : Heap} {L : Addr} {m m9 : Str → Option Value} {s : Shared} {Q E : Value → Shared → Prop}
theorem ints_get {zs : List Value} {ns : List Int} (h : IntsAre zs ns) : ∀ k, k < ns.length → ∃ t, zs[k]? = some (.int (ns.getD k 0) t) := by
  induction h with
  | nil => intro k hk; exact absurd hk (Nat.not_lt_zero _)
  | cons n t _ ih =>
    intro k hk
    cases k with
    | zero => exact ⟨t, rfl⟩
    | succ k => obtain ⟨t', e⟩ := ih k (Nat.lt_of_succ_lt_succ hk); exact ⟨t', e⟩
theorem detN_lot {M : Nat → Nat → Int} (j : Nat) : detN (fun i k => M ((lotN j).getD i 0) ((lotN j).getD k 0)) (lotN j).length = minor M (lotN j) := by
  rcases j with _ | _ | _ | _ | _ | _ | j <;> rfl
theorem det_lot {M : Nat → Nat → Int} {j : Nat} {D : Addr} {qs : List (Addr × List Value)} {hb : Heap} (bM : BdM M) (B : Below A₀ base outer h₀) (F : Fr h₀ L s.heap m) (X : (Mine.hd.heap_1 w.params).In h₀) (T : Top Mine.viewQ loose mean mg mb h₀) (hk : cs.kind = .function)
    (Fb : Fr h₀ L hb m9) (hkb : Held hb s.heap) (hD : s.heap.get? D = some (LCg.lst (qs.map fun q => Value.ref q.1))) (hDn : hb.get? D = none) (hl : qs.length = (lotN j).length)
    (hq : ∀ (i : Nat) q, qs[i]? = some q → s.heap.get? q.1 = some (LCg.lst q.2) ∧ IntsAre q.2 ((lotN j).map (M ((lotN j).getD i 0))) ∧ hb.get? q.1 = none)
    (hd : dp + 3 < recursionLimit) (hu : un + 8 * 3 < cLine)
    (cont : ∀ t h' tk', Held s.heap h' → s.heap.objs.size ≤ h'.objs.size → Q (.int (minor M (lotN j)) t) { s with heap := h', toks := tk' }) :
    wpAny (model Pg w) (ktrTop dp un gd cn cs L a ccd cl outer) (call (.ref 123) [.ref D]) Q E s := by
  have hln := lotN_lt j
  have hl1 : 1 ≤ (lotN j).length := by unfold lotN; split <;> simp
  have at_ : ∀ i, i < (lotN j).length → qs[i]? = some (qs.getD i (0, [])) := fun i hi => by
    rw [List.getD_eq_getElem?_getD, List.getElem?_eq_getElem (by omega)]; rfl
  have hM : MatN s.heap D (fun i => (qs.getD i (0, [])).1) (fun i k => M ((lotN j).getD i 0) ((lotN j).getD k 0)) (lotN j).length := by
    refine ⟨⟨_, ⟨_, hD, rfl, _, rfl⟩, by simpa using hl, fun i hi => by rw [List.getElem?_map, at_ i hi]; rfl⟩, fun i hi => ?_⟩
    obtain ⟨g0, i0, _⟩ := hq i _ (at_ i hi)
    refine ⟨_, ⟨_, g0, rfl, _, rfl⟩, by rw [ints_len i0, List.length_map], fun k hk => ?_⟩
    obtain ⟨t, e⟩ := ints_get i0 k (by rw [List.length_map]; exact hk)
    refine ⟨t, e.trans (congrArg (fun z => some (Value.int z t)) ?_)⟩
    have e9 : (lotN j).getD k 0 = (lotN j)[k] := by rw [List.getD_eq_getElem?_getD, List.getElem?_eq_getElem hk]; rfl
    show _ = M ((lotN j).getD i 0) ((lotN j).getD k 0)
    rw [e9, List.getD_eq_getElem?_getD, List.getElem?_map, List.getElem?_eq_getElem hk]; rfl
  refine TellsH.use B F X (mat_news hM F.ns fun b hb' => ?_) T hk (det_held w _ D _ _ _ (mat_led hM) hl1 hln.2 fun i k _ _ => bM.bd _ _) hd hu fun r h5 tk5 F5 hk5 hz5 hr => ?_
  · refine NoneOf.up Fb.keep ?_
    rcases List.mem_cons.mp hb' with rfl | hb'
    · exact hDn
    · obtain ⟨i, hi, rfl⟩ := List.mem_map.mp hb'
      exact (hq i _ (at_ i (List.mem_range.mp hi))).2.2
  · obtain ⟨t, rfl⟩ := hr
    rw [detN_lot]
    exact cont t h5 tk5 hk5 hz5
end
theorem TabAt.base {w : World} {hb hb' h : Heap} {d : Addr} {l : PL} (x : TabAt w hb h d l) (k : ∀ b, hb.get? b = none → hb'.get? b = none) : TabAt w hb' h d l := by
  obtain ⟨o, xs, ho, D, P⟩ := x
  exact ⟨o, xs, ho, D, paired_mono (fun y q f => ⟨f.key, f.obj, f.val, k _ f.new⟩) P⟩
noncomputable def RetTab (w : World) (T : Mon → Int) (ps : List Mon) (h0 h : Heap) (r : Value) : Prop := ∃ D, r = .ref D ∧ h0.get? D = none ∧ TabAt w h0 h D (tabL T ps ps.length)
set_option maxHeartbeats 4000000 in
theorem table_held (w : World) (pa r0 r1 r2 pp : Addr) (M : Nat → Nat → Int) (T : Mon → Int) (n0 n1 n2 : Nat) (k k0 k1 k2 kp : Nat) (t00 t01 t02 t10 t11 t12 t20 t21 t22 u0 u1 u2 : Tok) (bM : BdM M) (hn0 : n0 < 3) (hn1 : n1 < 3) (hn2 : n2 < 3)
    (hT0 : T (0, 0, 0) = 1) (hTs : ∀ p ∈ placesOf (n0 + 1) (n1 + 1) (n2 + 1), p ≠ (0, 0, 0) → T p = sumTo (termT M T p) 7) :
    TellsH w 5 145 [.ref pa, .ref pp] [(pa, lstO [.ref r0, .ref r1, .ref r2] k), (r0, lstO [.int (M 0 0) t00, .int (M 0 1) t01, .int (M 0 2) t02] k0), (r1, lstO [.int (M 1 0) t10, .int (M 1 1) t11, .int (M 1 2) t12] k1), (r2, lstO [.int (M 2 0) t20, .int (M 2 1) t21, .int (M 2 2) t22] k2), (pp, lstO [.int n0 u0, .int n1 u1, .int n2 u2] kp)]
      (RetTab w T (placesOf (n0 + 1) (n1 + 1) (n2 + 1))) := by
  unfold TellsH
  intro loose mean mg mb dp un gd cn cs a ccd cl outer A₀ base h₀ L m s Q E hB hF hX hN hT hcs hdp hun hret
  refine wpAny_call ?_
  k_dflt (refine' enterC2 ?k1 ?k2 ?k3 ?k4 ?k5 (fun _ h => h) ?kA ?kF ?kK ?k6 ?k7 ?k8 ?k9 ?kB ?kD ?_ ?c2 ?c3 ?c4)
  case kA => exact rfl
  case kF => exact rfl
  case kK => assumption
  case k1 => k_asm
  case k2 => k_asm
  case k3 => k_asm
  case k4 => k_asm
  case k5 => k_asm
  case k6 => k_is
  case k7 => k_is
  case k8 => ktr_room
  case k9 => exact BindsTo.of_eq rfl
  case kB => exact rfl
  case kD => decide +kernel
  case c2 => exact rfl
  case c3 => exact rfl
  case c4 => exact rfl
  intro g' L' h' tk' cells' FG' F' N' Y' B' X' T' l1 G' sz9
  obtain ⟨o1, o2, o3, hE, d1, d2, d3⟩ := CellsAre.three Y'
  subst hE
  have d1 : o1.data = .cell none := d1
  have d2 : o2.data = .cell (some (.ref pp)) := d2
  have d3 : o3.data = .cell (some (.ref pa)) := d3
  have F' : Fr g' L' h' (fun _ => none) := F'
  have nL := N' (L' + 1 + 1 + 1, o1) (.head _)
  have nP := N' (L' + 1 + 1, o2) (.tail _ (.head _))
  have nA := N' (L' + 1, o3) (.tail _ (.tail _ (.head _)))
  have hcA : h'.IsCell (L' + 1) (some (.ref pa)) := ⟨o3, nA.1, d3⟩
  have hcP : h'.IsCell (L' + 1 + 1) (some (.ref pp)) := ⟨o2, nP.1, d2⟩
  have hcL : h'.IsCell (L' + 1 + 1 + 1) none := ⟨o1, nL.1, d1⟩
  have m0 := (N' _ (List.mem_append_right _ (.head _))).1
  have m1 := (N' _ (List.mem_append_right _ (.tail _ (.head _)))).1
  have m2 := (N' _ (List.mem_append_right _ (.tail _ (.tail _ (.head _))))).1
  have m3 := (N' _ (List.mem_append_right _ (.tail _ (.tail _ (.tail _ (.head _)))))).1
  have hpp := (N' _ (List.mem_append_right _ (.tail _ (.tail _ (.tail _ (.tail _ (.head _))))))).1
  have HM : MatAt h' pa M := ⟨fun i => if i = 0 then r0 else if i = 1 then r1 else r2, k, m0, fun i hi => by
    rcases i with _ | _ | _ | i
    · exact ⟨fun j => if j = 0 then t00 else if j = 1 then t01 else t02, k0, m1⟩
    · exact ⟨fun j => if j = 0 then t10 else if j = 1 then t11 else t12, k1, m2⟩
    · exact ⟨fun j => if j = 0 then t20 else if j = 1 then t21 else t22, k2, m3⟩
    · omega⟩
  clear m0 m1 m2 m3
  have gL : g'.get? L' = none := Heap.get?_none_of_le F'.above
  have frOf : ∀ (s' : Shared) (m : Str → Option Value), Held (hideAll h' [L', L' + 1 + 1 + 1]) s'.heap → s'.heap.Ns L' m → Fr g' L' s'.heap m := fun s' m hk hn => ⟨hn, fun b o e => hk b o (hideAll_get _ (F'.keep b o e) (fun hm => by
    simp only [List.mem_cons, List.not_mem_nil, or_false] at hm
    rcases hm with q | q
    · rw [q, gL] at e; cases e
    · rw [q, nL.2.2] at e; cases e)), F'.above⟩
  refine wpAny_execs_cons ?_
  k_dflt (refine' comp_exec (mL := fun _ => none) (G := fun v s' => ∃ lm qs os h tk, v = .ref lm ∧ s' = { s with heap := h, toks := tk } ∧ Held h' h ∧ StatM M h qs os ∧ h.get? lm = some (LCg.lst (os.map fun o => Value.ref o.1))) ?hsw ?hclos ?hkind ?hnames ?hy ?hp ?hG ?core ?hQ ?hs)
  case hsw => with_unfolding_all rfl
  case hclos => with_unfolding_all rfl
  case hkind => rfl
  case hnames => decide
  case hy => rfl
  case hp => rfl
  case hs => intro _; rfl
  case hG => rintro v s' ⟨lm, qs, os, h, tk, rfl, rfl, hk, _⟩; exact F'.ns.keeps hk
  case core =>
    k_dflt (refine' minors_core (K := Mine.hd.heap_1 w.params) (ca := L' + 1) (pa := pa) (M := M) ?ihh ?ihsc ?ihnames ?ihcl ?ihcells ?ihoc ?ihfl ?ihkl ?ihsc1 ?ihnames1 ?ihcl1 ?ihcells1 ?ihoc1 ?ihfr1 ?ihfl1 ?ihkr1 ?ihkl1 ?ihsc2 ?ihnames2 ?ih12 ?ihcl2 ?ihcf2 ?ihla2 ?ihlr2 ?ihka2 ?ihkr2 hcA HM ?iX ?ihkeep ?ihname ?ihdet ?ihiter ?ihQ)
    case ihh => rfl
    case ihsc => rfl
    case ihnames => decide
    case ihcl => with_unfolding_all rfl
    case ihcells => intro C; exact rfl
    case ihoc => intro n; rfl
    case ihfl => intro C; with_unfolding_all rfl
    case ihkl => intro C; rfl
    case ihsc1 => rfl
    case ihnames1 => decide
    case ihcl1 => intro C; with_unfolding_all rfl
    case ihcells1 => intro C C1; exact rfl
    case ihoc1 => intro n; rfl
    case ihfr1 => intro C C1; with_unfolding_all rfl
    case ihfl1 => intro C C1; with_unfolding_all rfl
    case ihkr1 => intro C C1; rfl
    case ihkl1 => intro C C1; first | exact .inr rfl | exact .inl rfl
    case ihsc2 => rfl
    case ihnames2 => decide
    case ih12 => rfl
    case ihcl2 => intro C C1; with_unfolding_all rfl
    case ihcf2 => intro C C1 n; with_unfolding_all rfl
    case ihla2 => intro C C1; with_unfolding_all rfl
    case ihlr2 => intro C C1; with_unfolding_all rfl
    case ihka2 => intro C C1 C2; first | exact .inr rfl | exact .inl rfl
    case ihkr2 => intro C C1 C2; first | exact .inr rfl | exact .inl rfl
    case iX => exact X'.keeps F'.keep
    case ihkeep => with_unfolding_all rfl
    case ihname =>
      intro C s' Q' E' hk h
      have F4 : Fr g' L' s'.heap (fun _ => none) := fr_held F' hk
      walk1
      exact h
    case ihdet =>
      intro j s' D qs Q' E' hk hD hDn hl hq cont
      have F4 : Fr g' L' s'.heap (fun _ => none) := fr_held F' hk
      k_dflt (refine det_lot bM B' F4 X' T' rfl F' hk hD hDn hl hq ?_ ?_ cont)
      · ktr_room
      · ktr_units
    case ihiter =>
      refine Call_ ?_
      walk1
      refine callWith_K0 (X'.keeps F'.keep) (by with_unfolding_all rfl) ?_
      k_dflt (refine TellsH.use B' F' X' PyProof.Rows.News.nil T' rfl (lots_held w) ?_ ?_ ?_)
      · ktr_room
      · ktr_units
      · rintro r h5 tk5 F5 hk5 hz5 ⟨pl, qs, rfl, hL⟩
        exact ⟨pl, qs, h5, tk5, rfl, rfl, hk5, hL⟩
    case ihQ =>
      rintro D pl qs rs h5 tk5 pr hL ⟨os, rfl, hl, ho⟩ hD hn hk
      exact ⟨D, qs, os, h5, tk5, rfl, rfl, hk, ⟨hl, fun j q hj => hL.each j q hj, fun j o hj => ⟨(ho j o hj).1, (ho j o hj).2.1⟩⟩, hD⟩
  case hQ =>
    rintro v s' h5 ⟨lm, qs, os, h, tk, rfl, rfl, hk, hst, hlm⟩ hn5 hs5
    have hn5 : h5.Ns L' (fun x => if x = Str.ofString "minors" then some (.ref lm) else none) := hn5
    have hs5 : Heap.SameBut L' h h5 := hs5
    show wpAny _ _ (execs _ _) _ _ _
    refine wpAny_execs_cons ?_
    k_dflt (refine wpAny_Assign_Name ?_)
    refine found_dict ?_ fun D h6 tk6 htab hDn hk6 => ?_
    · ktr_units
    have hn6 := hn5.keeps hk6
    k_dflt (refine wpAny_storeName_local rfl hn6 (fun h7 hn7 hs7 => ?_) rfl)
    have hn7 : h7.Ns L' (fun x => if x = Str.ofString "found" then some (.ref D) else if x = Str.ofString "minors" then some (.ref lm) else none) := hn7
    have hs7 : Heap.SameBut L' h6 h7 := hs7
    have st5 : Stays [L'] h h5 := Stays.ofBut hs5.extBut
    have st7 : Stays [L'] h6 h7 := Stays.ofBut hs7.extBut
    have S7 : Stays [L'] h h7 := fun b o hb e => st7 b o hb (hk6 _ _ (st5 b o hb e))
    have S7' : Stays [L'] h' h7 := fun b o hb e => S7 b o hb (hk b o e)
    have hDL : D ≠ L' := fun q => by
      obtain ⟨oL, _, _, hL, _⟩ := hn5
      rw [q, hL] at hDn; cases hDn
    have npL : ∀ {x : Heap} {mm : Str → Option Value}, x.Ns L' mm → ∀ b ∈ [L'], NoSeq x b := fun {x mm} hn b hb => by rw [List.mem_singleton.mp hb]; exact noSeq_ns hn
    have hnh : h.Ns L' (fun _ => none) := F'.ns.keeps hk
    have hcLne : L' + 1 + 1 + 1 ≠ L' := nL.2.1
    have cellUp : ∀ {c : Addr} {v : Option Value}, c ≠ L' → h'.IsCell c v → h7.IsCell c v := fun {c v} hc ⟨o, ho, hd⟩ => ⟨o, S7' _ _ (by simpa using hc) ho, hd⟩
    have hc7 := cellUp hcLne hcL
    have gnone : ∀ b ∈ [L', L' + 1 + 1 + 1], (hideAll h' [L', L' + 1 + 1 + 1]).get? b = none := fun b hb => hideAll_none _ hb
    have held7 : Held (hideAll h' [L', L' + 1 + 1 + 1]) h7 := fun b o e => S7' b o (fun hm => by rw [hideAll_none _ (by rw [List.mem_singleton.mp hm]; simp)] at e; cases e) (of_hideAll _ e)
    have hDg : (hideAll h' [L', L' + 1 + 1 + 1]).get? D = none := by
      cases e : (hideAll h' [L', L' + 1 + 1 + 1]).get? D with
      | none => rfl
      | some o => rw [st5 D o (by simpa using hDL) (hk _ _ (of_hideAll _ e))] at hDn; cases hDn
    have hDh : h'.get? D = none := by
      cases e : h'.get? D with
      | none => rfl
      | some o => rw [st5 D o (by simpa using hDL) (hk _ _ e)] at hDn; cases hDn
    have hpp7 : h7.get? pp = some (lstO [.int n0 u0, .int n1 u1, .int n2 u2] kp) := seq_stay S7' (npL F'.ns) hpp ⟨_, _, rfl⟩
    have hcP7 := cellUp nP.2.1 hcP
    show wpAny _ _ (execs _ _) _ _ _
    refine wpAny_execs_cons ?_
    k_dflt (refine' outer_for (g := hideAll h' [L', L' + 1 + 1 + 1]) (L := L') (cL := L' + 1 + 1 + 1) (D := D) (lm := lm) (M := M) (T := T) (ps := placesOf (n0 + 1) (n1 + 1) (n2 + 1)) (m0 := fun x => if x = Str.ofString "found" then some (.ref D) else if x = Str.ofString "minors" then some (.ref lm) else none) ?jhh ?jhu ?je ?jbt ?jbe ?jbm ?jbl ?jhsc ?jhnames ?jhat ?jhone ?jhcl ?jhcf ?jhll ?jhkl ?jmf ?jmb ?jbox ?jlen ?jT0 ?jTs ?jhm ?jmm ?jlm ?jn ?jc ?jtab ?jst ?jheld ?jLg ?jcg ?jDg ?jDL ?jpl ?jfs ?jQ)
    case jhh => rfl
    case jhu => ktr_units
    case je => exact ⟨rfl, rfl, rfl, rfl, rfl, rfl, rfl, rfl, by with_unfolding_all rfl, rfl⟩
    case jbt => intro pos s' m Q E hh hn h; have F4 := frOf s' m hh hn; walk1; exact h
    case jbe => intro pos s' m Q E hh hn h; have F4 := frOf s' m hh hn; walk1; exact h
    case jbm => intro pos s' m Q E hh hn h; have F4 := frOf s' m hh hn; walk1; exact h
    case jbl => intro pos s' m Q E hh hn h; have F4 := frOf s' m hh hn; walk1; exact h
    case jhsc => rfl
    case jhnames => decide
    case jhat => rfl
    case jhone => rfl
    case jhcl => with_unfolding_all rfl
    case jhcf => intro n; with_unfolding_all rfl
    case jhll => with_unfolding_all rfl
    case jhkl => intro C; first | exact .inr rfl | exact .inl rfl
    case jlen =>
      show (placesOf (n0 + 1) (n1 + 1) (n2 + 1)).length ≤ 27
      unfold placesOf
      rw [flat_len (c := (n1 + 1) * (n2 + 1)) (fun i => by rw [planesOf, flat_len (rows_len _ i)])]
      have : (n0 + 1) * ((n1 + 1) * (n2 + 1)) ≤ 3 * (3 * 3) := Nat.mul_le_mul (by omega) (Nat.mul_le_mul (by omega) (by omega))
      omega
    case jhm => rfl
    case jmf => exact if_pos rfl
    case jmb => exact fun j _ => minor_bd bM j
    case jbox => exact box_ok hn0 hn1 hn2
    case jT0 => exact hT0
    case jTs => exact hTs
    case jmm => exact (if_neg (by decide)).trans (if_pos rfl)
    case jlm => exact seq_stay S7 (npL hnh) hlm ⟨_, _, rfl⟩
    case jn => exact hn7
    case jc => exact ⟨_, hc7⟩
    case jtab => exact (tab_stay st7 (npL hn6) (by simpa using hDL) htab).base fun b hb => NoneOf.up (fun b o e => st5 b o (fun hm => by rw [hideAll_none _ (by rw [List.mem_singleton.mp hm]; simp)] at e; cases e) (hk _ _ (of_hideAll _ e))) hb
    case jst => exact stat_stay S7 (npL hnh) hst
    case jheld => exact held7
    case jLg => exact gnone _ (by simp)
    case jcg => exact gnone _ (by simp)
    case jDg => exact hDg
    case jDL => exact hDL
    case jfs => intro _; rfl
    case jpl =>
      intro Q' hcont
      k_dflt (refine' places_comp (n0 := n0 + 1) (n1 := n1 + 1) (n2 := n2 + 1) ?phh ?pclos ?psc ?pnames ?pcf ?ppc ?pki ?pkj ?pkk ?pb0 ?pb1 ?pb2 ?pit0 ?pit1 ?pit2 ?ps0 ?ps1 ?ps2 ?pQ)
      case phh => rfl
      case pclos => with_unfolding_all rfl
      case psc => rfl
      case pnames => decide
      case pcf => intro n; with_unfolding_all rfl
      case ppc => intro h; rfl
      case pki => rfl
      case pkj => rfl
      case pkk => rfl
      case pb0 => omega
      case pb1 => omega
      case pb2 => omega
      case pit0 =>
        k_dflt (refine range_at (d := 0) (g := hideAll h' [L', L' + 1 + 1 + 1]) (L := L') (cP := L' + 1 + 1) (pp := pp) rfl rfl ?_ held7 hn7 (.inl rfl) (by with_unfolding_all rfl) hcP7 hpp7 rfl (by decide) hn0)
        intro pos s' m Q E hh hn h; have F4 := frOf s' m hh hn; walk1; exact h
      case pit1 =>
        intro C s' hk9
        k_dflt (refine range_at (d := 1) (g := hideAll h' [L', L' + 1 + 1 + 1]) (L := L') (cP := L' + 1 + 1) (pp := pp) rfl rfl ?_ (held7.trans hk9) (hn7.keeps hk9) (by first | exact .inr rfl | exact .inl rfl) (by with_unfolding_all rfl) (by obtain ⟨oc, ho, hd⟩ := hcP7; exact ⟨oc, hk9 _ _ ho, hd⟩) (hk9 _ _ hpp7) rfl (by decide) hn1)
        intro pos s' m Q E hh hn h; have F4 := frOf s' m hh hn; walk1; exact h
      case pit2 =>
        intro C s' hk9
        k_dflt (refine range_at (d := 2) (g := hideAll h' [L', L' + 1 + 1 + 1]) (L := L') (cP := L' + 1 + 1) (pp := pp) rfl rfl ?_ (held7.trans hk9) (hn7.keeps hk9) (by first | exact .inr rfl | exact .inl rfl) (by with_unfolding_all rfl) (by obtain ⟨oc, ho, hd⟩ := hcP7; exact ⟨oc, hk9 _ _ ho, hd⟩) (hk9 _ _ hpp7) rfl (by decide) hn2)
        intro pos s' m Q E hh hn h; have F4 := frOf s' m hh hn; walk1; exact h
      case ps0 => intro _; rfl
      case ps1 => intro _ _; rfl
      case ps2 => intro _ _; rfl
      case pQ => exact hcont
    case jQ =>
      intro h8 tk8 m8 hn8 hm8 htab8 held8
      show wpAny _ _ (execs _ _) _ _ _
      refine wpAny_execs_cons (wpAny_Return_some ?_)
      k_dflt (refine cname_local rfl rfl hn8 hm8 ?_)
      show LeaveK _ _ _ _ _ _ _
      have hsh : Held s.heap h' := fun b o e => by
        by_cases hm : b ∈ List.map (·.1) [(pa, lstO [.ref r0, .ref r1, .ref r2] k), (r0, lstO [.int (M 0 0) t00, .int (M 0 1) t01, .int (M 0 2) t02] k0), (r1, lstO [.int (M 1 0) t10, .int (M 1 1) t11, .int (M 1 2) t12] k1), (r2, lstO [.int (M 2 0) t20, .int (M 2 1) t21, .int (M 2 2) t22] k2), (pp, lstO [.int n0 u0, .int n1 u1, .int n2 u2] kp)]
        · obtain ⟨q, hq, rfl⟩ := List.mem_map.mp hm
          rw [(hN q hq).1] at e
          rw [(N' q (List.mem_append_right _ hq)).1, e]
        · exact F'.keep b o (G' b o e hm)
      have hlt : ∀ b o, s.heap.get? b = some o → b ∉ [L', L' + 1 + 1 + 1] := fun b o e hm => by
        have h1 : @LT.lt Nat _ b L' := Nat.lt_of_lt_of_le (Heap.lt_size e) sz9
        simp only [List.mem_cons, List.not_mem_nil, or_false] at hm
        rcases hm with q | q
        · exact absurd h1 (by rw [q]; exact Nat.lt_irrefl _)
        · have q' : @Eq Nat b (L' + 1 + 1 + 1) := q
          omega
      refine leaveK_ (frOf _ m8 held8 hn8) PyProof.Rows.News.nil fun FF _ => ?_
      refine hret _ _ _ FF (fun b o e => held8 b o (hideAll_get _ (hsh b o e) (hlt b o e))) (Nat.le_trans sz9 (Nat.le_of_lt hn8.lt)) ⟨D, rfl, NoneOf.up hsh hDh, htab8.base fun b hb => NoneOf.up (fun b o e => hideAll_get _ (hsh b o e) (hlt b o e)) hb⟩

-- part QA
noncomputable def lin (M : Nat → Nat → Int) (i : Nat) (f : Mon → Int) : Int := M i 0 * f (1, 0, 0) + M i 1 * f (0, 1, 0) + M i 2 * f (0, 0, 1)
noncomputable def pw (M : Nat → Nat → Int) (i : Nat) : Nat → (Mon → Int) → Int
  | 0, f => f (0, 0, 0)
  | n + 1, f => lin M i fun p => pw M i n fun q => f (addM q p)
noncomputable def dl (t x : Mon) : Int := if x = t then 1 else 0
/-- the number at t of the product of the rows' powers -/
noncomputable def TM (M : Nat → Nat → Int) (t : Mon) : Int := pw M 2 t.2.2.toNat fun p => pw M 1 t.2.1.toNat fun q => pw M 0 t.1.toNat fun r => dl t (addM (addM r q) p)
/-- a polynomial in the nine numbers: a number and its places (sorted), each -/
abbrev Pn := List (Int × List Nat)
noncomputable def evm (M : Nat → Nat → Int) : List Nat → Int
  | [] => 1
  | x :: l => M (x / 3) (x % 3) * evm M l
noncomputable def evn (M : Nat → Nat → Int) : Pn → Int
  | [] => 0
  | q :: l => q.1 * evm M q.2 + evn M l
noncomputable def insm (x : Nat) : List Nat → List Nat
  | [] => [x]
  | y :: l => bif Nat.ble x y then x :: y :: l else y :: insm x l
noncomputable def eqm : List Nat → List Nat → Bool
  | [], [] => true
  | x :: l, y :: l' => Nat.beq x y && eqm l l'
  | _, _ => false
noncomputable def mulV (x : Nat) : Pn → Pn
  | [] => []
  | q :: l => (q.1, insm x q.2) :: mulV x l
noncomputable def scal (c : Int) : Pn → Pn
  | [] => []
  | q :: l => (c * q.1, q.2) :: scal c l
noncomputable def putn (c : Int) (m : List Nat) : Pn → Pn
  | [] => [(c, m)]
  | q :: l => bif eqm q.2 m then (q.1 + c, m) :: l else q :: putn c m l
noncomputable def addn : Pn → Pn → Pn
  | [], l => l
  | q :: p, l => putn q.1 q.2 (addn p l)
noncomputable def mulm : List Nat → Pn → Pn
  | [], l => l
  | x :: m, l => mulV x (mulm m l)
noncomputable def muln : Pn → Pn → Pn
  | [], _ => []
  | q :: p, l => addn (mulm q.2 (scal q.1 l)) (muln p l)
noncomputable def zeron : Pn → Bool
  | [] => true
  | q :: l => (match q.1 with | .ofNat 0 => true | _ => false) && zeron l
section
variable {M : Nat → Nat → Int}
theorem evm_insm (x : Nat) (l : List Nat) : evm M (insm x l) = M (x / 3) (x % 3) * evm M l := by
  induction l with
  | nil => rfl
  | cons y l ih =>
    unfold insm
    cases Nat.ble x y
    · show M (y / 3) (y % 3) * evm M (insm x l) = _ * (_ * _)
      rw [ih, Int.mul_left_comm]
    · rfl
theorem eqm_eq : ∀ {l l' : List Nat}, eqm l l' = true → l = l'
  | [], [], _ => rfl
  | x :: l, y :: l', h => by
    have h := Bool.and_eq_true_iff.mp h
    rw [Nat.eq_of_beq_eq_true h.1, eqm_eq h.2]
theorem evn_mulV (x : Nat) (p : Pn) : evn M (mulV x p) = M (x / 3) (x % 3) * evn M p := by
  induction p with
  | nil => exact (Int.mul_zero _).symm
  | cons q p ih => show q.1 * evm M (insm x q.2) + evn M (mulV x p) = _ * (_ + _); rw [ih, evm_insm, Int.mul_add, Int.mul_left_comm]
theorem evn_scal (c : Int) (p : Pn) : evn M (scal c p) = c * evn M p := by
  induction p with
  | nil => exact (Int.mul_zero _).symm
  | cons q p ih => show c * q.1 * evm M q.2 + evn M (scal c p) = _ * (_ + _); rw [ih, Int.mul_add, Int.mul_assoc]
theorem evn_putn (c : Int) (m : List Nat) (p : Pn) : evn M (putn c m p) = c * evm M m + evn M p := by
  induction p with
  | nil => rfl
  | cons q p ih =>
    unfold putn
    cases e : eqm q.2 m
    · show q.1 * evm M q.2 + evn M (putn c m p) = _ + (_ + _)
      rw [ih, Int.add_left_comm]
    · show (q.1 + c) * evm M m + evn M p = _ + (q.1 * evm M q.2 + _)
      rw [eqm_eq e, Int.add_mul, Int.add_comm (q.1 * _), Int.add_assoc]
theorem evn_addn (p l : Pn) : evn M (addn p l) = evn M p + evn M l := by
  induction p with
  | nil => exact (Int.zero_add _).symm
  | cons q p ih => show evn M (putn q.1 q.2 (addn p l)) = _ + _ + _; rw [evn_putn, ih, Int.add_assoc]
theorem evn_mulm (m : List Nat) (p : Pn) : evn M (mulm m p) = evm M m * evn M p := by
  induction m with
  | nil => exact (Int.one_mul _).symm
  | cons x m ih => show evn M (mulV x (mulm m p)) = _ * _ * _; rw [evn_mulV, ih, Int.mul_assoc]
theorem evn_muln (p l : Pn) : evn M (muln p l) = evn M p * evn M l := by
  induction p with
  | nil => exact (Int.zero_mul _).symm
  | cons q p ih => show evn M (addn (mulm q.2 (scal q.1 l)) (muln p l)) = (_ + _) * _; rw [evn_addn, evn_mulm, evn_scal, ih, Int.add_mul, Int.mul_left_comm, Int.mul_assoc]
theorem evn_zero {p : Pn} (h : zeron p = true) : evn M p = 0 := by
  induction p with
  | nil => rfl
  | cons q p ih =>
    obtain ⟨c, m⟩ := q
    have h := Bool.and_eq_true_iff.mp h
    have hc : c = 0 := by
      have := h.1
      match c, this with
      | .ofNat 0, _ => rfl
    show c * _ + evn M p = 0
    rw [hc, ih h.2, Int.zero_mul]; rfl
theorem evn_same {p l : Pn} (h : zeron (addn p (scal (-1) l)) = true) : evn M p = evn M l := by
  have := evn_zero (M := M) h
  rw [evn_addn, evn_scal] at this
  omega
end
/-- one number -/
noncomputable def varn (i j : Nat) : Pn := [(1, [3 * i + j])]
theorem evn_varn (M : Nat → Nat → Int) {i j : Nat} (h : j < 3) : evn M (varn i j) = M i j := by
  show 1 * (M ((3 * i + j) / 3) ((3 * i + j) % 3) * 1) + 0 = _
  rw [Int.add_zero, Int.one_mul, Int.mul_one, show (3 * i + j) / 3 = i by omega, show (3 * i + j) % 3 = j by omega]
noncomputable def linn (i : Nat) (f : Mon → Pn) : Pn := addn (mulV (3 * i) (f (1, 0, 0))) (addn (mulV (3 * i + 1) (f (0, 1, 0))) (mulV (3 * i + 2) (f (0, 0, 1))))
noncomputable def pwn (i : Nat) : Nat → (Mon → Pn) → Pn
  | 0, f => f (0, 0, 0)
  | n + 1, f => linn i fun p => pwn i n fun q => f (addM q p)
noncomputable def dln (t x : Mon) : Pn := bif (x.1 == t.1 && (x.2.1 == t.2.1 && x.2.2 == t.2.2)) then [(1, [])] else []
noncomputable def TMn (t : Mon) : Pn := pwn 2 t.2.2.toNat fun p => pwn 1 t.2.1.toNat fun q => pwn 0 t.1.toNat fun r => dln t (addM (addM r q) p)
theorem evn_linn (M : Nat → Nat → Int) (i : Nat) (f : Mon → Pn) : evn M (linn i f) = lin M i fun p => evn M (f p) := by
  unfold linn lin
  rw [evn_addn, evn_addn, evn_mulV, evn_mulV, evn_mulV, show (3 * i) / 3 = i by omega, show (3 * i) % 3 = 0 by omega, show (3 * i + 1) / 3 = i by omega, show (3 * i + 1) % 3 = 1 by omega, show (3 * i + 2) / 3 = i by omega, show (3 * i + 2) % 3 = 2 by omega, Int.add_assoc]
theorem evn_pwn (M : Nat → Nat → Int) (i n : Nat) : ∀ f : Mon → Pn, evn M (pwn i n f) = pw M i n fun p => evn M (f p) := by
  induction n with
  | zero => intro f; rfl
  | succ n ih =>
    intro f
    show evn M (linn i _) = lin M i _
    rw [evn_linn]
    congr 1
    funext p
    exact ih _
theorem evn_dln (M : Nat → Nat → Int) (t x : Mon) : evn M (dln t x) = dl t x := by
  obtain ⟨a, b, c⟩ := t
  obtain ⟨a', b', c'⟩ := x
  unfold dln dl
  cases e : (a' == a && (b' == b && c' == c))
  · rw [if_neg fun q => ?_]
    · rfl
    · cases q
      simp at e
  · have e := Bool.and_eq_true_iff.mp e
    have e2 := Bool.and_eq_true_iff.mp e.2
    rw [if_pos (by rw [eq_of_beq e.1, eq_of_beq e2.1, eq_of_beq e2.2])]
    rfl
theorem evn_TMn (M : Nat → Nat → Int) (t : Mon) : evn M (TMn t) = TM M t := by
  unfold TMn TM
  rw [evn_pwn]
  congr 1
  funext p
  rw [evn_pwn]
  congr 1
  funext q
  rw [evn_pwn]
  congr 1
  funext r
  exact evn_dln M _ _
noncomputable def subn (p l : Pn) : Pn := addn p (scal (-1) l)
theorem evn_subn (M : Nat → Nat → Int) (p l : Pn) : evn M (subn p l) = evn M p - evn M l := by
  unfold subn
  rw [evn_addn, evn_scal]
  omega
noncomputable def det2n (a b c d : Pn) : Pn := subn (muln a d) (muln b c)
theorem evn_det2 (M : Nat → Nat → Int) (a b c d : Pn) : evn M (det2n a b c d) = det2 (evn M a) (evn M b) (evn M c) (evn M d) := by
  unfold det2n det2
  rw [evn_subn, evn_muln, evn_muln]
noncomputable def det3n (a b c d e f g h i : Pn) : Pn := addn (subn (muln a (det2n e f h i)) (muln b (det2n d f g i))) (muln c (det2n d e g h))
theorem evn_det3 (M : Nat → Nat → Int) (a b c d e f g h i : Pn) : evn M (det3n a b c d e f g h i) = det3 (evn M a) (evn M b) (evn M c) (evn M d) (evn M e) (evn M f) (evn M g) (evn M h) (evn M i) := by
  unfold det3n det3
  rw [evn_addn, evn_subn, evn_muln, evn_muln, evn_muln, evn_det2, evn_det2, evn_det2]
  rfl
noncomputable def minorn : List Nat → Pn
  | [a] => varn a a
  | [a, b] => det2n (varn a a) (varn a b) (varn b a) (varn b b)
  | [a, b, c] => det3n (varn a a) (varn a b) (varn a c) (varn b a) (varn b b) (varn b c) (varn c a) (varn c b) (varn c c)
  | _ => []
theorem evn_minorn (M : Nat → Nat → Int) : ∀ cs : List Nat, (∀ c ∈ cs, c < 3) → evn M (minorn cs) = minor M cs
  | [], _ => rfl
  | [a], h => evn_varn M (h a (.head _))
  | [a, b], h => by
    show evn M (det2n _ _ _ _) = det2 _ _ _ _
    rw [evn_det2, evn_varn M (h a (.head _)), evn_varn M (h b (.tail _ (.head _))), evn_varn M (h a (.head _)), evn_varn M (h b (.tail _ (.head _)))]
  | [a, b, c], h => by
    show evn M (det3n _ _ _ _ _ _ _ _ _) = det3 _ _ _ _ _ _ _ _ _
    have ha := h a (.head _)
    have hb := h b (.tail _ (.head _))
    have hc := h c (.tail _ (.tail _ (.head _)))
    rw [evn_det3, evn_varn M ha, evn_varn M hb, evn_varn M hc, evn_varn M ha, evn_varn M hb, evn_varn M hc, evn_varn M ha, evn_varn M hb, evn_varn M hc]
  | _ :: _ :: _ :: _ :: _, _ => rfl
noncomputable def sgnn (cs : List Nat) (x : Pn) : Pn := if Int.fmod (cs.length : Int) 2 == 1 then x else scal (-1) x
noncomputable def termn (p : Mon) (j : Nat) : Pn := bif okM (lowOf p (lotN j)) then muln (sgnn (lotN j) (minorn (lotN j))) (TMn (lowOf p (lotN j))) else []
noncomputable def sumn (f : Nat → Pn) : Nat → Pn
  | 0 => []
  | n + 1 => addn (sumn f n) (f n)
theorem evn_sgnn (M : Nat → Nat → Int) (cs : List Nat) (x : Pn) : evn M (sgnn cs x) = sgnd cs (evn M x) := by
  unfold sgnn sgnd
  split
  · rfl
  · rw [evn_scal]; omega
theorem evn_termn (M : Nat → Nat → Int) (p : Mon) (j : Nat) : evn M (termn p j) = termT M (TM M) p j := by
  unfold termn termT
  cases okM (lowOf p (lotN j))
  · rfl
  · show evn M (muln _ _) = _
    rw [evn_muln, evn_sgnn, evn_minorn M _ (lotN_lt j).1, evn_TMn, if_pos rfl]
theorem evn_sumn (M : Nat → Nat → Int) (p : Mon) (n : Nat) : evn M (sumn (termn p) n) = sumTo (termT M (TM M) p) n := by
  induction n with
  | zero => rfl
  | succ n ih => show evn M (addn _ _) = _ + _; rw [evn_addn, ih, evn_termn]
noncomputable def okT (i j k : Nat) : Bool := zeron (subn (TMn (i, j, k)) (sumn (termn (i, j, k)) 7))
noncomputable def okN (i j k : Nat) : Bool := (Nat.beq i 0 && (Nat.beq j 0 && Nat.beq k 0)) || okT i j k
noncomputable def okAll (i : Nat) : Bool := (okN i 0 0 && (okN i 0 1 && okN i 0 2)) && ((okN i 1 0 && (okN i 1 1 && okN i 1 2)) && (okN i 2 0 && (okN i 2 1 && okN i 2 2)))
theorem ok0 : okAll 0 = true := by decide +kernel
theorem ok1 : okAll 1 = true := by decide +kernel
theorem ok2 : okAll 2 = true := by decide +kernel
theorem okN_of {i j k : Nat} (hi : i < 3) (hj : j < 3) (hk : k < 3) : okN i j k = true := by
  have h : okAll i = true := match i, hi with
    | 0, _ => ok0
    | 1, _ => ok1
    | 2, _ => ok2
  have h := Bool.and_eq_true_iff.mp h
  have ha := Bool.and_eq_true_iff.mp h.1
  have hb := Bool.and_eq_true_iff.mp h.2
  have hb1 := Bool.and_eq_true_iff.mp hb.1
  have hb2 := Bool.and_eq_true_iff.mp hb.2
  match j, hj, k, hk with
  | 0, _, 0, _ => exact ha.1
  | 0, _, 1, _ => exact (Bool.and_eq_true_iff.mp ha.2).1
  | 0, _, 2, _ => exact (Bool.and_eq_true_iff.mp ha.2).2
  | 1, _, 0, _ => exact hb1.1
  | 1, _, 1, _ => exact (Bool.and_eq_true_iff.mp hb1.2).1
  | 1, _, 2, _ => exact (Bool.and_eq_true_iff.mp hb1.2).2
  | 2, _, 0, _ => exact hb2.1
  | 2, _, 1, _ => exact (Bool.and_eq_true_iff.mp hb2.2).1
  | 2, _, 2, _ => exact (Bool.and_eq_true_iff.mp hb2.2).2
theorem TM_at (M : Nat → Nat → Int) {i j k : Nat} (hi : i < 3) (hj : j < 3) (hk : k < 3) (hne : ((i : Int), (j : Int), (k : Int)) ≠ ((0, 0, 0) : Mon)) : TM M (i, j, k) = sumTo (termT M (TM M) (i, j, k)) 7 := by
  rcases Bool.or_eq_true_iff.mp (okN_of hi hj hk) with h | h
  · have h := Bool.and_eq_true_iff.mp h
    have h2 := Bool.and_eq_true_iff.mp h.2
    exact absurd (by rw [Nat.eq_of_beq_eq_true h.1, Nat.eq_of_beq_eq_true h2.1, Nat.eq_of_beq_eq_true h2.2]; rfl) hne
  · rw [← evn_TMn, evn_same h, evn_sumn]
theorem T000 (M : Nat → Nat → Int) : TM M (0, 0, 0) = 1 := rfl
noncomputable def permn : Pn := [(1, [0, 4, 8]), (1, [0, 5, 7]), (1, [1, 3, 8]), (1, [1, 5, 6]), (1, [2, 3, 7]), (1, [2, 4, 6])]
theorem T111 (M : Nat → Nat → Int) : TM M (1, 1, 1) = evn M permn := by
  rw [← evn_TMn]
  exact evn_same (by decide +kernel)

-- part QB
theorem flat_mem {blk : Nat → List Mon} {n : Nat} {p : Mon} (h : p ∈ (List.range n).flatMap blk) : ∃ i, i < n ∧ p ∈ blk i := by
  obtain ⟨i, hi, hp⟩ := List.mem_flatMap.mp h
  exact ⟨i, List.mem_range.mp hi, hp⟩
theorem TM_step (M : Nat → Nat → Int) {n0 n1 n2 : Nat} (h0 : n0 < 3) (h1 : n1 < 3) (h2 : n2 < 3) : ∀ p ∈ placesOf (n0 + 1) (n1 + 1) (n2 + 1), p ≠ (0, 0, 0) → TM M p = sumTo (termT M (TM M) p) 7 := by
  intro p hp hne
  obtain ⟨i, hi, hp⟩ := flat_mem hp
  obtain ⟨j, hj, hp⟩ := flat_mem hp
  obtain ⟨k, hk, rfl⟩ := List.mem_map.mp hp
  have hk := List.mem_range.mp hk
  have hi3 : i < 3 := by omega
  have hj3 : j < 3 := by omega
  have hk3 : k < 3 := by omega
  clear hp hi hj hk
  exact TM_at M hi3 hj3 hk3 hne
theorem TM_perm (M : Nat → Nat → Int) : TM M (1, 1, 1) = perm3 (M 0 0) (M 0 1) (M 0 2) (M 1 0) (M 1 1) (M 1 2) (M 2 0) (M 2 1) (M 2 2) := by
  rw [T111]; simp [permn, evn, evm, perm3, Int.mul_assoc, Int.add_assoc]
theorem lin_ev {a b c : Int} {la : PL} {M : Nat → Nat → Int} {i : Nat} (h : ∀ f, ev la f = a * f (1, 0, 0) + b * f (0, 1, 0) + c * f (0, 0, 1)) (ha : M i 0 = a) (hb : M i 1 = b) (hc : M i 2 = c) (f : Mon → Int) : ev la f = lin M i f := by
  rw [h, lin, ha, hb, hc]
theorem pw_ev {la : PL} {M : Nat → Nat → Int} {i : Nat} (h : ∀ f, ev la f = lin M i f) (n : Nat) : ∀ f, powEv la n f = pw M i n f := by
  induction n with
  | zero => intro f; rfl
  | succ n ih =>
    intro f
    show ev la _ = lin M i _
    rw [h]
    congr 1
    funext p
    exact ih _
theorem ev_delta {l : PL} {t : Mon} (hn : (l.map (·.1)).Nodup) : ev l (dl t) = (lk l t).getD 0 := by
  induction l with
  | nil => rfl
  | cons q l ih =>
    rw [ev_cons]
    rw [List.map_cons, List.nodup_cons] at hn
    by_cases e : q.1 = t
    · have h0 : ev l (dl t) = 0 := by
        rw [ih hn.2]
        have : lk l t = none := by
          unfold lk
          rw [List.find?_eq_none.mpr]
          · rfl
          · intro x hx
            have : x.1 ≠ q.1 := fun e' => hn.1 (e' ▸ List.mem_map_of_mem hx)
            rw [e] at this
            simpa using this
        rw [this]; rfl
      rw [h0]
      simp [dl, lk, e]
    · rw [ih hn.2]
      have : lk (q :: l) t = lk l t := by simp [lk, e]
      rw [this]
      simp [dl, e]
/-- the product of the three powers -/
theorem prod_ev {M : Nat → Nat → Int} {n0 n1 n2 : Nat} {la0 la1 la2 w0 w1 w2 P1 P2 P3 : PL} (l0 : IsLine (M 0 0) (M 0 1) (M 0 2) la0) (l1 : IsLine (M 1 0) (M 1 1) (M 1 2) la1) (l2 : IsLine (M 2 0) (M 2 1) (M 2 2) la2)
    (p0 : IsPow la0 n0 w0) (p1 : IsPow la1 n1 w1) (p2 : IsPow la2 n2 w2) (e0 : EvMul P1 [((0, 0, 0), 1)] w0) (e1 : EvMul P2 P1 w1) (e2 : EvMul P3 P2 w2) :
    ev P3 (dl ((n0 : Int), (n1 : Int), (n2 : Int))) = TM M ((n0 : Int), (n1 : Int), (n2 : Int)) := by
  rw [e2, p2.1, pw_ev (lin_ev l2.1 rfl rfl rfl)]
  unfold TM
  show pw M 2 n2 _ = pw M 2 n2 _
  congr 1
  funext p
  rw [e1, p1.1, pw_ev (lin_ev l1.1 rfl rfl rfl)]
  show pw M 1 n1 _ = pw M 1 n1 _
  congr 1
  funext q
  rw [e0, p0.1, pw_ev (lin_ev l0.1 rfl rfl rfl)]
  show pw M 0 n0 _ = pw M 0 n0 _
  congr 1
  funext r
  rw [ev_one]
  rw [addM_zero]

-- part LS
structure EnvLw (env : Env) (L : Addr) : Prop where
  fn : env.scope.kind = .function
  loc : env.locals = L
  pool : env.kindOf (Str.ofString "pool") = some .local
  a : env.kindOf (Str.ofString "a") = some .local
  product : env.kindOf (Str.ofString "product") = some .local
  powers : env.kindOf (Str.ofString "powers") = some .local
  row : env.kindOf (Str.ofString "row") = some .local
  due : env.kindOf (Str.ofString "due") = some .local
  plain : (env.scope.kind == .class || (env.scope.kind == .module && env.locals != env.globals)) = false
theorem EnvLw.at_ {env : Env} {L : Addr} {h : Heap} {m : Str → Option Value} (e : EnvLw env L) (hn : h.Ns L m) : h.Ns env.locals m := by rw [e.loc]; exact hn
noncomputable def NameIs (w : World) (A : Around) (env : Env) (h₀ : Heap) (L : Addr) (x : Str) (v : Value) : Prop :=
  ∀ (pos : Pos) (s' : Shared) (m : Str → Option Value) (Q E : Value → Shared → Prop), Fr h₀ L s'.heap m → Q v s' → wpAny (model Pg w) A (eval (.Name x pos) env) Q E s'
theorem cls_ne {h₀ h : Heap} {L : Addr} {led : List (Addr × Obj)} (N : News h₀ L h led) {p q : Addr × Obj} (hp : p ∈ led) (hq : q ∈ led) (hc : p.2.cls ≠ q.2.cls) : p.1 ≠ q.1 := fun e => by
  have h1 := (N p hp).1
  have h2 := (N q hq).1
  rw [e, h2] at h1
  exact hc (congrArg Obj.cls (Option.some.inj h1)).symm
noncomputable def but (a : Addr) (led : List (Addr × Obj)) : List (Addr × Obj) := led.filter fun p => decide (p.1 ≠ a)
theorem mem_but {a : Addr} {led : List (Addr × Obj)} {p : Addr × Obj} : p ∈ but a led ↔ p ∈ led ∧ p.1 ≠ a := by
  unfold but; rw [List.mem_filter]; simp
theorem news_put {h₀ h h' : Heap} {L a : Addr} {led : List (Addr × Obj)} {o o' : Obj} (N : News h₀ L h led) (ha : (a, o) ∈ led) (hs : Heap.SameBut a h h') (ho : h'.get? a = some o') : News h₀ L h' ((a, o') :: but a led) := fun p hp => by
  rcases List.mem_cons.mp hp with rfl | hp
  · exact ⟨ho, (N _ ha).2⟩
  · obtain ⟨hp, hne⟩ := mem_but.mp hp
    exact ⟨(hs.2 _ hne).trans (N p hp).1, (N p hp).2⟩
theorem line_small {M : Nat → Nat → Int} (b : BdM M) {i : Nat} {la : PL} (h : IsLine (M i 0) (M i 1) (M i 2) la) : Small la 6 3 := by
  refine ⟨Nat.le_trans h.2.1 ?_, h.2.2⟩
  have h0 := b.bd i 0; have h1 := b.bd i 1; have h2 := b.bd i 2
  have := h0.1; have := h0.2; have := h1.1; have := h1.2; have := h2.1; have := h2.2
  omega
section
variable {w : World} {loose : List Str} {mean : ExcName → Option Value} {mg mb : Str → Option Value} {dp un : Nat} {gd : Option (List Code)} {cn : Str} {cs : Scope} {a : Addr} {ccd : Value} {cl : List (Str × Addr)} {outer : List Env} {A₀ : Around} {base h₀ : Heap} {L : Addr} {m : Str → Option Value} {s : Shared} {led : List (Addr × Obj)} {env : Env}
theorem mat_at3 {ρ : Nat → Addr} {i : Nat} (hi : i < 3) : [Value.ref (ρ 0), .ref (ρ 1), .ref (ρ 2)].toArray[((i : Nat) : Int).toNat]? = some (.ref (ρ i)) := mat_pick (fun i => .ref (ρ i)) rfl rfl rfl hi
set_option maxHeartbeats 1000000 in
theorem law_step {M : Nat → Nat → Int} {S : List (Addr × Obj)} {pl q pa pw D : Addr} {ρ : Nat → Addr} {i : Nat} {ys vs : List Value} {ns0 : List Int} {ns : List Nat} {kq ka k1 kv : Nat} {t tr : Tok} {o : Obj} {l : PL} {Q : Flow → Shared → Prop} {E : Value → Shared → Prop}
    {p1 p2 p3 p4 p5 p6 p7 p8 p9 p10 p11 p12 p13 p14 p15 p16 p17 p18 p19 p20 p21 p22 p23 p24 : Pos} {c1 c2 : Nat}
    (B : Below A₀ base outer h₀) (F : Fr h₀ L s.heap m) (X : (Mine.hd.heap_1 w.params).In h₀) (N : News h₀ L s.heap led) (T : Top Mine.viewQ loose mean mg mb h₀) (hk : cs.kind = .function) (hint : interactive env = false)
    (hd : dp + 6 < recursionLimit) (hu : un + 8 * 6 < cLine)
    (e : EnvLw env L) (n1 : NameIs w (ktrTop dp un gd cn cs L a ccd cl outer) env h₀ L (Str.ofString "_law_draw") (.ref 130)) (n2 : NameIs w (ktrTop dp un gd cn cs L a ccd cl outer) env h₀ L (Str.ofString "mvmul") (.ref 97)) (n3 : NameIs w (ktrTop dp un gd cn cs L a ccd cl outer) env h₀ L (Str.ofString "mvpower") (.ref 104)) (n4 : NameIs w (ktrTop dp un gd cn cs L a ccd cl outer) env h₀ L (Str.ofString "_law_line") (.ref 135))
    (z1 : keepIn (Mine.hd.heap_1 w.params) (.ref 130) = true) (z2 : keepIn (Mine.hd.heap_1 w.params) (.ref 97) = true) (z3 : keepIn (Mine.hd.heap_1 w.params) (.ref 104) = true) (z4 : keepIn (Mine.hd.heap_1 w.params) (.ref 135) = true)
    {plq : Sem Bool} (hmc : eval (.Call (.Attribute (.Name "powers" p1) "append" p2) [.Call (.Name "_law_draw" p3) [.Name "pool" p4, .Constant (.int 3) c1 p5] [] p6] [] p7) env = (do
      let ov ← eval (.Name "powers" p1) env
      standAt p2.atName
      let (f, first) ← holding [ov] (getMethod ov "append" plq)
      callWith p7 f first (backTo p7 (starEach [.Call (.Name "_law_draw" p3) [.Name "pool" p4, .Constant (.int 3) c1 p5] [] p6] env)) []))
    (hi : i < 3) (hS : ∀ p ∈ S, p ∈ led) (hSne : ∀ p ∈ S, p.1 ≠ pl ∧ p.1 ≠ pw) (hpp : pw ≠ pl) (hq : (q, lstO ys kq) ∈ S) (hI : IntsAre ys ns0) (hln : ns0.length ≤ 12)
    (hpa : (pa, lstO [.ref (ρ 0), .ref (ρ 1), .ref (ρ 2)] ka) ∈ S) (hrow : ∀ j, j < 3 → ∃ (t : Nat → Tok) (k : Nat), (ρ j, lstO [.int (M j 0) (t 0), .int (M j 1) (t 1), .int (M j 2) (t 2)] k) ∈ S) (bM : BdM M)
    (hpool : (pl, lstO [.ref q, .int ((9 + i : Nat) : Int) t] k1) ∈ led) (hpows : (pw, lstO vs kv) ∈ led) (hvs : IntsAre vs (ns.map fun n : Nat => (n : Int))) (hnl : ns.length = i) (hkv : vs.length = kv)
    (hD : (D, o) ∈ led) (hP : PolyW w led o l) (hsm : Small l (36 ^ i) (9 ^ i)) (hlo : (D == sysModules) = false)
    (m1 : m (Str.ofString "pool") = some (.ref pl)) (m2 : m (Str.ofString "a") = some (.ref pa)) (m3 : m (Str.ofString "product") = some (.ref D)) (m4 : m (Str.ofString "powers") = some (.ref pw)) (m5 : m (Str.ofString "row") = some (.int (i : Int) tr))
    (ret : ∀ (n : Nat) (la wv l2 : PL) (D2 : Addr) (o2 : Obj) (led2 : List (Addr × Obj)) h' tk' (t' tn : Tok) (k' kv' : Nat), n < 3 → IsLine (M i 0) (M i 1) (M i 2) la → IsPow la n wv → EvMul l2 l wv → Small l2 (36 ^ (i + 1)) (9 ^ (i + 1)) →
      Fr h₀ L h' (fun y => if y = Str.ofString "product" then some (.ref D2) else m y) → News h₀ L h' led2 → (∀ p ∈ led, p.1 ≠ pl → p.1 ≠ pw → p ∈ led2) → (∀ p ∈ led2, p ∈ led ∨ p.1 = pl ∨ p.1 = pw ∨ ∀ q ∈ led, q.1 ≠ p.1) →
      (pl, lstO [.ref q, .int ((9 + (i + 1) : Nat) : Int) t'] k') ∈ led2 → (pw, lstO (vs ++ [.int (n : Int) tn]) (kv + 1)) ∈ led2 → (D2, o2) ∈ led2 → PolyW w led2 o2 l2 → (D2 == sysModules) = false → Q .next { s with heap := h', toks := tk' }) :
    wpAny (model Pg w) (ktrTop dp un gd cn cs L a ccd cl outer) (execs [.Expr (.Call (.Attribute (.Name "powers" p1) "append" p2) [.Call (.Name "_law_draw" p3) [.Name "pool" p4, .Constant (.int 3) c1 p5] [] p6] [] p7) p8,
      .Assign [.Name "product" p9] (.Call (.Name "mvmul" p10) [.Name "product" p11, .Call (.Name "mvpower" p12) [.Call (.Name "_law_line" p13) [.Subscript (.Name "a" p14) (.Name "row" p15) p16] [] p17, .Subscript (.Name "powers" p18) (.Name "row" p19) p20, .Constant (.int 3) c2 p21] [] p22] [] p23) p24] env) Q E s := by
  have hvl : vs.length = i := by have := ints_len hvs; simpa [hnl] using this
  refine wpAny_execs_cons (wpAny_Expr ?_ hint)
  refine MethodCall_ (pl := plq) (cname_local e.fn e.powers (e.at_ F.ns) m4 (getMethod_list_append (N _ hpows).1 rfl rfl (callWith_method1 (args_cons ?_)))) hmc
  refine Call_ (n1 p3 _ m _ _ F (callWith_K X z1 (args_cons (cname_local e.fn e.pool (e.at_ F.ns) m1 (args_cons (const_int (args_nil ⟨X.keeps F.keep, ?_⟩)))))))
  have N2 : News h₀ L s.heap ((pl, lstO [.ref q, .int ((9 + i : Nat) : Int) t] k1) :: but pl led) := fun p hp => by
    rcases List.mem_cons.mp hp with rfl | hp
    · exact N _ hpool
    · exact N p (mem_but.mp hp).1
  refine Tells.use B F X N2 T hk (draw_tells w pl q ((9 + i : Nat) : Int) 3 ⟨by omega, by omega⟩ ⟨by decide, by decide⟩ ys ns0 hI hln k1 kq t _ (but pl led) (mem_but.mpr ⟨hS _ hq, (hSne _ hq).1⟩) (fun p hp => (mem_but.mp hp).2)) (by omega) (by omega) ?_
  rintro r n' h1 tk1 F1 N1 ⟨v, tv, t', k', rfl, rfl, hv0, hv3⟩
  obtain ⟨n, rfl⟩ := Int.eq_ofNat_of_zero_le hv0
  have hn3 : n < 3 := by omega
  rw [show ((9 + i : Nat) : Int) + 1 = ((9 + (i + 1) : Nat) : Int) by omega] at N1
  have mpw : (pw, lstO vs kv) ∈ (pl, lstO [.ref q, .int ((9 + (i + 1) : Nat) : Int) t'] k') :: but pl led := .tail _ (mem_but.mpr ⟨hpows, hpp⟩)
  refine args_nil (append_at (s := { s with heap := h1, toks := tk1 }) (N1 _ mpw).1 (fun h2 hs2 hg2 => ?_) (by rw [sizeLine_eq]; simp; omega))
  have hg2' : h2.get? pw = some (lstO (vs ++ [.int (n : Int) tv]) (kv + 1)) := by simpa using hg2
  have N3 := news_put N1 mpw hs2 hg2'
  have F3 : Fr h₀ L h2 m := F1.change hs2 (N1 _ mpw).2.1 (N1 _ mpw).2.2
  generalize hled1 : (pw, lstO (vs ++ [.int (n : Int) tv]) (kv + 1)) :: but pw ((pl, lstO [.ref q, .int ((9 + (i + 1) : Nat) : Int) t'] k') :: but pl led) = led1 at N3
  have up1 : ∀ p ∈ led, p.1 ≠ pl → p.1 ≠ pw → p ∈ led1 := fun p hp h1 h2 => by
    rw [← hled1]; exact .tail _ (mem_but.mpr ⟨.tail _ (mem_but.mpr ⟨hp, h1⟩), h2⟩)
  have pw1 : (pw, lstO (vs ++ [.int (n : Int) tv]) (kv + 1)) ∈ led1 := by rw [← hled1]; exact .head _
  have pl1 : (pl, lstO [.ref q, .int ((9 + (i + 1) : Nat) : Int) t'] k') ∈ led1 := by rw [← hled1]; exact .tail _ (mem_but.mpr ⟨.head _, hpp.symm⟩)
  have S1 : ∀ p ∈ S, p ∈ led1 := fun p hp => up1 p (hS p hp) (hSne p hp).1 (hSne p hp).2
  have addr1 : ∀ x ∈ led, ∃ y ∈ led1, y.1 = x.1 := fun x hx => by
    by_cases h1 : x.1 = pl
    · exact ⟨_, pl1, h1.symm⟩
    · by_cases h2 : x.1 = pw
      · exact ⟨_, pw1, h2.symm⟩
      · exact ⟨x, up1 x hx h1 h2, rfl⟩
  have down1 : ∀ p ∈ led1, p ∈ led ∨ p.1 = pl ∨ p.1 = pw := fun p hp => by
    rw [← hled1] at hp
    rcases List.mem_cons.mp hp with rfl | hp
    · exact .inr (.inr rfl)
    · rcases List.mem_cons.mp (mem_but.mp hp).1 with rfl | hp
      · exact .inr (.inl rfl)
      · exact .inl (mem_but.mp hp).1
  have tup1 : ∀ p ∈ led, p.2.cls = .type "tuple" → p ∈ led1 := fun p hp hc => up1 p hp (cls_ne N hp hpool (by rw [hc]; show Value.type "tuple" ≠ Value.type "list"; decide)) (cls_ne N hp hpows (by rw [hc]; show Value.type "tuple" ≠ Value.type "list"; decide))
  have hoc : o.cls = .type "dict" := by obtain ⟨xs, Dd, _⟩ := hP.is; exact Dd.cls
  have D1 : (D, o) ∈ led1 := up1 _ hD (cls_ne N hD hpool (by show o.cls ≠ Value.type "list"; rw [hoc]; decide)) (cls_ne N hD hpows (by show o.cls ≠ Value.type "list"; rw [hoc]; decide))
  show wpAny _ _ (execs _ _) _ _ _
  refine wpAny_execs_cons (wpAny_Assign_Name ?_)
  refine Call_ (n2 _ _ m _ _ F3 (callWith_K X z2 (args_cons (cname_local e.fn e.product (e.at_ F3.ns) m3 (args_cons ?_)))))
  refine Call_ (n3 _ _ m _ _ F3 (callWith_K X z3 (args_cons ?_)))
  refine Call_ (n4 _ _ m _ _ F3 (callWith_K X z4 (args_cons ?_)))
  refine Subscript_ (cname_local e.fn e.a (e.at_ F3.ns) m2 (cname_local e.fn e.row (e.at_ F3.ns) m5 ?_))
  refine item_listR ⟨_, (N3 _ (S1 _ hpa)).1, rfl, _, rfl⟩ (Int.natCast_nonneg _) (by omega) (mat_at3 hi) ?_
  obtain ⟨tt, kr, hri⟩ := hrow i hi
  refine args_nil ⟨X.keeps F3.keep, ?_⟩
  refine Tells.use B F3 X N3 T hk (line_tells w (ρ i) (M i 0) (M i 1) (M i 2) (tt 0) (tt 1) (tt 2) kr led1 (S1 _ hri)) (by omega) (by omega) ?_
  rintro r n' h3 tk3 F4 N4 ⟨Dl, ol, exl, la, rfl, rfl, Wl, hla⟩
  have pw4 : (pw, lstO (vs ++ [.int (n : Int) tv]) (kv + 1)) ∈ (Dl, ol) :: (exl ++ led1) := .tail _ (List.mem_append_right _ pw1)
  refine args_cons (Subscript_ (cname_local e.fn e.powers (e.at_ F4.ns) m4 (cname_local e.fn e.row (e.at_ F4.ns) m5 ?_)))
  refine item_listR ⟨_, (N4 _ pw4).1, rfl, _, rfl⟩ (Int.natCast_nonneg _) (by omega) (x := .int (n : Int) tv) (by simp [← hvl]) ?_
  refine args_cons (const_int (args_nil ⟨X.keeps F4.keep, ?_⟩))
  refine Tells.use B F4 X N4 T hk (mvpower_tells w Dl ol la n hn3 tv _ ((Dl, ol) :: (exl ++ led1)) (.head _) (Wl.poly.mono fun p hp _ => .tail _ hp) Wl.lo (line_small bM hla)) (by omega) (by omega) ?_
  rintro r n' h4 tk4 F5 N5 ⟨Dp, op, exp, wv, rfl, rfl, Wp, hpow⟩
  refine args_nil ⟨X.keeps F5.keep, ?_⟩
  have in5 : ∀ p ∈ led1, p ∈ (Dp, op) :: (exp ++ ((Dl, ol) :: (exl ++ led1))) := fun p hp => .tail _ (List.mem_append_right _ (.tail _ (List.mem_append_right _ hp)))
  have b36 : 36 ^ i < 4611686018427387904 ∧ 36 ^ i * 36 < 4611686018427387904 ∧ 9 ^ i * 9 ≤ 1000 := by
    rcases i with _ | _ | _ | i
    · decide
    · decide
    · decide
    · omega
  refine Tells.use B F5 X N5 T hk (mvmul_small w D Dp o op l wv (36 ^ i) (9 ^ i) 36 9 _ (in5 _ D1) (.head _) (hP.mono fun p hp hc => in5 _ (tup1 p hp hc)) (Wp.poly.mono fun p hp _ => .tail _ hp) hsm hpow.2 hlo Wp.lo b36.1 (by decide) b36.2.1 (by rw [sizeLine_eq]; have := b36.2.2; omega)) (by omega) (by omega) ?_
  rintro r n' h5 tk5 F6 N6 ⟨D2, o2, ex2, l2, rfl, rfl, W2, _, hev, hsm2⟩
  have hloc := e.loc
  subst hloc
  refine wpAny_storeName_local e.product F6.ns (fun h6 hn6 hs6 => ?_) e.plain
  have F7 := F6.set hn6 hs6
  have N7 : News h₀ env.locals h6 ((D2, o2) :: (ex2 ++ ((Dp, op) :: (exp ++ ((Dl, ol) :: (exl ++ led1)))))) := fun p hp => ⟨(hs6.2 _ (N6 p hp).2.1).trans (N6 p hp).1, (N6 p hp).2⟩
  have in7 : ∀ p ∈ led1, p ∈ (D2, o2) :: (ex2 ++ ((Dp, op) :: (exp ++ ((Dl, ol) :: (exl ++ led1))))) := fun p hp => .tail _ (List.mem_append_right _ (in5 p hp))
  refine wpAny_execs_nil (ret n la wv l2 D2 o2 _ h6 _ t' tv k' kv hn3 hla hpow hev hsm2 F7 N7 (fun p hp h1 h2 => in7 _ (up1 p hp h1 h2)) ?_ (in7 _ pl1) (in7 _ pw1) (.head _) (W2.poly.mono fun p hp _ => .tail _ hp) W2.lo)
  intro p hp
  have far : (∀ y ∈ led1, y.1 ≠ p.1) → ∀ x ∈ led, x.1 ≠ p.1 := fun h x hx => by
    obtain ⟨y, hy, e⟩ := addr1 x hx
    rw [← e]; exact h y hy
  rcases List.mem_cons.mp hp with rfl | hp
  · exact .inr (.inr (.inr (far fun y hy => W2.ne y (in5 y hy))))
  · rcases List.mem_append.mp hp with hp | hp
    · exact .inr (.inr (.inr (far fun y hy => (W2.new p hp).2.2 y (in5 y hy))))
    · rcases List.mem_cons.mp hp with rfl | hp
      · exact .inr (.inr (.inr (far fun y hy => Wp.ne y (.tail _ (List.mem_append_right _ hy)))))
      · rcases List.mem_append.mp hp with hp | hp
        · exact .inr (.inr (.inr (far fun y hy => (Wp.new p hp).2.2 y (.tail _ (List.mem_append_right _ hy)))))
        · rcases List.mem_cons.mp hp with rfl | hp
          · exact .inr (.inr (.inr (far fun y hy => Wl.ne y hy)))
          · rcases List.mem_append.mp hp with hp | hp
            · exact .inr (.inr (.inr (far fun y hy => (Wl.new p hp).2.2 y hy)))
            · rcases down1 p hp with h | h | h
              · exact .inl h
              · exact .inr (.inl h)
              · exact .inr (.inr (.inl h))
end

-- part LL
inductive ProdIs (M : Nat → Nat → Int) : List Nat → PL → Prop
  | nil : ProdIs M [] [((0, 0, 0), 1)]
  | snoc {ns : List Nat} {l la wv l2 : PL} {n : Nat} : ProdIs M ns l → IsLine (M ns.length 0) (M ns.length 1) (M ns.length 2) la → IsPow la n wv → EvMul l2 l wv → ProdIs M (ns ++ [n]) l2
structure LwJ (w : World) (M : Nat → Nat → Int) (S : List (Addr × Obj)) (pl q pa pw : Addr) (i : Nat) (m : Str → Option Value) (news : List (Addr × Obj)) : Prop where
  st : ∀ p ∈ S, p ∈ news
  pool : ∃ t k, (pl, lstO [.ref q, .int ((9 + i : Nat) : Int) t] k) ∈ news
  rest : ∃ (ns : List Nat) (vs : List Value), IntsAre vs (ns.map fun n : Nat => (n : Int)) ∧ ns.length = i ∧ (∀ n ∈ ns, n < 3) ∧ (pw, lstO vs vs.length) ∈ news ∧
    ∃ D o l, m (Str.ofString "product") = some (.ref D) ∧ (D, o) ∈ news ∧ PolyW w news o l ∧ Small l (36 ^ i) (9 ^ i) ∧ (D == sysModules) = false ∧ ProdIs M ns l
  mp : m (Str.ofString "pool") = some (.ref pl)
  ma : m (Str.ofString "a") = some (.ref pa)
  mw : m (Str.ofString "powers") = some (.ref pw)
section
variable {w : World} {loose : List Str} {mean : ExcName → Option Value} {mg mb : Str → Option Value} {dp un : Nat} {gd : Option (List Code)} {cn : Str} {cs : Scope} {a : Addr} {ccd : Value} {cl : List (Str × Addr)} {outer : List Env} {A₀ : Around} {base h₀ : Heap} {L : Addr} {m : Str → Option Value} {s : Shared} {led : List (Addr × Obj)} {env : Env}
set_option maxHeartbeats 1000000 in
theorem law_loop {M : Nat → Nat → Int} {S : List (Addr × Obj)} {pl q pa pw : Addr} {ρ : Nat → Addr} {ys : List Value} {ns0 : List Int} {kq ka : Nat} {Q : Flow → Shared → Prop} {E : Value → Shared → Prop}
    {p1 p2 p3 p4 p5 p6 p7 p8 p9 p10 p11 p12 p13 p14 p15 p16 p17 p18 p19 p20 p21 p22 p23 p24 p25 p26 p27 p28 p29 : Pos} {c1 c2 c3 : Nat}
    (B : Below A₀ base outer h₀) (F : Fr h₀ L s.heap m) (X : (Mine.hd.heap_1 w.params).In h₀) (N : News h₀ L s.heap led) (T : Top Mine.viewQ loose mean mg mb h₀) (hk : cs.kind = .function) (hint : interactive env = false)
    (hh : (ktrTop dp un gd cn cs L a ccd cl outer).handled = none)
    (hd : dp + 6 < recursionLimit) (hu : un + 8 * 6 < cLine)
    (e : EnvLw env L) (n1 : NameIs w (ktrTop dp un gd cn cs L a ccd cl outer) env h₀ L (Str.ofString "_law_draw") (.ref 130)) (n2 : NameIs w (ktrTop dp un gd cn cs L a ccd cl outer) env h₀ L (Str.ofString "mvmul") (.ref 97)) (n3 : NameIs w (ktrTop dp un gd cn cs L a ccd cl outer) env h₀ L (Str.ofString "mvpower") (.ref 104)) (n4 : NameIs w (ktrTop dp un gd cn cs L a ccd cl outer) env h₀ L (Str.ofString "_law_line") (.ref 135))
    (n5 : NameIs w (ktrTop dp un gd cn cs L a ccd cl outer) env h₀ L (Str.ofString "range") (.type "range"))
    (z1 : keepIn (Mine.hd.heap_1 w.params) (.ref 130) = true) (z2 : keepIn (Mine.hd.heap_1 w.params) (.ref 97) = true) (z3 : keepIn (Mine.hd.heap_1 w.params) (.ref 104) = true) (z4 : keepIn (Mine.hd.heap_1 w.params) (.ref 135) = true)
    {plq : Sem Bool} (hmc : eval (.Call (.Attribute (.Name "powers" p1) "append" p2) [.Call (.Name "_law_draw" p3) [.Name "pool" p4, .Constant (.int 3) c1 p5] [] p6] [] p7) env = (do
      let ov ← eval (.Name "powers" p1) env
      standAt p2.atName
      let (f, first) ← holding [ov] (getMethod ov "append" plq)
      callWith p7 f first (backTo p7 (starEach [.Call (.Name "_law_draw" p3) [.Name "pool" p4, .Constant (.int 3) c1 p5] [] p6] env)) []))
    (hSne : ∀ p ∈ S, p.1 ≠ pl ∧ p.1 ≠ pw) (hpp : pw ≠ pl) (hq : (q, lstO ys kq) ∈ S) (hI : IntsAre ys ns0) (hln : ns0.length ≤ 12)
    (hpa : (pa, lstO [.ref (ρ 0), .ref (ρ 1), .ref (ρ 2)] ka) ∈ S) (hrow : ∀ j, j < 3 → ∃ (t : Nat → Tok) (k : Nat), (ρ j, lstO [.int (M j 0) (t 0), .int (M j 1) (t 1), .int (M j 2) (t 2)] k) ∈ S) (bM : BdM M)
    (hJ : LwJ w M S pl q pa pw 0 m led) (hE : PassesOwn (model Pg w) (ktrTop dp un gd cn cs L a ccd cl outer) env E)
    (hQ : ∀ h' tk m' led', Fr h₀ L h' m' → News h₀ L h' led' → LwJ w M S pl q pa pw 3 m' led' → Q .next { s with heap := h', toks := tk }) :
    wpAny (model Pg w) (ktrTop dp un gd cn cs L a ccd cl outer) (exec (.For (.Name "row" p25) (.Call (.Name "range" p26) [.Constant (.int 3) c3 p27] [] p28) [.Expr (.Call (.Attribute (.Name "powers" p1) "append" p2) [.Call (.Name "_law_draw" p3) [.Name "pool" p4, .Constant (.int 3) c1 p5] [] p6] [] p7) p8,
      .Assign [.Name "product" p9] (.Call (.Name "mvmul" p10) [.Name "product" p11, .Call (.Name "mvpower" p12) [.Call (.Name "_law_line" p13) [.Subscript (.Name "a" p14) (.Name "row" p15) p16] [] p17, .Subscript (.Name "powers" p18) (.Name "row" p19) p20, .Constant (.int 3) c2 p21] [] p22] [] p23) p24] [] p29) env) Q E s := by
  have hloc := e.loc
  subst hloc
  refine For_turns F (Call_ (n5 p26 _ m _ _ F (PySem.Pv.callWith_type1 (args_cons (const_int (args_nil (call_range_1 ?_))))))) (fun _ => rfl) hE
  refine wpAny_pyIter_range (IsRange.new _ _ _ _ _ _ _) (small_one (by decide) (by decide) (by decide) (by decide)) ?_
  dsimp only
  have hk1 : Held s.heap (s.heap.push { cls := .type "range", data := .fields #[.int 0 (s.toks + 1), .int 3 s.toks, .int 1 (s.toks + 1 + 1)] }) := fun b o e => Heap.get?_push_of_some _ e
  generalize s.heap.push { cls := .type "range", data := .fields #[.int 0 (s.toks + 1), .int 3 s.toks, .int 1 (s.toks + 1 + 1)] } = hR at *
  have F1 : Fr h₀ env.locals hR m := F.keeps hk1
  have N1 : News h₀ env.locals hR led := news_keep N hk1
  have Wk := LCg.range_walks (prog := Pg) (w := w) (I := hR.objs.size) hh 0 3
  have hnI : ∀ p ∈ led, p.1 ≠ hR.objs.size := fun p hp => Nat.ne_of_lt (Heap.lt_size (N1 p hp).1)
  refine ⟨hR.objs.size, [hR.objs.size], [hR.objs.size], 3, _, _, _, m, led, LwJ w M S pl q pa pw, rfl, KTurns.ofWalks Wk (fun i v s Q E st hq => wpAny_of_eq rfl hq), ?_, ?_, ?_, ?_,
    F1.push _, N1.grown fun b o e => Heap.get?_push_of_some _ e, hJ, ?_, ?_⟩
  · intro hmm
    exact absurd F1.ns.lt ((List.mem_singleton.mp hmm) ▸ Nat.lt_irrefl _)
  · intro b hb
    rw [List.mem_singleton.mp hb]
    exact next_is_new F1
  · intro p hp hI9
    exact hnI p hp (List.mem_singleton.mp hI9)
  · show IsRangeIter _ _ _ _ _
    exact Heap.get?_push_size _ rfl
  · rintro i v m₁ news₁ h₁ tk₁ own hi ⟨tr, rfl⟩ hj hoff hown hget hall hst Fa Na
    rw [Int.zero_add]
    refine wpAny_assign_Name (wpAny_storeName_local e.row Fa.ns (fun h₂ hn₂ hs₂ => ?_) e.plain)
    have Fb := Fa.set hn₂ hs₂
    have Nb : News h₀ env.locals h₂ (own ++ news₁) := fun p hp => ⟨(hs₂.2 _ (Na p hp).2.1).trans (Na p hp).1, (Na p hp).2⟩
    obtain ⟨tp, kp, hpool⟩ := hj.pool
    obtain ⟨ns, vs, hvs, hnl, hn3, hpw, D, o, l, hmd, hD, hP, hsm, hlo, hpr⟩ := hj.rest
    have offI : ∀ p ∈ news₁, p.1 ≠ hR.objs.size := fun p hp q => hoff p hp (by simp [q])
    obtain ⟨oI, hoI, hcI⟩ : ∃ oI, (hR.objs.size, oI) ∈ own ∧ oI.cls = .type "range_iterator" := by
      have hst' : h₁.get? hR.objs.size = some _ := hst
      exact ⟨_, hall _ (.head _) (next_is_new F1) _ hst', rfl⟩
    have ownI : ∀ p ∈ own, p.1 = hR.objs.size := fun p hp => List.mem_singleton.mp (hown p hp)
    have nr : ∀ y, y ≠ Str.ofString "row" → (if y = Str.ofString "row" then some (Value.int (i : Int) tr) else m₁ y) = m₁ y := fun y hy => if_neg hy
    refine law_step (led := own ++ news₁) (S := S) (i := i) (ns := ns) (vs := vs) (kv := vs.length) (l := l) (M := M) (ρ := ρ) B Fb X Nb T hk hint hd hu e n1 n2 n3 n4 z1 z2 z3 z4 hmc hi (fun p hp => List.mem_append_right _ (hj.st p hp)) hSne hpp hq hI hln hpa hrow bM (List.mem_append_right _ hpool) (List.mem_append_right _ hpw) hvs hnl rfl (List.mem_append_right _ hD) (hP.mono fun p hp _ => List.mem_append_right _ hp) hsm hlo
      ((nr _ (by decide)).trans hj.mp) ((nr _ (by decide)).trans hj.ma) ((nr _ (by decide)).trans hmd) ((nr _ (by decide)).trans hj.mw) (if_pos rfl) ?_
    intro n la wv l2 D2 o2 led2 h' tk' t' tn k' kv' hn hla hpow hev hsm2 F' N' hkeep hnew hpl2 hpw2 hD2 hP2 hlo2
    have plI : pl ≠ hR.objs.size := offI _ hpool
    have pwI : pw ≠ hR.objs.size := offI _ hpw
    have own2 : ∀ p ∈ own, p ∈ led2 := fun p hp => hkeep p (List.mem_append_left _ hp) (by rw [ownI p hp]; exact plI.symm) (by rw [ownI p hp]; exact pwI.symm)
    have hcls : ∀ p ∈ led2, p.2.cls ≠ .type "range_iterator" → p.1 ≠ hR.objs.size := fun p hp hc => cls_ne N' hp (own2 _ hoI) (by show p.2.cls ≠ oI.cls; rw [hcI]; exact hc)
    have ho2 : o2.cls = .type "dict" := by obtain ⟨xs, Dd, _⟩ := hP2.is; exact Dd.cls
    refine LoopStepV.next ⟨rfl, h', tk', _, but hR.objs.size led2, rfl, F', fun p hp => ?_, fun p hp hI9 => (mem_but.mp hp).2 (List.mem_singleton.mp hI9), ?_⟩
    · rcases List.mem_append.mp hp with hp | hp
      · exact N' p (own2 p hp)
      · exact N' p (mem_but.mp hp).1
    · refine ⟨fun p hp => mem_but.mpr ⟨hkeep p (List.mem_append_right _ (hj.st p hp)) (hSne p hp).1 (hSne p hp).2, offI p (hj.st p hp)⟩, ⟨t', k', mem_but.mpr ⟨hpl2, plI⟩⟩, ⟨ns ++ [n], vs ++ [.int (n : Int) tn], ?_, by simp [hnl], ?_, ?_, D2, o2, l2, if_pos rfl, mem_but.mpr ⟨hD2, hcls _ hD2 (by show o2.cls ≠ _; rw [ho2]; decide)⟩, hP2.mono fun p hp hc => mem_but.mpr ⟨hp, hcls p hp (by rw [hc]; decide)⟩, hsm2, hlo2, ?_⟩, ?_, ?_, ?_⟩
      · rw [List.map_append]; exact ints_app hvs
      · intro x hx
        rcases List.mem_append.mp hx with hx | hx
        · exact hn3 x hx
        · rw [List.mem_singleton.mp hx]; exact hn
      · rw [List.length_append, List.length_singleton]
        exact mem_but.mpr ⟨hpw2, pwI⟩
      · refine .snoc hpr ?_ hpow hev
        rw [hnl]; exact hla
      · exact (if_neg (by decide)).trans ((nr _ (by decide)).trans hj.mp)
      · exact (if_neg (by decide)).trans ((nr _ (by decide)).trans hj.ma)
      · exact (if_neg (by decide)).trans ((nr _ (by decide)).trans hj.mw)
  · intro h' tk m' news' F' N' _ hj
    exact hQ h' tk m' news' F' N' hj
end

-- part LX
section
variable {prog : Program} {w : World} {A : Around} {E : Value → Shared → Prop} {s : Shared} {env : Env}
theorem min_lst3 {t : Addr} {a b c : Int} {t1 t2 t3 : Tok} {k : Nat} {Q : Value → Shared → Prop} (hh : A.handled = none) (ht : s.heap.get? t = some (lstO (ints3 a b c t1 t2 t3) k))
    (h : ∀ M u h' tk', (M ≤ a ∧ M ≤ b ∧ M ≤ c) → (M = a ∨ M = b ∨ M = c) → Held s.heap h' → Q (.int M u) { s with heap := h', toks := tk' }) :
    wpAny (model prog w) A (call (.builtin "min") [.ref t]) Q E s := by
  have hT : s.heap.IsList t (ints3 a b c t1 t2 t3).toArray := ⟨_, ht, rfl, _, rfl⟩
  refine call_min_walk (wpAny_pyIter_list hT ?_)
  have htl : t < s.heap.objs.size := Heap.lt_size ht
  have W := Walks.list (prog := prog) (w := w) (A := A.in1) hh s.heap.objs.size t (Nat.ne_of_lt htl) (ints3 a b c t1 t2 t3).toArray
  refine ⟨s.heap.objs.size, _, _, 3, _, _, (fun i j => decide (([a, b, c].getD i 0) < ([a, b, c].getD j 0))), rfl, W, ⟨⟨_, Heap.get?_push_size _ rfl, rfl, rfl⟩, hT.push _⟩, ?_, by decide, CmpOf.ints_lt (fun i => [a, b, c].getD i 0) ?_, ?_⟩
  · intro x hx
    rw [Heap.size_push]
    simp only [List.mem_cons, List.not_mem_nil, or_false] at hx
    rcases hx with rfl | rfl
    · exact Nat.lt_succ_self _
    · exact Nat.lt_succ_of_lt htl
  · intro i v hv
    rcases i with _ | _ | _ | i
    · cases hv; exact ⟨t1, rfl⟩
    · cases hv; exact ⟨t2, rfl⟩
    · cases hv; exact ⟨t3, rfl⟩
    · simp at hv
  · intro v h' tk hv hk
    obtain ⟨h1, h2⟩ := argBest_lt (fun i => [a, b, c].getD i 0) (3 - 1)
    generalize argBest (fun i j => decide (([a, b, c].getD i 0) < ([a, b, c].getD j 0))) (3 - 1) = q at *
    have hkk : Held s.heap h' := fun b o e => hk b o (fun q => by rw [List.mem_singleton.mp q] at e; exact absurd (Heap.lt_size e) (Nat.lt_irrefl _)) (Heap.get?_push_of_some _ e)
    have c0 := h2 0 (by omega)
    have c1 := h2 1 (by omega)
    have c2 := h2 2 (by omega)
    rcases q with _ | _ | _ | q
    · cases hv; exact h _ _ _ _ ⟨c0, c1, c2⟩ (.inl rfl) hkk
    · cases hv; exact h _ _ _ _ ⟨c0, c1, c2⟩ (.inr (.inl rfl)) hkk
    · cases hv; exact h _ _ _ _ ⟨c0, c1, c2⟩ (.inr (.inr rfl)) hkk
    · omega
end
/-- what a table stands on, as a ledger -/
theorem keys_ledger {h₀ hb h : Heap} {L : Addr} {xs : Ents} {l : PL} (P : Paired (EntI hb h) xs l) (hn : ∀ b, hb.get? b = none → h₀.get? b = none ∧ b ≠ L) :
    ∃ ks : List (Addr × Obj), News h₀ L h ks ∧ ∀ h', News h₀ L h' ks → Paired (EntI hb h') xs l := by
  induction P with
  | nil => exact ⟨[], PyProof.Rows.News.nil, fun _ _ => .nil⟩
  | @cons x q xs l f _ ih =>
    obtain ⟨ks, hks, hup⟩ := ih
    obtain ⟨t1, t2, t3, e⟩ := f.obj
    refine ⟨(x.2.1, keyO q.1.1 q.1.2.1 q.1.2.2 t1 t2 t3) :: ks, fun p hp => ?_, fun h' N => .cons ⟨f.key, ⟨t1, t2, t3, (N _ (.head _)).1⟩, f.val, f.new⟩ (hup h' fun p hp => N p (.tail _ hp))⟩
    rcases List.mem_cons.mp hp with rfl | hp
    · exact ⟨e, (hn _ f.new).2, (hn _ f.new).1⟩
    · exact hks p hp
theorem tab_ledger {w : World} {h₀ hb h : Heap} {L D : Addr} {l : PL} {led : List (Addr × Obj)} (N : News h₀ L h led) (x : TabAt w hb h D l) (hD : hb.get? D = none) (hn : ∀ b, hb.get? b = none → h₀.get? b = none ∧ b ≠ L) :
    ∃ led2, News h₀ L h led2 ∧ (∀ p ∈ led, p ∈ led2) ∧ ∀ h', News h₀ L h' led2 → TabAt w hb h' D l := by
  obtain ⟨o, xs, ho, Dd, P⟩ := x
  obtain ⟨ks, hks, hup⟩ := keys_ledger P hn
  refine ⟨(D, o) :: (ks ++ led), fun p hp => ?_, fun p hp => .tail _ (List.mem_append_right _ hp), fun h' N' => ⟨o, xs, (N' _ (.head _)).1, Dd, hup h' fun p hp => N' p (.tail _ (List.mem_append_left _ hp))⟩⟩
  rcases List.mem_cons.mp hp with rfl | hp
  · exact ⟨ho, (hn _ hD).2, (hn _ hD).1⟩
  · rcases List.mem_append.mp hp with hp | hp
    · exact hks p hp
    · exact N p hp
theorem lk_tabL {T : Mon → Int} {ps : List Mon} {p : Mon} (hp : p ∈ ps) : lk (tabL T ps ps.length) p = some (T p) := by
  have h0 : ps.length ≠ 0 := fun e => by rw [List.length_eq_zero_iff.mp e] at hp; cases hp
  unfold tabL
  rw [if_neg h0, List.take_length]
  exact lk_map_some hp
theorem mem_places {a b c i j k : Nat} (hi : i < a) (hj : j < b) (hk : k < c) : ((i : Int), (j : Int), (k : Int)) ∈ placesOf a b c := by
  refine List.mem_flatMap.mpr ⟨i, List.mem_range.mpr hi, List.mem_flatMap.mpr ⟨j, List.mem_range.mpr hj, List.mem_map.mpr ⟨k, List.mem_range.mpr hk, rfl⟩⟩⟩
theorem prodIs_three {M : Nat → Nat → Int} {n0 n1 n2 : Nat} {P3 : PL} (h : ProdIs M [n0, n1, n2] P3) : ev P3 (dl ((n0 : Int), (n1 : Int), (n2 : Int))) = TM M ((n0 : Int), (n1 : Int), (n2 : Int)) := by
  have key : ∀ {ns : List Nat} {P : PL}, ProdIs M ns P → ∀ {ms : List Nat} {n : Nat}, ns = ms ++ [n] → ∃ l la wv, ProdIs M ms l ∧ IsLine (M ms.length 0) (M ms.length 1) (M ms.length 2) la ∧ IsPow la n wv ∧ EvMul P l wv := by
    intro ns P h ms n e
    cases h with
    | nil => simp at e
    | snoc a b c d =>
      obtain ⟨rfl, e2⟩ := List.append_inj' e rfl
      cases e2
      exact ⟨_, _, _, a, b, c, d⟩
  obtain ⟨l2, la2, w2, h2, a2, b2, c2⟩ := key h (ms := [n0, n1]) (n := n2) rfl
  obtain ⟨l1, la1, w1, h1, a1, b1, c1⟩ := key h2 (ms := [n0]) (n := n1) rfl
  obtain ⟨l0, la0, w0, h0, a0, b0, c0⟩ := key h1 (ms := []) (n := n0) rfl
  have none : ∀ {ns : List Nat} {P : PL}, ProdIs M ns P → ns = [] → P = [((0, 0, 0), 1)] := by
    intro ns P h e
    cases h with
    | nil => rfl
    | snoc a b c d => simp at e
  have e0 := none h0 rfl
  subst e0
  exact prod_ev a0 a1 a2 b0 b1 b2 c0 c1 c2
section
variable {w : World} {A : Around} {E : Value → Shared → Prop} {s : Shared} {env : Env} {h₀ : Heap} {L : Addr} {m : Str → Option Value} {led : List (Addr × Obj)}
theorem rat_keyIs {h : Heap} {a : Addr} {c : Int} {t t' : Tok} (e : h.get? a = some (tupO [.int c t, .int 1 t'])) : KeyAt w h [c, 1] a := rat_key e
set_option maxHeartbeats 1000000 in
theorem law_ret {M : Nat → Nat → Int} {n0 n1 n2 : Nat} {D Dd pw : Addr} {o : Obj} {l : PL} {hb : Heap} {u0 u1 u2 : Tok} {kw : Nat} {Q : Flow → Shared → Prop} {p1 p2 p3 p4 p5 p6 p7 p8 p9 p10 p11 p12 p13 p14 p15 p16 p17 p18 : Pos} {c1 c2 c3 c4 c5 : Nat}
    (F : Fr h₀ L s.heap m) (X : (Mine.hd.heap_1 w.params).In h₀) (N : News h₀ L s.heap led) (e : EnvLw env L) (nT : NameIs w A env h₀ L (Str.ofString "tuple") (.type "tuple")) (hu : A.units + 1 < cLine)
    (hx48 : ∃ (t t' : Tok) (n : Nat), (Mine.hd.heap_1 w.params).lookup 48 = some { cls := .type "tuple", data := .seq #[.int 1 t, .int 1 t'] n })
    {plq : Sem Bool} (hmc : eval (.Call (.Attribute (.Name "product" p1) "get" p2) [.Call (.Name "tuple" p3) [.Name "powers" p4] [] p5, .Tuple [.Constant (.int 0) c1 p6, .Constant (.int 1) c2 p7] c3 p8] [] p9) env = (do
      let ov ← eval (.Name "product" p1) env
      standAt p2.atName
      let (f, first) ← holding [ov] (getMethod ov "get" plq)
      callWith p9 f first (backTo p9 (starEach [.Call (.Name "tuple" p3) [.Name "powers" p4] [] p5, .Tuple [.Constant (.int 0) c1 p6, .Constant (.int 1) c2 p7] c3 p8] env)) []))
    (hn0 : n0 < 3) (hn1 : n1 < 3) (hn2 : n2 < 3)
    (htab : TabAt w hb s.heap Dd (tabL (TM M) (placesOf (n0 + 1) (n1 + 1) (n2 + 1)) (placesOf (n0 + 1) (n1 + 1) (n2 + 1)).length)) (hpw : (pw, lstO (ints3 n0 n1 n2 u0 u1 u2) kw) ∈ led)
    (hD : (D, o) ∈ led) (hP : PolyW w led o l) (hlo : (D == sysModules) = false) (hpr : ProdIs M [n0, n1, n2] l)
    (m1 : m (Str.ofString "product") = some (.ref D)) (m2 : m (Str.ofString "due") = some (.ref Dd)) (m3 : m (Str.ofString "powers") = some (.ref pw))
    (hQ : ∀ h' tk, Fr h₀ L h' m → Q (.ret (.bool true)) { s with heap := h', toks := tk }) :
    wpAny (model Pg w) A (execs [.Return (some (.Compare (.Call (.Attribute (.Name "product" p1) "get" p2) [.Call (.Name "tuple" p3) [.Name "powers" p4] [] p5, .Tuple [.Constant (.int 0) c1 p6, .Constant (.int 1) c2 p7] c3 p8] [] p9) [.Eq]
      [.Tuple [.Subscript (.Name "due" p10) (.Call (.Name "tuple" p11) [.Name "powers" p12] [] p13) p14, .Constant (.int 1) c4 p15] c5 p16] p17)) p18] env) Q E s := by
  have hTM : TM M ((n0 : Int), (n1 : Int), (n2 : Int)) = (lk l ((n0 : Int), (n1 : Int), (n2 : Int))).getD 0 := by rw [← prodIs_three hpr, ev_delta hP.nodup]
  have hpl : lk (tabL (TM M) (placesOf (n0 + 1) (n1 + 1) (n2 + 1)) (placesOf (n0 + 1) (n1 + 1) (n2 + 1)).length) ((n0 : Int), (n1 : Int), (n2 : Int)) = some (TM M ((n0 : Int), (n1 : Int), (n2 : Int))) := lk_tabL (mem_places (by omega) (by omega) (by omega))
  refine wpAny_execs_cons (wpAny_Return_some (wpAny_Compare1 ?_))
  have rhs : ∀ (va : Addr) (c : Int) (h : Heap) (tk : Nat), Held s.heap h → (∀ h', Held h h' → KeyAt w h' [c, 1] va) → c = TM M ((n0 : Int), (n1 : Int), (n2 : Int)) →
      wpAny (model Pg w) A (eval (.Tuple [.Subscript (.Name "due" p10) (.Call (.Name "tuple" p11) [.Name "powers" p12] [] p13) p14, .Constant (.int 1) c4 p15] c5 p16) env) (fun b s₂ => wpAny (model Pg w) A (compareOp .Eq (.ref va) b) (fun v s' => Q (.ret v) s') E s₂) E { s with heap := h, toks := tk } := by
    intro va c h tk hk hva hc
    have F1 : Fr h₀ L h m := F.keeps hk
    refine Tuple_ (args_cons (Subscript_ (cname_local e.fn e.due (e.at_ F1.ns) m2 ?_)))
    refine Call_ (nT _ _ m _ _ F1 (PySem.Pv.callWith_type1 (args_cons (cname_local e.fn e.powers (e.at_ F1.ns) m3 (args_nil ?_)))))
    refine tuple_of_list (hk _ _ (N _ hpw).1) (by simp) fun K2 h2 hK2 _ hk2 => ?_
    refine tab_get (tab_stay (pr := []) (stays_of_held (hk.trans hk2)) (by simp) (by simp) htab) (p := ((n0 : Int), (n1 : Int), (n2 : Int))) ⟨_, _, _, hK2⟩ hpl hu (fun t9 tk9 => ?_)
    refine args_cons (const_int (args_nil ?_))
    unfold newTuple
    refine wpAny_newObj_type ?_ (by show _ ≤ sizeLine; rw [sizeLine_eq]; simp)
    have hk3 : Held h2 (h2.push (tupO [.int (TM M ((n0 : Int), (n1 : Int), (n2 : Int))) t9, .int 1 tk9])) := fun b o e => Heap.get?_push_of_some _ e
    refine eq_tuples (x := [c, 1]) (y := [TM M ((n0 : Int), (n1 : Int), (n2 : Int)), 1]) (r := true) (Nat.lt_of_succ_lt hu) (hva _ (hk2.trans hk3)) (rat_keyIs (Heap.get?_push_size _ rfl)) (by rw [hc]; simp) ?_
    exact hQ _ _ (F1.keeps (hk2.trans hk3))
  obtain ⟨xs, Do, P⟩ := hP.is
  refine MethodCall_ (pl := plq) (cname_local e.fn e.product (e.at_ F.ns) m1 (getMethod_builtin ⟨_, (N _ hD).1, Do.cls⟩ PySem.F.plainAttrs_dict PySem.F.slot_dict_get PySem.F.type_dict_get (fun a e => by cases e; exact ⟨_, (N _ hD).1, Do.dict⟩) (callWith_method1 (args_cons ?_)))) hmc
  refine Call_ (nT _ _ m _ _ F (PySem.Pv.callWith_type1 (args_cons (cname_local e.fn e.powers (e.at_ F.ns) m3 (args_nil ?_)))))
  refine tuple_of_list (N _ hpw).1 (by simp) fun K1 h1 hK1 _ hk1 => ?_
  refine args_cons (Tuple_ (args_cons (const_int (args_cons (const_int (args_nil ?_))))))
  unfold newTuple
  refine wpAny_newObj_type ?_ (by show _ ≤ sizeLine; rw [sizeLine_eq]; simp)
  dsimp only
  have hk2 : Held h1 (h1.push (tupO [.int 0 s.toks, .int 1 (s.toks + 1)])) := fun b o e => Heap.get?_push_of_some _ e
  have hZ : (h1.push (tupO [.int 0 s.toks, .int 1 (s.toks + 1)])).get? h1.objs.size = some (tupO [.int 0 s.toks, .int 1 (s.toks + 1)]) := Heap.get?_push_size _ rfl
  generalize h1.push (tupO [.int 0 s.toks, .int 1 (s.toks + 1)]) = h2 at *
  generalize h1.objs.size = Z at *
  have hk := hk1.trans hk2
  have N2 : News h₀ L h2 led := news_keep N hk
  refine args_nil ?_
  refine call_meetsIn PySem.F.slot_dict_get ⟨_, (N2 _ hD).1, Do.cls⟩ PySem.F.entry_dict_get (PySem.F.args_dict_get_3 _ _ _) (meetsH_dict_get_default (IK w) D K1 hlo (.ref Z)) ⟨hu, keyL ((n0 : Int), (n1 : Int), (n2 : Int)), xs, keyIs_at ⟨_, _, _, hk2 _ _ hK1⟩, ?_, ?_⟩
  · exact Do.at (N2 _ hD).1 (keysAt_news N2 P)
  · rcases pairedW_lk (k := ((n0 : Int), (n1 : Int), (n2 : Int))) P with ⟨e1, e2⟩ | ⟨c0, a0, va, e1, e2, e3⟩
    · rw [e2]
      rw [e1] at hTM
      exact rhs Z 0 h2 _ hk (fun h' hk' => rat_keyIs (hk' _ _ hZ)) hTM.symm
    · rw [e2]
      rw [e1] at hTM
      refine rhs va c0 h2 _ hk (fun h' hk' => ?_) hTM.symm
      rcases e3 with ⟨t, t', hm⟩ | ⟨rfl, rfl⟩
      · exact rat_keyIs (hk' _ _ (N2 _ hm).1)
      · obtain ⟨t, t', n, h48⟩ := hx48
        exact r1_key (X.keeps ((F.keeps (hk.trans hk')).keep)) h48
end

-- part LY
section
variable {w : World} {loose : List Str} {mean : ExcName → Option Value} {mg mb : Str → Option Value} {dp un : Nat} {gd : Option (List Code)} {cn : Str} {cs : Scope} {a : Addr} {ccd : Value} {cl : List (Str × Addr)} {outer : List Env} {A₀ : Around} {base h₀ : Heap} {L : Addr} {m : Str → Option Value} {s : Shared} {led : List (Addr × Obj)} {env : Env}
set_option maxHeartbeats 1000000 in
theorem law_tail {M : Nat → Nat → Int} {S : List (Addr × Obj)} {pl q pa pw : Addr} {ρ : Nat → Addr} {ka : Nat} {Q : Flow → Shared → Prop} {E : Value → Shared → Prop}
    {p1 p2 p3 p4 p5 p6 p7 p8 p9 p10 p11 p12 p13 p14 p15 p16 p17 p18 q1 q2 q3 q4 q5 q6 q7 q8 q9 q10 q11 q12 q13 q14 q15 q16 q17 q18 q19 q20 q21 q22 q23 q24 q25 : Pos} {c1 c2 c3 c4 c5 d1 d2 d3 d4 d5 d6 : Nat}
    (B : Below A₀ base outer h₀) (F : Fr h₀ L s.heap m) (X : (Mine.hd.heap_1 w.params).In h₀) (N : News h₀ L s.heap led) (T : Top Mine.viewQ loose mean mg mb h₀) (hk : cs.kind = .function)
    (hh : (ktrTop dp un gd cn cs L a ccd cl outer).handled = none) (hua : (ktrTop dp un gd cn cs L a ccd cl outer).units + 1 < cLine)
    (hd : dp + 5 < recursionLimit) (hu : un + 8 * 5 < cLine)
    (e : EnvLw env L) (nT : NameIs w (ktrTop dp un gd cn cs L a ccd cl outer) env h₀ L (Str.ofString "tuple") (.type "tuple")) (nM : NameIs w (ktrTop dp un gd cn cs L a ccd cl outer) env h₀ L (Str.ofString "min") (.builtin "min")) (nD : NameIs w (ktrTop dp un gd cn cs L a ccd cl outer) env h₀ L (Str.ofString "_law_table") (.ref 145)) (nP : NameIs w (ktrTop dp un gd cn cs L a ccd cl outer) env h₀ L (Str.ofString "_law_permanent") (.ref 152))
    (z1 : keepIn (Mine.hd.heap_1 w.params) (.ref 145) = true) (z2 : keepIn (Mine.hd.heap_1 w.params) (.ref 152) = true)
    (hx48 : ∃ (t t' : Tok) (n : Nat), (Mine.hd.heap_1 w.params).lookup 48 = some { cls := .type "tuple", data := .seq #[.int 1 t, .int 1 t'] n })
    {plq : Sem Bool} (hmc : eval (.Call (.Attribute (.Name "product" p1) "get" p2) [.Call (.Name "tuple" p3) [.Name "powers" p4] [] p5, .Tuple [.Constant (.int 0) c1 p6, .Constant (.int 1) c2 p7] c3 p8] [] p9) env = (do
      let ov ← eval (.Name "product" p1) env
      standAt p2.atName
      let (f, first) ← holding [ov] (getMethod ov "get" plq)
      callWith p9 f first (backTo p9 (starEach [.Call (.Name "tuple" p3) [.Name "powers" p4] [] p5, .Tuple [.Constant (.int 0) c1 p6, .Constant (.int 1) c2 p7] c3 p8] env)) []))
    (hpa : (pa, lstO [.ref (ρ 0), .ref (ρ 1), .ref (ρ 2)] ka) ∈ S) (hrow : ∀ j, j < 3 → ∃ (t : Nat → Tok) (k : Nat), (ρ j, lstO [.int (M j 0) (t 0), .int (M j 1) (t 1), .int (M j 2) (t 2)] k) ∈ S) (bM : BdM M)
    (hj : LwJ w M S pl q pa pw 3 m led)
    (hQ : ∀ h' tk m', Fr h₀ L h' m' → Q (.ret (.bool true)) { s with heap := h', toks := tk }) :
    wpAny (model Pg w) (ktrTop dp un gd cn cs L a ccd cl outer) (execs [.Assign [.Name "due" q1] (.Call (.Name "_law_table" q2) [.Name "a" q3, .Name "powers" q4] [] q5) q6,
      .If (.BoolOp .And [.Compare (.Call (.Name "min" q7) [.Name "powers" q8] [] q9) [.Gt] [.Constant (.int 0) d1 q10] q11,
        .Compare (.Subscript (.Name "due" q12) (.Tuple [.Constant (.int 1) d2 q13, .Constant (.int 1) d3 q14, .Constant (.int 1) d4 q15] d5 q16) q17) [.NotEq] [.Call (.Name "_law_permanent" q18) [.Name "a" q19] [] q20] q21] q22)
        [.Return (some (.Constant (.bool false) d6 q23)) q24] [] q25,
      .Return (some (.Compare (.Call (.Attribute (.Name "product" p1) "get" p2) [.Call (.Name "tuple" p3) [.Name "powers" p4] [] p5, .Tuple [.Constant (.int 0) c1 p6, .Constant (.int 1) c2 p7] c3 p8] [] p9) [.Eq]
      [.Tuple [.Subscript (.Name "due" p10) (.Call (.Name "tuple" p11) [.Name "powers" p12] [] p13) p14, .Constant (.int 1) c4 p15] c5 p16] p17)) p18] env) Q E s := by
  obtain ⟨ns, vs, hvs, hnl, hn3, hpw, D, o, l, hmd, hD, hP, _, hlo, hpr⟩ := hj.rest
  match ns, hnl, hvs, hn3, hpr with
  | [n0, n1, n2], _, hvs, hn3, hpr =>
  have hn0 : n0 < 3 := hn3 n0 (by simp)
  have hn1 : n1 < 3 := hn3 n1 (by simp)
  have hn2 : n2 < 3 := hn3 n2 (by simp)
  obtain ⟨u0, u1, u2, rfl⟩ := ints_three (a := (n0 : Int)) (b := (n1 : Int)) (c := (n2 : Int)) hvs
  obtain ⟨t0, k0, hr0⟩ := hrow 0 (by decide)
  obtain ⟨t1, k1, hr1⟩ := hrow 1 (by decide)
  obtain ⟨t2, k2, hr2⟩ := hrow 2 (by decide)
  have pa1 := hj.st _ hpa
  have r0 := hj.st _ hr0
  have r1 := hj.st _ hr1
  have r2 := hj.st _ hr2
  refine wpAny_execs_cons (wpAny_Assign_Name ?_)
  refine Call_ (nD _ _ m _ _ F (callWith_K X z1 (args_cons (cname_local e.fn e.a (e.at_ F.ns) hj.ma (args_cons (cname_local e.fn e.powers (e.at_ F.ns) hj.mw (args_nil ⟨X.keeps F.keep, ?_⟩)))))))
  refine TellsH.use B F X ?_ T hk (table_held w pa (ρ 0) (ρ 1) (ρ 2) pw M (TM M) n0 n1 n2 ka k0 k1 k2 3 (t0 0) (t0 1) (t0 2) (t1 0) (t1 1) (t1 2) (t2 0) (t2 1) (t2 2) u0 u1 u2 bM hn0 hn1 hn2 (T000 M) (TM_step M hn0 hn1 hn2)) hd hu ?_
  · exact List.forall_mem_cons.mpr ⟨N _ pa1, List.forall_mem_cons.mpr ⟨N _ r0, List.forall_mem_cons.mpr ⟨N _ r1, List.forall_mem_cons.mpr ⟨N _ r2, List.forall_mem_cons.mpr ⟨N _ hpw, List.forall_mem_nil _⟩⟩⟩⟩⟩
  rintro r h5 tk5 F5 hk5 hz5 ⟨Dd, rfl, hDn, htab⟩
  have N5 : News h₀ L h5 led := news_keep N hk5
  have liveL : ∃ oL, s.heap.get? L = some oL := ns_live F.ns
  have hDL : Dd ≠ L := fun q => by obtain ⟨oL, hL⟩ := liveL; rw [q, hL] at hDn; cases hDn
  have hloc := e.loc
  subst hloc
  refine wpAny_storeName_local e.due F5.ns (fun h6 hn6 hs6 => ?_) e.plain
  have F6 := F5.set hn6 hs6
  have N6 : News h₀ env.locals h6 led := fun p hp => ⟨(hs6.2 _ (N5 p hp).2.1).trans (N5 p hp).1, (N5 p hp).2⟩
  have htab6 := tab_stay (Stays.ofBut hs6.extBut) (fun b hb => by rw [List.mem_singleton.mp hb]; exact noSeq_ns F5.ns) (by simpa using hDL) htab
  obtain ⟨led2, N7, hin, htb⟩ := tab_ledger (h₀ := h₀) N6 htab6 hDn (fun b hb => ⟨NoneOf.up F.keep hb, fun q => by obtain ⟨oL, hL⟩ := liveL; rw [q, hL] at hb; cases hb⟩)
  have mm : ∀ y, y ≠ Str.ofString "due" → (if y = Str.ofString "due" then some (Value.ref Dd) else m y) = m y := fun y hy => if_neg hy
  show wpAny _ _ (execs _ _) _ _ _
  have fin : ∀ (h : Heap) (tk : Nat), Fr h₀ env.locals h (fun y => if y = Str.ofString "due" then some (Value.ref Dd) else m y) → News h₀ env.locals h led2 →
      wpAny (model Pg w) (ktrTop dp un gd cn cs env.locals a ccd cl outer) (execs [.Return (some (.Compare (.Call (.Attribute (.Name "product" p1) "get" p2) [.Call (.Name "tuple" p3) [.Name "powers" p4] [] p5, .Tuple [.Constant (.int 0) c1 p6, .Constant (.int 1) c2 p7] c3 p8] [] p9) [.Eq]
      [.Tuple [.Subscript (.Name "due" p10) (.Call (.Name "tuple" p11) [.Name "powers" p12] [] p13) p14, .Constant (.int 1) c4 p15] c5 p16] p17)) p18] env) Q E { s with heap := h, toks := tk } := by
    intro h tk Fh Nh
    exact law_ret (s := { s with heap := h, toks := tk }) (pw := pw) (D := D) (Dd := Dd) (o := o) (l := l) Fh X Nh e nT hua hx48 hmc hn0 hn1 hn2 (htb h Nh) (hin _ hpw) (hin _ hD) (hP.mono fun p hp _ => hin p hp) hlo hpr ((mm _ (by decide)).trans hmd) (if_pos rfl) ((mm _ (by decide)).trans hj.mw) (fun h' tk' F' => hQ h' tk' _ F')
  refine wpAny_execs_cons (wpAny_If (isTrue_and (wpAny_isTrue_Compare1 ?_)))
  refine Call_ (nM _ _ _ _ _ F6 (callWith_builtin1 (args_cons (cname_local e.fn e.powers (e.at_ F6.ns) ((mm _ (by decide)).trans hj.mw) (args_nil ?_)))))
  refine min_lst3 hh (N6 _ hpw).1 fun Mn u h8 tk8 hle hor hk8 => ?_
  refine const_int (PyProof.Rows.gt_int (wpAny_truthy_bool ?_))
  have F8 : Fr h₀ env.locals h8 _ := F6.keeps hk8
  have N8 := news_keep N7 hk8
  by_cases hM : 0 < Mn
  · rw [show decide (0 < Mn) = true by simpa using hM, if_pos rfl]
    refine isTrue_and (wpAny_isTrue_Compare1 ?_)
    refine Subscript_ (cname_local e.fn e.due (e.at_ F8.ns) (if_pos rfl) (Tuple_ (args_cons (const_int (args_cons (const_int (args_cons (const_int (args_nil ?_)))))))))
    unfold newTuple
    refine wpAny_newObj_type ?_ (by show _ ≤ sizeLine; rw [sizeLine_eq]; simp)
    dsimp only
    have hk9 : Held h8 (h8.push (tupO [.int 1 (tk8 + 1), .int 1 (tk8 + 1 + 1), .int 1 (tk8 + 1 + 1 + 1)])) := fun b o e => Heap.get?_push_of_some _ e
    have hK9 : (h8.push (tupO [.int 1 (tk8 + 1), .int 1 (tk8 + 1 + 1), .int 1 (tk8 + 1 + 1 + 1)])).get? h8.objs.size = some (tupO [.int 1 (tk8 + 1), .int 1 (tk8 + 1 + 1), .int 1 (tk8 + 1 + 1 + 1)]) := Heap.get?_push_size _ rfl
    generalize h8.push (tupO [.int 1 (tk8 + 1), .int 1 (tk8 + 1 + 1), .int 1 (tk8 + 1 + 1 + 1)]) = h9 at *
    generalize h8.objs.size = K9 at *
    have F9 : Fr h₀ env.locals h9 _ := F8.keeps hk9
    have N9 := news_keep N8 hk9
    have g0 : 1 ≤ n0 := by have := hle.1; omega
    have g1 : 1 ≤ n1 := by have := hle.2.1; omega
    have g2 : 1 ≤ n2 := by have := hle.2.2; omega
    have h111 : ((1 : Int), (1 : Int), (1 : Int)) ∈ placesOf (n0 + 1) (n1 + 1) (n2 + 1) := mem_places (i := 1) (j := 1) (k := 1) (by omega) (by omega) (by omega)
    refine tab_get (htb h9 N9) (p := (1, 1, 1)) ⟨_, _, _, hK9⟩ (lk_tabL h111) hua (fun t9 tk9 => ?_)
    refine Call_ (nP _ _ _ _ _ F9 (callWith_K X z2 (args_cons (cname_local e.fn e.a (e.at_ F9.ns) ((mm _ (by decide)).trans hj.ma) (args_nil ⟨X.keeps F9.keep, ?_⟩)))))
    have hML : MatL led2 pa ρ M 3 := ⟨⟨_, _, ka, hin _ pa1, rfl, rfl, rfl, fun i hi => by rcases i with _ | _ | _ | i <;> first | rfl | omega⟩, fun i hi => by
      rcases i with _ | _ | _ | i
      · exact ⟨_, _, k0, hin _ r0, rfl, rfl, rfl, fun j hj => by rcases j with _ | _ | _ | j <;> first | exact ⟨_, rfl⟩ | omega⟩
      · exact ⟨_, _, k1, hin _ r1, rfl, rfl, rfl, fun j hj => by rcases j with _ | _ | _ | j <;> first | exact ⟨_, rfl⟩ | omega⟩
      · exact ⟨_, _, k2, hin _ r2, rfl, rfl, rfl, fun j hj => by rcases j with _ | _ | _ | j <;> first | exact ⟨_, rfl⟩ | omega⟩
      · omega⟩
    refine TellsH.use B F9 X N9 T hk (perm_held w led2 pa ρ M hML bM.bd) (by omega) (by omega) ?_
    rintro r h10 tk10 F10 hk10 hz10 ⟨t10, rfl⟩
    have N10 := news_keep N9 hk10
    refine PyProof.Rows.ne_int (wpAny_truthy_bool ?_)
    rw [TM_perm, show (perm3 (M 0 0) (M 0 1) (M 0 2) (M 1 0) (M 1 1) (M 1 2) (M 2 0) (M 2 1) (M 2 2) != perm3 (M 0 0) (M 0 1) (M 0 2) (M 1 0) (M 1 1) (M 1 2) (M 2 0) (M 2 1) (M 2 2)) = false by simp]
    rw [if_neg Bool.false_ne_true, if_neg Bool.false_ne_true]
    refine wpAny_execs_nil ?_
    exact fin _ _ F10 N10
  · rw [show decide (0 < Mn) = false by simpa using hM, if_neg Bool.false_ne_true, if_neg Bool.false_ne_true]
    refine wpAny_execs_nil ?_
    exact fin _ _ F8 N8
end

-- part LW
theorem bd_ite {c : Prop} [Decidable c] {x y : Int} (h : Bd 2 x) (h' : Bd 2 y) : Bd 2 (if c then x else y) := by
  by_cases hc : c
  · rw [if_pos hc]; exact h
  · rw [if_neg hc]; exact h'
section
variable {w : World} {loose : List Str} {mean : ExcName → Option Value} {mg mb : Str → Option Value} {dp un : Nat} {gd : Option (List Code)} {cn : Str} {cs : Scope} {a : Addr} {ccd : Value} {cl : List (Str × Addr)} {outer : List Env} {A₀ : Around} {base h₀ : Heap} {L : Addr} {m : Str → Option Value} {s : Shared} {led : List (Addr × Obj)} {env : Env}
theorem newList_raw {M : Model} {A : Around} {E : Value → Shared → Prop} {vs : List Value} {Q : Value → Shared → Prop} (h : ∀ r h', h'.get? r = some (lstO vs 0) → s.heap.get? r = none → Held s.heap h' → Q (.ref r) { s with heap := h' }) (hz : vs.length ≤ 1000) : wpAny M A (newList vs) Q E s := by
  refine wpAny_newList (h _ _ (Heap.get?_push_size _ rfl) ?_ fun b o e => Heap.get?_push_of_some _ e) (by rw [sizeLine_eq]; omega)
  cases e : s.heap.get? s.heap.objs.size with
  | none => rfl
  | some o => exact absurd (Heap.lt_size e) (Nat.lt_irrefl _)
theorem draw_step {pl q : Addr} {spot many : Int} {ys : List Value} {ns : List Int} {k1 kq : Nat} {t t5 : Tok} {Q E : Value → Shared → Prop} (B : Below A₀ base outer h₀) (F : Fr h₀ L s.heap m) (X : (Mine.hd.heap_1 w.params).In h₀) (N : News h₀ L s.heap led) (T : Top Mine.viewQ loose mean mg mb h₀) (hk : cs.kind = .function)
    (hpool : (pl, lstO [.ref q, .int spot t] k1) ∈ led) (hq : (q, lstO ys kq) ∈ led) (hqp : q ≠ pl) (hI : IntsAre ys ns) (hn : ns.length ≤ 12) (hs : 0 ≤ spot ∧ spot < 12) (hm : 0 < many ∧ many < 8)
    (hd : dp + 1 < recursionLimit) (hu : un + 8 * 1 < cLine)
    (ret : ∀ (v : Int) (tv t' : Tok) (k' : Nat) (led' : List (Addr × Obj)) h' tk', 0 ≤ v → v < many → Fr h₀ L h' m → News h₀ L h' led' → (pl, lstO [.ref q, .int (spot + 1) t'] k') ∈ led' → (∀ p ∈ led, p.1 ≠ pl → p ∈ led') → Q (.int v tv) { s with heap := h', toks := tk' }) :
    wpAny (model Pg w) (ktrTop dp un gd cn cs L a ccd cl outer) (call (.ref 130) [.ref pl, .int many t5]) Q E s := by
  have N2 : News h₀ L s.heap ((pl, lstO [.ref q, .int spot t] k1) :: but pl led) := fun p hp => by
    rcases List.mem_cons.mp hp with rfl | hp
    · exact N _ hpool
    · exact N p (mem_but.mp hp).1
  refine Tells.use B F X N2 T hk (draw_tells w pl q spot many hs hm ys ns hI hn k1 kq t t5 (but pl led) (mem_but.mpr ⟨hq, hqp⟩) (fun p hp => (mem_but.mp hp).2)) hd hu ?_
  rintro r n' h1 tk1 F1 N1 ⟨v, tv, t', k', rfl, rfl, hv0, hv1⟩
  exact ret v tv t' k' _ h1 tk1 hv0 hv1 F1 N1 (.head _) fun p hp hne => .tail _ (mem_but.mpr ⟨hp, hne⟩)
set_option maxHeartbeats 1000000 in
/-- a turn of the first loop: three draws, a row -/
theorem rows_step {pl q pa : Addr} {spot : Int} {ys vs : List Value} {ns : List Int} {k1 kq ka : Nat} {t : Tok} {Q : Flow → Shared → Prop} {E : Value → Shared → Prop}
    {p1 p2 p3 p4 p5 p6 p7 p8 p9 p10 p11 p12 p13 p14 p15 p16 p17 p18 q1 q2 q3 q4 q5 q6 q7 q8 q9 q10 q11 q12 q13 q14 : Pos} {c1 c2 c3 c4 c5 c6 c7 c8 : Nat}
    (B : Below A₀ base outer h₀) (F : Fr h₀ L s.heap m) (X : (Mine.hd.heap_1 w.params).In h₀) (N : News h₀ L s.heap led) (T : Top Mine.viewQ loose mean mg mb h₀) (hk : cs.kind = .function) (hint : interactive env = false) (hh : (ktrTop dp un gd cn cs L a ccd cl outer).handled = none)
    (hd : dp + 1 < recursionLimit) (hu : un + 8 * 1 < cLine)
    (e : EnvLw env L) (kf : env.kindOf (Str.ofString "first") = some .local) (ks : env.kindOf (Str.ofString "second") = some .local) (kt : env.kindOf (Str.ofString "third") = some .local)
    (n1 : NameIs w (ktrTop dp un gd cn cs L a ccd cl outer) env h₀ L (Str.ofString "_law_draw") (.ref 130)) (z1 : keepIn (Mine.hd.heap_1 w.params) (.ref 130) = true)
    (hw : swappedStores [.Tuple [.Name "first" p1, .Name "second" p2, .Name "third" p3] c1 p4] (.Tuple [.Call (.Name "_law_draw" p5) [.Name "pool" p6, .Constant (.int 5) c2 p7] [] p8, .Call (.Name "_law_draw" p9) [.Name "pool" p10, .Constant (.int 5) c3 p11] [] p12, .Call (.Name "_law_draw" p13) [.Name "pool" p14, .Constant (.int 5) c4 p15] [] p16] c5 p17) env = pure (some [Str.ofString "first", Str.ofString "second", Str.ofString "third"]))
    {plq : Sem Bool} (hmc : eval (.Call (.Attribute (.Name "a" q1) "append" q2) [.List [.BinOp (.Name "first" q3) .Sub (.Constant (.int 2) c6 q4) q5, .BinOp (.Name "second" q6) .Sub (.Constant (.int 2) c7 q7) q8, .BinOp (.Name "third" q9) .Sub (.Constant (.int 2) c8 q10) q11] q12] [] q13) env = (do
      let ov ← eval (.Name "a" q1) env
      standAt q2.atName
      let (f, first) ← holding [ov] (getMethod ov "append" plq)
      callWith q13 f first (backTo q13 (starEach [.List [.BinOp (.Name "first" q3) .Sub (.Constant (.int 2) c6 q4) q5, .BinOp (.Name "second" q6) .Sub (.Constant (.int 2) c7 q7) q8, .BinOp (.Name "third" q9) .Sub (.Constant (.int 2) c8 q10) q11] q12] env)) []))
    (hpool : (pl, lstO [.ref q, .int spot t] k1) ∈ led) (hq : (q, lstO ys kq) ∈ led) (hqp : q ≠ pl) (hpp : pa ≠ pl) (hI : IntsAre ys ns) (hn : ns.length ≤ 12) (hs : 0 ≤ spot ∧ spot < 9)
    (hpa : (pa, lstO vs ka) ∈ led) (hvl : vs.length < 1000) (m1 : m (Str.ofString "pool") = some (.ref pl)) (m2 : m (Str.ofString "a") = some (.ref pa))
    (ret : ∀ (v0 v1 v2 : Int) (r : Addr) (t0 t1 t2 t' : Tok) (k' : Nat) (led' : List (Addr × Obj)) (m' : Str → Option Value) h' tk', Bd 2 v0 → Bd 2 v1 → Bd 2 v2 → (∀ y, y ≠ Str.ofString "first" → y ≠ Str.ofString "second" → y ≠ Str.ofString "third" → m' y = m y) → Fr h₀ L h' m' → News h₀ L h' led' →
      (pl, lstO [.ref q, .int (spot + 3) t'] k') ∈ led' → (pa, lstO (vs ++ [.ref r]) (ka + 1)) ∈ led' → (r, lstO [.int v0 t0, .int v1 t1, .int v2 t2] 0) ∈ led' → (∀ p ∈ led, p.1 ≠ r) → (∀ p ∈ led, p.1 ≠ pl → p.1 ≠ pa → p ∈ led') → Q .next { s with heap := h', toks := tk' }) :
    wpAny (model Pg w) (ktrTop dp un gd cn cs L a ccd cl outer) (execs [.Assign [.Tuple [.Name "first" p1, .Name "second" p2, .Name "third" p3] c1 p4] (.Tuple [.Call (.Name "_law_draw" p5) [.Name "pool" p6, .Constant (.int 5) c2 p7] [] p8, .Call (.Name "_law_draw" p9) [.Name "pool" p10, .Constant (.int 5) c3 p11] [] p12, .Call (.Name "_law_draw" p13) [.Name "pool" p14, .Constant (.int 5) c4 p15] [] p16] c5 p17) p18,
      .Expr (.Call (.Attribute (.Name "a" q1) "append" q2) [.List [.BinOp (.Name "first" q3) .Sub (.Constant (.int 2) c6 q4) q5, .BinOp (.Name "second" q6) .Sub (.Constant (.int 2) c7 q7) q8, .BinOp (.Name "third" q9) .Sub (.Constant (.int 2) c8 q10) q11] q12] [] q13) q14] env) Q E s := by
  have eP : EnvP env L := ⟨e.fn, e.loc, e.plain⟩
  refine wpAny_execs_cons (Assign_Tuple_swapped (Tuple_ (args_cons (Call_ (n1 _ _ m _ _ F (callWith_K X z1 (args_cons (cname_local e.fn e.pool (e.at_ F.ns) m1 (args_cons (const_int (args_nil ⟨X.keeps F.keep, ?_⟩)))))))))) (hw := hw))
  refine draw_step B F X N T hk hpool hq hqp hI hn (by omega) (by decide) hd hu fun v0 t0 t0' k0 led1 h1 tk1 a0 b0 F1 N1 pool1 up1 => ?_
  refine args_cons (Call_ (n1 _ _ m _ _ F1 (callWith_K X z1 (args_cons (cname_local e.fn e.pool (e.at_ F1.ns) m1 (args_cons (const_int (args_nil ⟨X.keeps F1.keep, ?_⟩))))))))
  refine draw_step B F1 X N1 T hk pool1 (up1 _ hq hqp) hqp hI hn (by omega) (by decide) hd hu fun v1 t1 t1' k1' led2 h2 tk2 a1 b1 F2 N2 pool2 up2 => ?_
  refine args_cons (Call_ (n1 _ _ m _ _ F2 (callWith_K X z1 (args_cons (cname_local e.fn e.pool (e.at_ F2.ns) m1 (args_cons (const_int (args_nil ⟨X.keeps F2.keep, ?_⟩))))))))
  refine draw_step B F2 X N2 T hk pool2 (up2 _ (up1 _ hq hqp) hqp) hqp hI hn (by omega) (by decide) hd hu fun v2 t2 t2' k2' led3 h3 tk3 a2 b2 F3 N3 pool3 up3 => ?_
  refine args_nil ?_
  unfold newTuple
  refine wpAny_newObj_type ?_ (by show _ ≤ sizeLine; rw [sizeLine_eq]; simp)
  dsimp only
  have hk4 : Held h3 (h3.push (tupO [.int v0 t0, .int v1 t1, .int v2 t2])) := fun b o e => Heap.get?_push_of_some _ e
  have hz4 : (h3.push (tupO [.int v0 t0, .int v1 t1, .int v2 t2])).get? h3.objs.size = some (tupO [.int v0 t0, .int v1 t1, .int v2 t2]) := Heap.get?_push_size _ rfl
  generalize h3.push (tupO [.int v0 t0, .int v1 t1, .int v2 t2]) = h4 at *
  generalize h3.objs.size = z8 at *
  refine unpackItems_tuple (items := #[.int v0 t0, .int v1 t1, .int v2 t2]) hh ⟨_, hz4, rfl, _, rfl⟩ fun h5 he5 => ?_
  have hk5 : Held h3 h5 := hk4.trans fun b o e9 => he5 b o (Nat.ne_of_lt (Heap.lt_size e9)) e9
  have F5 := F3.keeps hk5
  have N5 := news_keep N3 hk5
  show wpAny _ _ (assignInOrder [fun v => bindName env (Str.ofString "third") v, fun v => bindName env (Str.ofString "second") v, fun v => bindName env (Str.ofString "first") v] [.int v2 t2, .int v1 t1, .int v0 t0]) _ _ _
  refine assignInOrder_cons (bindName_ (store_nm eP kt F5.ns fun h6 tk6 n6 s6 => assignInOrder_cons (bindName_ (store_nm eP ks n6 fun h7 tk7 n7 s7 => assignInOrder_cons (bindName_ (store_nm eP kf n7 fun h8 tk8 n8 s8 => assignInOrder_nil ?_))))))
  have s58 : ∀ b, b ≠ L → h8.get? b = h5.get? b := fun b hb => (s8.2 b hb).trans ((s7.2 b hb).trans (s6.2 b hb))
  have F8 : Fr h₀ L h8 _ := ((F5.set n6 s6).set n7 s7).set n8 s8
  have N8 : News h₀ L h8 led3 := fun p hp => ⟨(s58 _ (N5 p hp).2.1).trans (N5 p hp).1, (N5 p hp).2⟩
  have up : ∀ p ∈ led, p.1 ≠ pl → p ∈ led3 := fun p hp hne => up3 p (up2 p (up1 p hp hne) hne) hne
  have pa3 := up _ hpa hpp
  refine wpAny_execs_cons (wpAny_Expr ?_ hint)
  refine MethodCall_ (pl := plq) (cname_local e.fn e.a (e.at_ F8.ns) ((if_neg (by decide)).trans ((if_neg (by decide)).trans ((if_neg (by decide)).trans m2))) (getMethod_list_append (N8 _ pa3).1 rfl rfl (callWith_method1 (args_cons ?_)))) hmc
  refine List_ (args_cons (wpAny_BinOp (cname_local e.fn kf (e.at_ F8.ns) (if_pos rfl) (const_int (PyProof.Rows.sub_int (args_cons (wpAny_BinOp (cname_local e.fn ks (e.at_ F8.ns) ((if_neg (by decide)).trans (if_pos rfl)) (const_int (PyProof.Rows.sub_int (args_cons (wpAny_BinOp (cname_local e.fn kt (e.at_ F8.ns) ((if_neg (by decide)).trans ((if_neg (by decide)).trans (if_pos rfl))) (const_int (PyProof.Rows.sub_int (args_nil (newList_raw (fun r h9 hr hrn hk9 => ?_) (by simp))))))))))))))))))
  obtain ⟨T0, T1, T2, hr⟩ : ∃ x y z : Tok, h9.get? r = some (lstO [.int (v0 - 2) x, .int (v1 - 2) y, .int (v2 - 2) z] 0) := ⟨_, _, _, hr⟩
  have F9 := F8.keeps hk9
  have hrL : r ≠ L := fun q9 => by obtain ⟨o, _, _, ho, _⟩ := F8.ns; rw [q9, ho] at hrn; cases hrn
  have N9 := news_keep N8 hk9
  refine args_nil (append_at (s := { s with heap := h9, toks := _ }) (N9 _ pa3).1 (fun h10 hs10 hg10 => ?_) (by rw [sizeLine_eq]; simp; omega))
  have hg10' : h10.get? pa = some (lstO (vs ++ [.ref r]) (ka + 1)) := by simpa using hg10
  have F10 : Fr h₀ L h10 _ := F9.change hs10 (N9 _ pa3).2.1 (N9 _ pa3).2.2
  have offr : ∀ p ∈ led3, p.1 ≠ r := fun p hp q9 => by rw [← q9, (N8 p hp).1] at hrn; cases hrn
  have h0r : h₀.get? r = none := NoneOf.up F8.keep hrn
  have q3 := up _ hq hqp
  have hrp : r ≠ pa := (offr _ pa3).symm
  show wpAny _ _ (execs _ _) _ _ _
  have N10 : News h₀ L h10 ((r, lstO [.int (v0 - 2) T0, .int (v1 - 2) T1, .int (v2 - 2) T2] 0) :: (pa, lstO (vs ++ [.ref r]) (ka + 1)) :: but pa led3) :=
    List.forall_mem_cons.mpr ⟨⟨(hs10.2 _ hrp).trans hr, hrL, h0r⟩, List.forall_mem_cons.mpr ⟨⟨hg10', (N9 _ pa3).2⟩, fun p hp => ⟨(hs10.2 _ (mem_but.mp hp).2).trans (N9 p (mem_but.mp hp).1).1, (N9 p (mem_but.mp hp).1).2⟩⟩⟩
  refine wpAny_execs_nil (ret (v0 - 2) (v1 - 2) (v2 - 2) r T0 T1 T2 t2' k2' _ _ h10 _ ⟨by omega, by omega⟩ ⟨by omega, by omega⟩ ⟨by omega, by omega⟩ (fun y a b c => by rw [if_neg a, if_neg b, if_neg c]) F10 N10
    (.tail _ (.tail _ (mem_but.mpr ⟨by rw [show spot + 3 = spot + 1 + 1 + 1 by omega]; exact pool3, hpp.symm⟩))) (.tail _ (.head _)) (.head _) (fun p hp q9 => ?_) (fun p hp a b => .tail _ (.tail _ (mem_but.mpr ⟨up p hp a, b⟩))))
  by_cases hp9 : p.1 = pl
  · exact offr _ pool3 (hp9.symm.trans q9)
  · exact offr p (up p hp hp9) q9
end
structure RwJ (S : List (Addr × Obj)) (pl q pa : Addr) (m0 : Str → Option Value) (i : Nat) (m : Str → Option Value) (news : List (Addr × Obj)) : Prop where
  st : ∀ p ∈ S, p ∈ news
  pool : ∃ t k, (pl, lstO [.ref q, .int ((3 * i : Nat) : Int) t] k) ∈ news
  rows : ∃ (ρ : Nat → Addr) (M : Nat → Nat → Int), (pa, lstO ((List.range i).map fun j => .ref (ρ j)) i) ∈ news ∧ (∀ j c, Bd 2 (M j c)) ∧ ∀ j, j < i → (∃ (t : Nat → Tok) (k : Nat), (ρ j, lstO [.int (M j 0) (t 0), .int (M j 1) (t 1), .int (M j 2) (t 2)] k) ∈ news) ∧ ρ j ≠ pl ∧ ρ j ≠ pa ∧ ∀ p ∈ S, p.1 ≠ ρ j
  nm : ∀ y, y ≠ Str.ofString "row" → y ≠ Str.ofString "first" → y ≠ Str.ofString "second" → y ≠ Str.ofString "third" → m y = m0 y
section
variable {w : World} {loose : List Str} {mean : ExcName → Option Value} {mg mb : Str → Option Value} {dp un : Nat} {gd : Option (List Code)} {cn : Str} {cs : Scope} {a : Addr} {ccd : Value} {cl : List (Str × Addr)} {outer : List Env} {A₀ : Around} {base h₀ : Heap} {L : Addr} {m : Str → Option Value} {s : Shared} {led : List (Addr × Obj)} {env : Env}
set_option maxHeartbeats 1000000 in
theorem rows_loop {S : List (Addr × Obj)} {pl q pa : Addr} {ys : List Value} {ns : List Int} {kq : Nat} {Q : Flow → Shared → Prop} {E : Value → Shared → Prop}
    {a1 a2 a3 a4 a5 a6 a7 a8 a9 a10 a11 a12 a13 a14 a15 a16 a17 a18 b1 b2 b3 b4 b5 b6 b7 b8 b9 b10 b11 b12 b13 b14 r1 r2 r3 r4 r5 : Pos} {f1 f2 f3 f4 f5 f6 f7 f8 g1 : Nat}
    (B : Below A₀ base outer h₀) (F : Fr h₀ L s.heap m) (X : (Mine.hd.heap_1 w.params).In h₀) (N : News h₀ L s.heap led) (T : Top Mine.viewQ loose mean mg mb h₀) (hk : cs.kind = .function) (hint : interactive env = false) (hh : (ktrTop dp un gd cn cs L a ccd cl outer).handled = none)
    (hd : dp + 1 < recursionLimit) (hu : un + 8 * 1 < cLine)
    (e : EnvLw env L) (kf : env.kindOf (Str.ofString "first") = some .local) (ks : env.kindOf (Str.ofString "second") = some .local) (kt : env.kindOf (Str.ofString "third") = some .local)
    (n1 : NameIs w (ktrTop dp un gd cn cs L a ccd cl outer) env h₀ L (Str.ofString "_law_draw") (.ref 130)) (n5 : NameIs w (ktrTop dp un gd cn cs L a ccd cl outer) env h₀ L (Str.ofString "range") (.type "range")) (z1 : keepIn (Mine.hd.heap_1 w.params) (.ref 130) = true)
    (hw : swappedStores [.Tuple [.Name "first" a1, .Name "second" a2, .Name "third" a3] f1 a4] (.Tuple [.Call (.Name "_law_draw" a5) [.Name "pool" a6, .Constant (.int 5) f2 a7] [] a8, .Call (.Name "_law_draw" a9) [.Name "pool" a10, .Constant (.int 5) f3 a11] [] a12, .Call (.Name "_law_draw" a13) [.Name "pool" a14, .Constant (.int 5) f4 a15] [] a16] f5 a17) env = pure (some [Str.ofString "first", Str.ofString "second", Str.ofString "third"]))
    {plr : Sem Bool} (hmr : eval (.Call (.Attribute (.Name "a" b1) "append" b2) [.List [.BinOp (.Name "first" b3) .Sub (.Constant (.int 2) f6 b4) b5, .BinOp (.Name "second" b6) .Sub (.Constant (.int 2) f7 b7) b8, .BinOp (.Name "third" b9) .Sub (.Constant (.int 2) f8 b10) b11] b12] [] b13) env = (do
      let ov ← eval (.Name "a" b1) env
      standAt b2.atName
      let (f, first) ← holding [ov] (getMethod ov "append" plr)
      callWith b13 f first (backTo b13 (starEach [.List [.BinOp (.Name "first" b3) .Sub (.Constant (.int 2) f6 b4) b5, .BinOp (.Name "second" b6) .Sub (.Constant (.int 2) f7 b7) b8, .BinOp (.Name "third" b9) .Sub (.Constant (.int 2) f8 b10) b11] b12] env)) []))
    (hq : (q, lstO ys kq) ∈ S) (hSne : ∀ p ∈ S, p.1 ≠ pl ∧ p.1 ≠ pa) (hpp : pa ≠ pl) (hI : IntsAre ys ns) (hn : ns.length ≤ 12)
    (m1 : m (Str.ofString "pool") = some (.ref pl)) (m2 : m (Str.ofString "a") = some (.ref pa))
    (hJ : RwJ S pl q pa m 0 m led) (hE : PassesOwn (model Pg w) (ktrTop dp un gd cn cs L a ccd cl outer) env E)
    (hQ : ∀ h' tk m' led', Fr h₀ L h' m' → News h₀ L h' led' → RwJ S pl q pa m 3 m' led' → Q .next { s with heap := h', toks := tk }) :
    wpAny (model Pg w) (ktrTop dp un gd cn cs L a ccd cl outer) (exec (.For (.Name "row" r1) (.Call (.Name "range" r2) [.Constant (.int 3) g1 r3] [] r4) [.Assign [.Tuple [.Name "first" a1, .Name "second" a2, .Name "third" a3] f1 a4] (.Tuple [.Call (.Name "_law_draw" a5) [.Name "pool" a6, .Constant (.int 5) f2 a7] [] a8, .Call (.Name "_law_draw" a9) [.Name "pool" a10, .Constant (.int 5) f3 a11] [] a12, .Call (.Name "_law_draw" a13) [.Name "pool" a14, .Constant (.int 5) f4 a15] [] a16] f5 a17) a18,
      .Expr (.Call (.Attribute (.Name "a" b1) "append" b2) [.List [.BinOp (.Name "first" b3) .Sub (.Constant (.int 2) f6 b4) b5, .BinOp (.Name "second" b6) .Sub (.Constant (.int 2) f7 b7) b8, .BinOp (.Name "third" b9) .Sub (.Constant (.int 2) f8 b10) b11] b12] [] b13) b14] [] r5) env) Q E s := by
  have hloc := e.loc
  subst hloc
  refine For_turns F (Call_ (n5 _ _ m _ _ F (PySem.Pv.callWith_type1 (args_cons (const_int (args_nil (call_range_1 ?_))))))) (fun _ => rfl) hE
  refine wpAny_pyIter_range (IsRange.new _ _ _ _ _ _ _) (small_one (by decide) (by decide) (by decide) (by decide)) ?_
  dsimp only
  have hk1 : Held s.heap (s.heap.push { cls := .type "range", data := .fields #[.int 0 (s.toks + 1), .int 3 s.toks, .int 1 (s.toks + 1 + 1)] }) := fun b o e => Heap.get?_push_of_some _ e
  generalize s.heap.push { cls := .type "range", data := .fields #[.int 0 (s.toks + 1), .int 3 s.toks, .int 1 (s.toks + 1 + 1)] } = hR at *
  have F1 : Fr h₀ env.locals hR m := F.keeps hk1
  have N1 : News h₀ env.locals hR led := news_keep N hk1
  have Wk := LCg.range_walks (prog := Pg) (w := w) (I := hR.objs.size) hh 0 3
  have hnI : ∀ p ∈ led, p.1 ≠ hR.objs.size := fun p hp => Nat.ne_of_lt (Heap.lt_size (N1 p hp).1)
  refine ⟨hR.objs.size, [hR.objs.size], [hR.objs.size], 3, _, _, _, m, led, RwJ S pl q pa m, rfl, KTurns.ofWalks Wk (fun i v s Q E st hq => wpAny_of_eq rfl hq), ?_, ?_, ?_, ?_,
    F1.push _, N1.grown fun b o e => Heap.get?_push_of_some _ e, hJ, ?_, ?_⟩
  · intro hmm
    exact absurd F1.ns.lt ((List.mem_singleton.mp hmm) ▸ Nat.lt_irrefl _)
  · intro b hb
    rw [List.mem_singleton.mp hb]
    exact next_is_new F1
  · intro p hp hI9
    exact hnI p hp (List.mem_singleton.mp hI9)
  · show IsRangeIter _ _ _ _ _
    exact Heap.get?_push_size _ rfl
  · rintro i v m₁ news₁ h₁ tk₁ own hi ⟨tr, rfl⟩ hj hoff hown hget hall hst Fa Na
    rw [Int.zero_add]
    refine wpAny_assign_Name (wpAny_storeName_local e.row Fa.ns (fun h₂ hn₂ hs₂ => ?_) e.plain)
    have Fb := Fa.set hn₂ hs₂
    have Nb : News h₀ env.locals h₂ (own ++ news₁) := fun p hp => ⟨(hs₂.2 _ (Na p hp).2.1).trans (Na p hp).1, (Na p hp).2⟩
    obtain ⟨tp, kp, hpool⟩ := hj.pool
    obtain ⟨ρ, M, hpa, hbd, hrow⟩ := hj.rows
    have offI : ∀ p ∈ news₁, p.1 ≠ hR.objs.size := fun p hp q => hoff p hp (by simp [q])
    obtain ⟨oI, hoI, hcI⟩ : ∃ oI, (hR.objs.size, oI) ∈ own ∧ oI.cls = .type "range_iterator" := by
      have hst' : h₁.get? hR.objs.size = some _ := hst
      exact ⟨_, hall _ (.head _) (next_is_new F1) _ hst', rfl⟩
    have ownI : ∀ p ∈ own, p.1 = hR.objs.size := fun p hp => List.mem_singleton.mp (hown p hp)
    have nr : ∀ y, y ≠ Str.ofString "row" → (if y = Str.ofString "row" then some (Value.int (i : Int) tr) else m₁ y) = m₁ y := fun y hy => if_neg hy
    have mid : ∀ y, y ≠ Str.ofString "row" → y ≠ Str.ofString "first" → y ≠ Str.ofString "second" → y ≠ Str.ofString "third" → (if y = Str.ofString "row" then some (Value.int (i : Int) tr) else m₁ y) = m y := fun y a b c d => (nr y a).trans (hj.nm y a b c d)
    have inr : ∀ {p : Addr × Obj}, p ∈ news₁ → p ∈ own ++ news₁ := fun hp => List.mem_append_right _ hp
    refine rows_step (led := own ++ news₁) (spot := ((3 * i : Nat) : Int)) (ka := i) (vs := (List.range i).map fun j => .ref (ρ j)) B Fb X Nb T hk hint hh hd hu e kf ks kt n1 z1 hw hmr (inr hpool) (inr (hj.st _ hq)) (hSne _ hq).1 hpp hI hn (by omega) (inr hpa) (by simp; omega) ((mid _ (by decide) (by decide) (by decide) (by decide)).trans m1) ((mid _ (by decide) (by decide) (by decide) (by decide)).trans m2) ?_
    intro v0 v1 v2 r t0 t1 t2 t' k' led2 m2' h' tk' b0 b1 b2 hm2 F' N' hpl2 hpa2 hr2 hoffr hkeep
    have plI : pl ≠ hR.objs.size := offI _ hpool
    have paI : pa ≠ hR.objs.size := offI _ hpa
    have own2 : ∀ p ∈ own, p ∈ led2 := fun p hp => hkeep p (List.mem_append_left _ hp) (by rw [ownI p hp]; exact plI.symm) (by rw [ownI p hp]; exact paI.symm)
    have hrI : r ≠ hR.objs.size := fun q9 => hoffr _ (List.mem_append_left _ hoI) q9.symm
    refine LoopStepV.next ⟨rfl, h', tk', _, but hR.objs.size led2, rfl, F', fun p hp => ?_, fun p hp hI9 => (mem_but.mp hp).2 (List.mem_singleton.mp hI9), ?_⟩
    · rcases List.mem_append.mp hp with hp | hp
      · exact N' p (own2 p hp)
      · exact N' p (mem_but.mp hp).1
    · refine ⟨fun p hp => mem_but.mpr ⟨hkeep p (inr (hj.st p hp)) (hSne p hp).1 (hSne p hp).2, offI p (hj.st p hp)⟩, ⟨t', k', mem_but.mpr ⟨by rw [show ((3 * (i + 1) : Nat) : Int) = ((3 * i : Nat) : Int) + 3 by omega]; exact hpl2, plI⟩⟩,
        ⟨fun j => if j = i then r else ρ j, fun j c => if j = i then (if c = 0 then v0 else if c = 1 then v1 else v2) else M j c, ?_, fun j c => ?_, fun j hji => ?_⟩, fun y a b c d => (hm2 y b c d).trans (mid y a b c d)⟩
      · refine mem_but.mpr ⟨?_, paI⟩
        rw [List.range_succ, List.map_append]
        rw [show (List.range i).map (fun j => Value.ref (if j = i then r else ρ j)) = (List.range i).map fun j => Value.ref (ρ j) from List.map_congr_left fun j hj => by rw [if_neg (Nat.ne_of_lt (List.mem_range.mp hj))]]
        show (pa, lstO (_ ++ [Value.ref (if i = i then r else ρ i)]) _) ∈ _
        rw [if_pos rfl]
        exact hpa2
      · show Bd 2 (if j = i then (if c = 0 then v0 else if c = 1 then v1 else v2) else M j c)
        exact bd_ite (bd_ite b0 (bd_ite b1 b2)) (hbd j c)
      · by_cases q9 : j = i
        · subst q9
          simp only [if_pos]
          exact ⟨⟨fun c => if c = 0 then t0 else if c = 1 then t1 else t2, 0, mem_but.mpr ⟨hr2, hrI⟩⟩, fun q => hoffr _ (inr hpool) q.symm, fun q => hoffr _ (inr hpa) q.symm, fun p hp => hoffr p (inr (hj.st p hp))⟩
        · obtain ⟨⟨t, k, hmem⟩, e1, e2, e3⟩ := hrow j (by omega)
          simp only [if_neg q9]
          exact ⟨⟨t, k, mem_but.mpr ⟨hkeep _ (inr hmem) e1 e2, offI _ hmem⟩⟩, e1, e2, e3⟩
  · intro h' tk m' news' F' N' _ hj
    exact hQ h' tk m' news' F' N' hj
end

-- part LA
section
variable {w : World} {loose : List Str} {mean : ExcName → Option Value} {mg mb : Str → Option Value} {dp un : Nat} {gd : Option (List Code)} {cn : Str} {cs : Scope} {a : Addr} {ccd : Value} {cl : List (Str × Addr)} {outer : List Env} {A₀ : Around} {base h₀ : Heap} {L : Addr} {m : Str → Option Value} {s : Shared} {led : List (Addr × Obj)} {env : Env}
set_option maxHeartbeats 1000000 in
theorem law_all {Q : Flow → Shared → Prop} {E : Value → Shared → Prop} {pl q pa pw d5 d6 dd : Addr} {o : Obj} {y1 y2 y3 y4 y5 tp : Tok} {kp kq : Nat} {ys : List Value} {ns : List Int}
    {a1 a2 a3 a4 a5 a6 a7 a8 a9 a10 a11 a12 a13 a14 a15 a16 a17 a18 b1 b2 b3 b4 b5 b6 b7 b8 b9 b10 b11 b12 b13 b14 r1 r2 r3 r4 r5 : Pos} {f1 f2 f3 f4 f5 f6 f7 f8 g1 : Nat}
    {p1 p2 p3 p4 p5 p6 p7 p8 p9 p10 p11 p12 p13 p14 p15 p16 p17 p18 q1 q2 q3 q4 q5 q6 q7 q8 q9 q10 q11 q12 q13 q14 q15 q16 q17 q18 q19 q20 q21 q22 q23 q24 q25 : Pos} {c1 c2 c3 c4 c5 d'1 d'2 d'3 d'4 d'5 d'6 : Nat}
    {s1 s2 s3 s4 s5 s6 s7 s8 s9 s10 s11 s12 s13 s14 s15 s16 s17 s18 s19 s20 s21 s22 s23 s24 s25 s26 s27 s28 s29 : Pos} {e1 e2 e3 : Nat}
    (B : Below A₀ base outer h₀) (F : Fr h₀ L s.heap m) (X : (Mine.hd.heap_1 w.params).In h₀) (T : Top Mine.viewQ loose mean mg mb h₀) (hk : cs.kind = .function) (hint : interactive env = false)
    (N : News h₀ L s.heap led) (D : DObj w o [([0, 0, 0], d6, .ref d5)])
    (i1 : (pa, lstO [] 0) ∈ led) (i2 : (pw, lstO [] 0) ∈ led) (i3 : (d5, tupO [.int 1 y1, .int 1 y2]) ∈ led) (i4 : (d6, tupO [.int 0 y3, .int 0 y4, .int 0 y5]) ∈ led) (i5 : (dd, o) ∈ led) (i6 : (pl, lstO [.ref q, .int 0 tp] kp) ∈ led) (i7 : (q, lstO ys kq) ∈ led)
    (hh : (ktrTop dp un gd cn cs L a ccd cl outer).handled = none)
    (hd : dp + 6 < recursionLimit) (hu : un + 8 * 6 < cLine) (hua : (ktrTop dp un gd cn cs L a ccd cl outer).units + 1 < cLine)
    (e : EnvLw env L) (kf : env.kindOf (Str.ofString "first") = some .local) (ks : env.kindOf (Str.ofString "second") = some .local) (kt : env.kindOf (Str.ofString "third") = some .local)
    (n1 : NameIs w (ktrTop dp un gd cn cs L a ccd cl outer) env h₀ L (Str.ofString "_law_draw") (.ref 130)) (n2 : NameIs w (ktrTop dp un gd cn cs L a ccd cl outer) env h₀ L (Str.ofString "mvmul") (.ref 97)) (n3 : NameIs w (ktrTop dp un gd cn cs L a ccd cl outer) env h₀ L (Str.ofString "mvpower") (.ref 104)) (n4 : NameIs w (ktrTop dp un gd cn cs L a ccd cl outer) env h₀ L (Str.ofString "_law_line") (.ref 135))
    (n5 : NameIs w (ktrTop dp un gd cn cs L a ccd cl outer) env h₀ L (Str.ofString "range") (.type "range")) (nT : NameIs w (ktrTop dp un gd cn cs L a ccd cl outer) env h₀ L (Str.ofString "tuple") (.type "tuple")) (nM : NameIs w (ktrTop dp un gd cn cs L a ccd cl outer) env h₀ L (Str.ofString "min") (.builtin "min")) (nD : NameIs w (ktrTop dp un gd cn cs L a ccd cl outer) env h₀ L (Str.ofString "_law_table") (.ref 145)) (nP : NameIs w (ktrTop dp un gd cn cs L a ccd cl outer) env h₀ L (Str.ofString "_law_permanent") (.ref 152))
    (z1 : keepIn (Mine.hd.heap_1 w.params) (.ref 130) = true) (z2 : keepIn (Mine.hd.heap_1 w.params) (.ref 97) = true) (z3 : keepIn (Mine.hd.heap_1 w.params) (.ref 104) = true) (z4 : keepIn (Mine.hd.heap_1 w.params) (.ref 135) = true) (z5 : keepIn (Mine.hd.heap_1 w.params) (.ref 145) = true) (z6 : keepIn (Mine.hd.heap_1 w.params) (.ref 152) = true)
    (hw : swappedStores [.Tuple [.Name "first" a1, .Name "second" a2, .Name "third" a3] f1 a4] (.Tuple [.Call (.Name "_law_draw" a5) [.Name "pool" a6, .Constant (.int 5) f2 a7] [] a8, .Call (.Name "_law_draw" a9) [.Name "pool" a10, .Constant (.int 5) f3 a11] [] a12, .Call (.Name "_law_draw" a13) [.Name "pool" a14, .Constant (.int 5) f4 a15] [] a16] f5 a17) env = pure (some [Str.ofString "first", Str.ofString "second", Str.ofString "third"]))
    (hx48 : ∃ (t t' : Tok) (n : Nat), (Mine.hd.heap_1 w.params).lookup 48 = some { cls := .type "tuple", data := .seq #[.int 1 t, .int 1 t'] n })
    {plr : Sem Bool} (hmr : eval (.Call (.Attribute (.Name "a" b1) "append" b2) [.List [.BinOp (.Name "first" b3) .Sub (.Constant (.int 2) f6 b4) b5, .BinOp (.Name "second" b6) .Sub (.Constant (.int 2) f7 b7) b8, .BinOp (.Name "third" b9) .Sub (.Constant (.int 2) f8 b10) b11] b12] [] b13) env = (do
      let ov ← eval (.Name "a" b1) env
      standAt b2.atName
      let (f, first) ← holding [ov] (getMethod ov "append" plr)
      callWith b13 f first (backTo b13 (starEach [.List [.BinOp (.Name "first" b3) .Sub (.Constant (.int 2) f6 b4) b5, .BinOp (.Name "second" b6) .Sub (.Constant (.int 2) f7 b7) b8, .BinOp (.Name "third" b9) .Sub (.Constant (.int 2) f8 b10) b11] b12] env)) []))
    {pla : Sem Bool} (hma : eval (.Call (.Attribute (.Name "powers" s1) "append" s2) [.Call (.Name "_law_draw" s3) [.Name "pool" s4, .Constant (.int 3) e1 s5] [] s6] [] s7) env = (do
      let ov ← eval (.Name "powers" s1) env
      standAt s2.atName
      let (f, first) ← holding [ov] (getMethod ov "append" pla)
      callWith s7 f first (backTo s7 (starEach [.Call (.Name "_law_draw" s3) [.Name "pool" s4, .Constant (.int 3) e1 s5] [] s6] env)) []))
    {plq : Sem Bool} (hmc : eval (.Call (.Attribute (.Name "product" p1) "get" p2) [.Call (.Name "tuple" p3) [.Name "powers" p4] [] p5, .Tuple [.Constant (.int 0) c1 p6, .Constant (.int 1) c2 p7] c3 p8] [] p9) env = (do
      let ov ← eval (.Name "product" p1) env
      standAt p2.atName
      let (f, first) ← holding [ov] (getMethod ov "get" plq)
      callWith p9 f first (backTo p9 (starEach [.Call (.Name "tuple" p3) [.Name "powers" p4] [] p5, .Tuple [.Constant (.int 0) c1 p6, .Constant (.int 1) c2 p7] c3 p8] env)) []))
    (hI : IntsAre ys ns) (hln : ns.length ≤ 12) (hlo : (dd == sysModules) = false)
    (hne : (pw ≠ pl ∧ d5 ≠ pl ∧ d6 ≠ pl ∧ dd ≠ pl ∧ q ≠ pl ∧ pa ≠ pl) ∧ (pw ≠ pa ∧ d5 ≠ pa ∧ d6 ≠ pa ∧ dd ≠ pa ∧ q ≠ pa) ∧ q ≠ pw)
    (m1 : m (Str.ofString "pool") = some (.ref pl)) (m2 : m (Str.ofString "a") = some (.ref pa)) (m3 : m (Str.ofString "powers") = some (.ref pw)) (m4 : m (Str.ofString "product") = some (.ref dd))
    (hE : PassesOwn (model Pg w) (ktrTop dp un gd cn cs L a ccd cl outer) env E)
    (hQ : ∀ h' tk m', Fr h₀ L h' m' → Q (.ret (.bool true)) { s with heap := h', toks := tk }) :
    wpAny (model Pg w) (ktrTop dp un gd cn cs L a ccd cl outer) (execs (.For (.Name "row" r1) (.Call (.Name "range" r2) [.Constant (.int 3) g1 r3] [] r4) [.Assign [.Tuple [.Name "first" a1, .Name "second" a2, .Name "third" a3] f1 a4] (.Tuple [.Call (.Name "_law_draw" a5) [.Name "pool" a6, .Constant (.int 5) f2 a7] [] a8, .Call (.Name "_law_draw" a9) [.Name "pool" a10, .Constant (.int 5) f3 a11] [] a12, .Call (.Name "_law_draw" a13) [.Name "pool" a14, .Constant (.int 5) f4 a15] [] a16] f5 a17) a18,
      .Expr (.Call (.Attribute (.Name "a" b1) "append" b2) [.List [.BinOp (.Name "first" b3) .Sub (.Constant (.int 2) f6 b4) b5, .BinOp (.Name "second" b6) .Sub (.Constant (.int 2) f7 b7) b8, .BinOp (.Name "third" b9) .Sub (.Constant (.int 2) f8 b10) b11] b12] [] b13) b14] [] r5 :: [.For (.Name "row" s25) (.Call (.Name "range" s26) [.Constant (.int 3) e3 s27] [] s28) [.Expr (.Call (.Attribute (.Name "powers" s1) "append" s2) [.Call (.Name "_law_draw" s3) [.Name "pool" s4, .Constant (.int 3) e1 s5] [] s6] [] s7) s8,
      .Assign [.Name "product" s9] (.Call (.Name "mvmul" s10) [.Name "product" s11, .Call (.Name "mvpower" s12) [.Call (.Name "_law_line" s13) [.Subscript (.Name "a" s14) (.Name "row" s15) s16] [] s17, .Subscript (.Name "powers" s18) (.Name "row" s19) s20, .Constant (.int 3) e2 s21] [] s22] [] s23) s24] [] s29,
      .Assign [.Name "due" q1] (.Call (.Name "_law_table" q2) [.Name "a" q3, .Name "powers" q4] [] q5) q6,
      .If (.BoolOp .And [.Compare (.Call (.Name "min" q7) [.Name "powers" q8] [] q9) [.Gt] [.Constant (.int 0) d'1 q10] q11,
        .Compare (.Subscript (.Name "due" q12) (.Tuple [.Constant (.int 1) d'2 q13, .Constant (.int 1) d'3 q14, .Constant (.int 1) d'4 q15] d'5 q16) q17) [.NotEq] [.Call (.Name "_law_permanent" q18) [.Name "a" q19] [] q20] q21] q22)
        [.Return (some (.Constant (.bool false) d'6 q23)) q24] [] q25,
      .Return (some (.Compare (.Call (.Attribute (.Name "product" p1) "get" p2) [.Call (.Name "tuple" p3) [.Name "powers" p4] [] p5, .Tuple [.Constant (.int 0) c1 p6, .Constant (.int 1) c2 p7] c3 p8] [] p9) [.Eq]
      [.Tuple [.Subscript (.Name "due" p10) (.Call (.Name "tuple" p11) [.Name "powers" p12] [] p13) p14, .Constant (.int 1) c4 p15] c5 p16] p17)) p18]) env) Q E s := by
  obtain ⟨⟨w1, w2, w3, w4, w5, w6⟩, ⟨x1, x2, x3, x4, x5⟩, x6⟩ := hne
  refine wpAny_execs_cons (rows_loop (S := [(pw, lstO [] 0), (dd, o), (d5, tupO [.int 1 y1, .int 1 y2]), (d6, tupO [.int 0 y3, .int 0 y4, .int 0 y5]), (q, lstO ys kq)]) (q := q) (kq := kq) B F X N T hk hint hh (by omega) (by omega) e kf ks kt n1 n5 z1 hw hmr (by simp) ?_ w6 hI hln m1 m2 ?_ hE fun h1 tk1 m1' led1 F1 N1 hj => ?_)
  · intro p hp
    simp only [List.mem_cons, List.not_mem_nil, or_false] at hp
    rcases hp with rfl | rfl | rfl | rfl | rfl
    · exact ⟨w1, x1⟩
    · exact ⟨w4, x4⟩
    · exact ⟨w2, x2⟩
    · exact ⟨w3, x3⟩
    · exact ⟨w5, x5⟩
  · refine ⟨?_, ⟨tp, kp, i6⟩, ⟨fun _ => 0, fun _ _ => 0, i1, fun _ _ => ⟨show (-2 : Int) ≤ 0 by decide, show (0 : Int) ≤ 2 by decide⟩, fun j hj => absurd hj (Nat.not_lt_zero _)⟩, fun _ _ _ _ _ => rfl⟩
    intro p hp
    simp only [List.mem_cons, List.not_mem_nil, or_false] at hp
    rcases hp with rfl | rfl | rfl | rfl | rfl
    · exact i2
    · exact i5
    · exact i3
    · exact i4
    · exact i7
  · obtain ⟨tp', kp', hpool⟩ := hj.pool
    obtain ⟨ρ, M, hpa, hbd, hrow⟩ := hj.rows
    have st := hj.st
    have nm := hj.nm
    clear hj
    show wpAny _ _ (execs _ _) _ _ _
    have hpa3 : (pa, lstO [.ref (ρ 0), .ref (ρ 1), .ref (ρ 2)] 3) ∈ led1 := hpa
    obtain ⟨⟨t0, k0, hr0⟩, u0, u0', v0⟩ := hrow 0 (by decide)
    obtain ⟨⟨t1, k1, hr1⟩, u1, u1', v1⟩ := hrow 1 (by decide)
    obtain ⟨⟨t2, k2, hr2⟩, u2, u2', v2⟩ := hrow 2 (by decide)
    have bM : BdM M := ⟨hbd⟩
    have hS : ∀ j, j < 3 → ∃ (t : Nat → Tok) (k : Nat), (ρ j, lstO [.int (M j 0) (t 0), .int (M j 1) (t 1), .int (M j 2) (t 2)] k) ∈ [(q, lstO ys kq), (pa, lstO [.ref (ρ 0), .ref (ρ 1), .ref (ρ 2)] 3), (ρ 0, lstO [.int (M 0 0) (t0 0), .int (M 0 1) (t0 1), .int (M 0 2) (t0 2)] k0), (ρ 1, lstO [.int (M 1 0) (t1 0), .int (M 1 1) (t1 1), .int (M 1 2) (t1 2)] k1), (ρ 2, lstO [.int (M 2 0) (t2 0), .int (M 2 1) (t2 1), .int (M 2 2) (t2 2)] k2)] := fun j hj => by
      match j, hj with
      | 0, _ => exact ⟨t0, k0, .tail _ (.tail _ (.head _))⟩
      | 1, _ => exact ⟨t1, k1, .tail _ (.tail _ (.tail _ (.head _)))⟩
      | 2, _ => exact ⟨t2, k2, .tail _ (.tail _ (.tail _ (.tail _ (.head _))))⟩
    have hpaS : (pa, lstO [.ref (ρ 0), .ref (ρ 1), .ref (ρ 2)] 3) ∈ [(q, lstO ys kq), (pa, lstO [.ref (ρ 0), .ref (ρ 1), .ref (ρ 2)] 3), (ρ 0, lstO [.int (M 0 0) (t0 0), .int (M 0 1) (t0 1), .int (M 0 2) (t0 2)] k0), (ρ 1, lstO [.int (M 1 0) (t1 0), .int (M 1 1) (t1 1), .int (M 1 2) (t1 2)] k1), (ρ 2, lstO [.int (M 2 0) (t2 0), .int (M 2 1) (t2 1), .int (M 2 2) (t2 2)] k2)] := .tail _ (.head _)
    have hqS : (q, lstO ys kq) ∈ [(q, lstO ys kq), (pa, lstO [.ref (ρ 0), .ref (ρ 1), .ref (ρ 2)] 3), (ρ 0, lstO [.int (M 0 0) (t0 0), .int (M 0 1) (t0 1), .int (M 0 2) (t0 2)] k0), (ρ 1, lstO [.int (M 1 0) (t1 0), .int (M 1 1) (t1 1), .int (M 1 2) (t1 2)] k1), (ρ 2, lstO [.int (M 2 0) (t2 0), .int (M 2 1) (t2 1), .int (M 2 2) (t2 2)] k2)] := .head _
    have eP : m1' (Str.ofString "pool") = some (.ref pl) := (nm _ (by decide) (by decide) (by decide) (by decide)).trans m1
    have eA : m1' (Str.ofString "a") = some (.ref pa) := (nm _ (by decide) (by decide) (by decide) (by decide)).trans m2
    have eW : m1' (Str.ofString "powers") = some (.ref pw) := (nm _ (by decide) (by decide) (by decide) (by decide)).trans m3
    have eD : m1' (Str.ofString "product") = some (.ref dd) := (nm _ (by decide) (by decide) (by decide) (by decide)).trans m4
    have hall : ∀ p ∈ [(q, lstO ys kq), (pa, lstO [.ref (ρ 0), .ref (ρ 1), .ref (ρ 2)] 3), (ρ 0, lstO [.int (M 0 0) (t0 0), .int (M 0 1) (t0 1), .int (M 0 2) (t0 2)] k0), (ρ 1, lstO [.int (M 1 0) (t1 0), .int (M 1 1) (t1 1), .int (M 1 2) (t1 2)] k1), (ρ 2, lstO [.int (M 2 0) (t2 0), .int (M 2 1) (t2 1), .int (M 2 2) (t2 2)] k2)], p ∈ led1 ∧ p.1 ≠ pl ∧ p.1 ≠ pw := 
      List.forall_mem_cons.mpr ⟨⟨st _ (by simp), w5, x6⟩, List.forall_mem_cons.mpr ⟨⟨hpa3, w6, x1.symm⟩, List.forall_mem_cons.mpr ⟨⟨hr0, u0, (v0 (pw, lstO [] 0) (.head _)).symm⟩, List.forall_mem_cons.mpr ⟨⟨hr1, u1, (v1 (pw, lstO [] 0) (.head _)).symm⟩, List.forall_mem_cons.mpr ⟨⟨hr2, u2, (v2 (pw, lstO [] 0) (.head _)).symm⟩, List.forall_mem_nil _⟩⟩⟩⟩⟩
    have j2 : (pw, lstO [] 0) ∈ led1 := st _ (.head _)
    have j5 : (dd, o) ∈ led1 := st _ (.tail _ (.head _))
    have j3 : (d5, tupO [.int 1 y1, .int 1 y2]) ∈ led1 := st _ (.tail _ (.tail _ (.head _)))
    have j4 : (d6, tupO [.int 0 y3, .int 0 y4, .int 0 y5]) ∈ led1 := st _ (.tail _ (.tail _ (.tail _ (.head _))))
    clear st nm hrow hpa hr0 hr1 hr2 i1 i2 i3 i4 i5 i6 i7 N F v0 v1 v2
    generalize [(q, lstO ys kq), (pa, lstO [.ref (ρ 0), .ref (ρ 1), .ref (ρ 2)] 3), (ρ 0, lstO [.int (M 0 0) (t0 0), .int (M 0 1) (t0 1), .int (M 0 2) (t0 2)] k0), (ρ 1, lstO [.int (M 1 0) (t1 0), .int (M 1 1) (t1 1), .int (M 1 2) (t1 2)] k1), (ρ 2, lstO [.int (M 2 0) (t2 0), .int (M 2 1) (t2 1), .int (M 2 2) (t2 2)] k2)] = S at *
    refine wpAny_execs_cons (law_loop (s := { s with heap := h1, toks := tk1 }) (q := q) (kq := kq) (M := M) (ka := 3) (ρ := ρ) B F1 X N1 T hk hint hh hd hu e n1 n2 n3 n4 n5 z1 z2 z3 z4 hma (fun p hp => (hall p hp).2) w1 hqS hI hln hpaS hS bM
      ⟨fun p hp => (hall p hp).1, ⟨tp', kp', hpool⟩, ⟨[], [], .nil, rfl, by simp, j2, dd, o, _, eD, j5, ⟨_, D, .cons ⟨rfl, ⟨y3, y4, y5, j4⟩, d5, rfl, .inl ⟨y1, y2, j3⟩⟩ .nil⟩, ⟨by decide, by decide⟩, hlo, .nil⟩, eP, eA, eW⟩ hE fun h' tk m' led' F' N' hj => ?_)
    show wpAny _ _ (execs _ _) _ _ _
    exact law_tail (s := { s with heap := h', toks := tk }) B F' X N' T hk hh hua (Nat.lt_of_succ_lt hd) (Nat.lt_of_le_of_lt (by omega) hu) e nT nM nD nP z5 z6 hx48 hmc hpaS hS bM hj (fun h' tk m' F' => hQ h' tk m' F')
end

-- part L2
section
theorem offL2 : True := by
  w_top off
  trivial
local macro_rules | `(tactic| walk_at "TupStores") => `(tactic| refine Stop.out ?_)
local macro_rules | `(tactic| walk_at "eval Dict") => `(tactic| refine Stop.out ?_)
local macro_rules | `(tactic| walk_at "newTuple") => `(tactic| refine Stop.out ?_)
local macro_rules | `(tactic| walk_at "execs cons") => `(tactic| (k_here; k_dflt (
  (with_reducible show wpAny _ _ (execs (Stmt.For _ _ [Stmt.Assign _ _ _, Stmt.Expr _ _] _ _ :: _) _) _ _ _)
  refine Stop.out ?_)))
set_option maxHeartbeats 8000000 in
theorem look1 : PySem.Challenge.rw_tk0013_01.Holds :=
  Mine.hd (by
    k_go0
    all_goals try k_fold
    k_steps
    refine Stop.mk ?_
    k_here
    (refine' Dict_any_made ?k1 ?k2 ?k3 ?k4 ?k5 ?k6 ?k7 ?_; (case k1 => k_asm); (case k2 => k_asm); (case k3 => exact big_of (by k_asm) (by k_is)); (case k4 => exact rfl); (case k5 => exact rfl); (case k6 => exact List.cons_ne_nil _ _); (case k7 => decide); intro D' o' h' F' N' lo' lt' di'; k_lt lt')
    k_steps
    iterate 2 (
      refine Stop.mk ?_
      k_here
      (refine' newTuple_fresh ?F ?N ?z ?_; (case F => k_asm); (case N => k_asm); (case z => exact Nat.le_of_ble_eq_true rfl); intro D' h' F' N' lt'; k_lt lt')
      k_steps)
    refine Stop.mk ?_
    k_here
    (rename Fr _ _ _ _ => fF'); (rename News _ _ _ _ => nN')
    (refine' tupStores1 fF' nN' ?U ?D ?hk ?hu ?_; (case U => k_updF); (case D => k_asm); (case hk => exact keyAt_of (nN' (_, _) (by (repeat (first | assumption | exact List.mem_cons_self | refine List.mem_cons_of_mem _ ?_)))).1); (case hu => ktr_units); intro h' o' tk' F' N' D'; (try dsimp only at N'))
    k_steps
    refine Stop.mk ?_
    k_here
    (refine' newTuple_fresh ?F ?N ?z ?_; (case F => k_asm); (case N => k_asm); (case z => exact Nat.le_of_ble_eq_true rfl); intro D' h' F' N' lt'; k_lt lt')
    k_steps
    refine Stop.mk ?_
    rename News _ _ _ _ => nN'
    rename DObj _ _ _ => dD'
    rename IntsAre _ (List.map _ _) => iI'
    refine' law_all ?B ?F ?X ?T ?hk ?hint nN' dD' ?i1 ?i2 ?i3 ?i4 ?i5 ?i6 ?i7 ?hh ?hd ?hu ?hua ?eLw ?kf ?ks ?kt ?n1 ?n2 ?n3 ?n4 ?n5 ?nT ?nM ?nD ?nP ?z1 ?z2 ?z3 ?z4 ?z5 ?z6 ?hw ?hx48 ?hmr ?hma ?hmc iI' ?hln ?hlo ?hne ?m1 ?m2 ?m3 ?m4 ?hE ?hQ
    (case F => k_asm)
    (case m1 => with_unfolding_all rfl)
    (case m2 => with_unfolding_all rfl)
    (case m3 => with_unfolding_all rfl)
    (case m4 => with_unfolding_all rfl)
    (case B => k_asm)
    (case X => k_asm)
    (case T => k_asm)
    (case hk => rfl)
    (case hint => rfl)
    (case i5 => (repeat (first | exact List.mem_cons_self | refine List.mem_cons_of_mem _ ?_)))
    (case i6 => (repeat (first | exact List.mem_cons_self | refine List.mem_cons_of_mem _ ?_)))
    (case i3 => (repeat (first | exact List.mem_cons_self | refine List.mem_cons_of_mem _ ?_)))
    (case i4 => (repeat (first | exact List.mem_cons_self | refine List.mem_cons_of_mem _ ?_)))
    (case i1 => (repeat (first | exact List.mem_cons_self | refine List.mem_cons_of_mem _ ?_)))
    (case i2 => (repeat (first | exact List.mem_cons_self | refine List.mem_cons_of_mem _ ?_)))
    (case i7 => (repeat (first | exact List.mem_cons_self | refine List.mem_cons_of_mem _ ?_)))
    (case hh => rfl)
    (case hd => ktr_room)
    (case hu => ktr_units)
    (case hua => ktr_units)
    (case eLw => exact ⟨rfl, rfl, rfl, rfl, rfl, rfl, rfl, rfl, rfl⟩)
    (case kf => rfl)
    (case ks => rfl)
    (case kt => rfl)
    (case n1 => (intro pos9 s9 m9 Q9 E9 F9 h9; walk1; exact h9))
    (case n2 => (intro pos9 s9 m9 Q9 E9 F9 h9; walk1; exact h9))
    (case n3 => (intro pos9 s9 m9 Q9 E9 F9 h9; walk1; exact h9))
    (case n4 => (intro pos9 s9 m9 Q9 E9 F9 h9; walk1; exact h9))
    (case n5 => (intro pos9 s9 m9 Q9 E9 F9 h9; walk1; exact h9))
    (case nT => (intro pos9 s9 m9 Q9 E9 F9 h9; walk1; exact h9))
    (case nM => (intro pos9 s9 m9 Q9 E9 F9 h9; walk1; exact h9))
    (case nD => (intro pos9 s9 m9 Q9 E9 F9 h9; walk1; exact h9))
    (case nP => (intro pos9 s9 m9 Q9 E9 F9 h9; walk1; exact h9))
    (case z1 => with_unfolding_all rfl)
    (case z2 => with_unfolding_all rfl)
    (case z3 => with_unfolding_all rfl)
    (case z4 => with_unfolding_all rfl)
    (case z5 => with_unfolding_all rfl)
    (case z6 => with_unfolding_all rfl)
    (case hw => rfl)
    (case hx48 => exact ⟨_, _, _, by k_is⟩)
    (case hmr => rfl)
    (case hma => rfl)
    (case hmc => rfl)
    (case hln => (simp only [List.length_map, List.length_take]; omega))
    (case hlo => k_asm)
    (case hne => exact ⟨⟨by k_ne, by k_ne, by k_ne, by k_ne, by k_ne, by k_ne⟩, ⟨by k_ne, by k_ne, by k_ne, by k_ne, by k_ne⟩, by k_ne⟩)
    (case hE => with_unfolding_all passes_own)
    (case hQ => (intro h9 tk9 m9 F9; k_steps))
    all_goals (try k_data)
    done)

end
end Mine
theorem PySem.Challenge.cw_tk0013_01_holds : PySem.Challenge.rw_tk0013_01.Holds :=
  Mine.look1
