import PyProof.Rows.All
import Wide.All
import OpenK.AllK
import Wide.FinOn
import Lean
import PySem.Challenge.RW_nt0372_01
set_option Elab.async false
set_option maxRecDepth 100000
set_option rowWalk.seconds 0
namespace Mine
open PySem PySem.W PyProof.Rows
def vw : Program := { PySem.Challenge.rw_nt0372_01.row.prog with main := { PySem.Challenge.rw_nt0372_01.row.prog.main with body := ((((((((PySem.Challenge.rw_nt0372_01.row.prog.main.body.eraseIdx 74).eraseIdx 71).eraseIdx 66).eraseIdx 62).eraseIdx 56).eraseIdx 43).eraseIdx 26).eraseIdx 0) } }
def vwLoose : List Str := [Str.ofString "SIGN_BIT", Str.ofString "FRACTION_MASK", Str.ofString "HIDDEN_BIT_dbits", Str.ofString "NEG_ZERO", Str.ofString "ONE", Str.ofString "INF", Str.ofString "NAN", Str.ofString "HIDDEN_BIT_numshow", Str.ofString "NULL"]
def vwLv : List (Str × WData) := [(Str.ofString "SIGN_BIT", WData.int 9223372036854775808), (Str.ofString "FRACTION_MASK", WData.int 4503599627370495), (Str.ofString "HIDDEN_BIT_dbits", WData.int 4503599627370496), (Str.ofString "NEG_ZERO", WData.int 9223372036854775808), (Str.ofString "ONE", WData.int 4607182418800017408), (Str.ofString "INF", WData.int 9218868437227405312), (Str.ofString "NAN", WData.int 9221120237041090560), (Str.ofString "HIDDEN_BIT_numshow", WData.int 4503599627370496)]
def runT (tb : String → Option Builtin) (p : Program) (w : World) (n₀ : Nat) (ann : Option Value) : Nat → SharedT → Thread → Option SharedT
  | 0, _, _ => none
  | n + 1, s, t => match through t with
    | true => some s
    | false => match stepOk n₀ ann t with
      | false => none
      | true => match stepT (denote tb) p w s t with
        | some (s', t') => runT tb p w n₀ ann n s' t'
        | none => none
theorem runT_of {tb : String → Option Builtin} {p : Program} {w : World} {n₀ : Nat} {ann : Option Value} : ∀ {n : Nat} {s s' : SharedT} {t : Thread}, runT tb p w n₀ ann n s t = some s' → topRun tb p w n₀ ann n s.abs t = some s'.abs
  | 0, _, _, _, h => by cases h
  | n + 1, s, s', t, h => by
    unfold runT at h
    unfold topRun
    cases he : through t with
    | true => rw [he] at h; cases h; rfl
    | false =>
      rw [he] at h
      cases hk : stepOk n₀ ann t with
      | false => rw [hk] at h; cases h
      | true =>
        rw [hk] at h
        cases hs : stepT (denote tb) p w s t with
        | none => rw [hs] at h; cases h
        | some r =>
          obtain ⟨s₂, t₂⟩ := r
          rw [hs] at h
          rw [stepT_spec hs]
          exact runT_of h
/-- the same run by the library's quick twins -/
noncomputable def runQ (p : Program) (w : World) (n₀ : Nat) (ann : Option Value) : Nat → SharedT → Thread → Option SharedT
  | 0, _, _ => none
  | n + 1, s, t => match through t with
    | true => some s
    | false => match PySem.W.Fast.tw6613529449190102663 n₀ ann t with
      | false => none
      | true => match PySem.W.Fast.tw10156331382660048174 (PySem.W.Fast.tw11892475500146522536 PySem.W.Fast.tw14364793385576792824) p w s t with
        | some (s', t') => runQ p w n₀ ann n s' t'
        | none => none
theorem runQ_eq {p : Program} {w : World} {n₀ : Nat} {ann : Option Value} : ∀ {n : Nat} {s : SharedT} {t : Thread}, runT treeTable p w n₀ ann n s t = runQ p w n₀ ann n s t
  | 0, _, _ => rfl
  | n + 1, s, t => by
    unfold runT runQ
    rw [← PySem.W.Fast.te6613529449190102663, ← PySem.W.Fast.te10156331382660048174, ← PySem.W.Fast.te11892475500146522536, ← PySem.W.Fast.te14364793385576792824]
    simp only [runQ_eq (n := n)]
/-- the booted heap as a tree -/
noncomputable def bootT (P : Params) : BT := ((boot_heap P).objs.toList.foldl (fun (x : BT × Nat) o => (x.1.ins x.2 o, x.2 + 1)) (BT.nil, 0)).1
noncomputable abbrev sT (w : World) (os : OsState) : SharedT := ⟨bootT w.params, (boot_heap w.params).objs.size, (boot_heap w.params).life, Array.mk [], boot_drawn, boot_toks, os⟩
/-- the run of the whole top, from the booted heap -/
noncomputable abbrev runAll (p : Program) (N : Nat) (w : World) (os : OsState) : Option SharedT := runQ p w (boot_heap w.params).objs.size ((boot_heap w.params).nsMap mainGlobals "__annotations__") N (sT w os) (topStub p)
theorem left_tree {p q : Program} {loose : List Str} {Xt : Shared → Bool} {α : Type} {Yf : Shared → α} {Ya : World → α} {N : Nat} (e : opening p = plainProg p.main.scope.names) (hN : Nat.ble 600 N = true) (f : ∀ s, fenceModules? p s = some s)
    (ht : ∀ P, absHeap (bootT P) (boot_heap P).objs.size (boot_heap P).life = boot_heap P) (hi : ∀ P, (boot_heap P).isNs mainGlobals = true)
    (h0 : ∀ (w : World) (os : OsState), (runAll p N w os).map (fun s => (staticsOk (importedModules p.main.body) (boot_heap w.params) s.abs.heap && namesBound p s.abs.heap && gensDone s.abs && laidKept (boot_heap w.params) s.abs.heap, seen ((recsOf q).map (·.name)) (ownsOf q) [] { s.abs with gens := #[] }, s.abs.heap.bltView)) = some (true, expectedOf q, bltViewBooted))
    (h4 : ∀ (w : World) (os : OsState), (runAll p N w os).map (fun s => (s.abs.heap.keysOk (looseW q loose) ((recsOf q).map (·.name)) ((litsOf q).map (·.1)) ((clssOf q (looseW q loose)).map (·.name)) && s.abs.heap.accountedOkI (importedModules p.main.body) && s.abs.heap.isNs mainGlobals && s.abs.heap.isNs builtinsNs && tablesOk q s.abs.heap && Xt s.abs && s.abs.gens.size == 0, tabsOk q s.abs, pinSeenD q (drecsOf q) s.abs, plainSeenE q (looseW q loose) s.abs, plainSeenD q loose s.abs, wideSeen q s.abs, clsSeenW q loose s.abs)) = some (true, true, pinGoodD (drecsOf q), plainGoodE q (looseW q loose), plainGoodD q loose, wideGood q, clsGoodW q loose))
    (h5 : ∀ (w : World) (os : OsState), (runAll p N w os).map (fun s => Yf s.abs) = some (Ya w)) : LeftO p q loose Xt Yf Ya N := fun w => by
  obtain ⟨s, hs, hv⟩ := Option.map_eq_some_iff.mp (boot_open e hN f w)
  obtain ⟨hp, g, d, t, os⟩ := s
  simp only [Prod.mk.injEq] at hv
  obtain ⟨rfl, rfl, rfl, rfl⟩ := hv
  obtain ⟨s', hr, he⟩ := Option.map_eq_some_iff.mp (h0 w os)
  have k4 := h4 w os
  have k5 := h5 w os
  rw [hr] at k4 k5
  have k4' := Option.some.inj k4
  have k5' := Option.some.inj k5
  have e1 := congrArg (fun x => x.1) he
  have e2 : seen ((recsOf q).map (·.name)) (ownsOf q) [] { s'.abs with gens := #[] } = expectedOf q := congrArg (fun x => x.2.1) he
  have e3 : s'.abs.heap.bltView = bltViewBooted := congrArg (fun x => x.2.2) he
  have h2 : openSeen q loose (importedModules p.main.body) Xt true s'.abs = openGood q loose := Prod.ext e2 (Prod.ext e3 k4')
  have h1 : (staticsOk (importedModules p.main.body) (boot_heap w.params) s'.abs.heap && namesBound p s'.abs.heap && gensDone s'.abs && laidKept (boot_heap w.params) s'.abs.heap) = true := e1
  have hr' := runT_of (runQ_eq.trans hr)
  have es : (sT w os).abs = ⟨boot_heap w.params, Array.mk [], boot_drawn, boot_toks, os⟩ := by
    show (⟨absHeap _ _ _, _, _, _, _⟩ : Shared) = _
    rw [ht]
  rw [es] at hr'
  unfold openEnds
  rw [hs]
  show (topFrom treeTable p w N ⟨boot_heap w.params, Array.mk [], boot_drawn, boot_toks, os⟩).map _ = _
  unfold topFrom
  rw [show ((boot_heap w.params).isNs mainGlobals && (Array.mk ([] : List GenState)).size == 0) = true by rw [hi]; rfl]
  dsimp only
  rw [hr']
  dsimp only [Option.bind]
  rw [h1]
  show some (openSeen q loose (importedModules p.main.body) Xt true s'.abs, Yf s'.abs) = _
  rw [h2]
  exact congrArg (fun y => some (openGood q loose, y)) k5'
abbrev vwX : Shared → Bool := fun s => xlAt vw vwLv s && recOk (RowW.records (OpenRow.toRowW PySem.Challenge.rw_nt0372_01.row)) s
theorem map_fst {α β γ : Type} {o : Option α} {f : α → β} {g : α → γ} {b : β} {c : γ} (h : o.map (fun s => (f s, g s)) = some (b, c)) : o.map f = some b := by
  cases o with
  | none => cases h
  | some x => cases h; rfl
theorem map_snd {α β γ : Type} {o : Option α} {f : α → β} {g : α → γ} {b : β} {c : γ} (h : o.map (fun s => (f s, g s)) = some (b, c)) : o.map g = some c := by
  cases o with
  | none => cases h
  | some x => cases h; rfl
theorem head_ab : ∀ (w : World) (os : OsState), (runAll PySem.Challenge.rw_nt0372_01.row.prog 4510 w os).map (fun s => ((staticsOk (importedModules PySem.Challenge.rw_nt0372_01.row.prog.main.body) (boot_heap w.params) s.abs.heap && namesBound PySem.Challenge.rw_nt0372_01.row.prog s.abs.heap && gensDone s.abs && laidKept (boot_heap w.params) s.abs.heap, seen ((recsOf vw).map (·.name)) (ownsOf vw) [] { s.abs with gens := #[] }, s.abs.heap.bltView), (s.abs.heap.keysOk (looseW vw vwLoose) ((recsOf vw).map (·.name)) ((litsOf vw).map (·.1)) ((clssOf vw (looseW vw vwLoose)).map (·.name)) && s.abs.heap.accountedOkI (importedModules PySem.Challenge.rw_nt0372_01.row.prog.main.body) && s.abs.heap.isNs mainGlobals && s.abs.heap.isNs builtinsNs && tablesOk vw s.abs.heap && vwX s.abs && s.abs.gens.size == 0, tabsOk vw s.abs, pinSeenD vw (drecsOf vw) s.abs, plainSeenE vw (looseW vw vwLoose) s.abs, plainSeenD vw vwLoose s.abs, wideSeen vw s.abs, clsSeenW vw vwLoose s.abs))) = some ((true, expectedOf vw, bltViewBooted), (true, true, pinGoodD (drecsOf vw), plainGoodE vw (looseW vw vwLoose), plainGoodD vw vwLoose, wideGood vw, clsGoodW vw vwLoose)) := by
  intro w os
  kernel_rfl
theorem head_a : ∀ (w : World) (os : OsState), (runAll PySem.Challenge.rw_nt0372_01.row.prog 4510 w os).map (fun s => (staticsOk (importedModules PySem.Challenge.rw_nt0372_01.row.prog.main.body) (boot_heap w.params) s.abs.heap && namesBound PySem.Challenge.rw_nt0372_01.row.prog s.abs.heap && gensDone s.abs && laidKept (boot_heap w.params) s.abs.heap, seen ((recsOf vw).map (·.name)) (ownsOf vw) [] { s.abs with gens := #[] }, s.abs.heap.bltView)) = some (true, expectedOf vw, bltViewBooted) := by
  intro w os
  exact map_fst (head_ab w os)
theorem head_b : ∀ (w : World) (os : OsState), (runAll PySem.Challenge.rw_nt0372_01.row.prog 4510 w os).map (fun s => (s.abs.heap.keysOk (looseW vw vwLoose) ((recsOf vw).map (·.name)) ((litsOf vw).map (·.1)) ((clssOf vw (looseW vw vwLoose)).map (·.name)) && s.abs.heap.accountedOkI (importedModules PySem.Challenge.rw_nt0372_01.row.prog.main.body) && s.abs.heap.isNs mainGlobals && s.abs.heap.isNs builtinsNs && tablesOk vw s.abs.heap && vwX s.abs && s.abs.gens.size == 0, tabsOk vw s.abs, pinSeenD vw (drecsOf vw) s.abs, plainSeenE vw (looseW vw vwLoose) s.abs, plainSeenD vw vwLoose s.abs, wideSeen vw s.abs, clsSeenW vw vwLoose s.abs)) = some (true, true, pinGoodD (drecsOf vw), plainGoodE vw (looseW vw vwLoose), plainGoodD vw vwLoose, wideGood vw, clsGoodW vw vwLoose) := by
  intro w os
  exact map_snd (head_ab w os)
theorem said_q : PySem.W.Fast.tw9446332074065402090 PySem.Challenge.rw_nt0372_01 = true := by kernel_rfl
theorem said_law : OpenLaw.wellSaid PySem.Challenge.rw_nt0372_01 = true := (congrFun PySem.W.Fast.te9446332074065402090 _).trans said_q
local macro_rules | `(tactic| o_law) => `(tactic| refine holds_law said_law fun said => ?_)
local macro_rules | `(tactic| o_head $H) => `(tactic| (
  refine holds_open (q := vw) (loose := vwLoose) (Xt := vwX) (XP := XL vw vwLv) (Yf := Hook.obs $H) (Ya := Hook.val $H) (YP := Hook.says $H) (N := 4510) ?hl (Hook.of $H) (Hook.keeps $H) (fun s e => xl_of s (Bool.and_eq_true_iff.mp e).1) XL.keeps (by rfl) (by rfl) (by rfl) (fun s e => recFacts_of (Bool.and_eq_true_iff.mp e).2) (by first | rfl | fail "writes") (by first | assumption | decide +kernel) (by decide +kernel) ⟨rfl, rfl, rfl, rfl, rfl, by decide +kernel⟩ ?hw ?hc
  case hl => (refine left_tree (by kernel_rfl) (by decide +kernel) (fun s => by kernel_rfl) (fun P => by kernel_rfl) (fun P => by kernel_rfl) head_a head_b ?_; intro w os; kernel_rfl)))
set_option maxRecDepth 100000 in
set_option maxHeartbeats 0 in
open_top hd for PySem.Challenge.rw_nt0372_01
open PySem PySem.W PySem.Spec PySem.Calls PyProof.Rows

abbrev Led := List (Addr × Obj)
abbrev Post := Value → Led → Prop
abbrev tupO (vs : List Value) (n : Nat) : Obj := { cls := .type "tuple", data := .seq vs.toArray n }
/-- what a call's end hands on -/
abbrev CtRet (h₀ : Heap) (L : Addr) (m : Str → Option Value) (s : Shared) (P : Post) (Q : Value → Shared → Prop) : Prop :=
  ∀ r tl h' tk', Fr h₀ L h' m → s.heap.StaysIn h' → (∀ q ∈ tl, h'.get? q.1 = some q.2 ∧ s.heap.get? q.1 = none) → P r tl → Q r { s with heap := h', toks := tk' }
/-- a call of the def at f with these arguments ends, and what it gives back is as P says -/
def Ct (w : World) (sz : Nat) (f : Addr) (vs : List Value) (Pre : Heap → Prop) (P : Post) : Prop :=
  ∀ (p : Program) (loose : List Str) (mean : ExcName → Option Value) (mg mb : Str → Option Value)
    (dp un : Nat) (gd : Option (List Code)) (cn : Str) (cs : Scope) (a : Addr) (ccd : Value) (cl : List (Str × Addr)) (outer : List Env) (A₀ : Around) (base h₀ : Heap) (L : Addr) (m : Str → Option Value) (s : Shared) (Q E : Value → Shared → Prop),
    Below A₀ base outer h₀ → Fr h₀ L s.heap m → (hd.heap_1 w.params).In h₀ → Top p loose mean mg mb h₀ → cs.kind = .function → Pre s.heap →
    dp + sz < recursionLimit → un + 8 * sz < cLine → CtRet h₀ L m s P Q →
    wpAny (model PySem.Challenge.rw_nt0372_01.row.prog w) (ktrTop dp un gd cn cs L a ccd cl outer) (call (.ref f) vs) Q E s

def RetV (R : Tok → Value) : Post := fun r tl => tl = [] ∧ ∃ t, r = R t
abbrev RetI (x : Int) : Post := RetV (fun t => .int x t)
abbrev RetB (x : Bool) : Post := RetV (fun _ => .bool x)
abbrev RetS (x : Str) : Post := RetV (fun t => .str x t)
def RetT (I : List Value → Prop) : Post := fun r tl => ∃ D vs n, r = .ref D ∧ tl = [(D, tupO vs n)] ∧ I vs

section
variable {h₀ h' g : Heap} {L L' : Addr} {m m' : Str → Option Value} {s : Shared} {Q : Value → Shared → Prop} {tk' : Nat} {P : Post}
theorem ret_val {R : Tok → Value} {v : Value} {t : Tok} (hret : CtRet h₀ L m s (RetV R) Q) (e : v = R t) (F : Fr h₀ L h' m) (hg : g = s.heap) (F' : Fr g L' h' m') : Q v { s with heap := h', toks := tk' } :=
  hret _ [] _ _ F (hg ▸ F'.keep) (fun _ h => nomatch h) ⟨rfl, t, e⟩
theorem ret_int {x y : Int} {t : Tok} (hret : CtRet h₀ L m s (RetI x) Q) (e : y = x) (F : Fr h₀ L h' m) (hg : g = s.heap) (F' : Fr g L' h' m') : Q (.int y t) { s with heap := h', toks := tk' } := by
  subst e; exact ret_val (t := t) hret rfl F hg F'
theorem ret_bool {x y : Bool} (hret : CtRet h₀ L m s (RetB x) Q) (e : y = x) (F : Fr h₀ L h' m) (hg : g = s.heap) (F' : Fr g L' h' m') : Q (.bool y) { s with heap := h', toks := tk' } := by
  subst e; exact ret_val (t := 0) hret rfl F hg F'
theorem ret_str {x y : Str} {t : Tok} (hret : CtRet h₀ L m s (RetS x) Q) (e : y = x) (F : Fr h₀ L h' m) (hg : g = s.heap) (F' : Fr g L' h' m') : Q (.str y t) { s with heap := h', toks := tk' } := by
  subst e; exact ret_val (t := t) hret rfl F hg F'
theorem ret_tup {I : List Value → Prop} {D : Addr} {vs : List Value} {n : Nat} {news' : Led} (hret : CtRet h₀ L m s (RetT I) Q) (F : Fr h₀ L h' m) (hg : g = s.heap) (F' : Fr g L' h' m')
    (N : News g L' h' news') (hm : (D, tupO vs n) ∈ news') (hI : I vs) : Q (.ref D) { s with heap := h', toks := tk' } :=
  hret _ [(D, tupO vs n)] _ _ F (hg ▸ F'.keep) (fun q hq => by rw [List.mem_singleton.mp hq]; exact ⟨(N _ hm).1, hg ▸ (N _ hm).2.2⟩) ⟨D, vs, n, rfl, rfl, hI⟩
end

section
variable {w : World} {sz : Nat} {f : Addr} {vs : List Value} {Pre : Heap → Prop} {P : Post} {p : Program} {loose : List Str} {mean : ExcName → Option Value} {mg mb : Str → Option Value}
  {dp un : Nat} {gd : Option (List Code)} {cn : Str} {cs : Scope} {a : Addr} {ccd : Value} {cl : List (Str × Addr)} {outer : List Env} {A₀ : Around} {base h₀ : Heap} {L : Addr} {m : Str → Option Value} {s : Shared} {Q E : Value → Shared → Prop} {news : Led}
theorem news_stays {h h' : Heap} (N : News h₀ L h news) (k : h.StaysIn h') : News h₀ L h' news := fun p hp => ⟨k _ _ (N p hp).1, (N p hp).2⟩
theorem use_val {R : Tok → Value} (C : Ct w sz f vs Pre (RetV R)) (B : Below A₀ base outer h₀) (F : Fr h₀ L s.heap m) (X : (hd.heap_1 w.params).In h₀) (N : News h₀ L s.heap news) (T : Top p loose mean mg mb h₀) (hk : cs.kind = .function) (hp : Pre s.heap)
    (hd : dp + sz < recursionLimit) (hu : un + 8 * sz < cLine)
    (ret : ∀ t h' tk', Fr h₀ L h' m → News h₀ L h' news → Q (R t) { s with heap := h', toks := tk' }) :
    wpAny (model PySem.Challenge.rw_nt0372_01.row.prog w) (ktrTop dp un gd cn cs L a ccd cl outer) (call (.ref f) vs) Q E s :=
  C _ _ _ _ _ _ _ _ _ _ _ _ _ _ _ _ _ _ _ _ _ _ B F X T hk hp hd hu fun r tl h' tk' F' k _ hP => by
    obtain ⟨_, t, rfl⟩ := hP
    exact ret t h' tk' F' (news_stays N k)
theorem use_int {x : Int} (C : Ct w sz f vs Pre (RetI x)) (B : Below A₀ base outer h₀) (F : Fr h₀ L s.heap m) (X : (hd.heap_1 w.params).In h₀) (N : News h₀ L s.heap news) (T : Top p loose mean mg mb h₀) (hk : cs.kind = .function) (hp : Pre s.heap)
    (hd : dp + sz < recursionLimit) (hu : un + 8 * sz < cLine)
    (ret : ∀ t h' tk', Fr h₀ L h' m → News h₀ L h' news → Q (.int x t) { s with heap := h', toks := tk' }) :
    wpAny (model PySem.Challenge.rw_nt0372_01.row.prog w) (ktrTop dp un gd cn cs L a ccd cl outer) (call (.ref f) vs) Q E s := use_val C B F X N T hk hp hd hu ret
theorem use_str {x : Str} (C : Ct w sz f vs Pre (RetS x)) (B : Below A₀ base outer h₀) (F : Fr h₀ L s.heap m) (X : (hd.heap_1 w.params).In h₀) (N : News h₀ L s.heap news) (T : Top p loose mean mg mb h₀) (hk : cs.kind = .function) (hp : Pre s.heap)
    (hd : dp + sz < recursionLimit) (hu : un + 8 * sz < cLine)
    (ret : ∀ t h' tk', Fr h₀ L h' m → News h₀ L h' news → Q (.str x t) { s with heap := h', toks := tk' }) :
    wpAny (model PySem.Challenge.rw_nt0372_01.row.prog w) (ktrTop dp un gd cn cs L a ccd cl outer) (call (.ref f) vs) Q E s := use_val C B F X N T hk hp hd hu ret
theorem use_bool {x : Bool} (C : Ct w sz f vs Pre (RetB x)) (B : Below A₀ base outer h₀) (F : Fr h₀ L s.heap m) (X : (hd.heap_1 w.params).In h₀) (N : News h₀ L s.heap news) (T : Top p loose mean mg mb h₀) (hk : cs.kind = .function) (hp : Pre s.heap)
    (hd : dp + sz < recursionLimit) (hu : un + 8 * sz < cLine)
    (ret : ∀ h' tk', Fr h₀ L h' m → News h₀ L h' news → Q (.bool x) { s with heap := h', toks := tk' }) :
    wpAny (model PySem.Challenge.rw_nt0372_01.row.prog w) (ktrTop dp un gd cn cs L a ccd cl outer) (call (.ref f) vs) Q E s := use_val C B F X N T hk hp hd hu fun _ => ret
theorem use_tup {I : List Value → Prop} (C : Ct w sz f vs Pre (RetT I)) (B : Below A₀ base outer h₀) (F : Fr h₀ L s.heap m) (X : (hd.heap_1 w.params).In h₀) (N : News h₀ L s.heap news) (T : Top p loose mean mg mb h₀) (hk : cs.kind = .function) (hp : Pre s.heap)
    (hd : dp + sz < recursionLimit) (hu : un + 8 * sz < cLine)
    (ret : ∀ D us n h' tk', I us → Fr h₀ L h' m → News h₀ L h' ((D, tupO us n) :: news) → (∀ p ∈ news, p.1 ≠ D) → Q (.ref D) { s with heap := h', toks := tk' }) :
    wpAny (model PySem.Challenge.rw_nt0372_01.row.prog w) (ktrTop dp un gd cn cs L a ccd cl outer) (call (.ref f) vs) Q E s :=
  C _ _ _ _ _ _ _ _ _ _ _ _ _ _ _ _ _ _ _ _ _ _ B F X T hk hp hd hu fun r tl h' tk' F' k ht hP => by
    obtain ⟨D, us, n, rfl, rfl, hI⟩ := hP
    have hq := ht _ (List.mem_singleton.mpr rfl)
    refine ret D us n h' tk' hI F' (fun q hm => ?_) fun q hm e => ?_
    · rcases List.mem_cons.mp hm with rfl | hm
      · refine ⟨hq.1, fun e => ?_, ?_⟩
        · obtain ⟨oL, es, ep, hL, _⟩ := F.ns
          have h2 := hq.2
          rw [e, hL] at h2; cases h2
        · cases q : h₀.get? D with
          | none => rfl
          | some o => have h2 := hq.2; rw [F.keep D o q] at h2; cases h2
      · exact news_stays N k q hm
    · have h1 := (N q hm).1
      have h2 := hq.2
      rw [e] at h1
      rw [h1] at h2; cases h2
end

section
variable {prog : Program} {w : World} {A A₀ : Around} {s : Shared} {K : Frag} {L : Addr} {h₀ base : Heap} {m mg mb : Str → Option Value} {p : Program} {loose : List Str} {mean : ExcName → Option Value}
/-- the def is entered; what stood is the callee's ground -/
theorem enter {env : Env} {outer : List Env} {R : Result → Shared → Prop} {name qual : Str} {params : Arguments} {body : List Stmt} {scope : Scope} {dV kV doc pm cdv ct oc : Value} {an od : Option Addr} {osl : Array (Option Value)} {f : Addr} {args : Args} {binds : List (Str × Value)}
    (B : Below A₀ base outer h₀) (F : Fr h₀ L s.heap m) (X₀ : K.In h₀) (T : Top p loose mean mg mb h₀) (hA : A.frames = some (env :: outer)) (hf : env.frame = some L) (hke : env.scope.kind = .function)
    (ho : K.lookup f = some ⟨oc, od, .func (fnOf name qual params body scope dV kV doc pm an cdv ct), osl⟩) (hcd : codeIn K cdv qual = true) (hroom : A.depth < recursionLimit)
    (hbind : BindsTo s (fnOf name qual params body scope dV kV doc pm an cdv ct) args binds) (hloc : ∀ y ∈ binds, scope.names.lookup y.1 = some .local)
    (h : let m' := fun y => binds.reverse.lookup y
      ∀ g L' h₁, g = s.heap → Fr g L' h₁ m' → News g L' h₁ [] → Below A base (env :: outer) g → K.In g → Top p loose mean mg mb g →
      let A' := A.deeper (envOf qual scope L' f cdv)
      wpAny (model prog w) A' (execs body (envOf qual scope L' f cdv))
        (fun fl s' => LeaveK h₀ L m g R (match fl with | .ret v => v | _ => .none) s')
        (fun e s' => wpAny (model prog w) A' (leaving (envOf qual scope L' f cdv) e) (fun _ s'' => R (.error e) s'') (fun e' s'' => R (.error e') s'') s')
        { s with heap := h₁, toks := s.toks + binds.length })
    (hco : scope.isCoroutine = false) (hgen : scope.isGenerator = false) (hk : scope.kind = .function)
    (hcell : ∀ x ∈ scope.names, x.2 ≠ .cell) : codeAny (model prog w) A (.call (.ref f) args) R s := by
  obtain ⟨FG, BG, st, lv⟩ := groundX (R := R) (news := []) B F News.nil hA hf hke
  have Xs := X₀.keeps F.keep
  refine codeAny_call_def (fd := fnOf name qual params body scope dV kV doc pm an cdv ct) (body := body) (binds := binds) hroom (Xs _ _ ho) rfl (T.nolimit.keeps F.keep) (codeRec_of Xs hcd) rfl hbind hcell hloc (fun h₁ hns hk₁ => ?_) hco hgen hk
  exact wpAny_mono (h s.heap s.heap.objs.size h₁ rfl ⟨hns, hk₁, Nat.le_refl _⟩ News.nil BG Xs (T.keeps F.keep)) (fun fl s' hl => lv _ _ hl) fun _ _ y => y
theorem codeA {env : Env} {outer : List Env} {R : Result → Shared → Prop} {name qual : Str} {params : Arguments} {body : List Stmt} {scope : Scope} {dV kV doc pm cdv ct oc : Value} {an od : Option Addr} {osl : Array (Option Value)} {f : Addr} {args : Args} {binds : List (Str × Value)} {news : Led}
    (B : Below A₀ base outer h₀) (F : Fr h₀ L s.heap m) (X₀ : K.In h₀) (N : News h₀ L s.heap news) (T : Top p loose mean mg mb h₀) (hA : A.frames = some (env :: outer)) (hf : env.frame = some L) (hke : env.scope.kind = .function)
    (ho : K.lookup f = some ⟨oc, od, .func (fnOf name qual params body scope dV kV doc pm an cdv ct), osl⟩) (hcd : codeIn K cdv qual = true) (hroom : A.depth < recursionLimit)
    (hbind : BindsTo s (fnOf name qual params body scope dV kV doc pm an cdv ct) args binds) (hloc : ∀ y ∈ binds, scope.names.lookup y.1 = some .local)
    (h : let m' := fun y => binds.reverse.lookup y
      ∀ g L' h₁, Fr h₀ L g m → Fr g L' h₁ m' → News g L' h₁ news → Below A base (env :: outer) g → K.In g → Top p loose mean mg mb g →
      let A' := A.deeper (envOf qual scope L' f cdv)
      wpAny (model prog w) A' (execs body (envOf qual scope L' f cdv))
        (fun fl s' => LeaveK h₀ L m g R (match fl with | .ret v => v | _ => .none) s')
        (fun e s' => wpAny (model prog w) A' (leaving (envOf qual scope L' f cdv) e) (fun _ s'' => R (.error e) s'') (fun e' s'' => R (.error e') s'') s')
        { s with heap := h₁, toks := s.toks + binds.length })
    (hco : scope.isCoroutine = false) (hgen : scope.isGenerator = false) (hk : scope.kind = .function)
    (hcell : ∀ x ∈ scope.names, x.2 ≠ .cell) : codeAny (model prog w) A (.call (.ref f) args) R s :=
  code_def B F X₀ N T hA hf hke ho hcd hroom hbind hloc h hco hgen hk hcell
end
/-- the name stands in the scope so -/
def nameIs (k : NameKind) (cs : Scope) (x : Str) : Bool := decide (cs.kind = .function) && (decide (cs.names.lookup x = some k) && !(x == ("__debug__" : Str)))
theorem nameIs_use {k : NameKind} {cs : Scope} {x : Str} (h : nameIs k cs x = true) : cs.kind = .function ∧ cs.names.lookup x = some k ∧ (x == ("__debug__" : Str)) = false := by
  have h1 := Bool.and_eq_true_iff.mp h
  have h2 := Bool.and_eq_true_iff.mp h1.2
  refine ⟨of_decide_eq_true h1.1, of_decide_eq_true h2.1, ?_⟩
  cases q : (x == ("__debug__" : Str)) with
  | false => rfl
  | true => rw [q] at h2; exact absurd h2.2 (by decide)
section
variable {M : Model} {A : Around} {E : Value → Shared → Prop} {s : Shared} {K : Frag} {h₀ : Heap} {L a : Addr} {m mg mb : Str → Option Value} {cn : Str} {cs : Scope} {ccd : Value} {cl : List (Str × Addr)} {p : Program} {loose : List Str}
  {x : Str} {pos : Pos} {v : Value} {Q : Value → Shared → Prop}
theorem nameL (F : Fr h₀ L s.heap m) (hv : m x = some v) (c : nameIs .local cs x = true) (h : Q v s) : wpAny M A (eval (.Name x pos) (envX cn cs L a ccd cl)) Q E s :=
  nameX_L F hv h (nameIs_use c).1 (nameIs_use c).2.1 (nameIs_use c).2.2
theorem nameK (F : Fr h₀ L s.heap m) (X : K.In h₀) (T : TopRead p loose mg mb h₀) (e : nsIn K mainGlobals x = some (some v)) (c : nameIs .globalImplicit cs x = true) (h : Q v s) : wpAny M A (eval (.Name x pos) (envX cn cs L a ccd cl)) Q E s :=
  nameX_K F X T e h (nameIs_use c).1 (nameIs_use c).2.1 (nameIs_use c).2.2
theorem nameB (F : Fr h₀ L s.heap m) (X : K.In h₀) (T : TopRead p loose mg mb h₀) (e : nsIn K mainGlobals x = some none) (hv : bootBuiltins x = some v) (hn : x ≠ "__name__") (c : nameIs .globalImplicit cs x = true) (h : Q v s) : wpAny M A (eval (.Name x pos) (envX cn cs L a ccd cl)) Q E s :=
  nameX_B F X T e hv hn h (nameIs_use c).1 (nameIs_use c).2.1 (nameIs_use c).2.2
theorem let_Q {α : Type} {t : Sem α} {Q : α → Shared → Prop} (h : let q := Q; wpAny M A t q E s) : wpAny M A t Q E s := h
theorem let_QE {α : Type} {t : Sem α} {Q : α → Shared → Prop} (h : let q := Q; let e := E; wpAny M A t q e s) : wpAny M A t Q E s := h
end
set_option maxHeartbeats 8000000
local macro_rules | `(tactic| walk_at $s:str) => do
  let s := Lean.Syntax.mkStrLit ("W " ++ s.getString)
  `(tactic| k_extra $s)
local macro_rules | `(tactic| k_qdec) => `(tactic| decide +kernel)

theorem wd_10_0 : True := by
  k_with "W M fold" => ((with_reducible refine let_QE ?_); intro qk9 ek9)
  k_with "W M foldQ" => ((with_reducible refine let_Q ?_); intro qk9)
  k_with "W M enter" => (w_top off; unfold Ct; (try k_fill); intro _ _ _ _ _ _ _ _ _ _ _ _ _ _ _ _ _ _ _ _ _ _ _ _ _ _ _ _ _ _ _; (refine wpAny_call ?_); k_dflt (refine' enter ?k1 ?k2 ?k3 ?k5 ?kA ?kF ?kK ?k6 ?k7 ?k8 ?k9 ?kB ?_ ?c2 ?c3 ?c4 ?c5; (case kA => exact rfl); (case kF => exact rfl); (case kK => assumption); (case k1 => k_asm); (case k2 => k_asm); (case k3 => k_asm); (case k5 => k_asm); (case k6 => k_is); (case k7 => k_is); (case k8 => ktr_room); (case k9 => exact BindsTo.of_eq rfl); (case c5 => decide); (case kB => exact locs rfl); (case c2 => exact rfl); (case c3 => exact rfl); (case c4 => exact rfl); k_whole; intro m9 _ _ _ _ _ _ _ _ _ A9; (try dsimp only); (try (walk_at "M fold"))))
  k_with "W M int" => (refine' ret_int ?r ?_ ?F ?g ?F2; (case r => assumption); (case g => assumption); (case F => assumption); (case F2 => assumption))
  k_with "W M bool" => (refine' ret_bool ?r ?_ ?F ?g ?F2; (case r => assumption); (case g => assumption); (case F => assumption); (case F2 => assumption))
  k_with "W M str" => (refine' ret_str ?r ?_ ?F ?g ?F2; (case r => assumption); (case g => assumption); (case F => assumption); (case F2 => assumption))
  k_with "W M tup" => (refine' ret_tup ?r ?F ?g ?F2 ?N ?hm ?_; (case r => assumption); (case g => assumption); (case F => assumption); (case F2 => assumption); (case N => assumption); (case hm => k_mem))
  k_with "W eval Call Name" => (k_here; (fail_if_success (with_reducible show wpAny _ _ (eval (Expr.Call (Expr.Name "range" _) _ _ _) _) _ _ _)); refine Call_ ?_)
  k_with "W call ref" => (k_here; k_dflt ((refine wpAny_call ?_); (refine' codeA ?k1 ?k2 ?k3 ?k4 ?k5 ?kA ?kF ?kK ?k6 ?k7 ?k8 ?k9 ?kB ?_ ?c2 ?c3 ?c4 ?c5; (case kA => exact rfl); (case kF => exact rfl); (case kK => first | assumption | exact rfl); (case k1 => k_asm); (case k2 => k_asm); (case k3 => k_asm); (case k4 => k_asm); (case k5 => k_asm); (case k6 => k_is); (case k7 => k_is); (case k8 => ((try dsimp (zetaDelta := true) only [Around.deeper, ktrTop]); ktr_room)); (case k9 => exact BindsTo.of_eq rfl); (case c5 => decide); (case kB => exact locs rfl); (case c2 => exact rfl); (case c3 => exact rfl); (case c4 => exact rfl); k_whole; intro m9 _ _ _ _ _ _ _ _ _ A9; (try dsimp only); (try (walk_at "M fold")))))
  k_with "W ite" => (k_closed; k_dflt (first | refine ite_pos (by decide +kernel) ?_ | refine ite_neg (by decide +kernel) ?_))
  k_with "W M val" => (refine' ret_val (t := 0) ?r ?_ ?F ?g ?F2; (case r => assumption); (case g => assumption); (case F => assumption); (case F2 => assumption))
  k_with "W eval Name" => (k_here; name_kind "globalImplicit"; k_dflt (first | (refine' nameK ?F ?X ?T ?e ?c ?_; (case F => k_asm); (case X => k_asm); (case T => k_asm); (case e => k_is); (case c => kernel_rfl!); k_whole) | (refine' nameB ?F ?X ?T ?e ?v ?n ?c ?_; (case F => k_asm); (case X => k_asm); (case T => k_asm); (case e => k_is); (case v => boot_fast); (case n => decide); (case c => kernel_rfl!); k_whole)))
  k_with "W eval Name" => (k_here; name_kind "local"; k_dflt (refine' nameL ?F ?v ?c ?_; (case F => k_asm); (case v => exact @rfl _ (some _)); (case c => kernel_rfl!); k_whole))
  k_with "W subscriptTail Name Constant ref int" => (k_here; (with_reducible show wpAny _ _ (subscriptTail _ _ (Value.ref _) (Value.int _ _)) _ _ _); k_dflt (refine' item_tupleT ?t ?a ?b ?c ?d ?_ ?hs; (case t => exact News.isTup (by k_asm) (by k_mem)); (case a => decide +kernel); (case b => decide +kernel); (case c => exact rfl); (case d => exact rfl); (case hs => kernel_rfl!); k_whole))
  k_with "W ite" => first | with_reducible refine ite_tt ?_ | with_reducible refine ite_ff ?_
  exact True.intro
/-! one step for a call of a def or of a builtin by its name -/
def plainE : PySem.Expr → Bool
  | .Starred _ _ => false
  | _ => true
theorem star_plain {e : PySem.Expr} {rest : List PySem.Expr} {env : Env} (h : plainE e = true) : starEach (e :: rest) env = (false, eval e env) :: starEach rest env := by
  cases e <;> first | rfl | cases h
theorem plain_back {pos : Pos} {env : Env} : ∀ {es : List PySem.Expr}, es.all plainE = true → (backTo pos (starEach es env)).any (·.1) = false
  | [], _ => rfl
  | e :: es, h => by
    have h1 := Bool.and_eq_true_iff.mp h
    rw [star_plain h1.1]
    have h2 := plain_back (pos := pos) (env := env) h1.2
    show (false || (backTo pos (starEach es env)).any (·.1)) = false
    rw [h2]; rfl
/-- the arguments one after another, then what is done with them -/
def argsThen (A : Around) (M : Model) (env : Env) (E : Value → Shared → Prop) : List PySem.Expr → (List Value → Shared → Prop) → List Value → Shared → Prop
  | [], K, vs, s => K vs s
  | e :: es, K, vs, s => wpAny M A (eval e env) (fun v s₁ => argsThen A M env E es K (vs ++ [v]) s₁) E s
theorem args_then {M : Model} {A : Around} {env : Env} {E : Value → Shared → Prop} {pos : Pos} : ∀ {es : List PySem.Expr} {K : List Value → Shared → Prop} {vs : List Value} {s : Shared}, es.all plainE = true →
    argsThen A M env E es K vs s → wpAny M A (spliced (backTo pos (starEach es env))) (fun us s₁ => K (vs ++ us) s₁) E s
  | [], K, vs, s, _, h => args_nil (by show K (vs ++ []) s; rw [List.append_nil]; exact h)
  | e :: es, K, vs, s, hp, h => by
    have h1 := Bool.and_eq_true_iff.mp hp
    refine args_cons (wpAny_mono h (fun v s₁ h₁ => ?_) fun _ _ e => e) (star_plain h1.1)
    have h2 := args_then (pos := pos) h1.2 h₁
    exact wpAny_mono h2 (fun us s₂ h₂ => by rw [List.append_assoc] at h₂; exact h₂) fun _ _ e => e
section
variable {M : Model} {A : Around} {E : Value → Shared → Prop} {s : Shared} {K : Frag} {h₀ : Heap} {L a : Addr} {m mg mb : Str → Option Value} {cn : Str} {cs : Scope} {ccd : Value} {cl : List (Str × Addr)} {p : Program} {loose : List Str}
  {x : Str} {pos pos' : Pos} {v : Value} {Q : Value → Shared → Prop} {f : Addr} {id : String}
theorem callD {e₁ : PySem.Expr} {es : List PySem.Expr} (F : Fr h₀ L s.heap m) (X : K.In h₀) (T : TopRead p loose mg mb h₀) (e : nsIn K mainGlobals x = some (some (.ref f))) (hf : keepIn K (.ref f) = true) (hp : (e₁ :: es).all plainE = true)
    (c : nameIs .globalImplicit cs x = true)
    (h : wpAny M A (eval e₁ (envX cn cs L a ccd cl)) (fun v s₁ => argsThen A M (envX cn cs L a ccd cl) E es (fun vs s₂ => K.In s₂.heap ∧ wpAny M A (call (.ref f) vs) Q E s₂) [v] s₁) E s) :
    wpAny M A (eval (.Call (.Name x pos') (e₁ :: es) [] pos) (envX cn cs L a ccd cl)) Q E s :=
  have h1 := Bool.and_eq_true_iff.mp hp
  Call_ (nameK F X T e c (callWith_K X hf (args_then (vs := []) (K := fun vs s₂ => K.In s₂.heap ∧ wpAny M A (call (.ref f) vs) Q E s₂) hp h) (star_plain h1.1) (plain_back h1.2)))
theorem callB {e₁ : PySem.Expr} {es : List PySem.Expr} (F : Fr h₀ L s.heap m) (X : K.In h₀) (T : TopRead p loose mg mb h₀) (e : nsIn K mainGlobals x = some none) (hv : bootBuiltins x = some (.builtin id)) (hn : x ≠ "__name__") (hp : (e₁ :: es).all plainE = true)
    (c : nameIs .globalImplicit cs x = true)
    (h : wpAny M A (eval e₁ (envX cn cs L a ccd cl)) (fun v s₁ => argsThen A M (envX cn cs L a ccd cl) E es (fun vs s₂ => wpAny M A (call (.builtin id) vs) Q E s₂) [v] s₁) E s) :
    wpAny M A (eval (.Call (.Name x pos') (e₁ :: es) [] pos) (envX cn cs L a ccd cl)) Q E s :=
  have h1 := Bool.and_eq_true_iff.mp hp
  Call_ (nameB F X T e hv hn c (callWith_builtin1 (args_then (vs := []) (K := fun vs s₂ => wpAny M A (call (.builtin id) vs) Q E s₂) hp h) (star_plain h1.1) (plain_back h1.2)))
theorem callD1 {e1 : PySem.Expr} (F : Fr h₀ L s.heap m) (X : K.In h₀) (T : TopRead p loose mg mb h₀) (e : nsIn K mainGlobals x = some (some (.ref f))) (hf : keepIn K (.ref f) = true) (hp : [e1].all plainE = true) (c : nameIs .globalImplicit cs x = true)
    (h : wpAny M A (eval e1 (envX cn cs L a ccd cl)) (fun v1 s1 => K.In s1.heap ∧ wpAny M A (call (.ref f) [v1]) Q E s1) E s) :
    wpAny M A (eval (.Call (.Name x pos') [e1] [] pos) (envX cn cs L a ccd cl)) Q E s := callD F X T e hf hp c h
theorem callD2 {e1 e2 : PySem.Expr} (F : Fr h₀ L s.heap m) (X : K.In h₀) (T : TopRead p loose mg mb h₀) (e : nsIn K mainGlobals x = some (some (.ref f))) (hf : keepIn K (.ref f) = true) (hp : [e1, e2].all plainE = true) (c : nameIs .globalImplicit cs x = true)
    (h : wpAny M A (eval e1 (envX cn cs L a ccd cl)) (fun v1 s1 => wpAny M A (eval e2 (envX cn cs L a ccd cl)) (fun v2 s2 => K.In s2.heap ∧ wpAny M A (call (.ref f) [v1, v2]) Q E s2) E s1) E s) :
    wpAny M A (eval (.Call (.Name x pos') [e1, e2] [] pos) (envX cn cs L a ccd cl)) Q E s := callD F X T e hf hp c h
theorem callD3 {e1 e2 e3 : PySem.Expr} (F : Fr h₀ L s.heap m) (X : K.In h₀) (T : TopRead p loose mg mb h₀) (e : nsIn K mainGlobals x = some (some (.ref f))) (hf : keepIn K (.ref f) = true) (hp : [e1, e2, e3].all plainE = true) (c : nameIs .globalImplicit cs x = true)
    (h : wpAny M A (eval e1 (envX cn cs L a ccd cl)) (fun v1 s1 => wpAny M A (eval e2 (envX cn cs L a ccd cl)) (fun v2 s2 => wpAny M A (eval e3 (envX cn cs L a ccd cl)) (fun v3 s3 => K.In s3.heap ∧ wpAny M A (call (.ref f) [v1, v2, v3]) Q E s3) E s2) E s1) E s) :
    wpAny M A (eval (.Call (.Name x pos') [e1, e2, e3] [] pos) (envX cn cs L a ccd cl)) Q E s := callD F X T e hf hp c h
theorem callD4 {e1 e2 e3 e4 : PySem.Expr} (F : Fr h₀ L s.heap m) (X : K.In h₀) (T : TopRead p loose mg mb h₀) (e : nsIn K mainGlobals x = some (some (.ref f))) (hf : keepIn K (.ref f) = true) (hp : [e1, e2, e3, e4].all plainE = true) (c : nameIs .globalImplicit cs x = true)
    (h : wpAny M A (eval e1 (envX cn cs L a ccd cl)) (fun v1 s1 => wpAny M A (eval e2 (envX cn cs L a ccd cl)) (fun v2 s2 => wpAny M A (eval e3 (envX cn cs L a ccd cl)) (fun v3 s3 => wpAny M A (eval e4 (envX cn cs L a ccd cl)) (fun v4 s4 => K.In s4.heap ∧ wpAny M A (call (.ref f) [v1, v2, v3, v4]) Q E s4) E s3) E s2) E s1) E s) :
    wpAny M A (eval (.Call (.Name x pos') [e1, e2, e3, e4] [] pos) (envX cn cs L a ccd cl)) Q E s := callD F X T e hf hp c h
theorem callB1 {e1 : PySem.Expr} (F : Fr h₀ L s.heap m) (X : K.In h₀) (T : TopRead p loose mg mb h₀) (e : nsIn K mainGlobals x = some none) (hv : bootBuiltins x = some (.builtin id)) (hn : x ≠ "__name__") (hp : [e1].all plainE = true) (c : nameIs .globalImplicit cs x = true)
    (h : wpAny M A (eval e1 (envX cn cs L a ccd cl)) (fun v1 s1 => wpAny M A (call (.builtin id) [v1]) Q E s1) E s) :
    wpAny M A (eval (.Call (.Name x pos') [e1] [] pos) (envX cn cs L a ccd cl)) Q E s := callB F X T e hv hn hp c h
theorem callB2 {e1 e2 : PySem.Expr} (F : Fr h₀ L s.heap m) (X : K.In h₀) (T : TopRead p loose mg mb h₀) (e : nsIn K mainGlobals x = some none) (hv : bootBuiltins x = some (.builtin id)) (hn : x ≠ "__name__") (hp : [e1, e2].all plainE = true) (c : nameIs .globalImplicit cs x = true)
    (h : wpAny M A (eval e1 (envX cn cs L a ccd cl)) (fun v1 s1 => wpAny M A (eval e2 (envX cn cs L a ccd cl)) (fun v2 s2 => wpAny M A (call (.builtin id) [v1, v2]) Q E s2) E s1) E s) :
    wpAny M A (eval (.Call (.Name x pos') [e1, e2] [] pos) (envX cn cs L a ccd cl)) Q E s := callB F X T e hv hn hp c h
end

theorem wd_12_0 : True := by
  k_with "W eval Call Name" => (k_here; (with_reducible show wpAny _ _ (eval (Expr.Call (Expr.Name _ _) [_, _, _, _] [] _) _) _ _ _); k_dflt ((refine' callD4 ?F ?X ?T ?e ?hf ?hp ?c ?_; (case F => k_asm); (case X => k_asm); (case T => k_asm); (case e => k_is); (case hf => k_is); (case hp => kernel_rfl!); (case c => kernel_rfl!); k_whole)))
  k_with "W eval Call Name" => (k_here; (with_reducible show wpAny _ _ (eval (Expr.Call (Expr.Name _ _) [_, _, _] [] _) _) _ _ _); k_dflt ((refine' callD3 ?F ?X ?T ?e ?hf ?hp ?c ?_; (case F => k_asm); (case X => k_asm); (case T => k_asm); (case e => k_is); (case hf => k_is); (case hp => kernel_rfl!); (case c => kernel_rfl!); k_whole)))
  k_with "W eval Call Name" => (k_here; (with_reducible show wpAny _ _ (eval (Expr.Call (Expr.Name _ _) [_, _] [] _) _) _ _ _); (fail_if_success (with_reducible show wpAny _ _ (eval (Expr.Call (Expr.Name "str" _) _ _ _) _) _ _ _)); (fail_if_success (with_reducible show wpAny _ _ (eval (Expr.Call (Expr.Name "int" _) _ _ _) _) _ _ _)); (fail_if_success (with_reducible show wpAny _ _ (eval (Expr.Call (Expr.Name "range" _) _ _ _) _) _ _ _)); (fail_if_success (with_reducible show wpAny _ _ (eval (Expr.Call (Expr.Name "zip" _) _ _ _) _) _ _ _)); k_dflt (first | (refine' callD2 ?F ?X ?T ?e ?hf ?hp ?c ?_; (case F => k_asm); (case X => k_asm); (case T => k_asm); (case e => k_is); (case hf => k_is); (case hp => kernel_rfl!); (case c => kernel_rfl!); k_whole) | (refine' callB2 ?F ?X ?T ?e ?v ?n ?hp ?c ?_; (case F => k_asm); (case X => k_asm); (case T => k_asm); (case e => k_is); (case v => boot_fast); (case n => decide); (case hp => kernel_rfl!); (case c => kernel_rfl!); k_whole)))
  k_with "W eval Call Name" => (k_here; (with_reducible show wpAny _ _ (eval (Expr.Call (Expr.Name _ _) [_] [] _) _) _ _ _); (fail_if_success (with_reducible show wpAny _ _ (eval (Expr.Call (Expr.Name "str" _) _ _ _) _) _ _ _)); (fail_if_success (with_reducible show wpAny _ _ (eval (Expr.Call (Expr.Name "int" _) _ _ _) _) _ _ _)); (fail_if_success (with_reducible show wpAny _ _ (eval (Expr.Call (Expr.Name "range" _) _ _ _) _) _ _ _)); (fail_if_success (with_reducible show wpAny _ _ (eval (Expr.Call (Expr.Name "zip" _) _ _ _) _) _ _ _)); k_dflt (first | (refine' callD1 ?F ?X ?T ?e ?hf ?hp ?c ?_; (case F => k_asm); (case X => k_asm); (case T => k_asm); (case e => k_is); (case hf => k_is); (case hp => kernel_rfl!); (case c => kernel_rfl!); k_whole) | (refine' callB1 ?F ?X ?T ?e ?v ?n ?hp ?c ?_; (case F => k_asm); (case X => k_asm); (case T => k_asm); (case e => k_is); (case v => boot_fast); (case n => decide); (case hp => kernel_rfl!); (case c => kernel_rfl!); k_whole)))
  exact True.intro
/-- marks a walk whose stores are no lets (a while by its word) -/
inductive Plain9 : Prop where | mk
/-! steps whose state is said field by field: nothing grows -/
section
variable {M : Model} {A : Around} {E : Value → Shared → Prop} {h₀ : Heap} {L a : Addr} {m : Str → Option Value} {cn : Str} {cs : Scope} {ccd : Value} {cl : List (Str × Addr)}
  {x : Str} {pos : Pos} {v : Value} {Q : Value → Shared → Prop} {news : Led} {env : Env} {hp : Heap} {gs : Array GenState} {dr : Drawn} {tk : Nat} {os : OsState}
theorem constI {i : Int} {k : Nat} (h : Q (.int i tk) ⟨hp, gs, dr, tk + 1, os⟩) : wpAny M A (eval (.Constant (.int i) k pos) env) Q E ⟨hp, gs, dr, tk, os⟩ := wpAny_Constant_int h
theorem constS {i : Str} {k : Nat} (h : Q (.str i tk) ⟨hp, gs, dr, tk + 1, os⟩) : wpAny M A (eval (.Constant (.str i) k pos) env) Q E ⟨hp, gs, dr, tk, os⟩ := wpAny_Constant_str h
theorem storeA {Q : Unit → Shared → Prop} (F : Fr h₀ L hp m) (N : News h₀ L hp news) (c : nameIs .local cs x = true)
    (h : let m' := fun y => if y = x then some v else m y
      ∀ h', Fr h₀ L h' m' → News h₀ L h' news → Q () ⟨h', gs, dr, tk + 1, os⟩) : wpAny M A (storeName (envX cn cs L a ccd cl) x v) Q E ⟨hp, gs, dr, tk, os⟩ :=
  storeX_L F N h (nameIs_use c).1 (nameIs_use c).2.1
end
section
variable {prog : Program} {w : World} {A : Around} {E : Value → Shared → Prop} {h₀ : Heap} {L a : Addr} {m : Str → Option Value} {cn : Str} {cs : Scope} {ccd : Value} {cl : List (Str × Addr)}
  {x : Str} {pos p1 p2 : Pos} {v : Value} {Q : Value → Shared → Prop} {hp : Heap} {gs : Array GenState} {dr : Drawn} {tk : Nat} {os : OsState} {t u : Tok} {b c : Int}
theorem addI (h : Q (.int (b + c) tk) ⟨hp, gs, dr, tk + 1, os⟩) : wpAny (model prog w) A (binaryOp .Add (.int b t) (.int c u)) Q E ⟨hp, gs, dr, tk, os⟩ := add_int h
theorem subI (h : Q (.int (b - c) tk) ⟨hp, gs, dr, tk + 1, os⟩) : wpAny (model prog w) A (binaryOp .Sub (.int b t) (.int c u)) Q E ⟨hp, gs, dr, tk, os⟩ := sub_int h
def smallK (k : Int) : Bool := decide (-(2 ^ 63) ≤ k) && decide (k < 2 ^ 63)
theorem subT {k : Int} {n : Nat} {T : Addr} {l : List Value} {j : Nat} (F : Fr h₀ L hp m) (hv : m x = some (.ref T)) (c : nameIs .local cs x = true) (ht : IsTup hp T l.toArray) (hk : smallK k = true) (hj : seqIndex? k l.length = some j) (hx : l[j]? = some v)
    (h : Q v ⟨hp, gs, dr, tk + 1, os⟩) : wpAny (model prog w) A (eval (.Subscript (.Name x p1) (.Constant (.int k) n p2) pos) (envX cn cs L a ccd cl)) Q E ⟨hp, gs, dr, tk, os⟩ :=
  have h1 := Bool.and_eq_true_iff.mp hk
  Subscript_ (nameL (s := ⟨hp, gs, dr, tk, os⟩) F hv c (wpAny_Constant_int (item_tupleT (s := ⟨hp, gs, dr, tk + 1, os⟩) ht (of_decide_eq_true h1.1) (of_decide_eq_true h1.2) hj hx h)))
end

theorem wd_14_0 : True := by
  k_with "W eval Constant int" => (k_here; (with_reducible refine constI ?_))
  k_with "W eval Constant str" => (k_here; (with_reducible refine constS ?_))
  k_with "W binaryOp Add int int" => (k_here; (with_reducible refine addI ?_))
  k_with "W binaryOp Sub int int" => (k_here; (with_reducible refine subI ?_))
  k_with "W storeName" => (k_here; (fail_if_success (with_reducible rename Plain9 => hPl9)); k_dflt (refine' storeA ?F ?N ?c ?_; (case F => k_asm); (case N => k_asm); (case c => kernel_rfl!); k_whole; intro m9 h9 F9 N9; (try k_sweep)))
  k_with "W eval Subscript Name Constant" => (k_here; (with_reducible show wpAny _ _ (eval (Expr.Subscript (Expr.Name _ _) (Expr.Constant (Const.int _) _ _) _) _) _ _ _); k_dflt (refine' subT ?F ?v ?c ?t ?k ?cj ?dj ?_; (case F => k_asm); (case v => exact @rfl _ (some (Value.ref _))); (case c => kernel_rfl!); (case t => exact News.isTup (by k_asm) (by k_mem)); (case k => kernel_rfl!); (case cj => exact rfl); (case dj => exact rfl); k_whole))
  exact True.intro
def packL (s e f : Int) : Int := Builtin.bitOr (Builtin.bitOr (s * 2 ^ Int.toNat 63) (e * 2 ^ Int.toNat 52)) f
def isNegL (x : Int) : Bool := decide (x.fdiv (2 ^ Int.toNat 63) = 1)
def isNanL (x : Int) : Bool := decide (9218868437227405312 < Builtin.bitAnd x 9223372036854775807)
def isInfL (x : Int) : Bool := decide (Builtin.bitAnd x 9223372036854775807 = 9218868437227405312)
def isZeroL (x : Int) : Bool := decide (Builtin.bitAnd x 9223372036854775807 = 0)
def signedL (s x : Int) : Int := Builtin.bitOr (Builtin.bitAnd x 9223372036854775807) (s * 2 ^ Int.toNat 63)
theorem ct_pack (w : World) (x y z : Int) (t u v : Tok) (hx : 0 ≤ x ∧ x ≤ 1) (hy : 0 ≤ y ∧ y ≤ 2047) : Ct w 1 28 [.int x t, .int y u, .int z v] (fun _ => True) (RetI (packL x y z)) := by
  walk_at "M enter"
  k_steps
  walk_at "M int"; rfl
theorem ct_is_negative (w : World) (x : Int) (t : Tok) : Ct w 1 35 [.int x t] (fun _ => True) (RetB (isNegL x)) := by
  walk_at "M enter"
  k_steps
  walk_at "M bool"; rfl
theorem ct_is_nan (w : World) (x : Int) (t : Tok) : Ct w 1 42 [.int x t] (fun _ => True) (RetB (isNanL x)) := by
  walk_at "M enter"
  k_steps
  walk_at "M bool"; rfl
theorem ct_is_inf (w : World) (x : Int) (t : Tok) : Ct w 1 49 [.int x t] (fun _ => True) (RetB (isInfL x)) := by
  walk_at "M enter"
  k_steps
  walk_at "M bool"; rfl
theorem ct_is_zero (w : World) (x : Int) (t : Tok) : Ct w 1 56 [.int x t] (fun _ => True) (RetB (isZeroL x)) := by
  walk_at "M enter"
  k_steps
  walk_at "M bool"; rfl
theorem ct_signed (w : World) (x y : Int) (t u : Tok) (hx : 0 ≤ x ∧ x ≤ 1) : Ct w 1 63 [.int x t, .int y u] (fun _ => True) (RetI (signedL x y)) := by
  walk_at "M enter"
  k_steps
  walk_at "M int"; rfl

theorem wd_20_0 : True := by
  k_with "W call ref" => (k_here; (with_reducible show wpAny _ _ (call (Value.ref 28) _) _ _ _); k_dflt (refine' use_int (ct_pack _ _ _ _ _ _ _ ?c1 ?c2) ?k1 ?k2 ?k3 ?k4 ?k5 ?kK ?kp ?kd ?ku ?_; (case k1 => k_asm); (case k2 => k_asm); (case k3 => k_asm); (case k4 => k_asm); (case k5 => k_asm); (case kK => first | exact rfl | assumption); (case kp => exact True.intro); (case c1 => omega); (case c2 => omega); (case kd => ((try dsimp (zetaDelta := true) only [Around.deeper, ktrTop]); ktr_room)); (case ku => ((try dsimp (zetaDelta := true) only [Around.deeper, ktrTop]); ktr_units)); intro t9 h9 tk9 F9 N9; (try dsimp only); (try (walk_at "M foldQ")); (walk_say "USE ct_pack")))
  k_with "W call ref" => (k_here; (with_reducible show wpAny _ _ (call (Value.ref 35) _) _ _ _); k_dflt (refine' use_bool (ct_is_negative _ _ _) ?k1 ?k2 ?k3 ?k4 ?k5 ?kK ?kp ?kd ?ku ?_; (case k1 => k_asm); (case k2 => k_asm); (case k3 => k_asm); (case k4 => k_asm); (case k5 => k_asm); (case kK => first | exact rfl | assumption); (case kp => exact True.intro); (case kd => ((try dsimp (zetaDelta := true) only [Around.deeper, ktrTop]); ktr_room)); (case ku => ((try dsimp (zetaDelta := true) only [Around.deeper, ktrTop]); ktr_units)); intro h9 tk9 F9 N9; (try dsimp only); (try (walk_at "M foldQ")); (walk_say "USE ct_is_negative")))
  k_with "W call ref" => (k_here; (with_reducible show wpAny _ _ (call (Value.ref 42) _) _ _ _); k_dflt (refine' use_bool (ct_is_nan _ _ _) ?k1 ?k2 ?k3 ?k4 ?k5 ?kK ?kp ?kd ?ku ?_; (case k1 => k_asm); (case k2 => k_asm); (case k3 => k_asm); (case k4 => k_asm); (case k5 => k_asm); (case kK => first | exact rfl | assumption); (case kp => exact True.intro); (case kd => ((try dsimp (zetaDelta := true) only [Around.deeper, ktrTop]); ktr_room)); (case ku => ((try dsimp (zetaDelta := true) only [Around.deeper, ktrTop]); ktr_units)); intro h9 tk9 F9 N9; (try dsimp only); (try (walk_at "M foldQ")); (walk_say "USE ct_is_nan")))
  k_with "W call ref" => (k_here; (with_reducible show wpAny _ _ (call (Value.ref 49) _) _ _ _); k_dflt (refine' use_bool (ct_is_inf _ _ _) ?k1 ?k2 ?k3 ?k4 ?k5 ?kK ?kp ?kd ?ku ?_; (case k1 => k_asm); (case k2 => k_asm); (case k3 => k_asm); (case k4 => k_asm); (case k5 => k_asm); (case kK => first | exact rfl | assumption); (case kp => exact True.intro); (case kd => ((try dsimp (zetaDelta := true) only [Around.deeper, ktrTop]); ktr_room)); (case ku => ((try dsimp (zetaDelta := true) only [Around.deeper, ktrTop]); ktr_units)); intro h9 tk9 F9 N9; (try dsimp only); (try (walk_at "M foldQ")); (walk_say "USE ct_is_inf")))
  k_with "W call ref" => (k_here; (with_reducible show wpAny _ _ (call (Value.ref 56) _) _ _ _); k_dflt (refine' use_bool (ct_is_zero _ _ _) ?k1 ?k2 ?k3 ?k4 ?k5 ?kK ?kp ?kd ?ku ?_; (case k1 => k_asm); (case k2 => k_asm); (case k3 => k_asm); (case k4 => k_asm); (case k5 => k_asm); (case kK => first | exact rfl | assumption); (case kp => exact True.intro); (case kd => ((try dsimp (zetaDelta := true) only [Around.deeper, ktrTop]); ktr_room)); (case ku => ((try dsimp (zetaDelta := true) only [Around.deeper, ktrTop]); ktr_units)); intro h9 tk9 F9 N9; (try dsimp only); (try (walk_at "M foldQ")); (walk_say "USE ct_is_zero")))
  k_with "W call ref" => (k_here; (with_reducible show wpAny _ _ (call (Value.ref 63) _) _ _ _); k_dflt (refine' use_int (ct_signed _ _ _ _ _ ?c1) ?k1 ?k2 ?k3 ?k4 ?k5 ?kK ?kp ?kd ?ku ?_; (case k1 => k_asm); (case k2 => k_asm); (case k3 => k_asm); (case k4 => k_asm); (case k5 => k_asm); (case kK => first | exact rfl | assumption); (case kp => exact True.intro); (case c1 => omega); (case kd => ((try dsimp (zetaDelta := true) only [Around.deeper, ktrTop]); ktr_room)); (case ku => ((try dsimp (zetaDelta := true) only [Around.deeper, ktrTop]); ktr_units)); intro t9 h9 tk9 F9 N9; (try dsimp only); (try (walk_at "M foldQ")); (walk_say "USE ct_signed")))
  exact True.intro
def Sz (a : Int) (k : Nat) : Prop := a.natAbs < 2 ^ k
theorem Sz.log {a : Int} {k : Nat} (h : Sz a (k + 1)) : a.natAbs.log2 ≤ k := by
  by_cases h0 : a.natAbs = 0
  · rw [h0]; exact Nat.zero_le _
  · exact Nat.le_of_lt_succ ((Nat.log2_lt h0).mpr h)
theorem Sz.bits {a : Int} {k : Nat} (h : Sz a k) : Builtin.Int.intBits a ≤ k := by
  unfold Builtin.Int.intBits
  split
  · exact Nat.zero_le _
  · rename_i h0
    have h1 : a.natAbs ≠ 0 := by
      intro e; apply h0; rw [beq_iff_eq]; omega
    have := (Nat.log2_lt h1).mpr h
    omega
theorem Sz.mono {a : Int} {k l : Nat} (h : Sz a k) (hl : k ≤ l) : Sz a l := Nat.lt_of_lt_of_le h (Nat.pow_le_pow_right (by decide) hl)
theorem natAbs_pow2 (k : Nat) : ((2 : Int) ^ k).natAbs = 2 ^ k := by rw [Int.natAbs_pow]; rfl
theorem sz_shl {a n : Int} {k : Nat} (h : Sz a k) (hn : n ≤ 2300) : Sz (a * 2 ^ n.toNat) (k + 2300) := by
  unfold Sz at *
  rw [Int.natAbs_mul, natAbs_pow2, Nat.pow_add]
  refine Nat.lt_of_lt_of_le (Nat.mul_lt_mul_of_pos_right h (Nat.two_pow_pos _)) (Nat.mul_le_mul_left _ (Nat.pow_le_pow_right (by decide) (by omega)))
theorem sh_size {a n : Int} {k : Nat} (h : Sz a k) (hn : (k : Int) + n ≤ 2 ^ 27) : (Builtin.Int.intBits a : Int) + n ≤ 2 ^ 27 := by
  have := h.bits
  omega
theorem py_of {a : Int} {k : Nat} (h : Sz a k) (hk : k ≤ 9000) : a.natAbs.log2 < 9000 := by
  by_cases h0 : a.natAbs = 0
  · rw [h0]; decide +kernel
  · exact Nat.lt_of_lt_of_le ((Nat.log2_lt h0).mpr h) hk
theorem nz_shl {a : Int} {k : Nat} (h : a ≠ 0) : a * 2 ^ k ≠ 0 := Int.mul_ne_zero h (by have := kbt_pos k; omega)
theorem sz_pow10 {n : Int} (hn : n ≤ 64) : Sz (10 ^ n.toNat) 256 := by
  unfold Sz
  rw [Int.natAbs_pow]
  exact Nat.lt_of_le_of_lt (Nat.pow_le_pow_right (by decide) (show n.toNat ≤ 64 by omega)) (by decide)
theorem sz_mul {a b : Int} {k l : Nat} (ha : Sz a k) (hb : Sz b l) : Sz (a * b) (k + l) := by
  unfold Sz at *
  rw [Int.natAbs_mul, Nat.pow_add]
  exact Nat.mul_lt_mul_of_le_of_lt (Nat.le_of_lt ha) hb (Nat.two_pow_pos _)
theorem mul_ok {a b : Int} {k l : Nat} (ha : Sz a k) (hb : Sz b l) (hk : k ≤ 1048576) (hl : l ≤ 1048576) : IntMulOk a b :=
  IntMulOk.of_bits (Nat.le_trans ha.bits (by omega)) (Nat.le_trans hb.bits (by omega))

theorem wd_25_0 : True := by
  k_with "W M sz" => first | with_reducible assumption | exact sz_pow10 (by omega) | (refine' sz_mul ?sza ?szb; (case sza => walk_at "M sz"); (case szb => walk_at "M sz")) | (refine' sz_shl ?szh ?szn; (case szh => walk_at "M sz"); (case szn => omega))
  k_with "W M nz" => first | with_reducible assumption | omega | (refine nz_shl ?_; walk_at "M nz")
  k_with "W binaryOp LShift int int" => (k_here; (with_reducible refine lshift_int ?sa ?sb ?_); (case sa => omega); (case sb => (refine' sh_size ?ss ?st; (case ss => walk_at "M sz"); (case st => omega))))
  k_with "W binaryOp FloorDiv int int" => (k_here; (with_reducible refine floordiv_int ?sh ?_ (Or.inl (PyProof.noPylong_of_log2 ?sp))); (case sh => walk_at "M nz"); (case sp => (refine' py_of ?ss ?st; (case ss => walk_at "M sz"); (case st => decide))))
  k_with "W binaryOp Mod int int" => (k_here; (with_reducible refine mod_int' ?sh ?_); (case sh => walk_at "M nz"))
  k_with "W binaryOp Mult int int" => (k_here; (with_reducible refine mul_int ?_ ?sm); (case sm => (refine' mul_ok ?sa ?sb ?sc ?sd; (case sa => walk_at "M sz"); (case sb => walk_at "M sz"); (case sc => decide); (case sd => decide))))
  exact True.intro
def wd (n : Int) : Int := if n ≤ 0 then 0 else (n.toNat.log2 : Int) + 1
theorem log2_div (n k : Nat) (h : 2 ^ k ≤ n) : n.log2 = (n / 2 ^ k).log2 + k := by
  have h0 : n / 2 ^ k ≠ 0 := by
    have := Nat.div_pos h (Nat.two_pow_pos k)
    omega
  have hn : n ≠ 0 := by have := Nat.two_pow_pos k; omega
  rw [Nat.log2_eq_iff hn]
  have h1 := (Nat.log2_eq_iff h0).mp rfl
  have hp := Nat.two_pow_pos k
  constructor
  · rw [Nat.pow_add]
    exact (Nat.le_div_iff_mul_le hp).mp h1.1
  · have h2 := (Nat.div_lt_iff_lt_mul hp).mp h1.2
    rw [show (n / 2 ^ k).log2 + k + 1 = ((n / 2 ^ k).log2 + 1) + k by omega, Nat.pow_add]
    exact h2
theorem wd_step {n : Int} (k : Nat) (h : (2 : Int) ^ k ≤ n) : wd n = wd (n.fdiv (2 ^ k)) + k ∧ 0 < n.fdiv (2 ^ k) ∧ n.fdiv (2 ^ k) ≤ n := by
  have hp : (0 : Int) < 2 ^ k := kbt_pos k
  have hc := kbt_cast k
  obtain ⟨m, rfl⟩ := Int.eq_ofNat_of_zero_le (show 0 ≤ n by omega)
  have hm : 2 ^ k ≤ m := by omega
  have e : ((m : Int)).fdiv (2 ^ k) = ((m / 2 ^ k : Nat) : Int) := by
    rw [Int.fdiv_eq_ediv_of_nonneg _ (Int.le_of_lt hp), ← hc]; rfl
  have h0 := Nat.div_pos hm (Nat.two_pow_pos k)
  have hle := Nat.div_le_self m (2 ^ k)
  rw [e]
  refine ⟨?_, by omega, by omega⟩
  unfold wd
  rw [if_neg (by have := Nat.two_pow_pos k; omega), if_neg (by omega), Int.toNat_natCast, Int.toNat_natCast, log2_div m k hm]
  omega
theorem wd_nonneg (n : Int) : 0 ≤ wd n := by unfold wd; split <;> omega
structure WSt (x n many b : Int) : Prop where
  pos : 0 ≤ n
  lt : n < 2 ^ Int.toNat b
  eq : many + wd n = wd x
theorem w_take {x n many b : Int} (k : Int) (h : WSt x n many b) (hk : 1 * 2 ^ Int.toNat k ≤ n) (hb : b = 2 * k) (h0 : 0 ≤ k) : WSt x (n.fdiv (2 ^ Int.toNat k)) (many + k) k := by
  have hp := kbt_pos (Int.toNat k)
  rw [Int.one_mul] at hk
  obtain ⟨h1, h2, _⟩ := wd_step (Int.toNat k) hk
  refine ⟨Int.le_of_lt h2, ?_, by have := h.eq; omega⟩
  rw [Int.fdiv_eq_ediv_of_nonneg _ (Int.le_of_lt hp)]
  refine Int.ediv_lt_of_lt_mul hp ?_
  have := h.lt
  rw [hb, show Int.toNat (2 * k) = Int.toNat k + Int.toNat k by omega, Int.pow_add] at this
  exact this
theorem w_skip {x n many b : Int} (k : Int) (h : WSt x n many b) (hk : ¬ 1 * 2 ^ Int.toNat k ≤ n) : WSt x n many k := ⟨h.pos, by omega, h.eq⟩
theorem w_last {x n many : Int} (h : WSt x n many 1) : many + n = wd x := by
  have h1 := h.pos
  have h2 : n < 2 := h.lt
  have h3 := h.eq
  have : wd n = n := by
    rcases (show n = 0 ∨ n = 1 by omega) with rfl | rfl <;> rfl
  omega
theorem w_first {x n many : Int} (h : 0 ≤ n) (he : many + wd n = wd x) (hn : ¬ 1 * 2 ^ Int.toNat 64 ≤ n) : WSt x n many 64 := ⟨h, by omega, he⟩
theorem w_start {x : Int} (hx : 0 ≤ x) : 0 ≤ x ∧ 0 + wd x = wd x ∧ x ≤ x := ⟨hx, by omega, Int.le_refl _⟩
theorem w_turn {x n many : Int} (_h0 : 0 ≤ n) (h1 : many + wd n = wd x) (h2 : n ≤ x) (hk : 1 * 2 ^ Int.toNat 64 ≤ n) : 0 ≤ n.fdiv (2 ^ Int.toNat 64) ∧ many + 64 + wd (n.fdiv (2 ^ Int.toNat 64)) = wd x ∧ n.fdiv (2 ^ Int.toNat 64) ≤ x := by
  obtain ⟨a, b, c⟩ := wd_step (n := n) (Int.toNat 64) (by rw [Int.one_mul] at hk; exact hk)
  have a' : wd n = wd (n.fdiv (2 ^ Int.toNat 64)) + 64 := a
  have b' : 0 < n.fdiv (2 ^ Int.toNat 64) := b
  have c' : n.fdiv (2 ^ Int.toNat 64) ≤ n := c
  omega
theorem w_less {n : Int} (hk : 1 * 2 ^ Int.toNat 64 ≤ n) : (n.fdiv (2 ^ Int.toNat 64)).toNat < n.toNat := by
  have h : (2 : Int) ^ Int.toNat 64 ≤ n := by omega
  have e : n.fdiv (2 ^ Int.toNat 64) = n / 2 ^ Int.toNat 64 := Int.fdiv_eq_ediv_of_nonneg _ (Int.le_of_lt (kbt_pos _))
  have h2 : (2 : Int) ^ Int.toNat 64 = 18446744073709551616 := by decide
  rw [e, h2]
  rw [h2] at h
  omega
/-- the halving steps -/
def stepB : List (Int × Int) := [(64, 32), (32, 16), (16, 8), (8, 4), (4, 2), (2, 1)]
section
variable {prog : Program} {w : World} {A : Around} {E : Value → Shared → Prop} {s : Shared} {h₀ : Heap} {env : Env} {body : List Stmt} {Q : Flow → Shared → Prop}
def WOff (m m₀ : Str → Option Value) : Prop := ∀ z, z ≠ Str.ofString "step" → z ≠ Str.ofString "n" → z ≠ Str.ofString "many" → m z = m₀ z
abbrev wform (n many : Int) (t u : Tok) (r : Option Value) (m₀ : Str → Option Value) : Str → Option Value := fun z => if z = Str.ofString "n" then some (.int n t) else if z = Str.ofString "many" then some (.int many u) else if z = Str.ofString "step" then r else m₀ z
theorem WOff.form {m m₀ : Str → Option Value} {n many : Int} {t u : Tok} (h : WOff m m₀) (h1 : m (Str.ofString "n") = some (.int n t)) (h2 : m (Str.ofString "many") = some (.int many u)) : m = wform n many t u (m (Str.ofString "step")) m₀ := by
  funext z
  by_cases q1 : z = Str.ofString "n"
  · simp only [wform, if_pos q1]; rw [q1, h1]
  · simp only [wform, if_neg q1]
    by_cases q2 : z = Str.ofString "many"
    · rw [if_pos q2, q2, h2]
    · rw [if_neg q2]
      by_cases q3 : z = Str.ofString "step"
      · rw [if_pos q3, q3]
      · rw [if_neg q3, h z q3 q1 q2]
def WPost (h₀ : Heap) (L : Addr) (x : Int) (m₀ : Str → Option Value) (led : Led) (k : Int) (s₁ : Shared) (Q : Flow → Shared → Prop) (f : Flow) (s₂ : Shared) : Prop :=
  match f with
  | .ret v => Q (.ret v) s₂
  | .brk => Q .next s₂
  | _ => ∃ h' tk m' n many t u, s₂ = { s₁ with heap := h', toks := tk } ∧ Fr h₀ L h' m' ∧ News h₀ L h' led ∧ WOff m' m₀ ∧ m' (Str.ofString "n") = some (.int n t) ∧ m' (Str.ofString "many") = some (.int many u) ∧ WSt x n many k
theorem iter_width {target : PySem.Expr} {ax : Addr} {x n₀ many₀ : Int} {t₀ u₀ : Tok} {vs : List Value} {c : Nat} {m₀ : Str → Option Value} {news : Led} (hvs : ∀ (i : Nat) (v : Value), vs[i]? = some v → ∃ (k : Int) (t : Tok), v = Value.int k t ∧ ∃ b, stepB[i]? = some (b, k)) (hlen : vs.length = 6)
    (hh : A.handled = none) (F : Fr h₀ env.locals s.heap m₀) (N : News h₀ env.locals s.heap news) (hm : (ax, tupO vs c) ∈ news) (hn : m₀ (Str.ofString "n") = some (.int n₀ t₀)) (hmany : m₀ (Str.ofString "many") = some (.int many₀ u₀)) (h0 : WSt x n₀ many₀ 64)
    (turn : ∀ b k n many t u v r h tk own, b = 2 * k → 0 < k ∧ k ≤ 32 → WSt x n many b → Fr h₀ env.locals h (wform n many t u r m₀) → News h₀ env.locals h (news ++ own) →
      wpAny (model prog w) A (assign target env (.int k v)) (fun _ s₂ => wpAny (model prog w) A (execs body env) (WPost h₀ env.locals x m₀ (news ++ own) k { s with heap := h, toks := tk } Q) E s₂) E { s with heap := h, toks := tk })
    (done : ∀ n many t u r h tk, WSt x n many 1 → Fr h₀ env.locals h (wform n many t u r m₀) → News h₀ env.locals h news → Q .next { s with heap := h, toks := tk }) :
    wpAny (model prog w) A (pyIter (.ref ax)) (fun it s₂ => TurnsAt prog w A h₀ env target body Q E it s₂) E s := by
  have hax := N _ hm
  have hl : s.heap.IsTuple ax vs.toArray := ⟨_, hax.1, rfl, c, rfl⟩
  have hne : ax ≠ s.heap.objs.size := Nat.ne_of_lt (Heap.lt_size hax.1)
  refine wpAny_pyIter_tuple hl ?_
  let bound : Nat → Int := fun i => match i with | 0 => 64 | 1 => 32 | 2 => 16 | 3 => 8 | 4 => 4 | 5 => 2 | _ => 1
  have hb : ∀ i b k, stepB[i]? = some (b, k) → b = bound i ∧ k = bound (i + 1) ∧ b = 2 * k ∧ 0 < k ∧ k ≤ 32 := by
    intro i b k h
    rcases (show i = 0 ∨ i = 1 ∨ i = 2 ∨ i = 3 ∨ i = 4 ∨ i = 5 ∨ 6 ≤ i by omega) with rfl | rfl | rfl | rfl | rfl | rfl | h6
    · cases h; decide
    · cases h; decide
    · cases h; decide
    · cases h; decide
    · cases h; decide
    · cases h; decide
    · exact absurd (List.getElem?_eq_some_iff.mp h).1 (Nat.not_lt.mpr h6)
  refine ⟨_, _, _, vs.toArray.size, _, _, _, m₀, news, fun i m nx => nx = news ∧ WOff m m₀ ∧ ∃ n many t u, m (Str.ofString "n") = some (.int n t) ∧ m (Str.ofString "many") = some (.int many u) ∧ WSt x n many (bound i), rfl,
    KTurns.ofWalks (Walks.tuple hh s.heap.objs.size ax hne vs.toArray) (fun i v s Q E st q => letGo_tupleiter st.1 q), ?_, ?_, ?_, ⟨⟨_, Heap.get?_push_size _ rfl, rfl, rfl⟩, hl.at fun o e => Heap.get?_push_of_some _ e⟩, F.push _, (fun p hp => ⟨Heap.get?_push_of_some _ (N p hp).1, (N p hp).2⟩),
    ⟨rfl, fun _ _ _ _ => rfl, _, _, _, _, hn, hmany, h0⟩, ?_, ?_⟩
  · intro hI
    rcases List.mem_cons.mp hI with e | hI
    · exact absurd F.ns.lt (e ▸ Nat.lt_irrefl _)
    · exact hax.2.1 (List.mem_singleton.mp hI).symm
  · intro b hb
    rw [List.mem_singleton.mp hb]
    exact next_is_new F
  · intro p hp hI
    exact absurd (Heap.lt_size (N p hp).1) ((List.mem_singleton.mp hI) ▸ Nat.lt_irrefl _)
  · rintro i v m₁ nx h₁ tk₁ own hin hP ⟨rfl, hoff, n, many, t, u, e1, e2, hW⟩ hnw _ _ _ _ F₁ N₁
    have hP' : vs[i]? = some v := by
      have hP2 : vs.toArray[i]? = some v := hP
      simpa using hP2
    obtain ⟨k, tv, rfl, b, hbk⟩ := hvs i v hP'
    obtain ⟨q1, q2, q3, q4⟩ := hb i b k hbk
    rw [hoff.form e1 e2] at F₁
    have N₂ : News h₀ env.locals h₁ (nx ++ own) := fun p hp => N₁ p ((List.mem_append.mp hp).elim (fun h => List.mem_append.mpr (.inr h)) fun h => List.mem_append.mpr (.inl h))
    refine wpAny_mono (turn b k n many t u tv _ h₁ tk₁ own q3 q4 (q1 ▸ hW) F₁ N₂) (fun _ s₃ h₃ => wpAny_mono h₃ (fun f s₄ h₄ => ?_) fun _ _ e => e) fun _ _ e => e
    have fin : (∃ h' tk m' n many t u, s₄ = { s with heap := h', toks := tk } ∧ Fr h₀ env.locals h' m' ∧ News h₀ env.locals h' (nx ++ own) ∧ WOff m' m₀ ∧ m' (Str.ofString "n") = some (.int n t) ∧ m' (Str.ofString "many") = some (.int many u) ∧ WSt x n many k) →
        LoopStepU h₀ env.locals [s.heap.objs.size] own (fun m n' => n' = nx ∧ WOff m m₀ ∧ ∃ n many t u, m (Str.ofString "n") = some (.int n t) ∧ m (Str.ofString "many") = some (.int many u) ∧ WSt x n many (bound (i + 1))) { s with heap := h₁, toks := tk₁ } .next s₄ := by
      rintro ⟨h', tk, m', n', many', t', u', rfl, F', N', ho, a1, a2, a3⟩
      exact ⟨rfl, h', tk, m', nx, rfl, F', fun p hp => N' p ((List.mem_append.mp hp).elim (fun h => List.mem_append.mpr (.inr h)) fun h => List.mem_append.mpr (.inl h)), hnw, rfl, ho, n', many', t', u', a1, a2, q2 ▸ a3⟩
    cases f with
    | ret v => exact .ret h₄
    | brk => exact .brk h₄
    | next => exact .next (fin h₄)
    | cont => exact .cont (fin h₄)
  · rintro h' tk m' n' F' N' _ ⟨rfl, hoff, n, many, t, u, e1, e2, hW⟩
    have hsz : vs.toArray.size = 6 := by simpa using hlen
    rw [hoff.form e1 e2] at F'
    rw [hsz] at hW
    exact done n many t u _ h' tk hW F' N'
end
local macro_rules | `(tactic| walk_at "M steps") => `(tactic| (k_here; (with_reducible show wpAny _ _ (pyIter (Value.ref _)) (fun it s₂ => TurnsAt _ _ _ _ _ _ _ _ _ it s₂) _ _); k_dflt (refine' iter_width ?k0 ?k9 ?k1 ?k2 ?k3 ?k4 ?k5 ?k6 ?k7 ?kt ?kd; (case k1 => exact rfl); (case k2 => k_asm); (case k3 => k_asm); (case k4 => k_mem); (case k9 => exact rfl))))
theorem steps_at (t1 t2 t3 t4 t5 t6 : Tok) : ∀ (i : Nat) (v : Value), ([.int 32 t1, .int 16 t2, .int 8 t3, .int 4 t4, .int 2 t5, .int 1 t6] : List Value)[i]? = some v → ∃ (k : Int) (t : Tok), v = Value.int k t ∧ ∃ b, stepB[i]? = some (b, k) := by
  intro i v h
  rcases (show i = 0 ∨ i = 1 ∨ i = 2 ∨ i = 3 ∨ i = 4 ∨ i = 5 ∨ 6 ≤ i by omega) with rfl | rfl | rfl | rfl | rfl | rfl | h6
  · cases h; exact ⟨_, _, rfl, _, rfl⟩
  · cases h; exact ⟨_, _, rfl, _, rfl⟩
  · cases h; exact ⟨_, _, rfl, _, rfl⟩
  · cases h; exact ⟨_, _, rfl, _, rfl⟩
  · cases h; exact ⟨_, _, rfl, _, rfl⟩
  · cases h; exact ⟨_, _, rfl, _, rfl⟩
  · exact absurd (List.getElem?_eq_some_iff.mp h).1 (Nat.not_lt.mpr h6)
theorem ct_width (w : World) (x : Int) (t : Tok) (hx : 0 ≤ x) : Ct w 1 21 [.int x t] (fun _ => True) (RetI (wd x)) := by
  have hPl := Plain9.mk
  walk_at "M enter"
  k_with "exec While Compare cons nil" => k_while (fun script n many => 0 ≤ n ∧ many + wd n = wd x ∧ n ≤ x) (fun script n many => n.toNat) "n" "many"
  k_with "state" => first | exact w_start hx | exact w_turn (by with_reducible assumption) (by with_reducible assumption) (by with_reducible assumption) (by with_reducible assumption)
  k_with "measure" => exact w_less (by with_reducible assumption)
  k_with "pyIter ref" => (walk_at "M steps"; (case k0 => exact steps_at _ _ _ _ _ _); (case k5 => with_unfolding_all rfl); (case k6 => with_unfolding_all rfl); (case k7 => exact w_first (by with_reducible assumption) (by with_reducible assumption) (by with_reducible assumption)); (case' kt => (intro b9 k9 n9 many9 t9 u9 v9 r9 h9 tk9 own9 hb9 hk9 hW9 F9 N9; (obtain ⟨hk1, hk2⟩ := hk9); (try dsimp only); (try (walk_at "M fold")))); (case' kd => (intro n9 many9 t9 u9 r9 h9 tk9 hW9 F9 N9; (try dsimp only); (try (walk_at "M fold")))))
  k_steps
  · walk_at "M int"
    exact w_last (by assumption)
  all_goals (
    refine' ⟨_, _, _, _, _, _, _, rfl, ?F, ?N, ?off, ?e1, ?e2, ?w⟩
    (case F => assumption)
    (case N => assumption)
    (case e1 => with_unfolding_all rfl)
    (case e2 => with_unfolding_all rfl)
    (case w => first | exact w_take _ (by assumption) (by assumption) (by assumption) (by omega) | exact w_skip _ (by assumption) (by assumption))
    (case off => (intro z z1 z2 z3; simp only [wform, if_neg z1, if_neg z2, if_neg z3])))
theorem wd_30_0 : True := by
  k_with_none
  k_with "W M fold" => ((with_reducible refine let_QE ?_); intro qk9 ek9)
  k_with "W M foldQ" => ((with_reducible refine let_Q ?_); intro qk9)
  k_with "W M enter" => (w_top off; unfold Ct; (try k_fill); intro _ _ _ _ _ _ _ _ _ _ _ _ _ _ _ _ _ _ _ _ _ _ _ _ _ _ _ _ _ _ _; (refine wpAny_call ?_); k_dflt (refine' enter ?k1 ?k2 ?k3 ?k5 ?kA ?kF ?kK ?k6 ?k7 ?k8 ?k9 ?kB ?_ ?c2 ?c3 ?c4 ?c5; (case kA => exact rfl); (case kF => exact rfl); (case kK => assumption); (case k1 => k_asm); (case k2 => k_asm); (case k3 => k_asm); (case k5 => k_asm); (case k6 => k_is); (case k7 => k_is); (case k8 => ktr_room); (case k9 => exact BindsTo.of_eq rfl); (case c5 => decide); (case kB => exact locs rfl); (case c2 => exact rfl); (case c3 => exact rfl); (case c4 => exact rfl); k_whole; intro m9 _ _ _ _ _ _ _ _ _ A9; (try dsimp only); (try (walk_at "M fold"))))
  k_with "W M int" => (refine' ret_int ?r ?_ ?F ?g ?F2; (case r => assumption); (case g => assumption); (case F => assumption); (case F2 => assumption))
  k_with "W M bool" => (refine' ret_bool ?r ?_ ?F ?g ?F2; (case r => assumption); (case g => assumption); (case F => assumption); (case F2 => assumption))
  k_with "W M str" => (refine' ret_str ?r ?_ ?F ?g ?F2; (case r => assumption); (case g => assumption); (case F => assumption); (case F2 => assumption))
  k_with "W M tup" => (refine' ret_tup ?r ?F ?g ?F2 ?N ?hm ?_; (case r => assumption); (case g => assumption); (case F => assumption); (case F2 => assumption); (case N => assumption); (case hm => k_mem))
  k_with "W eval Call Name" => (k_here; (fail_if_success (with_reducible show wpAny _ _ (eval (Expr.Call (Expr.Name "range" _) _ _ _) _) _ _ _)); refine Call_ ?_)
  k_with "W call ref" => (k_here; k_dflt ((refine wpAny_call ?_); (refine' codeA ?k1 ?k2 ?k3 ?k4 ?k5 ?kA ?kF ?kK ?k6 ?k7 ?k8 ?k9 ?kB ?_ ?c2 ?c3 ?c4 ?c5; (case kA => exact rfl); (case kF => exact rfl); (case kK => first | assumption | exact rfl); (case k1 => k_asm); (case k2 => k_asm); (case k3 => k_asm); (case k4 => k_asm); (case k5 => k_asm); (case k6 => k_is); (case k7 => k_is); (case k8 => ((try dsimp (zetaDelta := true) only [Around.deeper, ktrTop]); ktr_room)); (case k9 => exact BindsTo.of_eq rfl); (case c5 => decide); (case kB => exact locs rfl); (case c2 => exact rfl); (case c3 => exact rfl); (case c4 => exact rfl); k_whole; intro m9 _ _ _ _ _ _ _ _ _ A9; (try dsimp only); (try (walk_at "M fold")))))
  k_with "W ite" => (k_closed; k_dflt (first | refine ite_pos (by decide +kernel) ?_ | refine ite_neg (by decide +kernel) ?_))
  k_with "W M val" => (refine' ret_val (t := 0) ?r ?_ ?F ?g ?F2; (case r => assumption); (case g => assumption); (case F => assumption); (case F2 => assumption))
  k_with "W eval Name" => (k_here; name_kind "globalImplicit"; k_dflt (first | (refine' nameK ?F ?X ?T ?e ?c ?_; (case F => k_asm); (case X => k_asm); (case T => k_asm); (case e => k_is); (case c => kernel_rfl!); k_whole) | (refine' nameB ?F ?X ?T ?e ?v ?n ?c ?_; (case F => k_asm); (case X => k_asm); (case T => k_asm); (case e => k_is); (case v => boot_fast); (case n => decide); (case c => kernel_rfl!); k_whole)))
  k_with "W eval Name" => (k_here; name_kind "local"; k_dflt (refine' nameL ?F ?v ?c ?_; (case F => k_asm); (case v => exact @rfl _ (some _)); (case c => kernel_rfl!); k_whole))
  k_with "W subscriptTail Name Constant ref int" => (k_here; (with_reducible show wpAny _ _ (subscriptTail _ _ (Value.ref _) (Value.int _ _)) _ _ _); k_dflt (refine' item_tupleT ?t ?a ?b ?c ?d ?_ ?hs; (case t => exact News.isTup (by k_asm) (by k_mem)); (case a => decide +kernel); (case b => decide +kernel); (case c => exact rfl); (case d => exact rfl); (case hs => kernel_rfl!); k_whole))
  k_with "W ite" => first | with_reducible refine ite_tt ?_ | with_reducible refine ite_ff ?_
  k_with "W eval Call Name" => (k_here; (with_reducible show wpAny _ _ (eval (Expr.Call (Expr.Name _ _) [_, _, _, _] [] _) _) _ _ _); k_dflt ((refine' callD4 ?F ?X ?T ?e ?hf ?hp ?c ?_; (case F => k_asm); (case X => k_asm); (case T => k_asm); (case e => k_is); (case hf => k_is); (case hp => kernel_rfl!); (case c => kernel_rfl!); k_whole)))
  k_with "W eval Call Name" => (k_here; (with_reducible show wpAny _ _ (eval (Expr.Call (Expr.Name _ _) [_, _, _] [] _) _) _ _ _); k_dflt ((refine' callD3 ?F ?X ?T ?e ?hf ?hp ?c ?_; (case F => k_asm); (case X => k_asm); (case T => k_asm); (case e => k_is); (case hf => k_is); (case hp => kernel_rfl!); (case c => kernel_rfl!); k_whole)))
  k_with "W eval Call Name" => (k_here; (with_reducible show wpAny _ _ (eval (Expr.Call (Expr.Name _ _) [_, _] [] _) _) _ _ _); (fail_if_success (with_reducible show wpAny _ _ (eval (Expr.Call (Expr.Name "str" _) _ _ _) _) _ _ _)); (fail_if_success (with_reducible show wpAny _ _ (eval (Expr.Call (Expr.Name "int" _) _ _ _) _) _ _ _)); (fail_if_success (with_reducible show wpAny _ _ (eval (Expr.Call (Expr.Name "range" _) _ _ _) _) _ _ _)); (fail_if_success (with_reducible show wpAny _ _ (eval (Expr.Call (Expr.Name "zip" _) _ _ _) _) _ _ _)); k_dflt (first | (refine' callD2 ?F ?X ?T ?e ?hf ?hp ?c ?_; (case F => k_asm); (case X => k_asm); (case T => k_asm); (case e => k_is); (case hf => k_is); (case hp => kernel_rfl!); (case c => kernel_rfl!); k_whole) | (refine' callB2 ?F ?X ?T ?e ?v ?n ?hp ?c ?_; (case F => k_asm); (case X => k_asm); (case T => k_asm); (case e => k_is); (case v => boot_fast); (case n => decide); (case hp => kernel_rfl!); (case c => kernel_rfl!); k_whole)))
  k_with "W eval Call Name" => (k_here; (with_reducible show wpAny _ _ (eval (Expr.Call (Expr.Name _ _) [_] [] _) _) _ _ _); (fail_if_success (with_reducible show wpAny _ _ (eval (Expr.Call (Expr.Name "str" _) _ _ _) _) _ _ _)); (fail_if_success (with_reducible show wpAny _ _ (eval (Expr.Call (Expr.Name "int" _) _ _ _) _) _ _ _)); (fail_if_success (with_reducible show wpAny _ _ (eval (Expr.Call (Expr.Name "range" _) _ _ _) _) _ _ _)); (fail_if_success (with_reducible show wpAny _ _ (eval (Expr.Call (Expr.Name "zip" _) _ _ _) _) _ _ _)); k_dflt (first | (refine' callD1 ?F ?X ?T ?e ?hf ?hp ?c ?_; (case F => k_asm); (case X => k_asm); (case T => k_asm); (case e => k_is); (case hf => k_is); (case hp => kernel_rfl!); (case c => kernel_rfl!); k_whole) | (refine' callB1 ?F ?X ?T ?e ?v ?n ?hp ?c ?_; (case F => k_asm); (case X => k_asm); (case T => k_asm); (case e => k_is); (case v => boot_fast); (case n => decide); (case hp => kernel_rfl!); (case c => kernel_rfl!); k_whole)))
  k_with "W eval Constant int" => (k_here; (with_reducible refine constI ?_))
  k_with "W eval Constant str" => (k_here; (with_reducible refine constS ?_))
  k_with "W binaryOp Add int int" => (k_here; (with_reducible refine addI ?_))
  k_with "W binaryOp Sub int int" => (k_here; (with_reducible refine subI ?_))
  k_with "W storeName" => (k_here; (fail_if_success (with_reducible rename Plain9 => hPl9)); k_dflt (refine' storeA ?F ?N ?c ?_; (case F => k_asm); (case N => k_asm); (case c => kernel_rfl!); k_whole; intro m9 h9 F9 N9; (try k_sweep)))
  k_with "W eval Subscript Name Constant" => (k_here; (with_reducible show wpAny _ _ (eval (Expr.Subscript (Expr.Name _ _) (Expr.Constant (Const.int _) _ _) _) _) _ _ _); k_dflt (refine' subT ?F ?v ?c ?t ?k ?cj ?dj ?_; (case F => k_asm); (case v => exact @rfl _ (some (Value.ref _))); (case c => kernel_rfl!); (case t => exact News.isTup (by k_asm) (by k_mem)); (case k => kernel_rfl!); (case cj => exact rfl); (case dj => exact rfl); k_whole))
  k_with "W call ref" => (k_here; (with_reducible show wpAny _ _ (call (Value.ref 28) _) _ _ _); k_dflt (refine' use_int (ct_pack _ _ _ _ _ _ _ ?c1 ?c2) ?k1 ?k2 ?k3 ?k4 ?k5 ?kK ?kp ?kd ?ku ?_; (case k1 => k_asm); (case k2 => k_asm); (case k3 => k_asm); (case k4 => k_asm); (case k5 => k_asm); (case kK => first | exact rfl | assumption); (case kp => exact True.intro); (case c1 => omega); (case c2 => omega); (case kd => ((try dsimp (zetaDelta := true) only [Around.deeper, ktrTop]); ktr_room)); (case ku => ((try dsimp (zetaDelta := true) only [Around.deeper, ktrTop]); ktr_units)); intro t9 h9 tk9 F9 N9; (try dsimp only); (try (walk_at "M foldQ")); (walk_say "USE ct_pack")))
  k_with "W call ref" => (k_here; (with_reducible show wpAny _ _ (call (Value.ref 35) _) _ _ _); k_dflt (refine' use_bool (ct_is_negative _ _ _) ?k1 ?k2 ?k3 ?k4 ?k5 ?kK ?kp ?kd ?ku ?_; (case k1 => k_asm); (case k2 => k_asm); (case k3 => k_asm); (case k4 => k_asm); (case k5 => k_asm); (case kK => first | exact rfl | assumption); (case kp => exact True.intro); (case kd => ((try dsimp (zetaDelta := true) only [Around.deeper, ktrTop]); ktr_room)); (case ku => ((try dsimp (zetaDelta := true) only [Around.deeper, ktrTop]); ktr_units)); intro h9 tk9 F9 N9; (try dsimp only); (try (walk_at "M foldQ")); (walk_say "USE ct_is_negative")))
  k_with "W call ref" => (k_here; (with_reducible show wpAny _ _ (call (Value.ref 42) _) _ _ _); k_dflt (refine' use_bool (ct_is_nan _ _ _) ?k1 ?k2 ?k3 ?k4 ?k5 ?kK ?kp ?kd ?ku ?_; (case k1 => k_asm); (case k2 => k_asm); (case k3 => k_asm); (case k4 => k_asm); (case k5 => k_asm); (case kK => first | exact rfl | assumption); (case kp => exact True.intro); (case kd => ((try dsimp (zetaDelta := true) only [Around.deeper, ktrTop]); ktr_room)); (case ku => ((try dsimp (zetaDelta := true) only [Around.deeper, ktrTop]); ktr_units)); intro h9 tk9 F9 N9; (try dsimp only); (try (walk_at "M foldQ")); (walk_say "USE ct_is_nan")))
  k_with "W call ref" => (k_here; (with_reducible show wpAny _ _ (call (Value.ref 49) _) _ _ _); k_dflt (refine' use_bool (ct_is_inf _ _ _) ?k1 ?k2 ?k3 ?k4 ?k5 ?kK ?kp ?kd ?ku ?_; (case k1 => k_asm); (case k2 => k_asm); (case k3 => k_asm); (case k4 => k_asm); (case k5 => k_asm); (case kK => first | exact rfl | assumption); (case kp => exact True.intro); (case kd => ((try dsimp (zetaDelta := true) only [Around.deeper, ktrTop]); ktr_room)); (case ku => ((try dsimp (zetaDelta := true) only [Around.deeper, ktrTop]); ktr_units)); intro h9 tk9 F9 N9; (try dsimp only); (try (walk_at "M foldQ")); (walk_say "USE ct_is_inf")))
  k_with "W call ref" => (k_here; (with_reducible show wpAny _ _ (call (Value.ref 56) _) _ _ _); k_dflt (refine' use_bool (ct_is_zero _ _ _) ?k1 ?k2 ?k3 ?k4 ?k5 ?kK ?kp ?kd ?ku ?_; (case k1 => k_asm); (case k2 => k_asm); (case k3 => k_asm); (case k4 => k_asm); (case k5 => k_asm); (case kK => first | exact rfl | assumption); (case kp => exact True.intro); (case kd => ((try dsimp (zetaDelta := true) only [Around.deeper, ktrTop]); ktr_room)); (case ku => ((try dsimp (zetaDelta := true) only [Around.deeper, ktrTop]); ktr_units)); intro h9 tk9 F9 N9; (try dsimp only); (try (walk_at "M foldQ")); (walk_say "USE ct_is_zero")))
  k_with "W call ref" => (k_here; (with_reducible show wpAny _ _ (call (Value.ref 63) _) _ _ _); k_dflt (refine' use_int (ct_signed _ _ _ _ _ ?c1) ?k1 ?k2 ?k3 ?k4 ?k5 ?kK ?kp ?kd ?ku ?_; (case k1 => k_asm); (case k2 => k_asm); (case k3 => k_asm); (case k4 => k_asm); (case k5 => k_asm); (case kK => first | exact rfl | assumption); (case kp => exact True.intro); (case c1 => omega); (case kd => ((try dsimp (zetaDelta := true) only [Around.deeper, ktrTop]); ktr_room)); (case ku => ((try dsimp (zetaDelta := true) only [Around.deeper, ktrTop]); ktr_units)); intro t9 h9 tk9 F9 N9; (try dsimp only); (try (walk_at "M foldQ")); (walk_say "USE ct_signed")))
  k_with "W M sz" => first | with_reducible assumption | exact sz_pow10 (by omega) | (refine' sz_mul ?sza ?szb; (case sza => walk_at "M sz"); (case szb => walk_at "M sz")) | (refine' sz_shl ?szh ?szn; (case szh => walk_at "M sz"); (case szn => omega))
  k_with "W M nz" => first | with_reducible assumption | omega | (refine nz_shl ?_; walk_at "M nz")
  k_with "W binaryOp LShift int int" => (k_here; (with_reducible refine lshift_int ?sa ?sb ?_); (case sa => omega); (case sb => (refine' sh_size ?ss ?st; (case ss => walk_at "M sz"); (case st => omega))))
  k_with "W binaryOp FloorDiv int int" => (k_here; (with_reducible refine floordiv_int ?sh ?_ (Or.inl (PyProof.noPylong_of_log2 ?sp))); (case sh => walk_at "M nz"); (case sp => (refine' py_of ?ss ?st; (case ss => walk_at "M sz"); (case st => decide))))
  k_with "W binaryOp Mod int int" => (k_here; (with_reducible refine mod_int' ?sh ?_); (case sh => walk_at "M nz"))
  k_with "W binaryOp Mult int int" => (k_here; (with_reducible refine mul_int ?_ ?sm); (case sm => (refine' mul_ok ?sa ?sb ?sc ?sd; (case sa => walk_at "M sz"); (case sb => walk_at "M sz"); (case sc => decide); (case sd => decide))))
  exact True.intro

theorem wd_30_1 : True := by
  k_with "W call ref" => (k_here; (with_reducible show wpAny _ _ (call (Value.ref 21) _) _ _ _); k_dflt (refine' use_int (ct_width _ _ _ ?c1) ?k1 ?k2 ?k3 ?k4 ?k5 ?kK ?kp ?kd ?ku ?_; (case k1 => k_asm); (case k2 => k_asm); (case k3 => k_asm); (case k4 => k_asm); (case k5 => k_asm); (case kK => first | exact rfl | assumption); (case kp => exact True.intro); (case c1 => first | omega | assumption); (case kd => ((try dsimp (zetaDelta := true) only [Around.deeper, ktrTop]); ktr_room)); (case ku => ((try dsimp (zetaDelta := true) only [Around.deeper, ktrTop]); ktr_units)); intro t9 h9 tk9 F9 N9; (try dsimp only); (try (walk_at "M foldQ")); (walk_say "USE ct_width")))
  exact True.intro
abbrev Is3 (x y z : Int) : List Value → Prop := fun vs => ∃ t u v, vs = [.int x t, .int y u, .int z v]
def expL (x : Int) : Int := Builtin.bitAnd (x.fdiv (2 ^ Int.toNat 52)) 2047
def sigL (x : Int) : Int := x.fdiv (2 ^ Int.toNat 63)
def manL (x : Int) : Int := if expL x = 0 then Builtin.bitAnd x 4503599627370495 else Builtin.bitOr (Builtin.bitAnd x 4503599627370495) 4503599627370496
def powL (x : Int) : Int := if expL x = 0 then -1074 else expL x - 1075
theorem ct_parts (w : World) (x : Int) (t : Tok) : Ct w 1 70 [.int x t] (fun _ => True) (RetT (Is3 (sigL x) (manL x) (powL x))) := by
  walk_at "M enter"
  k_steps
  · walk_at "M tup"
    rename (_ = (0 : Int)) => h
    have h' : expL x = 0 := h
    exact ⟨_, _, _, by simp only [manL, powL, if_pos h']; rfl⟩
  · walk_at "M tup"
    rename (_ ≠ (0 : Int)) => h
    have h' : ¬ expL x = 0 := h
    exact ⟨_, _, _, by simp only [manL, powL, if_neg h']; rfl⟩
theorem wd_40_0 : True := by
  k_with "W call ref" => (k_here; (with_reducible show wpAny _ _ (call (Value.ref 70) _) _ _ _); k_dflt (refine' use_tup (ct_parts _ _ _) ?k1 ?k2 ?k3 ?k4 ?k5 ?kK ?kp ?kd ?ku ?_; (case k1 => k_asm); (case k2 => k_asm); (case k3 => k_asm); (case k4 => k_asm); (case k5 => k_asm); (case kK => first | exact rfl | assumption); (case kp => exact True.intro); (case kd => ((try dsimp (zetaDelta := true) only [Around.deeper, ktrTop]); ktr_room)); (case ku => ((try dsimp (zetaDelta := true) only [Around.deeper, ktrTop]); ktr_units)); intro D9 us9 n9 h9 tk9 hI9 F9 N9 hne9; (obtain ⟨t9, u9, v9, e9⟩ := hI9); subst e9; (try dsimp only); (try (walk_at "M foldQ")); (walk_say "USE ct_parts")))
  exact True.intro
def quT (t p : Int) : Int := if 0 ≤ p then t else t * 2 ^ (-p).toNat
def quB (b p : Int) : Int := if 0 ≤ p then b * 2 ^ p.toNat else b
theorem ct_quotient (w : World) (x y z : Int) (t u v : Tok) (hx : Sz x 2200) (hy0 : y ≠ 0) (hy : Sz y 1200) (hz : -1100 ≤ z ∧ z ≤ 2300) :
    Ct w 1 77 [.int x t, .int y u, .int z v] (fun _ => True) (RetT (Is3 ((quT x z).fdiv (quB y z)) ((quT x z).fmod (quB y z)) (quB y z))) := by
  walk_at "M enter"
  k_steps
  · walk_at "M tup"
    rename (0 ≤ z) => h
    exact ⟨_, _, _, by simp only [quT, quB, if_pos h]; rfl⟩
  · walk_at "M tup"
    rename (¬ 0 ≤ z) => h
    exact ⟨_, _, _, by simp only [quT, quB, if_neg h]; rfl⟩
theorem wd_40_1 : True := by
  k_with "W call ref" => (k_here; (with_reducible show wpAny _ _ (call (Value.ref 77) _) _ _ _); k_dflt (refine' use_tup (ct_quotient _ _ _ _ _ _ _ ?c1 ?c2 ?c3 ?c4) ?k1 ?k2 ?k3 ?k4 ?k5 ?kK ?kp ?kd ?ku ?_; (case k1 => k_asm); (case k2 => k_asm); (case k3 => k_asm); (case k4 => k_asm); (case k5 => k_asm); (case kK => first | exact rfl | assumption); (case kp => exact True.intro); (case c1 => walk_at "M sz"); (case c2 => walk_at "M nz"); (case c3 => walk_at "M sz"); (case c4 => omega); (case kd => ((try dsimp (zetaDelta := true) only [Around.deeper, ktrTop]); ktr_room)); (case ku => ((try dsimp (zetaDelta := true) only [Around.deeper, ktrTop]); ktr_units)); intro D9 us9 n9 h9 tk9 hI9 F9 N9 hne9; (obtain ⟨t9, u9, v9, e9⟩ := hI9); subst e9; (try dsimp only); (try (walk_at "M foldQ")); (walk_say "USE ct_quotient")))
  exact True.intro
def asmL (s x p : Int) : Int :=
  if x = 4503599627370496 * 2 ^ Int.toNat 1 then
    (if 2047 ≤ p + 1 + 1075 then signedL s 9218868437227405312 else packL s (p + 1 + 1075) (4503599627370496 - 4503599627370496))
  else if x < 4503599627370496 then Builtin.bitOr (s * 2 ^ Int.toNat 63) x
  else if 2047 ≤ p + 1075 then signedL s 9218868437227405312
  else packL s (p + 1075) (x - 4503599627370496)
theorem ct_assembled (w : World) (s x p : Int) (t u v : Tok) (hs : 0 ≤ s ∧ s ≤ 1) (hp : -1074 ≤ p) :
    Ct w 2 91 [.int s t, .int x u, .int p v] (fun _ => True) (RetI (asmL s x p)) := by
  walk_at "M enter"
  k_steps
  all_goals (walk_at "M int"; simp only [asmL]; (repeat' split) <;> first | rfl | (exfalso; omega))

theorem wd_40_2 : True := by
  k_with "W call ref" => (k_here; (with_reducible show wpAny _ _ (call (Value.ref 91) _) _ _ _); k_dflt (refine' use_int (ct_assembled _ _ _ _ _ _ _ ?c1 ?c2) ?k1 ?k2 ?k3 ?k4 ?k5 ?kK ?kp ?kd ?ku ?_; (case k1 => k_asm); (case k2 => k_asm); (case k3 => k_asm); (case k4 => k_asm); (case k5 => k_asm); (case kK => first | exact rfl | assumption); (case kp => exact True.intro); (case c1 => omega); (case c2 => omega); (case kd => ((try dsimp (zetaDelta := true) only [Around.deeper, ktrTop]); ktr_room)); (case ku => ((try dsimp (zetaDelta := true) only [Around.deeper, ktrTop]); ktr_units)); intro t9 h9 tk9 F9 N9; (try dsimp only); (try (walk_at "M foldQ")); (walk_say "USE ct_assembled")))
  exact True.intro
theorem wd_le {x : Int} {k : Nat} (h : Sz x k) : wd x ≤ k := by
  unfold wd
  split
  · omega
  · rename_i h0
    have e : x.toNat = x.natAbs := by omega
    have h1 : x.natAbs ≠ 0 := by omega
    have := (Nat.log2_lt h1).mpr h
    rw [e]; omega
def rndL (s x y p : Int) : Int :=
  if quB y p < 2 * (quT x p).fmod (quB y p) then asmL s ((quT x p).fdiv (quB y p) + 1) p
  else if 2 * (quT x p).fmod (quB y p) = quB y p then
    (if ((quT x p).fdiv (quB y p)).fmod 2 = 1 then asmL s ((quT x p).fdiv (quB y p) + 1) p else asmL s ((quT x p).fdiv (quB y p)) p)
  else asmL s ((quT x p).fdiv (quB y p)) p
def rrP (x y : Int) : Int := if -1074 > wd x - wd y - 53 then -1074 else wd x - wd y - 53
def rrL (s x y : Int) : Int :=
  if x = 0 then s * 2 ^ Int.toNat 63
  else if 4503599627370496 * 2 ^ Int.toNat 1 ≤ (quT x (rrP x y)).fdiv (quB y (rrP x y)) then rndL s x y (rrP x y + 1) else rndL s x y (rrP x y)
section
variable {s x y p : Int}
theorem rnd1 (h : quB y p < 2 * (quT x p).fmod (quB y p)) : asmL s ((quT x p).fdiv (quB y p) + 1) p = rndL s x y p := by rw [rndL, if_pos h]
theorem rnd2 (h : ¬ quB y p < 2 * (quT x p).fmod (quB y p)) (h2 : 2 * (quT x p).fmod (quB y p) = quB y p) (h3 : ((quT x p).fdiv (quB y p)).fmod 2 = 1) :
    asmL s ((quT x p).fdiv (quB y p) + 1) p = rndL s x y p := by rw [rndL, if_neg h, if_pos h2, if_pos h3]
theorem rnd3 (h : ¬ quB y p < 2 * (quT x p).fmod (quB y p)) (h2 : 2 * (quT x p).fmod (quB y p) = quB y p) (h3 : ((quT x p).fdiv (quB y p)).fmod 2 ≠ 1) :
    asmL s ((quT x p).fdiv (quB y p)) p = rndL s x y p := by rw [rndL, if_neg h, if_pos h2, if_neg h3]
theorem rnd4 (h : ¬ quB y p < 2 * (quT x p).fmod (quB y p)) (h2 : 2 * (quT x p).fmod (quB y p) ≠ quB y p) :
    asmL s ((quT x p).fdiv (quB y p)) p = rndL s x y p := by rw [rndL, if_neg h, if_neg h2]
theorem rr0 (h : x = 0) : s * 2 ^ Int.toNat 63 = rrL s x y := by rw [rrL, if_pos h]
theorem rrA (h : x ≠ 0) (h2 : 4503599627370496 * 2 ^ Int.toNat 1 ≤ (quT x (rrP x y)).fdiv (quB y (rrP x y))) : rndL s x y (rrP x y + 1) = rrL s x y := by rw [rrL, if_neg h, if_pos h2]
theorem rrB (h : x ≠ 0) (h2 : ¬ 4503599627370496 * 2 ^ Int.toNat 1 ≤ (quT x (rrP x y)).fdiv (quB y (rrP x y))) : rndL s x y (rrP x y) = rrL s x y := by rw [rrL, if_neg h, if_neg h2]
end
theorem ct_round_ratio (w : World) (s x y : Int) (t u v : Tok) (hs : 0 ≤ s ∧ s ≤ 1) (hx0 : 0 ≤ x) (hx : Sz x 1200) (hy0 : 0 < y) (hy : Sz y 1200) :
    Ct w 3 84 [.int s t, .int x u, .int y v] (fun _ => True) (RetI (rrL s x y)) := by
  have hw1 := wd_nonneg x
  have hw2 := wd_nonneg y
  have hw3 : wd x ≤ 1200 := wd_le hx
  have hw4 : wd y ≤ 1200 := wd_le hy
  have hy1 : y ≠ 0 := by omega
  have hx2 : Sz x 2200 := hx.mono (by decide)
  walk_at "M enter"
  k_steps
  all_goals (
    walk_at "M int"
    first
      | exact rr0 (by with_reducible assumption)
      | ((first | refine Eq.trans ?_ (rrA (by assumption) (by assumption)) | refine Eq.trans ?_ (rrB (by assumption) (by assumption))); first
        | exact rnd1 (by with_reducible assumption)
        | exact rnd2 (by with_reducible assumption) (by with_reducible assumption) (by with_reducible assumption)
        | exact rnd3 (by with_reducible assumption) (by with_reducible assumption) (by with_reducible assumption)
        | exact rnd4 (by with_reducible assumption) (by with_reducible assumption)))

theorem wd_50_0 : True := by
  k_with "W call ref" => (k_here; (with_reducible show wpAny _ _ (call (Value.ref 84) _) _ _ _); k_dflt (refine' use_int (ct_round_ratio _ _ _ _ _ _ _ ?c1 ?c2 ?c3 ?c4 ?c5) ?k1 ?k2 ?k3 ?k4 ?k5 ?kK ?kp ?kd ?ku ?_; (case k1 => k_asm); (case k2 => k_asm); (case k3 => k_asm); (case k4 => k_asm); (case k5 => k_asm); (case kK => first | exact rfl | assumption); (case kp => exact True.intro); (case c1 => omega); (case c2 => first | omega | decide +kernel); (case c3 => first | walk_at "M sz" | (unfold Sz; decide +kernel)); (case c4 => first | omega | decide +kernel); (case c5 => first | walk_at "M sz" | (unfold Sz; decide +kernel)); (case kd => ((try dsimp (zetaDelta := true) only [Around.deeper, ktrTop]); ktr_room)); (case ku => ((try dsimp (zetaDelta := true) only [Around.deeper, ktrTop]); ktr_units)); intro t9 h9 tk9 F9 N9; (try dsimp only); (try (walk_at "M foldQ")); (walk_say "USE ct_round_ratio")))
  exact True.intro
def fiL (n : Int) : Int := rrL (if n < 0 then 1 else 0) (if n < 0 then -n else n) 1
theorem ct_from_int (w : World) (n : Int) (t : Tok) (hn : Sz n 1100) : Ct w 4 105 [.int n t] (fun _ => True) (RetI (fiL n)) := by
  have h0 : 0 ≤ (if n < 0 then -n else n) := by split <;> omega
  have hs : Sz (if n < 0 then -n else n) 1200 := by
    have := hn.mono (show 1100 ≤ 1200 by decide)
    unfold Sz at *
    split <;> omega
  have h1 : Sz 1 1200 := by unfold Sz; exact Nat.one_lt_two_pow (by decide)
  walk_at "M enter"
  k_steps
  · walk_at "M int"
    rename (n < 0) => h
    rw [fiL, show (if n < 0 then (1 : Int) else 0) = 1 from if_pos h]
  · walk_at "M int"
    rename (¬ n < 0) => h
    rw [fiL, show (if n < 0 then (1 : Int) else 0) = 0 from if_neg h]
theorem wd_52_0 : True := by
  k_with "W call ref" => (k_here; (with_reducible show wpAny _ _ (call (Value.ref 105) _) _ _ _); k_dflt (refine' use_int (ct_from_int _ _ _ ?c1) ?k1 ?k2 ?k3 ?k4 ?k5 ?kK ?kp ?kd ?ku ?_; (case k1 => k_asm); (case k2 => k_asm); (case k3 => k_asm); (case k4 => k_asm); (case k5 => k_asm); (case kK => first | exact rfl | assumption); (case kp => exact True.intro); (case c1 => walk_at "M sz"); (case kd => ((try dsimp (zetaDelta := true) only [Around.deeper, ktrTop]); ktr_room)); (case ku => ((try dsimp (zetaDelta := true) only [Around.deeper, ktrTop]); ktr_units)); intro t9 h9 tk9 F9 N9; (try dsimp only); (try (walk_at "M foldQ")); (walk_say "USE ct_from_int")))
  exact True.intro
def rsL (s m p : Int) : Int :=
  if m = 0 then s * 2 ^ Int.toNat 63
  else if wd m + p ≤ -1074 - 1 then s * 2 ^ Int.toNat 63
  else if 1024 < wd m + p then signedL s 9218868437227405312
  else rrL s m (1 * 2 ^ (-p).toNat)
theorem ct_round_scaled (w : World) (s m p : Int) (t u v : Tok) (hs : 0 ≤ s ∧ s ≤ 1) (hm0 : 0 ≤ m) (hm : Sz m 1200) (hp : -1074 ≤ p ∧ p < 0) :
    Ct w 4 98 [.int s t, .int m u, .int p v] (fun _ => True) (RetI (rsL s m p)) := by
  have h1 : Sz (1 * 2 ^ (-p).toNat) 1200 := by
    unfold Sz
    rw [Int.one_mul, natAbs_pow2]
    exact Nat.pow_lt_pow_right (by decide) (by omega)
  have h2 : 0 < (1 : Int) * 2 ^ (-p).toNat := by have := kbt_pos (-p).toNat; omega
  walk_at "M enter"
  k_steps
  all_goals (walk_at "M int"; rw [rsL])
  · rename (m = 0) => h
    rw [if_pos h]
  all_goals (rename (m ≠ 0) => h; rw [if_neg h])
  · rename (_ ≤ (-1074 - 1 : Int)) => h
    rw [if_pos h]
  all_goals (rename (¬ _ ≤ (-1074 - 1 : Int)) => h; rw [if_neg h])
  · rename (1024 < _) => h
    rw [if_pos h]
  · rename (¬ 1024 < _) => h
    rw [if_neg h]

theorem wd_52_1 : True := by
  k_with "W call ref" => (k_here; (with_reducible show wpAny _ _ (call (Value.ref 98) _) _ _ _); k_dflt (refine' use_int (ct_round_scaled _ _ _ _ _ _ _ ?c1 ?c2 ?c3 ?c4) ?k1 ?k2 ?k3 ?k4 ?k5 ?kK ?kp ?kd ?ku ?_; (case k1 => k_asm); (case k2 => k_asm); (case k3 => k_asm); (case k4 => k_asm); (case k5 => k_asm); (case kK => first | exact rfl | assumption); (case kp => exact True.intro); (case c1 => omega); (case c2 => omega); (case c3 => walk_at "M sz"); (case c4 => omega); (case kd => ((try dsimp (zetaDelta := true) only [Around.deeper, ktrTop]); ktr_room)); (case ku => ((try dsimp (zetaDelta := true) only [Around.deeper, ktrTop]); ktr_units)); intro t9 h9 tk9 F9 N9; (try dsimp only); (try (walk_at "M foldQ")); (walk_say "USE ct_round_scaled")))
  exact True.intro
def blA : Str := ⟨#[9, 10, 11, 12, 13, 32, 160, 5760, 6158, 8192, 8193, 8194, 8195, 8196, 8197, 8198, 8199, 8200, 8201, 8202]⟩
def blB : Str := ⟨#[8232, 8233, 8239, 8287, 12288, 65279]⟩
def isBlankL (x : Str) : Bool := !(Builtin.Str.occurrences blA x 0 blA.length 1).isEmpty || !(Builtin.Str.occurrences blB x 0 blB.length 1).isEmpty
theorem blank_1 {x : Str} {A B : Str} (h : (Builtin.Str.occurrences A x 0 A.length 1).isEmpty = true) (hA : A = blA) (hB : B = blB) : (!(Builtin.Str.occurrences B x 0 B.length 1).isEmpty) = isBlankL x := by
  subst hA; subst hB; unfold isBlankL; rw [h]; rfl
theorem blank_2 {x : Str} {A : Str} (hA : A = blA) (h : (Builtin.Str.occurrences A x 0 A.length 1).isEmpty = false) : (!(Builtin.Str.occurrences A x 0 A.length 1).isEmpty) = isBlankL x := by
  subst hA; unfold isBlankL; rw [h]; rfl
theorem ct_is_blank (w : World) (x : Str) (t : Tok) : Ct w 1 112 [.str x t] (fun _ => True) (RetB (isBlankL x)) := by
  walk_at "M enter"
  k_steps
  all_goals (walk_at "M bool"; first | (refine blank_1 (by with_reducible assumption) ?_ ?_ <;> decide +kernel) | exact blank_2 (by decide +kernel) (by with_reducible assumption))
theorem wd_60_0 : True := by
  k_with "W call ref" => (k_here; (with_reducible show wpAny _ _ (call (Value.ref 112) _) _ _ _); k_dflt (refine' use_bool (ct_is_blank _ _ _) ?k1 ?k2 ?k3 ?k4 ?k5 ?kK ?kp ?kd ?ku ?_; (case k1 => k_asm); (case k2 => k_asm); (case k3 => k_asm); (case k4 => k_asm); (case k5 => k_asm); (case kK => first | exact rfl | assumption); (case kp => exact True.intro); (case kd => ((try dsimp (zetaDelta := true) only [Around.deeper, ktrTop]); ktr_room)); (case ku => ((try dsimp (zetaDelta := true) only [Around.deeper, ktrTop]); ktr_units)); intro h9 tk9 F9 N9; (try dsimp only); (try (walk_at "M foldQ")); (walk_say "USE ct_is_blank")))
  exact True.intro
theorem len_lit1 {prog : Program} {w : World} {A : Around} {E : Value → Shared → Prop} {s : Shared} {x : Str} {t : Tok} {Q : Value → Shared → Prop} (h1 : x.length = 1)
    (h : Q (.int ((1 : Nat) : Int) (s.toks + 1)) { s with toks := s.toks + 1 + 1 }) : wpAny (model prog w) A (call (.builtin "len") [.str x t]) Q E s :=
  P.len_str (by rw [h1]; decide) (by rw [h1]; exact h)

theorem wd_60_1 : True := by
  k_with "W call builtin:len" => (k_here; (with_reducible show wpAny _ _ (call (Value.builtin "len") [Value.str _ _]) _ _ _); (fail_if_success (with_reducible show wpAny _ _ (call (Value.builtin "len") [Value.str (Str.ofString _) _]) _ _ _)); (refine len_lit1 (by decide +kernel) ?_))
  k_with "W M no" => (exfalso; (with_reducible rename (_ ∨ _) => hNo); exact absurd hNo (by decide +kernel))
  k_with "W subscriptTail Name Name str int" => (k_here; (with_reducible show wpAny _ _ (subscriptTail _ _ (Value.str _ _) (Value.int _ _)) _ _ _); (refine KXi.item rfl (by decide +kernel) (by decide +kernel) (by decide +kernel) ?_); intro kxiE)
  k_with "W subscriptTail Name BinOp str int" => (k_here; (with_reducible show wpAny _ _ (subscriptTail _ _ (Value.str _ _) (Value.int _ _)) _ _ _); (refine KXi.item rfl (by decide +kernel) (by decide +kernel) (by decide +kernel) ?_); intro kxiE)
  k_with "W subscriptTail Name Constant str int" => (k_here; (with_reducible show wpAny _ _ (subscriptTail _ _ (Value.str _ _) (Value.int _ _)) _ _ _); (refine KXi.item rfl (by decide +kernel) (by decide +kernel) (by decide +kernel) ?_); intro kxiE)
  k_with "W call builtin:len" => (k_here; (with_reducible show wpAny _ _ (call (Value.builtin "len") [Value.str (Str.ofString (toString _)) _]) _ _ _); (refine SBL.len (by with_reducible assumption) ?_))
  exact True.intro
def figB (x : Str) : Int := if x.cps.toList < (Str.ofString "A").cps.toList then 36 else if (Str.ofString "Z").cps.toList < x.cps.toList then 36 else (x.cps.getD 0 0 : Int) - 55
def figA (x : Str) : Int := if x.cps.toList < (Str.ofString "a").cps.toList then figB x else if (Str.ofString "z").cps.toList < x.cps.toList then figB x else (x.cps.getD 0 0 : Int) - 87
def figL (x : Str) : Int := if x.cps.toList < (Str.ofString "0").cps.toList then figA x else if (Str.ofString "9").cps.toList < x.cps.toList then figA x else (x.cps.getD 0 0 : Int) - 48
theorem ct_figure_of (w : World) (x : Str) (t : Tok) (hx : x.length = 1) : Ct w 1 133 [.str x t] (fun _ => True) (RetI (figL x)) := by
  walk_at "M enter"
  k_steps
  all_goals (walk_at "M int"; unfold figL figA figB; (repeat' split) <;> first | rfl | contradiction)

theorem wd_61_0 : True := by
  k_with "W call ref" => (k_here; (with_reducible show wpAny _ _ (call (Value.ref 133) _) _ _ _); k_dflt (refine' use_int (ct_figure_of _ _ _ ?c1) ?k1 ?k2 ?k3 ?k4 ?k5 ?kK ?kp ?kd ?ku ?_; (case k1 => k_asm); (case k2 => k_asm); (case k3 => k_asm); (case k4 => k_asm); (case k5 => k_asm); (case kK => first | exact rfl | assumption); (case kp => exact True.intro); (case c1 => first | decide +kernel | assumption | omega); (case kd => ((try dsimp (zetaDelta := true) only [Around.deeper, ktrTop]); ktr_room)); (case ku => ((try dsimp (zetaDelta := true) only [Around.deeper, ktrTop]); ktr_units)); intro t9 h9 tk9 F9 N9; (try dsimp only); (try (walk_at "M foldQ")); (walk_say "USE ct_figure_of")))
  exact True.intro
theorem ct_trimmed_E (w : World) (t : Tok) : Ct w 3 126 [.str (Str.ofString "") t] (fun _ => True) (RetS (Str.ofString "")) := by
  walk_at "M enter"
  k_steps
  all_goals first | walk_at "M no" | (walk_at "M str"; decide +kernel)
theorem ct_trimmed_s7 (w : World) (t : Tok) : Ct w 3 126 [.str (Str.ofString " 7 ") t] (fun _ => True) (RetS (Str.ofString "7")) := by
  walk_at "M enter"
  k_steps
  all_goals first | walk_at "M no" | (walk_at "M str"; decide +kernel)
/-- marks a walk over texts that are letters -/
inductive Symb : Prop where | mk
theorem wd_62_0 : True := by
  k_with "W exec While BoolOp cons nil" => (k_here; (with_reducible rename Symb => hSy9); k_dflt (refine whl_start 100 ?_))
  k_with "W WhlIf" => (k_here; first | (with_reducible refine WhlIf.yes (by with_reducible assumption) ?_) | (with_reducible refine WhlIf.no (by with_reducible assumption) ?_))
  exact True.intro
/-- a short text without a blank at either end -/
abbrev NoBl (x : Str) : Prop := 0 < x.length ∧ x.length ≤ 3 ∧ isBlankL (Txt.item x 0) = false ∧ isBlankL (Txt.item x ((x.length : Int) - 1)) = false ∧ Txt.slice x (some 0) (some (x.length : Int)) = x
theorem ct_trimmed_gen (w : World) (x : Str) (t : Tok) (hn : NoBl x) : Ct w 3 126 [.str x t] (fun _ => True) (RetS x) := by
  have hSy := Symb.mk
  obtain ⟨h1, h2, h3, h4, h5⟩ := hn
  walk_at "M enter"
  k_steps
  walk_at "M str"
  exact h5
inductive TR : Str → Str → Prop where
  | tE : TR (Str.ofString "") (Str.ofString "")
  | t1 : TR (Str.ofString "1") (Str.ofString "1")
  | t2 : TR (Str.ofString "2") (Str.ofString "2")
  | t10 : TR (Str.ofString "10") (Str.ofString "10")
  | ta : TR (Str.ofString "a") (Str.ofString "a")
  | tab : TR (Str.ofString "ab") (Str.ofString "ab")
  | tB : TR (Str.ofString "B") (Str.ofString "B")
  | tm3 : TR (Str.ofString "-3") (Str.ofString "-3")
  | ts7 : TR (Str.ofString " 7 ") (Str.ofString "7")
  | td8 : TR (Str.mk #[55296]) (Str.mk #[55296])
  | tff : TR (Str.ofString "\uffff") (Str.ofString "\uffff")
theorem ct_trimmed (w : World) (x y : Str) (t : Tok) (h : TR x y) : Ct w 3 126 [.str x t] (fun _ => True) (RetS y) := by
  cases h
  case tE => exact ct_trimmed_E w t
  case ts7 => exact ct_trimmed_s7 w t
  all_goals exact ct_trimmed_gen w _ t (by decide +kernel)

theorem wd_62_1 : True := by
  k_with "W call ref" => (k_here; (with_reducible show wpAny _ _ (call (Value.ref 126) _) _ _ _); k_dflt (refine' use_str (ct_trimmed _ _ _ _ ?c1) ?k1 ?k2 ?k3 ?k4 ?k5 ?kK ?kp ?kd ?ku ?_; (case k1 => k_asm); (case k2 => k_asm); (case k3 => k_asm); (case k4 => k_asm); (case k5 => k_asm); (case kK => first | exact rfl | assumption); (case kp => exact True.intro); (case c1 => first | with_reducible assumption | with_reducible exact TR.tE | with_reducible exact TR.t1 | with_reducible exact TR.t2 | with_reducible exact TR.t10 | with_reducible exact TR.ta | with_reducible exact TR.tab | with_reducible exact TR.tB | with_reducible exact TR.tm3 | with_reducible exact TR.ts7 | with_reducible exact TR.td8 | with_reducible exact TR.tff); (case kd => ((try dsimp (zetaDelta := true) only [Around.deeper, ktrTop]); ktr_room)); (case ku => ((try dsimp (zetaDelta := true) only [Around.deeper, ktrTop]); ktr_units)); intro t9 h9 tk9 F9 N9; (try dsimp only); (try (walk_at "M foldQ")); (walk_say "USE ct_trimmed")))
  exact True.intro
def numL (x : Str) : Int := x.cps.toList.foldl (fun (a : Int) (c : Nat) => a * 10 + ((c : Int) - 48)) 0
def NumTxt (x : Str) : Prop := x = Str.ofString "1" ∨ x = Str.ofString "2" ∨ x = Str.ofString "3" ∨ x = Str.ofString "7" ∨ x = Str.ofString "10"
theorem ct_worth (w : World) (x : Str) (b e : Int) (t u v r : Tok) (hx : NumTxt x) (hb : b = 0) (he : e = x.length) : Ct w 2 147 [.str x t, .int b u, .int e v, .int 10 r] (fun _ => True) (RetI (numL x)) := by
  subst hb; subst he
  rcases hx with rfl | rfl | rfl | rfl | rfl
  · rw [show ((Str.ofString "1").length : Int) = 1 by decide +kernel]
    walk_at "M enter"
    k_steps
    all_goals first | walk_at "M no" | (walk_at "M int"; decide +kernel)
  · rw [show ((Str.ofString "2").length : Int) = 1 by decide +kernel]
    walk_at "M enter"
    k_steps
    all_goals first | walk_at "M no" | (walk_at "M int"; decide +kernel)
  · rw [show ((Str.ofString "3").length : Int) = 1 by decide +kernel]
    walk_at "M enter"
    k_steps
    all_goals first | walk_at "M no" | (walk_at "M int"; decide +kernel)
  · rw [show ((Str.ofString "7").length : Int) = 1 by decide +kernel]
    walk_at "M enter"
    k_steps
    all_goals first | walk_at "M no" | (walk_at "M int"; decide +kernel)
  · rw [show ((Str.ofString "10").length : Int) = 2 by decide +kernel]
    walk_at "M enter"
    k_steps
    all_goals first | walk_at "M no" | (walk_at "M int"; decide +kernel)
theorem wd_63_0 : True := by
  k_with "W call ref" => (k_here; (with_reducible show wpAny _ _ (call (Value.ref 147) _) _ _ _); k_dflt (refine' use_int (ct_worth _ _ _ _ _ _ _ _ ?c1 ?c2 ?c3) ?k1 ?k2 ?k3 ?k4 ?k5 ?kK ?kp ?kd ?ku ?_; (case k1 => k_asm); (case k2 => k_asm); (case k3 => k_asm); (case k4 => k_asm); (case k5 => k_asm); (case kK => first | exact rfl | assumption); (case kp => exact True.intro); (case c1 => (unfold NumTxt; decide +kernel)); (case c2 => decide +kernel); (case c3 => decide +kernel); (case kd => ((try dsimp (zetaDelta := true) only [Around.deeper, ktrTop]); ktr_room)); (case ku => ((try dsimp (zetaDelta := true) only [Around.deeper, ktrTop]); ktr_units)); intro t9 h9 tk9 F9 N9; (try dsimp only); (try (walk_at "M foldQ")); (walk_say "USE ct_worth")))
  exact True.intro
theorem ct_from_decimal (w : World) (x : Str) (e : Int) (t u : Tok) (hx : NumTxt x) (he : e = 0) : Ct w 6 154 [.str x t, .int e u] (fun _ => True) (RetI (rrL 0 (numL x) 1)) := by
  subst he
  have hq : ∀ n : Int, n * 10 ^ Int.toNat 0 = n := fun n => Int.mul_one n
  rcases hx with rfl | rfl | rfl | rfl | rfl
  all_goals (
    walk_at "M enter"
    k_steps
    all_goals (walk_at "M int"; rw [hq]))

theorem wd_63_1 : True := by
  k_with "W call ref" => (k_here; (with_reducible show wpAny _ _ (call (Value.ref 154) _) _ _ _); k_dflt (refine' use_int (ct_from_decimal _ _ _ _ _ ?c1 ?c2) ?k1 ?k2 ?k3 ?k4 ?k5 ?kK ?kp ?kd ?ku ?_; (case k1 => k_asm); (case k2 => k_asm); (case k3 => k_asm); (case k4 => k_asm); (case k5 => k_asm); (case kK => first | exact rfl | assumption); (case kp => exact True.intro); (case c1 => first | with_reducible assumption | (unfold NumTxt; decide +kernel)); (case c2 => decide +kernel); (case kd => ((try dsimp (zetaDelta := true) only [Around.deeper, ktrTop]); ktr_room)); (case ku => ((try dsimp (zetaDelta := true) only [Around.deeper, ktrTop]); ktr_units)); intro t9 h9 tk9 F9 N9; (try dsimp only); (try (walk_at "M foldQ")); (walk_say "USE ct_from_decimal")))
  exact True.intro
section
variable {prog : Program} {w : World} {A : Around} {E : Value → Shared → Prop} {s : Shared} {Q : Value → Shared → Prop}
theorem eq_str_no {x y : Str} {t u : Tok} (e : x ≠ y) (h : Q (.bool false) s) : wpAny (model prog w) A (compareOp .Eq (.str x t) (.str y u)) Q E s := by
  refine eq_str ?_
  rw [beq_eq_false_iff_ne.mpr e]
  exact h
theorem eq_str_is {x y : Str} {t u : Tok} (e : x = y) (h : Q (.bool true) s) : wpAny (model prog w) A (compareOp .Eq (.str x t) (.str y u)) Q E s := by
  refine eq_str ?_
  rw [e, beq_self_eq_true y]
  exact h
theorem in_str_no {x y : Str} {t u : Tok} (e : (Builtin.Str.occurrences x y 0 x.length 1).isEmpty = true) (h : Q (.bool false) s) : wpAny (model prog w) A (compareOp .In (.str y u) (.str x t)) Q E s := by
  refine in_str ?_
  rw [e]
  exact h
theorem eq_int_same {a : Int} {t u : Tok} (h : Q (.bool true) s) : wpAny (model prog w) A (compareOp .Eq (.int a t) (.int a u)) Q E s := by
  refine eq_int ?_
  rw [beq_self_eq_true a]
  exact h
end
theorem wd_64_0 : True := by
  k_with "W compareOp Eq int int" => (k_here; (with_reducible refine eq_int_same ?_))
  k_with "W compareOp Eq str str" => (k_here; first | (with_reducible refine eq_str_no (by with_reducible assumption) ?_) | (with_reducible refine eq_str_is (by with_reducible assumption) ?_))
  k_with "W compareOp In str str" => (k_here; (with_reducible refine in_str_no (by with_reducible assumption) ?_))
  exact True.intro
abbrev Is2 (x y : Int) : List Value → Prop := fun vs => ∃ t u, vs = [.int x t, .int y u]
/-- where the run of figures from a ends -/
theorem ct_run0 (w : World) (x : Str) (t u v : Tok) (h1 : 0 < x.length) (h2 : x.length ≤ 3) (h3 : decide (figL (Txt.item x 0) < 10) = false) : Ct w 3 140 [.str x t, .int 0 u, .int 10 v] (fun _ => True) (RetI 0) := by
  have hSy := Symb.mk
  walk_at "M enter"
  k_steps
  walk_at "M int"
  rfl
theorem ct_run1 (w : World) (x : Str) (a : Int) (t u v : Tok) (h1 : 0 ≤ a) (h2 : x.length ≤ 3) (h4 : (x.length : Int) = a + 1) (h3 : decide (figL (Txt.item x a) < 10) = true) : Ct w 3 140 [.str x t, .int a u, .int 10 v] (fun _ => True) (RetI x.length) := by
  have hSy := Symb.mk
  rw [h4]
  walk_at "M enter"
  k_steps
  walk_at "M int"
  rfl
theorem ct_run2 (w : World) (x : Str) (a : Int) (t u v : Tok) (h1 : 0 ≤ a) (h2 : x.length ≤ 3) (h4 : (x.length : Int) = a + 1 + 1) (h3 : decide (figL (Txt.item x a) < 10) = true) (h5 : decide (figL (Txt.item x (a + 1)) < 10) = true) : Ct w 3 140 [.str x t, .int a u, .int 10 v] (fun _ => True) (RetI x.length) := by
  have hSy := Symb.mk
  rw [h4]
  walk_at "M enter"
  k_steps
  walk_at "M int"
  rfl
theorem wd_64_1 : True := by
  k_with "W call ref" => (k_here; (with_reducible show wpAny _ _ (call (Value.ref 140) _) _ _ _); (rename (∀ _ _ _ , Ct _ _ 140 _ _ _) => hC140); k_dflt (refine' use_int (hC140 _ _ _) ?k1 ?k2 ?k3 ?k4 ?k5 ?kK ?kp ?kd ?ku ?_; (case k1 => k_asm); (case k2 => k_asm); (case k3 => k_asm); (case k4 => k_asm); (case k5 => k_asm); (case kK => first | exact rfl | assumption); (case kp => exact True.intro); (case kd => ((try dsimp (zetaDelta := true) only [Around.deeper, ktrTop]); ktr_room)); (case ku => ((try dsimp (zetaDelta := true) only [Around.deeper, ktrTop]); ktr_units)); intro t9 h9 tk9 F9 N9; (try dsimp only); (try (walk_at "M foldQ")); (walk_say "USE local 140")))
  exact True.intro
theorem ct_decimal_nonG (w : World) (x : Str) (t u : Tok) (h1 : 0 < x.length) (h2 : x.length ≤ 3) (h3 : ∀ t u v, Ct w 3 140 [.str x t, .int 0 u, .int 10 v] (fun _ => True) (RetI 0)) (h4 : Txt.slice x (some 0) (some (0 + ((8 : Nat) : Int))) ≠ Str.ofString "Infinity") (h5 : Txt.item x 0 ≠ Str.ofString ".") (h6 : Txt.slice x (some 0) (some 0) = Str.ofString "") : Ct w 7 182 [.str x t, .int 0 u] (fun _ => True) (RetV fun _ => .none) := by
  walk_at "M enter"
  k_steps
  walk_at "M val"; rfl
theorem ct_decimal_numG (w : World) (x : Str) (a : Int) (t u : Tok) (h1 : 0 ≤ a) (h0 : a < x.length) (h2 : x.length ≤ 3) (h3 : ∀ t u v, Ct w 3 140 [.str x t, .int a u, .int 10 v] (fun _ => True) (RetI x.length)) (h4 : Txt.slice x (some a) (some (a + ((8 : Nat) : Int))) ≠ Str.ofString "Infinity") (h5 : NumTxt (Txt.slice x (some a) (some (x.length : Int)))) (h6 : Txt.slice x (some a) (some (x.length : Int)) ≠ Str.ofString "") : Ct w 7 182 [.str x t, .int a u] (fun _ => True) (RetT (Is2 (rrL 0 (numL (Txt.slice x (some a) (some (x.length : Int)))) 1) x.length)) := by
  walk_at "M enter"
  k_steps
  walk_at "M tup"
  exact ⟨_, _, rfl⟩
inductive DN : Str → Int → Str → Int → Prop where
  | d1 : DN (Str.ofString "1") 0 (Str.ofString "1") 1
  | d2 : DN (Str.ofString "2") 0 (Str.ofString "2") 1
  | d10 : DN (Str.ofString "10") 0 (Str.ofString "10") 2
  | d7 : DN (Str.ofString "7") 0 (Str.ofString "7") 1
  | dm3 : DN (Str.ofString "-3") 1 (Str.ofString "3") 2
inductive DX : Str → Prop where
  | da : DX (Str.ofString "a")
  | dab : DX (Str.ofString "ab")
  | dB : DX (Str.ofString "B")
  | dd8 : DX (Str.mk #[55296])
  | dff : DX (Str.ofString "\uffff")
theorem ct_decimal_num1 (w : World) (x y : Str) (a e : Int) (t u : Tok) (he : (x.length : Int) = e) (hy : Txt.slice x (some a) (some (x.length : Int)) = y) (h1 : 0 ≤ a) (h0 : a < x.length) (h2 : x.length ≤ 3) (h3 : ∀ t u v, Ct w 3 140 [.str x t, .int a u, .int 10 v] (fun _ => True) (RetI x.length)) (h4 : Txt.slice x (some a) (some (a + ((8 : Nat) : Int))) ≠ Str.ofString "Infinity") (h5 : NumTxt y) (h6 : y ≠ Str.ofString "") : Ct w 7 182 [.str x t, .int a u] (fun _ => True) (RetT (Is2 (rrL 0 (numL y) 1) e)) := by
  subst hy
  subst he
  exact ct_decimal_numG w x a t u h1 h0 h2 h3 h4 h5 h6
theorem ct_decimal_num (w : World) (x y : Str) (a b e : Int) (t u : Tok) (h : DN x a y e) (hb : b = a) : Ct w 7 182 [.str x t, .int b u] (fun _ => True) (RetT (Is2 (rrL 0 (numL y) 1) e)) := by
  subst hb
  cases h
  case d10 => exact ct_decimal_num1 w _ _ _ _ t u (by decide +kernel) (by decide +kernel) (by decide) (by decide +kernel) (by decide +kernel) (fun t u v => ct_run2 w _ _ t u v (by decide) (by decide +kernel) (by decide +kernel) (by decide +kernel) (by decide +kernel)) (by decide +kernel) (by unfold NumTxt; decide +kernel) (by decide +kernel)
  all_goals exact ct_decimal_num1 w _ _ _ _ t u (by decide +kernel) (by decide +kernel) (by decide) (by decide +kernel) (by decide +kernel) (fun t u v => ct_run1 w _ _ t u v (by decide) (by decide +kernel) (by decide +kernel) (by decide +kernel)) (by decide +kernel) (by unfold NumTxt; decide +kernel) (by decide +kernel)
theorem ct_decimal_non (w : World) (x : Str) (b : Int) (t u : Tok) (h : DX x) (hb : b = 0) : Ct w 7 182 [.str x t, .int b u] (fun _ => True) (RetV fun _ => .none) := by
  subst hb
  cases h
  all_goals exact ct_decimal_nonG w _ t u (by decide +kernel) (by decide +kernel) (fun t u v => ct_run0 w _ t u v (by decide +kernel) (by decide +kernel) (by decide +kernel)) (by decide +kernel) (by decide +kernel) (by decide +kernel)

theorem wd_64_2 : True := by
  k_with "W call ref" => (k_here; (with_reducible show wpAny _ _ (call (Value.ref 182) _) _ _ _); k_dflt (refine' use_tup (ct_decimal_num _ _ _ _ _ _ _ _ ?c1 ?c2) ?k1 ?k2 ?k3 ?k4 ?k5 ?kK ?kp ?kd ?ku ?_; (case k1 => k_asm); (case k2 => k_asm); (case k3 => k_asm); (case k4 => k_asm); (case k5 => k_asm); (case kK => first | exact rfl | assumption); (case kp => exact True.intro); (case c1 => first | with_reducible assumption | with_reducible exact DN.d1 | with_reducible exact DN.d2 | with_reducible exact DN.d10 | with_reducible exact DN.d7 | with_reducible exact DN.dm3); (case c2 => decide +kernel); (case kd => ((try dsimp (zetaDelta := true) only [Around.deeper, ktrTop]); ktr_room)); (case ku => ((try dsimp (zetaDelta := true) only [Around.deeper, ktrTop]); ktr_units)); intro D9 us9 n9 h9 tk9 hI9 F9 N9 hne9; (obtain ⟨t9, u9, e9⟩ := hI9); subst e9; (try dsimp only); (try (walk_at "M foldQ")); (walk_say "USE ct_decimal_num")))
  k_with "W call ref" => (k_here; (with_reducible show wpAny _ _ (call (Value.ref 182) _) _ _ _); k_dflt (refine' use_val (ct_decimal_non _ _ _ _ _ ?c1 ?c2) ?k1 ?k2 ?k3 ?k4 ?k5 ?kK ?kp ?kd ?ku ?_; (case k1 => k_asm); (case k2 => k_asm); (case k3 => k_asm); (case k4 => k_asm); (case k5 => k_asm); (case kK => first | exact rfl | assumption); (case kp => exact True.intro); (case c1 => first | with_reducible assumption | with_reducible exact DX.da | with_reducible exact DX.dab | with_reducible exact DX.dB | with_reducible exact DX.dd8 | with_reducible exact DX.dff); (case c2 => decide +kernel); (case kd => ((try dsimp (zetaDelta := true) only [Around.deeper, ktrTop]); ktr_room)); (case ku => ((try dsimp (zetaDelta := true) only [Around.deeper, ktrTop]); ktr_units)); intro t9 h9 tk9 F9 N9; (try dsimp only); (try (walk_at "M foldQ")); (walk_say "USE ct_decimal_non")))
  exact True.intro
/-- the law's own eleven texts, and what each is worth -/
inductive TX : Str → Option Int → Prop where
  | xE : TX (Str.ofString "") (some 0)
  | x1 : TX (Str.ofString "1") (some 1)
  | x2 : TX (Str.ofString "2") (some 2)
  | x10 : TX (Str.ofString "10") (some 10)
  | xa : TX (Str.ofString "a") (none)
  | xab : TX (Str.ofString "ab") (none)
  | xB : TX (Str.ofString "B") (none)
  | xm3 : TX (Str.ofString "-3") (some (-3))
  | xs7 : TX (Str.ofString " 7 ") (some 7)
  | xd8 : TX (Str.mk #[55296]) (none)
  | xff : TX (Str.ofString "\uffff") (none)
def bitsT : Option Int → Int
  | none => 9221120237041090560
  | some n => fiL n
/-- a short text that is no empty one, bears no sign in front and opens no hexadecimal number -/
abbrev NS (y : Str) : Prop := y ≠ Str.ofString "" ∧ 0 < y.length ∧ y.length ≤ 2 ∧ Txt.slice y none (some 2) ≠ Str.ofString "0x" ∧ Txt.slice y none (some 2) ≠ Str.ofString "0X" ∧ (Builtin.Str.occurrences (Str.ofString "+-") (Txt.item y 0) 0 (Str.ofString "+-").length 1).isEmpty = true
theorem ct_ttn_non (w : World) (x y : Str) (t : Tok) (ht : TR x y) (hd : DX y) (hn : NS y) : Ct w 8 189 [.str x t] (fun _ => True) (RetI 9221120237041090560) := by
  obtain ⟨h1, h2, h3, h4, h5, h6⟩ := hn
  walk_at "M enter"
  k_steps
  walk_at "M int"
  rfl
theorem ct_ttn_pos (w : World) (x y : Str) (e : Int) (t : Tok) (ht : TR x y) (hd : DN y 0 y e) (he : e = y.length) (hn : NS y) : Ct w 8 189 [.str x t] (fun _ => True) (RetI (rrL 0 (numL y) 1)) := by
  obtain ⟨h1, h2, h3, h4, h5, h6⟩ := hn
  subst he
  walk_at "M enter"
  k_steps
  walk_at "M int"
  rfl
theorem ct_ttn (w : World) (x : Str) (k : Option Int) (t : Tok) (h : TX x k) : Ct w 8 189 [.str x t] (fun _ => True) (RetI (bitsT k)) := by
  cases h
  · walk_at "M enter"
    k_steps
    walk_at "M int"
    decide +kernel
  · exact (by decide +kernel : rrL 0 (numL (Str.ofString "1")) 1 = bitsT (some 1)) ▸ ct_ttn_pos w _ _ _ t .t1 .d1 (by decide +kernel) (by decide +kernel)
  · exact (by decide +kernel : rrL 0 (numL (Str.ofString "2")) 1 = bitsT (some 2)) ▸ ct_ttn_pos w _ _ _ t .t2 .d2 (by decide +kernel) (by decide +kernel)
  · exact (by decide +kernel : rrL 0 (numL (Str.ofString "10")) 1 = bitsT (some 10)) ▸ ct_ttn_pos w _ _ _ t .t10 .d10 (by decide +kernel) (by decide +kernel)
  · exact ct_ttn_non w _ _ t .ta .da (by decide +kernel)
  · exact ct_ttn_non w _ _ t .tab .dab (by decide +kernel)
  · exact ct_ttn_non w _ _ t .tB .dB (by decide +kernel)
  · walk_at "M enter"
    k_steps
    walk_at "M int"
    decide +kernel
  · exact (by decide +kernel : rrL 0 (numL (Str.ofString "7")) 1 = bitsT (some 7)) ▸ ct_ttn_pos w _ _ _ t .ts7 .d7 (by decide +kernel) (by decide +kernel)
  · exact ct_ttn_non w _ _ t .td8 .dd8 (by decide +kernel)
  · exact ct_ttn_non w _ _ t .tff .dff (by decide +kernel)

theorem wd_66_0 : True := by
  k_with "W call ref" => (k_here; (with_reducible show wpAny _ _ (call (Value.ref 189) _) _ _ _); k_dflt (refine' use_int (ct_ttn _ _ _ _ ?c1) ?k1 ?k2 ?k3 ?k4 ?k5 ?kK ?kp ?kd ?ku ?_; (case k1 => k_asm); (case k2 => k_asm); (case k3 => k_asm); (case k4 => k_asm); (case k5 => k_asm); (case kK => first | exact rfl | assumption); (case kp => exact True.intro); (case c1 => assumption); (case kd => ((try dsimp (zetaDelta := true) only [Around.deeper, ktrTop]); ktr_room)); (case ku => ((try dsimp (zetaDelta := true) only [Around.deeper, ktrTop]); ktr_units)); intro t9 h9 tk9 F9 N9; (try dsimp only); (try (walk_at "M foldQ")); (walk_say "USE ct_ttn")))
  exact True.intro
abbrev Is4 (x y z v : Int) : List Value → Prop := fun vs => ∃ t u w r, vs = [.int x t, .int y u, .int z w, .int v r]
def scF (m : Int) : Int := if m = 4503599627370496 then 4 else 2
def scA (m : Int) : Int := if m = 4503599627370496 then 2 else 1
theorem ct_scaled (w : World) (m p : Int) (t u : Tok) (hp : -60 ≤ p ∧ p < 0) : Ct w 1 196 [.int m t, .int p u] (fun _ => True) (RetT (Is4 (m * scF m) (scA m) 1 (scF m * 2 ^ (0 - p).toNat))) := by
  walk_at "M enter"
  k_steps
  all_goals first
    | (exfalso; contradiction)
    | (walk_at "M tup"; unfold scF scA; by_cases hmm : m = 4503599627370496 <;> first | contradiction | (rw [if_pos hmm, if_pos hmm]; exact ⟨_, _, _, _, rfl⟩) | (rw [if_neg hmm, if_neg hmm]; exact ⟨_, _, _, _, rfl⟩))
theorem wd_70_0 : True := by
  k_with "W call ref" => (k_here; (with_reducible show wpAny _ _ (call (Value.ref 196) _) _ _ _); k_dflt (refine' use_tup (ct_scaled _ _ _ _ _ ?c1) ?k1 ?k2 ?k3 ?k4 ?k5 ?kK ?kp ?kd ?ku ?_; (case k1 => k_asm); (case k2 => k_asm); (case k3 => k_asm); (case k4 => k_asm); (case k5 => k_asm); (case kK => first | exact rfl | assumption); (case kp => exact True.intro); (case c1 => omega); (case kd => ((try dsimp (zetaDelta := true) only [Around.deeper, ktrTop]); ktr_room)); (case ku => ((try dsimp (zetaDelta := true) only [Around.deeper, ktrTop]); ktr_units)); intro D9 us9 n9 h9 tk9 hI9 F9 N9 hne9; (obtain ⟨t9, u9, v9, x9, e9⟩ := hI9); subst e9; (try dsimp only); (try (walk_at "M foldQ")); (walk_say "USE ct_scaled")))
  exact True.intro
/-- the length of a number's text -/
abbrev ndL (x : Int) : Int := ((Str.ofString (toString x)).length : Int)
theorem ndL_nat (n : Nat) : ndL (n : Int) = ((Nat.toDigits 10 n).length : Int) := by
  have h := KIN.signs_num n
  have e : (Str.ofString (toString ((n : Nat) : Int))).length = (Nat.toDigits 10 n).length := by
    have h2 := congrArg List.length h
    rw [List.length_map, Array.length_toList] at h2
    exact h2
  unfold ndL
  rw [e]
theorem ndL_le {x : Int} (h0 : 0 < x) (h1 : x < 2 ^ 70) : 0 ≤ ndL x ∧ ndL x ≤ 22 := by
  obtain ⟨n, rfl⟩ := Int.eq_ofNat_of_zero_le (Int.le_of_lt h0)
  refine ⟨by unfold ndL; omega, ?_⟩
  rw [ndL_nat]
  have hn : n < 10 ^ 22 := by omega
  have := PySem.toDigits_len_pow (b := 10) (k := 22) (by decide) (by decide) hn
  omega
def dpL (x y : Int) : Int :=
  if 0 ≤ ndL x - ndL y then (if y * 10 ^ (ndL x - ndL y).toNat ≤ x then ndL x - ndL y + 1 else ndL x - ndL y)
  else if y ≤ x * 10 ^ (0 - (ndL x - ndL y)).toNat then ndL x - ndL y + 1 else ndL x - ndL y
section
variable {x y : Int}
theorem dp1 (h : 0 ≤ ndL x - ndL y) (h2 : y * 10 ^ (ndL x - ndL y).toNat ≤ x) : ndL x - ndL y + 1 = dpL x y := by rw [dpL, if_pos h, if_pos h2]
theorem dp2 (h : 0 ≤ ndL x - ndL y) (h2 : ¬ y * 10 ^ (ndL x - ndL y).toNat ≤ x) : ndL x - ndL y = dpL x y := by rw [dpL, if_pos h, if_neg h2]
theorem dp3 (h : ¬ 0 ≤ ndL x - ndL y) (h2 : y ≤ x * 10 ^ (0 - (ndL x - ndL y)).toNat) : ndL x - ndL y + 1 = dpL x y := by rw [dpL, if_neg h, if_pos h2]
theorem dp4 (h : ¬ 0 ≤ ndL x - ndL y) (h2 : ¬ y ≤ x * 10 ^ (0 - (ndL x - ndL y)).toNat) : ndL x - ndL y = dpL x y := by rw [dpL, if_neg h, if_neg h2]
end
theorem ct_decimal_place (w : World) (x y : Int) (t u : Tok) (hx : 0 < x ∧ x < 2 ^ 70) (hy : 0 < y ∧ y < 2 ^ 70) : Ct w 1 203 [.int x t, .int y u] (fun _ => True) (RetI (dpL x y)) := by
  have h1 := ndL_le hx.1 hx.2
  have h2 := ndL_le hy.1 hy.2
  unfold ndL at h1 h2
  have h5 : Sz x 70 := by unfold Sz; omega
  have h6 : Sz y 70 := by unfold Sz; omega
  have h3 : ((Str.ofString (toString x)).length : Int) < 9223372036854775808 := by omega
  have h4 : ((Str.ofString (toString y)).length : Int) < 9223372036854775808 := by omega
  walk_at "M enter"
  k_steps
  all_goals (walk_at "M int"; first | exact dp1 (by with_reducible assumption) (by with_reducible assumption) | exact dp2 (by with_reducible assumption) (by with_reducible assumption) | exact dp3 (by with_reducible assumption) (by with_reducible assumption) | exact dp4 (by with_reducible assumption) (by with_reducible assumption))
theorem wd_70_1 : True := by
  k_with "W call ref" => (k_here; (with_reducible show wpAny _ _ (call (Value.ref 203) _) _ _ _); k_dflt (refine' use_int (ct_decimal_place _ _ _ _ _ ?c1 ?c2) ?k1 ?k2 ?k3 ?k4 ?k5 ?kK ?kp ?kd ?ku ?_; (case k1 => k_asm); (case k2 => k_asm); (case k3 => k_asm); (case k4 => k_asm); (case k5 => k_asm); (case kK => first | exact rfl | assumption); (case kp => exact True.intro); (case c1 => omega); (case c2 => omega); (case kd => ((try dsimp (zetaDelta := true) only [Around.deeper, ktrTop]); ktr_room)); (case ku => ((try dsimp (zetaDelta := true) only [Around.deeper, ktrTop]); ktr_units)); intro t9 h9 tk9 F9 N9; (try dsimp only); (try (walk_at "M foldQ")); (walk_say "USE ct_decimal_place")))
  exact True.intro
theorem dpL_le {x y : Int} (hx : 0 < x ∧ x < 2 ^ 70) (hy : 0 < y ∧ y < 2 ^ 70) : -23 ≤ dpL x y ∧ dpL x y ≤ 23 := by
  have h1 := ndL_le hx.1 hx.2
  have h2 := ndL_le hy.1 hy.2
  unfold dpL
  (repeat' split) <;> omega
def fpL (n a u : Int) (ev : Bool) : Int :=
  if 0 ≤ dpL n u then
    (if u * 10 ^ (dpL n u).toNat < n + a then dpL n u + 1 else if ev = true then (if n + a = u * 10 ^ (dpL n u).toNat then dpL n u + 1 else dpL n u) else dpL n u)
  else
    (if u < (n + a) * 10 ^ (0 - dpL n u).toNat then dpL n u + 1 else if ev = true then (if (n + a) * 10 ^ (0 - dpL n u).toNat = u then dpL n u + 1 else dpL n u) else dpL n u)
section
variable {n a q : Int} {ev : Bool}
theorem fp1 (h : 0 ≤ dpL n q) (h2 : q * 10 ^ (dpL n q).toNat < n + a) : dpL n q + 1 = fpL n a q ev := by rw [fpL, if_pos h, if_pos h2]
theorem fp2 (h : 0 ≤ dpL n q) (h2 : ¬ q * 10 ^ (dpL n q).toNat < n + a) (h3 : ev = true) (h4 : n + a = q * 10 ^ (dpL n q).toNat) : dpL n q + 1 = fpL n a q ev := by rw [fpL, if_pos h, if_neg h2, if_pos h3, if_pos h4]
theorem fp3 (h : 0 ≤ dpL n q) (h2 : ¬ q * 10 ^ (dpL n q).toNat < n + a) (h3 : ev = true) (h4 : n + a ≠ q * 10 ^ (dpL n q).toNat) : dpL n q = fpL n a q ev := by rw [fpL, if_pos h, if_neg h2, if_pos h3, if_neg h4]
theorem fp4 (h : 0 ≤ dpL n q) (h2 : ¬ q * 10 ^ (dpL n q).toNat < n + a) (h3 : ev = false) : dpL n q = fpL n a q ev := by rw [fpL, if_pos h, if_neg h2, if_neg (by rw [h3]; decide)]
theorem fp5 (h : ¬ 0 ≤ dpL n q) (h2 : q < (n + a) * 10 ^ (0 - dpL n q).toNat) : dpL n q + 1 = fpL n a q ev := by rw [fpL, if_neg h, if_pos h2]
theorem fp6 (h : ¬ 0 ≤ dpL n q) (h2 : ¬ q < (n + a) * 10 ^ (0 - dpL n q).toNat) (h3 : ev = true) (h4 : (n + a) * 10 ^ (0 - dpL n q).toNat = q) : dpL n q + 1 = fpL n a q ev := by rw [fpL, if_neg h, if_neg h2, if_pos h3, if_pos h4]
theorem fp7 (h : ¬ 0 ≤ dpL n q) (h2 : ¬ q < (n + a) * 10 ^ (0 - dpL n q).toNat) (h3 : ev = true) (h4 : (n + a) * 10 ^ (0 - dpL n q).toNat ≠ q) : dpL n q = fpL n a q ev := by rw [fpL, if_neg h, if_neg h2, if_pos h3, if_neg h4]
theorem fp8 (h : ¬ 0 ≤ dpL n q) (h2 : ¬ q < (n + a) * 10 ^ (0 - dpL n q).toNat) (h3 : ev = false) : dpL n q = fpL n a q ev := by rw [fpL, if_neg h, if_neg h2, if_neg (by rw [h3]; decide)]
end
theorem ct_first_place (w : World) (n a q : Int) (ev : Bool) (t u v : Tok) (hn : 0 < n ∧ n < 2 ^ 60) (ha : 0 < a ∧ a < 5) (hq : 0 < q ∧ q < 2 ^ 70) : Ct w 2 210 [.int n t, .int a u, .int q v, .bool ev] (fun _ => True) (RetI (fpL n a q ev)) := by
  have h1 := dpL_le (x := n) (y := q) (by omega) hq
  have h5 : Sz (n + a) 70 := by unfold Sz; omega
  have h6 : Sz q 70 := by unfold Sz; omega
  walk_at "M enter"
  k_steps
  all_goals (walk_at "M int"; first | exact fp1 (by with_reducible assumption) (by with_reducible assumption) | exact fp2 (by with_reducible assumption) (by with_reducible assumption) (by with_reducible assumption) (by with_reducible assumption) | exact fp3 (by with_reducible assumption) (by with_reducible assumption) (by with_reducible assumption) (by with_reducible assumption) | exact fp4 (by with_reducible assumption) (by with_reducible assumption) (by with_reducible assumption) | exact fp5 (by with_reducible assumption) (by with_reducible assumption) | exact fp6 (by with_reducible assumption) (by with_reducible assumption) (by with_reducible assumption) (by with_reducible assumption) | exact fp7 (by with_reducible assumption) (by with_reducible assumption) (by with_reducible assumption) (by with_reducible assumption) | exact fp8 (by with_reducible assumption) (by with_reducible assumption) (by with_reducible assumption))
theorem wd_70_2 : True := by
  k_with "W call ref" => (k_here; (with_reducible show wpAny _ _ (call (Value.ref 210) _) _ _ _); k_dflt (refine' use_int (ct_first_place _ _ _ _ _ _ _ _ ?c1 ?c2 ?c3) ?k1 ?k2 ?k3 ?k4 ?k5 ?kK ?kp ?kd ?ku ?_; (case k1 => k_asm); (case k2 => k_asm); (case k3 => k_asm); (case k4 => k_asm); (case k5 => k_asm); (case kK => first | exact rfl | assumption); (case kp => exact True.intro); (case c1 => omega); (case c2 => omega); (case c3 => omega); (case kd => ((try dsimp (zetaDelta := true) only [Around.deeper, ktrTop]); ktr_room)); (case ku => ((try dsimp (zetaDelta := true) only [Around.deeper, ktrTop]); ktr_units)); intro t9 h9 tk9 F9 N9; (try dsimp only); (try (walk_at "M foldQ")); (walk_say "USE ct_first_place")))
  exact True.intro
def lastL (f r q : Int) (lo hi : Bool) : Int :=
  if lo = true then (if hi = true then (if 2 * r = q then f + f.fmod 2 else f + (if decide (q < 2 * r) = true then 1 else 0)) else f + (if hi = true then 1 else 0))
  else f + (if hi = true then 1 else 0)
theorem last1 {f r q : Int} {lo hi : Bool} (h : lo = true) (h2 : hi = true) (h3 : 2 * r = q) : f + f.fmod 2 = lastL f r q lo hi := by rw [lastL, if_pos h, if_pos h2, if_pos h3]
theorem last2 {f r q : Int} {lo hi : Bool} (h : lo = true) (h2 : hi = true) (h3 : 2 * r ≠ q) : (f + if decide (q < 2 * r) = true then 1 else 0) = lastL f r q lo hi := by rw [lastL, if_pos h, if_pos h2, if_neg h3]
theorem last3 {f r q : Int} {lo hi : Bool} (h2 : hi = false) : (f + if hi = true then 1 else 0) = lastL f r q lo hi := by subst h2; cases lo <;> rfl
theorem last4 {f r q : Int} {lo hi : Bool} (h2 : lo = false) : (f + if hi = true then 1 else 0) = lastL f r q lo hi := by subst h2; rfl
theorem ct_last_figure (w : World) (f r q : Int) (lo hi : Bool) (t u v : Tok)  : Ct w 1 224 [.int f t, .int r u, .int q v, .bool lo, .bool hi] (fun _ => True) (RetI (lastL f r q lo hi)) := by
  walk_at "M enter"
  k_steps
  all_goals (walk_at "M int"; first | exact last1 (by with_reducible assumption) (by with_reducible assumption) (by with_reducible assumption) | exact last2 (by with_reducible assumption) (by with_reducible assumption) (by with_reducible assumption) | exact last3 (by with_reducible assumption) | exact last4 (by with_reducible assumption))

theorem wd_70_3 : True := by
  k_with "W call ref" => (k_here; (with_reducible show wpAny _ _ (call (Value.ref 224) _) _ _ _); k_dflt (refine' use_int (ct_last_figure _ _ _ _ _ _ _ _ _) ?k1 ?k2 ?k3 ?k4 ?k5 ?kK ?kp ?kd ?ku ?_; (case k1 => k_asm); (case k2 => k_asm); (case k3 => k_asm); (case k4 => k_asm); (case k5 => k_asm); (case kK => first | exact rfl | assumption); (case kp => exact True.intro); (case kd => ((try dsimp (zetaDelta := true) only [Around.deeper, ktrTop]); ktr_room)); (case ku => ((try dsimp (zetaDelta := true) only [Around.deeper, ktrTop]); ktr_units)); intro t9 h9 tk9 F9 N9; (try dsimp only); (try (walk_at "M foldQ")); (walk_say "USE ct_last_figure")))
  exact True.intro
def txt (n : Int) : Str := Str.ofString (toString n)
/-- the figures, turn by turn, where every turn is plain -/
def runL : Nat → Int → Int → Int → Int → Option (List Int)
  | 0, _, _, _, _ => none
  | f + 1, u, n, a, b =>
    if (n * 10).fmod u + a * 10 < u ∧ 0 ≤ (n * 10).fdiv u ∧ (n * 10).fdiv u ≤ 9 then
      (if (n * 10).fmod u < b * 10 then some [(n * 10).fdiv u]
       else if b * 10 < (n * 10).fmod u then (runL f u ((n * 10).fmod u) (a * 10) (b * 10)).map ((n * 10).fdiv u :: ·) else none)
    else none
/-- what is left to do at a turn -/
def TurnR (u : Int) (tot : List Int) (n a b : Int) (found : List Str) : Prop :=
  ∃ rest f, runL f u n a b = some rest ∧ found ++ rest.map txt = tot.map txt
theorem run_open {f : Nat} {u n a b : Int} {rest : List Int} (h : runL f u n a b = some rest) :
    0 ≤ (n * 10).fdiv u ∧ (n * 10).fdiv u ≤ 9 ∧ (n * 10).fmod u + a * 10 < u ∧ ((n * 10).fmod u < b * 10 ∨ b * 10 < (n * 10).fmod u) := by
  cases f with
  | zero => cases h
  | succ f =>
    unfold runL at h
    split at h
    · rename_i hc
      refine ⟨hc.2.1, hc.2.2, hc.1, ?_⟩
      split at h
      · exact .inl (by assumption)
      · split at h
        · exact .inr (by assumption)
        · cases h
    · cases h
theorem turn_at {u n a b : Int} {tot : List Int} {found : List Str} (h : TurnR u tot n a b found) (hl : tot.length ≤ 20) :
    TurnR u tot n a b found ∧ 0 ≤ (n * 10).fdiv u ∧ (n * 10).fdiv u ≤ 9 ∧ (n * 10).fmod u + a * 10 < u ∧ ((n * 10).fmod u < b * 10 ∨ b * 10 < (n * 10).fmod u) ∧ found.length < 20 := by
  obtain ⟨rest, f, h1, h2⟩ := id h
  obtain ⟨h3, h4, h5, h6⟩ := run_open h1
  refine ⟨h, h3, h4, h5, h6, ?_⟩
  have h7 := congrArg List.length h2
  rw [List.length_append, List.length_map, List.length_map] at h7
  have h8 : rest ≠ [] := by
    intro e
    subst e
    cases f with
    | zero => cases h1
    | succ f =>
      unfold runL at h1
      split at h1
      · split at h1
        · cases h1
        · split at h1
          · cases hr : runL f u ((n * 10).fmod u) (a * 10) (b * 10) with
            | none => rw [hr] at h1; cases h1
            | some l => rw [hr] at h1; cases h1
          · cases h1
      · cases h1
  have h9 := List.length_pos_iff.mpr h8
  omega
theorem turn_next {u n a b : Int} {tot : List Int} {found : List Str} (h : TurnR u tot n a b found) (hn : ¬ (n * 10).fmod u < b * 10) :
    TurnR u tot ((n * 10).fmod u) (a * 10) (b * 10) (found ++ [txt ((n * 10).fdiv u)]) := by
  obtain ⟨rest, f, h1, h2⟩ := h
  cases f with
  | zero => cases h1
  | succ f =>
    unfold runL at h1
    split at h1
    · split at h1
      · cases hr : runL f u ((n * 10).fmod u) (a * 10) (b * 10) with
        | none => rw [hr] at h1; cases h1
        | some l =>
          rw [hr] at h1
          cases h1
          exact ⟨l, f, hr, by rw [List.append_assoc]; exact h2⟩
      · cases h1
    · cases h1
theorem turn_last {u n a b : Int} {tot : List Int} {found : List Str} (h : TurnR u tot n a b found) (hn : (n * 10).fmod u < b * 10) :
    found ++ [txt ((n * 10).fdiv u)] = tot.map txt := by
  obtain ⟨rest, f, h1, h2⟩ := h
  cases f with
  | zero => cases h1
  | succ f =>
    unfold runL at h1
    split at h1
    · cases h1
      exact h2
    · cases h1
theorem ct_last_plain (w : World) (f r q : Int) (lo hi : Bool) (t u v : Tok) (h : hi = false) : Ct w 1 224 [.int f t, .int r u, .int q v, .bool lo, .bool hi] (fun _ => True) (RetI f) := by
  subst h
  have h2 := ct_last_figure w f r q lo false t u v
  have h3 : lastL f r q lo false = f := by cases lo <;> exact Int.add_zero f
  rw [h3] at h2
  exact h2
theorem wd_72_0 : True := by
  k_with "W call ref" => (k_here; (with_reducible show wpAny _ _ (call (Value.ref 224) _) _ _ _); k_dflt (refine' use_int (ct_last_plain _ _ _ _ _ _ _ _ _ ?c1) ?k1 ?k2 ?k3 ?k4 ?k5 ?kK ?kp ?kd ?ku ?_; (case k1 => k_asm); (case k2 => k_asm); (case k3 => k_asm); (case k4 => k_asm); (case k5 => k_asm); (case kK => first | exact rfl | assumption); (case kp => exact True.intro); (case c1 => exact beq_eq_false_iff_ne.mpr (by omega)); (case kd => ((try dsimp (zetaDelta := true) only [Around.deeper, ktrTop]); ktr_room)); (case ku => ((try dsimp (zetaDelta := true) only [Around.deeper, ktrTop]); ktr_units)); intro t9 h9 tk9 F9 N9; (try dsimp only); (try (walk_at "M foldQ")); (walk_say "USE ct_last_plain")))
  exact True.intro
def figS (tot : List Int) : Str := Txt.join (Str.ofString "") (tot.map txt)
theorem few_of {u n a b : Int} {tot : List Int} {found : List Str} (h : TurnR u tot n a b found) (hn : (n * 10).fmod u < b * 10) (hw : ((tot.map txt).map (·.length)).sum + (tot.map txt).length ≤ 1048576) :
    ((found ++ [Str.ofString (toString ((n * 10).fdiv u))]).map (·.length)).sum + (found ++ [Str.ofString (toString ((n * 10).fdiv u))]).length ≤ 1048576 := by
  have e := turn_last h hn
  unfold txt at e
  rw [e]; exact hw
theorem eq_int_yes {prog : Program} {w : World} {A : Around} {E : Value → Shared → Prop} {s : Shared} {a b : Int} {t u : Tok} {Q : Value → Shared → Prop} (e : a = b) (h : Q (.bool true) s) :
    wpAny (model prog w) A (compareOp .Eq (.int a t) (.int b u)) Q E s := by
  refine eq_int ?_
  rw [e, show (b == b) = true from beq_self_eq_true b]
  exact h
theorem wd_72_1 : True := by
  k_with "W compareOp Eq int int" => (k_here; (with_reducible refine eq_int_yes (by with_reducible assumption) ?_))
  k_with "W call builtin:str.join" => (k_here; (rename News _ _ _ _ => nJ9); (try simp only [List.push_toArray] at nJ9); k_dflt (refine' join_listW ?jl ?ji ?js ?jw ?_; (case jl => exact News.isList nJ9 (by k_mem)); (case ji => first | with_reducible assumption | exact PyProof.Rows.StrsAre.append' (by with_reducible assumption) (.cons _ _ .nil)); (case js => decide +kernel); (case jw => first | exact few_of (by with_reducible assumption) (by with_reducible assumption) (by with_reducible assumption) | (exfalso; omega))); intro t9 k9)
  exact True.intro
local macro_rules | `(tactic| kst_facts1) => `(tactic| first | with_reducible exact PyProof.Rows.StrsAre.nil | with_reducible assumption | exact PyProof.Rows.StrsAre.append' (by with_reducible assumption) (.cons _ _ .nil))
theorem wd_72_2 : True := by
  k_with "W call ref" => (k_here; (with_reducible show wpAny _ _ (call (Value.ref 70) _) _ _ _); (rename (∀ _ , Ct _ _ 70 _ _ _) => hC70); k_dflt (refine' use_tup (hC70 _) ?k1 ?k2 ?k3 ?k4 ?k5 ?kK ?kp ?kd ?ku ?_; (case k1 => k_asm); (case k2 => k_asm); (case k3 => k_asm); (case k4 => k_asm); (case k5 => k_asm); (case kK => first | exact rfl | assumption); (case kp => exact True.intro); (case kd => ((try dsimp (zetaDelta := true) only [Around.deeper, ktrTop]); ktr_room)); (case ku => ((try dsimp (zetaDelta := true) only [Around.deeper, ktrTop]); ktr_units)); intro D9 us9 n9 h9 tk9 hI9 F9 N9 hne9; (obtain ⟨t9, u9, v9, e9⟩ := hI9); subst e9; (try dsimp only); (try (walk_at "M foldQ")); (walk_say "USE local 70")))
  k_with "W call ref" => (k_here; (with_reducible show wpAny _ _ (call (Value.ref 196) _) _ _ _); (rename (∀ _ _ , Ct _ _ 196 _ _ _) => hC196); k_dflt (refine' use_tup (hC196 _ _) ?k1 ?k2 ?k3 ?k4 ?k5 ?kK ?kp ?kd ?ku ?_; (case k1 => k_asm); (case k2 => k_asm); (case k3 => k_asm); (case k4 => k_asm); (case k5 => k_asm); (case kK => first | exact rfl | assumption); (case kp => exact True.intro); (case kd => ((try dsimp (zetaDelta := true) only [Around.deeper, ktrTop]); ktr_room)); (case ku => ((try dsimp (zetaDelta := true) only [Around.deeper, ktrTop]); ktr_units)); intro D9 us9 n9 h9 tk9 hI9 F9 N9 hne9; (obtain ⟨t9, u9, v9, x9, e9⟩ := hI9); subst e9; (try dsimp only); (try (walk_at "M foldQ")); (walk_say "USE local 196")))
  k_with "W call ref" => (k_here; (with_reducible show wpAny _ _ (call (Value.ref 210) _) _ _ _); (rename (∀ _ _ _ , Ct _ _ 210 _ _ _) => hC210); k_dflt (refine' use_int (hC210 _ _ _) ?k1 ?k2 ?k3 ?k4 ?k5 ?kK ?kp ?kd ?ku ?_; (case k1 => k_asm); (case k2 => k_asm); (case k3 => k_asm); (case k4 => k_asm); (case k5 => k_asm); (case kK => first | exact rfl | assumption); (case kp => exact True.intro); (case kd => ((try dsimp (zetaDelta := true) only [Around.deeper, ktrTop]); ktr_room)); (case ku => ((try dsimp (zetaDelta := true) only [Around.deeper, ktrTop]); ktr_units)); intro t9 h9 tk9 F9 N9; (try dsimp only); (try (walk_at "M foldQ")); (walk_say "USE local 210")))
  exact True.intro
theorem ct_shortest_gen (w : World) (x S M P N A U pl : Int) (tot : List Int) (t : Tok)
    (C1 : ∀ t, Ct w 1 70 [.int x t] (fun _ => True) (RetT (Is3 S M P)))
    (C2 : ∀ t u, Ct w 1 196 [.int M t, .int P u] (fun _ => True) (RetT (Is4 N A 1 U)))
    (C3 : ∀ t u v, Ct w 2 210 [.int N t, .int A u, .int U v, .bool true] (fun _ => True) (RetI pl))
    (h3 : 0 ≤ pl ∧ pl ≤ 5) (hU : Sz U 70) (hu0 : U * 10 ^ pl.toNat ≠ 0) (hu : Sz (U * 10 ^ pl.toNat) 200) (hev : M.fmod 2 = 0)
    (hst : TurnR (U * 10 ^ pl.toNat) tot N A 1 []) (htot : tot.length ≤ 20) (hw : ((tot.map txt).map (·.length)).sum + (tot.map txt).length ≤ 1048576) : Ct w 3 217 [.int x t] (fun _ => True) (RetT fun vs => ∃ t u, vs = [.str (figS tot) t, .int pl u]) := by
  have hS0 : PyProof.Rows.StrsAre [] [] := PyProof.Rows.StrsAre.nil
  have hPl := Plain9.mk
  walk_at "M enter"
  k_with "exec While Constant cons nil" => k_while (fun script n a b found => TurnR (U * 10 ^ pl.toNat) tot n a b found ∧ 0 ≤ (n * 10).fdiv (U * 10 ^ pl.toNat) ∧ (n * 10).fdiv (U * 10 ^ pl.toNat) ≤ 9 ∧ (n * 10).fmod (U * 10 ^ pl.toNat) + a * 10 < U * 10 ^ pl.toNat ∧ ((n * 10).fmod (U * 10 ^ pl.toNat) < b * 10 ∨ b * 10 < (n * 10).fmod (U * 10 ^ pl.toNat)) ∧ found.length < 20) (fun script n a b found => 20 - found.length) "number" "above" "below" "found$"
  k_with "state" => first | exact turn_at (by with_reducible assumption) (by with_reducible assumption) | exact turn_at (turn_next (by with_reducible assumption) (by with_reducible assumption)) (by with_reducible assumption)
  k_with "measure" => (rw [List.length_append, List.length_cons, List.length_nil]; omega)
  k_steps
  all_goals first
    | (exfalso; omega)
    | (walk_at "M tup"; exact ⟨_, _, by rw [figS, ← turn_last (by with_reducible assumption) (by with_reducible assumption)]; rfl⟩)
theorem wd_72_3 : True := by
  k_with_none
  k_with "W M fold" => ((with_reducible refine let_QE ?_); intro qk9 ek9)
  k_with "W M foldQ" => ((with_reducible refine let_Q ?_); intro qk9)
  k_with "W M enter" => (w_top off; unfold Ct; (try k_fill); intro _ _ _ _ _ _ _ _ _ _ _ _ _ _ _ _ _ _ _ _ _ _ _ _ _ _ _ _ _ _ _; (refine wpAny_call ?_); k_dflt (refine' enter ?k1 ?k2 ?k3 ?k5 ?kA ?kF ?kK ?k6 ?k7 ?k8 ?k9 ?kB ?_ ?c2 ?c3 ?c4 ?c5; (case kA => exact rfl); (case kF => exact rfl); (case kK => assumption); (case k1 => k_asm); (case k2 => k_asm); (case k3 => k_asm); (case k5 => k_asm); (case k6 => k_is); (case k7 => k_is); (case k8 => ktr_room); (case k9 => exact BindsTo.of_eq rfl); (case c5 => decide); (case kB => exact locs rfl); (case c2 => exact rfl); (case c3 => exact rfl); (case c4 => exact rfl); k_whole; intro m9 _ _ _ _ _ _ _ _ _ A9; (try dsimp only); (try (walk_at "M fold"))))
  k_with "W M int" => (refine' ret_int ?r ?_ ?F ?g ?F2; (case r => assumption); (case g => assumption); (case F => assumption); (case F2 => assumption))
  k_with "W M bool" => (refine' ret_bool ?r ?_ ?F ?g ?F2; (case r => assumption); (case g => assumption); (case F => assumption); (case F2 => assumption))
  k_with "W M str" => (refine' ret_str ?r ?_ ?F ?g ?F2; (case r => assumption); (case g => assumption); (case F => assumption); (case F2 => assumption))
  k_with "W M tup" => (refine' ret_tup ?r ?F ?g ?F2 ?N ?hm ?_; (case r => assumption); (case g => assumption); (case F => assumption); (case F2 => assumption); (case N => assumption); (case hm => k_mem))
  k_with "W eval Call Name" => (k_here; (fail_if_success (with_reducible show wpAny _ _ (eval (Expr.Call (Expr.Name "range" _) _ _ _) _) _ _ _)); refine Call_ ?_)
  k_with "W call ref" => (k_here; k_dflt ((refine wpAny_call ?_); (refine' codeA ?k1 ?k2 ?k3 ?k4 ?k5 ?kA ?kF ?kK ?k6 ?k7 ?k8 ?k9 ?kB ?_ ?c2 ?c3 ?c4 ?c5; (case kA => exact rfl); (case kF => exact rfl); (case kK => first | assumption | exact rfl); (case k1 => k_asm); (case k2 => k_asm); (case k3 => k_asm); (case k4 => k_asm); (case k5 => k_asm); (case k6 => k_is); (case k7 => k_is); (case k8 => ((try dsimp (zetaDelta := true) only [Around.deeper, ktrTop]); ktr_room)); (case k9 => exact BindsTo.of_eq rfl); (case c5 => decide); (case kB => exact locs rfl); (case c2 => exact rfl); (case c3 => exact rfl); (case c4 => exact rfl); k_whole; intro m9 _ _ _ _ _ _ _ _ _ A9; (try dsimp only); (try (walk_at "M fold")))))
  k_with "W ite" => (k_closed; k_dflt (first | refine ite_pos (by decide +kernel) ?_ | refine ite_neg (by decide +kernel) ?_))
  k_with "W M val" => (refine' ret_val (t := 0) ?r ?_ ?F ?g ?F2; (case r => assumption); (case g => assumption); (case F => assumption); (case F2 => assumption))
  k_with "W eval Name" => (k_here; name_kind "globalImplicit"; k_dflt (first | (refine' nameK ?F ?X ?T ?e ?c ?_; (case F => k_asm); (case X => k_asm); (case T => k_asm); (case e => k_is); (case c => kernel_rfl!); k_whole) | (refine' nameB ?F ?X ?T ?e ?v ?n ?c ?_; (case F => k_asm); (case X => k_asm); (case T => k_asm); (case e => k_is); (case v => boot_fast); (case n => decide); (case c => kernel_rfl!); k_whole)))
  k_with "W eval Name" => (k_here; name_kind "local"; k_dflt (refine' nameL ?F ?v ?c ?_; (case F => k_asm); (case v => exact @rfl _ (some _)); (case c => kernel_rfl!); k_whole))
  k_with "W subscriptTail Name Constant ref int" => (k_here; (with_reducible show wpAny _ _ (subscriptTail _ _ (Value.ref _) (Value.int _ _)) _ _ _); k_dflt (refine' item_tupleT ?t ?a ?b ?c ?d ?_ ?hs; (case t => exact News.isTup (by k_asm) (by k_mem)); (case a => decide +kernel); (case b => decide +kernel); (case c => exact rfl); (case d => exact rfl); (case hs => kernel_rfl!); k_whole))
  k_with "W ite" => first | with_reducible refine ite_tt ?_ | with_reducible refine ite_ff ?_
  k_with "W eval Call Name" => (k_here; (with_reducible show wpAny _ _ (eval (Expr.Call (Expr.Name _ _) [_, _, _, _] [] _) _) _ _ _); k_dflt ((refine' callD4 ?F ?X ?T ?e ?hf ?hp ?c ?_; (case F => k_asm); (case X => k_asm); (case T => k_asm); (case e => k_is); (case hf => k_is); (case hp => kernel_rfl!); (case c => kernel_rfl!); k_whole)))
  k_with "W eval Call Name" => (k_here; (with_reducible show wpAny _ _ (eval (Expr.Call (Expr.Name _ _) [_, _, _] [] _) _) _ _ _); k_dflt ((refine' callD3 ?F ?X ?T ?e ?hf ?hp ?c ?_; (case F => k_asm); (case X => k_asm); (case T => k_asm); (case e => k_is); (case hf => k_is); (case hp => kernel_rfl!); (case c => kernel_rfl!); k_whole)))
  k_with "W eval Call Name" => (k_here; (with_reducible show wpAny _ _ (eval (Expr.Call (Expr.Name _ _) [_, _] [] _) _) _ _ _); (fail_if_success (with_reducible show wpAny _ _ (eval (Expr.Call (Expr.Name "str" _) _ _ _) _) _ _ _)); (fail_if_success (with_reducible show wpAny _ _ (eval (Expr.Call (Expr.Name "int" _) _ _ _) _) _ _ _)); (fail_if_success (with_reducible show wpAny _ _ (eval (Expr.Call (Expr.Name "range" _) _ _ _) _) _ _ _)); (fail_if_success (with_reducible show wpAny _ _ (eval (Expr.Call (Expr.Name "zip" _) _ _ _) _) _ _ _)); k_dflt (first | (refine' callD2 ?F ?X ?T ?e ?hf ?hp ?c ?_; (case F => k_asm); (case X => k_asm); (case T => k_asm); (case e => k_is); (case hf => k_is); (case hp => kernel_rfl!); (case c => kernel_rfl!); k_whole) | (refine' callB2 ?F ?X ?T ?e ?v ?n ?hp ?c ?_; (case F => k_asm); (case X => k_asm); (case T => k_asm); (case e => k_is); (case v => boot_fast); (case n => decide); (case hp => kernel_rfl!); (case c => kernel_rfl!); k_whole)))
  k_with "W eval Call Name" => (k_here; (with_reducible show wpAny _ _ (eval (Expr.Call (Expr.Name _ _) [_] [] _) _) _ _ _); (fail_if_success (with_reducible show wpAny _ _ (eval (Expr.Call (Expr.Name "str" _) _ _ _) _) _ _ _)); (fail_if_success (with_reducible show wpAny _ _ (eval (Expr.Call (Expr.Name "int" _) _ _ _) _) _ _ _)); (fail_if_success (with_reducible show wpAny _ _ (eval (Expr.Call (Expr.Name "range" _) _ _ _) _) _ _ _)); (fail_if_success (with_reducible show wpAny _ _ (eval (Expr.Call (Expr.Name "zip" _) _ _ _) _) _ _ _)); k_dflt (first | (refine' callD1 ?F ?X ?T ?e ?hf ?hp ?c ?_; (case F => k_asm); (case X => k_asm); (case T => k_asm); (case e => k_is); (case hf => k_is); (case hp => kernel_rfl!); (case c => kernel_rfl!); k_whole) | (refine' callB1 ?F ?X ?T ?e ?v ?n ?hp ?c ?_; (case F => k_asm); (case X => k_asm); (case T => k_asm); (case e => k_is); (case v => boot_fast); (case n => decide); (case hp => kernel_rfl!); (case c => kernel_rfl!); k_whole)))
  k_with "W eval Constant int" => (k_here; (with_reducible refine constI ?_))
  k_with "W eval Constant str" => (k_here; (with_reducible refine constS ?_))
  k_with "W binaryOp Add int int" => (k_here; (with_reducible refine addI ?_))
  k_with "W binaryOp Sub int int" => (k_here; (with_reducible refine subI ?_))
  k_with "W storeName" => (k_here; (fail_if_success (with_reducible rename Plain9 => hPl9)); k_dflt (refine' storeA ?F ?N ?c ?_; (case F => k_asm); (case N => k_asm); (case c => kernel_rfl!); k_whole; intro m9 h9 F9 N9; (try k_sweep)))
  k_with "W eval Subscript Name Constant" => (k_here; (with_reducible show wpAny _ _ (eval (Expr.Subscript (Expr.Name _ _) (Expr.Constant (Const.int _) _ _) _) _) _ _ _); k_dflt (refine' subT ?F ?v ?c ?t ?k ?cj ?dj ?_; (case F => k_asm); (case v => exact @rfl _ (some (Value.ref _))); (case c => kernel_rfl!); (case t => exact News.isTup (by k_asm) (by k_mem)); (case k => kernel_rfl!); (case cj => exact rfl); (case dj => exact rfl); k_whole))
  k_with "W call ref" => (k_here; (with_reducible show wpAny _ _ (call (Value.ref 28) _) _ _ _); k_dflt (refine' use_int (ct_pack _ _ _ _ _ _ _ ?c1 ?c2) ?k1 ?k2 ?k3 ?k4 ?k5 ?kK ?kp ?kd ?ku ?_; (case k1 => k_asm); (case k2 => k_asm); (case k3 => k_asm); (case k4 => k_asm); (case k5 => k_asm); (case kK => first | exact rfl | assumption); (case kp => exact True.intro); (case c1 => omega); (case c2 => omega); (case kd => ((try dsimp (zetaDelta := true) only [Around.deeper, ktrTop]); ktr_room)); (case ku => ((try dsimp (zetaDelta := true) only [Around.deeper, ktrTop]); ktr_units)); intro t9 h9 tk9 F9 N9; (try dsimp only); (try (walk_at "M foldQ")); (walk_say "USE ct_pack")))
  k_with "W call ref" => (k_here; (with_reducible show wpAny _ _ (call (Value.ref 35) _) _ _ _); k_dflt (refine' use_bool (ct_is_negative _ _ _) ?k1 ?k2 ?k3 ?k4 ?k5 ?kK ?kp ?kd ?ku ?_; (case k1 => k_asm); (case k2 => k_asm); (case k3 => k_asm); (case k4 => k_asm); (case k5 => k_asm); (case kK => first | exact rfl | assumption); (case kp => exact True.intro); (case kd => ((try dsimp (zetaDelta := true) only [Around.deeper, ktrTop]); ktr_room)); (case ku => ((try dsimp (zetaDelta := true) only [Around.deeper, ktrTop]); ktr_units)); intro h9 tk9 F9 N9; (try dsimp only); (try (walk_at "M foldQ")); (walk_say "USE ct_is_negative")))
  k_with "W call ref" => (k_here; (with_reducible show wpAny _ _ (call (Value.ref 42) _) _ _ _); k_dflt (refine' use_bool (ct_is_nan _ _ _) ?k1 ?k2 ?k3 ?k4 ?k5 ?kK ?kp ?kd ?ku ?_; (case k1 => k_asm); (case k2 => k_asm); (case k3 => k_asm); (case k4 => k_asm); (case k5 => k_asm); (case kK => first | exact rfl | assumption); (case kp => exact True.intro); (case kd => ((try dsimp (zetaDelta := true) only [Around.deeper, ktrTop]); ktr_room)); (case ku => ((try dsimp (zetaDelta := true) only [Around.deeper, ktrTop]); ktr_units)); intro h9 tk9 F9 N9; (try dsimp only); (try (walk_at "M foldQ")); (walk_say "USE ct_is_nan")))
  k_with "W call ref" => (k_here; (with_reducible show wpAny _ _ (call (Value.ref 49) _) _ _ _); k_dflt (refine' use_bool (ct_is_inf _ _ _) ?k1 ?k2 ?k3 ?k4 ?k5 ?kK ?kp ?kd ?ku ?_; (case k1 => k_asm); (case k2 => k_asm); (case k3 => k_asm); (case k4 => k_asm); (case k5 => k_asm); (case kK => first | exact rfl | assumption); (case kp => exact True.intro); (case kd => ((try dsimp (zetaDelta := true) only [Around.deeper, ktrTop]); ktr_room)); (case ku => ((try dsimp (zetaDelta := true) only [Around.deeper, ktrTop]); ktr_units)); intro h9 tk9 F9 N9; (try dsimp only); (try (walk_at "M foldQ")); (walk_say "USE ct_is_inf")))
  k_with "W call ref" => (k_here; (with_reducible show wpAny _ _ (call (Value.ref 56) _) _ _ _); k_dflt (refine' use_bool (ct_is_zero _ _ _) ?k1 ?k2 ?k3 ?k4 ?k5 ?kK ?kp ?kd ?ku ?_; (case k1 => k_asm); (case k2 => k_asm); (case k3 => k_asm); (case k4 => k_asm); (case k5 => k_asm); (case kK => first | exact rfl | assumption); (case kp => exact True.intro); (case kd => ((try dsimp (zetaDelta := true) only [Around.deeper, ktrTop]); ktr_room)); (case ku => ((try dsimp (zetaDelta := true) only [Around.deeper, ktrTop]); ktr_units)); intro h9 tk9 F9 N9; (try dsimp only); (try (walk_at "M foldQ")); (walk_say "USE ct_is_zero")))
  k_with "W call ref" => (k_here; (with_reducible show wpAny _ _ (call (Value.ref 63) _) _ _ _); k_dflt (refine' use_int (ct_signed _ _ _ _ _ ?c1) ?k1 ?k2 ?k3 ?k4 ?k5 ?kK ?kp ?kd ?ku ?_; (case k1 => k_asm); (case k2 => k_asm); (case k3 => k_asm); (case k4 => k_asm); (case k5 => k_asm); (case kK => first | exact rfl | assumption); (case kp => exact True.intro); (case c1 => omega); (case kd => ((try dsimp (zetaDelta := true) only [Around.deeper, ktrTop]); ktr_room)); (case ku => ((try dsimp (zetaDelta := true) only [Around.deeper, ktrTop]); ktr_units)); intro t9 h9 tk9 F9 N9; (try dsimp only); (try (walk_at "M foldQ")); (walk_say "USE ct_signed")))
  k_with "W M sz" => first | with_reducible assumption | exact sz_pow10 (by omega) | (refine' sz_mul ?sza ?szb; (case sza => walk_at "M sz"); (case szb => walk_at "M sz")) | (refine' sz_shl ?szh ?szn; (case szh => walk_at "M sz"); (case szn => omega))
  k_with "W M nz" => first | with_reducible assumption | omega | (refine nz_shl ?_; walk_at "M nz")
  k_with "W binaryOp LShift int int" => (k_here; (with_reducible refine lshift_int ?sa ?sb ?_); (case sa => omega); (case sb => (refine' sh_size ?ss ?st; (case ss => walk_at "M sz"); (case st => omega))))
  k_with "W binaryOp FloorDiv int int" => (k_here; (with_reducible refine floordiv_int ?sh ?_ (Or.inl (PyProof.noPylong_of_log2 ?sp))); (case sh => walk_at "M nz"); (case sp => (refine' py_of ?ss ?st; (case ss => walk_at "M sz"); (case st => decide))))
  k_with "W binaryOp Mod int int" => (k_here; (with_reducible refine mod_int' ?sh ?_); (case sh => walk_at "M nz"))
  k_with "W binaryOp Mult int int" => (k_here; (with_reducible refine mul_int ?_ ?sm); (case sm => (refine' mul_ok ?sa ?sb ?sc ?sd; (case sa => walk_at "M sz"); (case sb => walk_at "M sz"); (case sc => decide); (case sd => decide))))
  k_with "W call ref" => (k_here; (with_reducible show wpAny _ _ (call (Value.ref 21) _) _ _ _); k_dflt (refine' use_int (ct_width _ _ _ ?c1) ?k1 ?k2 ?k3 ?k4 ?k5 ?kK ?kp ?kd ?ku ?_; (case k1 => k_asm); (case k2 => k_asm); (case k3 => k_asm); (case k4 => k_asm); (case k5 => k_asm); (case kK => first | exact rfl | assumption); (case kp => exact True.intro); (case c1 => first | omega | assumption); (case kd => ((try dsimp (zetaDelta := true) only [Around.deeper, ktrTop]); ktr_room)); (case ku => ((try dsimp (zetaDelta := true) only [Around.deeper, ktrTop]); ktr_units)); intro t9 h9 tk9 F9 N9; (try dsimp only); (try (walk_at "M foldQ")); (walk_say "USE ct_width")))
  k_with "W call ref" => (k_here; (with_reducible show wpAny _ _ (call (Value.ref 70) _) _ _ _); k_dflt (refine' use_tup (ct_parts _ _ _) ?k1 ?k2 ?k3 ?k4 ?k5 ?kK ?kp ?kd ?ku ?_; (case k1 => k_asm); (case k2 => k_asm); (case k3 => k_asm); (case k4 => k_asm); (case k5 => k_asm); (case kK => first | exact rfl | assumption); (case kp => exact True.intro); (case kd => ((try dsimp (zetaDelta := true) only [Around.deeper, ktrTop]); ktr_room)); (case ku => ((try dsimp (zetaDelta := true) only [Around.deeper, ktrTop]); ktr_units)); intro D9 us9 n9 h9 tk9 hI9 F9 N9 hne9; (obtain ⟨t9, u9, v9, e9⟩ := hI9); subst e9; (try dsimp only); (try (walk_at "M foldQ")); (walk_say "USE ct_parts")))
  k_with "W call ref" => (k_here; (with_reducible show wpAny _ _ (call (Value.ref 77) _) _ _ _); k_dflt (refine' use_tup (ct_quotient _ _ _ _ _ _ _ ?c1 ?c2 ?c3 ?c4) ?k1 ?k2 ?k3 ?k4 ?k5 ?kK ?kp ?kd ?ku ?_; (case k1 => k_asm); (case k2 => k_asm); (case k3 => k_asm); (case k4 => k_asm); (case k5 => k_asm); (case kK => first | exact rfl | assumption); (case kp => exact True.intro); (case c1 => walk_at "M sz"); (case c2 => walk_at "M nz"); (case c3 => walk_at "M sz"); (case c4 => omega); (case kd => ((try dsimp (zetaDelta := true) only [Around.deeper, ktrTop]); ktr_room)); (case ku => ((try dsimp (zetaDelta := true) only [Around.deeper, ktrTop]); ktr_units)); intro D9 us9 n9 h9 tk9 hI9 F9 N9 hne9; (obtain ⟨t9, u9, v9, e9⟩ := hI9); subst e9; (try dsimp only); (try (walk_at "M foldQ")); (walk_say "USE ct_quotient")))
  k_with "W call ref" => (k_here; (with_reducible show wpAny _ _ (call (Value.ref 91) _) _ _ _); k_dflt (refine' use_int (ct_assembled _ _ _ _ _ _ _ ?c1 ?c2) ?k1 ?k2 ?k3 ?k4 ?k5 ?kK ?kp ?kd ?ku ?_; (case k1 => k_asm); (case k2 => k_asm); (case k3 => k_asm); (case k4 => k_asm); (case k5 => k_asm); (case kK => first | exact rfl | assumption); (case kp => exact True.intro); (case c1 => omega); (case c2 => omega); (case kd => ((try dsimp (zetaDelta := true) only [Around.deeper, ktrTop]); ktr_room)); (case ku => ((try dsimp (zetaDelta := true) only [Around.deeper, ktrTop]); ktr_units)); intro t9 h9 tk9 F9 N9; (try dsimp only); (try (walk_at "M foldQ")); (walk_say "USE ct_assembled")))
  k_with "W call ref" => (k_here; (with_reducible show wpAny _ _ (call (Value.ref 84) _) _ _ _); k_dflt (refine' use_int (ct_round_ratio _ _ _ _ _ _ _ ?c1 ?c2 ?c3 ?c4 ?c5) ?k1 ?k2 ?k3 ?k4 ?k5 ?kK ?kp ?kd ?ku ?_; (case k1 => k_asm); (case k2 => k_asm); (case k3 => k_asm); (case k4 => k_asm); (case k5 => k_asm); (case kK => first | exact rfl | assumption); (case kp => exact True.intro); (case c1 => omega); (case c2 => first | omega | decide +kernel); (case c3 => first | walk_at "M sz" | (unfold Sz; decide +kernel)); (case c4 => first | omega | decide +kernel); (case c5 => first | walk_at "M sz" | (unfold Sz; decide +kernel)); (case kd => ((try dsimp (zetaDelta := true) only [Around.deeper, ktrTop]); ktr_room)); (case ku => ((try dsimp (zetaDelta := true) only [Around.deeper, ktrTop]); ktr_units)); intro t9 h9 tk9 F9 N9; (try dsimp only); (try (walk_at "M foldQ")); (walk_say "USE ct_round_ratio")))
  k_with "W call ref" => (k_here; (with_reducible show wpAny _ _ (call (Value.ref 105) _) _ _ _); k_dflt (refine' use_int (ct_from_int _ _ _ ?c1) ?k1 ?k2 ?k3 ?k4 ?k5 ?kK ?kp ?kd ?ku ?_; (case k1 => k_asm); (case k2 => k_asm); (case k3 => k_asm); (case k4 => k_asm); (case k5 => k_asm); (case kK => first | exact rfl | assumption); (case kp => exact True.intro); (case c1 => walk_at "M sz"); (case kd => ((try dsimp (zetaDelta := true) only [Around.deeper, ktrTop]); ktr_room)); (case ku => ((try dsimp (zetaDelta := true) only [Around.deeper, ktrTop]); ktr_units)); intro t9 h9 tk9 F9 N9; (try dsimp only); (try (walk_at "M foldQ")); (walk_say "USE ct_from_int")))
  k_with "W call ref" => (k_here; (with_reducible show wpAny _ _ (call (Value.ref 98) _) _ _ _); k_dflt (refine' use_int (ct_round_scaled _ _ _ _ _ _ _ ?c1 ?c2 ?c3 ?c4) ?k1 ?k2 ?k3 ?k4 ?k5 ?kK ?kp ?kd ?ku ?_; (case k1 => k_asm); (case k2 => k_asm); (case k3 => k_asm); (case k4 => k_asm); (case k5 => k_asm); (case kK => first | exact rfl | assumption); (case kp => exact True.intro); (case c1 => omega); (case c2 => omega); (case c3 => walk_at "M sz"); (case c4 => omega); (case kd => ((try dsimp (zetaDelta := true) only [Around.deeper, ktrTop]); ktr_room)); (case ku => ((try dsimp (zetaDelta := true) only [Around.deeper, ktrTop]); ktr_units)); intro t9 h9 tk9 F9 N9; (try dsimp only); (try (walk_at "M foldQ")); (walk_say "USE ct_round_scaled")))
  k_with "W call ref" => (k_here; (with_reducible show wpAny _ _ (call (Value.ref 112) _) _ _ _); k_dflt (refine' use_bool (ct_is_blank _ _ _) ?k1 ?k2 ?k3 ?k4 ?k5 ?kK ?kp ?kd ?ku ?_; (case k1 => k_asm); (case k2 => k_asm); (case k3 => k_asm); (case k4 => k_asm); (case k5 => k_asm); (case kK => first | exact rfl | assumption); (case kp => exact True.intro); (case kd => ((try dsimp (zetaDelta := true) only [Around.deeper, ktrTop]); ktr_room)); (case ku => ((try dsimp (zetaDelta := true) only [Around.deeper, ktrTop]); ktr_units)); intro h9 tk9 F9 N9; (try dsimp only); (try (walk_at "M foldQ")); (walk_say "USE ct_is_blank")))
  k_with "W call builtin:len" => (k_here; (with_reducible show wpAny _ _ (call (Value.builtin "len") [Value.str _ _]) _ _ _); (fail_if_success (with_reducible show wpAny _ _ (call (Value.builtin "len") [Value.str (Str.ofString _) _]) _ _ _)); (refine len_lit1 (by decide +kernel) ?_))
  k_with "W M no" => (exfalso; (with_reducible rename (_ ∨ _) => hNo); exact absurd hNo (by decide +kernel))
  k_with "W subscriptTail Name Name str int" => (k_here; (with_reducible show wpAny _ _ (subscriptTail _ _ (Value.str _ _) (Value.int _ _)) _ _ _); (refine KXi.item rfl (by decide +kernel) (by decide +kernel) (by decide +kernel) ?_); intro kxiE)
  k_with "W subscriptTail Name BinOp str int" => (k_here; (with_reducible show wpAny _ _ (subscriptTail _ _ (Value.str _ _) (Value.int _ _)) _ _ _); (refine KXi.item rfl (by decide +kernel) (by decide +kernel) (by decide +kernel) ?_); intro kxiE)
  k_with "W subscriptTail Name Constant str int" => (k_here; (with_reducible show wpAny _ _ (subscriptTail _ _ (Value.str _ _) (Value.int _ _)) _ _ _); (refine KXi.item rfl (by decide +kernel) (by decide +kernel) (by decide +kernel) ?_); intro kxiE)
  k_with "W call builtin:len" => (k_here; (with_reducible show wpAny _ _ (call (Value.builtin "len") [Value.str (Str.ofString (toString _)) _]) _ _ _); (refine SBL.len (by with_reducible assumption) ?_))
  k_with "W call ref" => (k_here; (with_reducible show wpAny _ _ (call (Value.ref 133) _) _ _ _); k_dflt (refine' use_int (ct_figure_of _ _ _ ?c1) ?k1 ?k2 ?k3 ?k4 ?k5 ?kK ?kp ?kd ?ku ?_; (case k1 => k_asm); (case k2 => k_asm); (case k3 => k_asm); (case k4 => k_asm); (case k5 => k_asm); (case kK => first | exact rfl | assumption); (case kp => exact True.intro); (case c1 => first | decide +kernel | assumption | omega); (case kd => ((try dsimp (zetaDelta := true) only [Around.deeper, ktrTop]); ktr_room)); (case ku => ((try dsimp (zetaDelta := true) only [Around.deeper, ktrTop]); ktr_units)); intro t9 h9 tk9 F9 N9; (try dsimp only); (try (walk_at "M foldQ")); (walk_say "USE ct_figure_of")))
  k_with "W exec While BoolOp cons nil" => (k_here; (with_reducible rename Symb => hSy9); k_dflt (refine whl_start 100 ?_))
  k_with "W WhlIf" => (k_here; first | (with_reducible refine WhlIf.yes (by with_reducible assumption) ?_) | (with_reducible refine WhlIf.no (by with_reducible assumption) ?_))
  k_with "W call ref" => (k_here; (with_reducible show wpAny _ _ (call (Value.ref 126) _) _ _ _); k_dflt (refine' use_str (ct_trimmed _ _ _ _ ?c1) ?k1 ?k2 ?k3 ?k4 ?k5 ?kK ?kp ?kd ?ku ?_; (case k1 => k_asm); (case k2 => k_asm); (case k3 => k_asm); (case k4 => k_asm); (case k5 => k_asm); (case kK => first | exact rfl | assumption); (case kp => exact True.intro); (case c1 => first | with_reducible assumption | with_reducible exact TR.tE | with_reducible exact TR.t1 | with_reducible exact TR.t2 | with_reducible exact TR.t10 | with_reducible exact TR.ta | with_reducible exact TR.tab | with_reducible exact TR.tB | with_reducible exact TR.tm3 | with_reducible exact TR.ts7 | with_reducible exact TR.td8 | with_reducible exact TR.tff); (case kd => ((try dsimp (zetaDelta := true) only [Around.deeper, ktrTop]); ktr_room)); (case ku => ((try dsimp (zetaDelta := true) only [Around.deeper, ktrTop]); ktr_units)); intro t9 h9 tk9 F9 N9; (try dsimp only); (try (walk_at "M foldQ")); (walk_say "USE ct_trimmed")))
  k_with "W call ref" => (k_here; (with_reducible show wpAny _ _ (call (Value.ref 147) _) _ _ _); k_dflt (refine' use_int (ct_worth _ _ _ _ _ _ _ _ ?c1 ?c2 ?c3) ?k1 ?k2 ?k3 ?k4 ?k5 ?kK ?kp ?kd ?ku ?_; (case k1 => k_asm); (case k2 => k_asm); (case k3 => k_asm); (case k4 => k_asm); (case k5 => k_asm); (case kK => first | exact rfl | assumption); (case kp => exact True.intro); (case c1 => (unfold NumTxt; decide +kernel)); (case c2 => decide +kernel); (case c3 => decide +kernel); (case kd => ((try dsimp (zetaDelta := true) only [Around.deeper, ktrTop]); ktr_room)); (case ku => ((try dsimp (zetaDelta := true) only [Around.deeper, ktrTop]); ktr_units)); intro t9 h9 tk9 F9 N9; (try dsimp only); (try (walk_at "M foldQ")); (walk_say "USE ct_worth")))
  k_with "W call ref" => (k_here; (with_reducible show wpAny _ _ (call (Value.ref 154) _) _ _ _); k_dflt (refine' use_int (ct_from_decimal _ _ _ _ _ ?c1 ?c2) ?k1 ?k2 ?k3 ?k4 ?k5 ?kK ?kp ?kd ?ku ?_; (case k1 => k_asm); (case k2 => k_asm); (case k3 => k_asm); (case k4 => k_asm); (case k5 => k_asm); (case kK => first | exact rfl | assumption); (case kp => exact True.intro); (case c1 => first | with_reducible assumption | (unfold NumTxt; decide +kernel)); (case c2 => decide +kernel); (case kd => ((try dsimp (zetaDelta := true) only [Around.deeper, ktrTop]); ktr_room)); (case ku => ((try dsimp (zetaDelta := true) only [Around.deeper, ktrTop]); ktr_units)); intro t9 h9 tk9 F9 N9; (try dsimp only); (try (walk_at "M foldQ")); (walk_say "USE ct_from_decimal")))
  k_with "W compareOp Eq int int" => (k_here; (with_reducible refine eq_int_same ?_))
  k_with "W compareOp Eq str str" => (k_here; first | (with_reducible refine eq_str_no (by with_reducible assumption) ?_) | (with_reducible refine eq_str_is (by with_reducible assumption) ?_))
  k_with "W compareOp In str str" => (k_here; (with_reducible refine in_str_no (by with_reducible assumption) ?_))
  k_with "W call ref" => (k_here; (with_reducible show wpAny _ _ (call (Value.ref 140) _) _ _ _); (rename (∀ _ _ _ , Ct _ _ 140 _ _ _) => hC140); k_dflt (refine' use_int (hC140 _ _ _) ?k1 ?k2 ?k3 ?k4 ?k5 ?kK ?kp ?kd ?ku ?_; (case k1 => k_asm); (case k2 => k_asm); (case k3 => k_asm); (case k4 => k_asm); (case k5 => k_asm); (case kK => first | exact rfl | assumption); (case kp => exact True.intro); (case kd => ((try dsimp (zetaDelta := true) only [Around.deeper, ktrTop]); ktr_room)); (case ku => ((try dsimp (zetaDelta := true) only [Around.deeper, ktrTop]); ktr_units)); intro t9 h9 tk9 F9 N9; (try dsimp only); (try (walk_at "M foldQ")); (walk_say "USE local 140")))
  k_with "W call ref" => (k_here; (with_reducible show wpAny _ _ (call (Value.ref 182) _) _ _ _); k_dflt (refine' use_tup (ct_decimal_num _ _ _ _ _ _ _ _ ?c1 ?c2) ?k1 ?k2 ?k3 ?k4 ?k5 ?kK ?kp ?kd ?ku ?_; (case k1 => k_asm); (case k2 => k_asm); (case k3 => k_asm); (case k4 => k_asm); (case k5 => k_asm); (case kK => first | exact rfl | assumption); (case kp => exact True.intro); (case c1 => first | with_reducible assumption | with_reducible exact DN.d1 | with_reducible exact DN.d2 | with_reducible exact DN.d10 | with_reducible exact DN.d7 | with_reducible exact DN.dm3); (case c2 => decide +kernel); (case kd => ((try dsimp (zetaDelta := true) only [Around.deeper, ktrTop]); ktr_room)); (case ku => ((try dsimp (zetaDelta := true) only [Around.deeper, ktrTop]); ktr_units)); intro D9 us9 n9 h9 tk9 hI9 F9 N9 hne9; (obtain ⟨t9, u9, e9⟩ := hI9); subst e9; (try dsimp only); (try (walk_at "M foldQ")); (walk_say "USE ct_decimal_num")))
  k_with "W call ref" => (k_here; (with_reducible show wpAny _ _ (call (Value.ref 182) _) _ _ _); k_dflt (refine' use_val (ct_decimal_non _ _ _ _ _ ?c1 ?c2) ?k1 ?k2 ?k3 ?k4 ?k5 ?kK ?kp ?kd ?ku ?_; (case k1 => k_asm); (case k2 => k_asm); (case k3 => k_asm); (case k4 => k_asm); (case k5 => k_asm); (case kK => first | exact rfl | assumption); (case kp => exact True.intro); (case c1 => first | with_reducible assumption | with_reducible exact DX.da | with_reducible exact DX.dab | with_reducible exact DX.dB | with_reducible exact DX.dd8 | with_reducible exact DX.dff); (case c2 => decide +kernel); (case kd => ((try dsimp (zetaDelta := true) only [Around.deeper, ktrTop]); ktr_room)); (case ku => ((try dsimp (zetaDelta := true) only [Around.deeper, ktrTop]); ktr_units)); intro t9 h9 tk9 F9 N9; (try dsimp only); (try (walk_at "M foldQ")); (walk_say "USE ct_decimal_non")))
  k_with "W call ref" => (k_here; (with_reducible show wpAny _ _ (call (Value.ref 189) _) _ _ _); k_dflt (refine' use_int (ct_ttn _ _ _ _ ?c1) ?k1 ?k2 ?k3 ?k4 ?k5 ?kK ?kp ?kd ?ku ?_; (case k1 => k_asm); (case k2 => k_asm); (case k3 => k_asm); (case k4 => k_asm); (case k5 => k_asm); (case kK => first | exact rfl | assumption); (case kp => exact True.intro); (case c1 => assumption); (case kd => ((try dsimp (zetaDelta := true) only [Around.deeper, ktrTop]); ktr_room)); (case ku => ((try dsimp (zetaDelta := true) only [Around.deeper, ktrTop]); ktr_units)); intro t9 h9 tk9 F9 N9; (try dsimp only); (try (walk_at "M foldQ")); (walk_say "USE ct_ttn")))
  k_with "W call ref" => (k_here; (with_reducible show wpAny _ _ (call (Value.ref 196) _) _ _ _); k_dflt (refine' use_tup (ct_scaled _ _ _ _ _ ?c1) ?k1 ?k2 ?k3 ?k4 ?k5 ?kK ?kp ?kd ?ku ?_; (case k1 => k_asm); (case k2 => k_asm); (case k3 => k_asm); (case k4 => k_asm); (case k5 => k_asm); (case kK => first | exact rfl | assumption); (case kp => exact True.intro); (case c1 => omega); (case kd => ((try dsimp (zetaDelta := true) only [Around.deeper, ktrTop]); ktr_room)); (case ku => ((try dsimp (zetaDelta := true) only [Around.deeper, ktrTop]); ktr_units)); intro D9 us9 n9 h9 tk9 hI9 F9 N9 hne9; (obtain ⟨t9, u9, v9, x9, e9⟩ := hI9); subst e9; (try dsimp only); (try (walk_at "M foldQ")); (walk_say "USE ct_scaled")))
  k_with "W call ref" => (k_here; (with_reducible show wpAny _ _ (call (Value.ref 203) _) _ _ _); k_dflt (refine' use_int (ct_decimal_place _ _ _ _ _ ?c1 ?c2) ?k1 ?k2 ?k3 ?k4 ?k5 ?kK ?kp ?kd ?ku ?_; (case k1 => k_asm); (case k2 => k_asm); (case k3 => k_asm); (case k4 => k_asm); (case k5 => k_asm); (case kK => first | exact rfl | assumption); (case kp => exact True.intro); (case c1 => omega); (case c2 => omega); (case kd => ((try dsimp (zetaDelta := true) only [Around.deeper, ktrTop]); ktr_room)); (case ku => ((try dsimp (zetaDelta := true) only [Around.deeper, ktrTop]); ktr_units)); intro t9 h9 tk9 F9 N9; (try dsimp only); (try (walk_at "M foldQ")); (walk_say "USE ct_decimal_place")))
  k_with "W call ref" => (k_here; (with_reducible show wpAny _ _ (call (Value.ref 210) _) _ _ _); k_dflt (refine' use_int (ct_first_place _ _ _ _ _ _ _ _ ?c1 ?c2 ?c3) ?k1 ?k2 ?k3 ?k4 ?k5 ?kK ?kp ?kd ?ku ?_; (case k1 => k_asm); (case k2 => k_asm); (case k3 => k_asm); (case k4 => k_asm); (case k5 => k_asm); (case kK => first | exact rfl | assumption); (case kp => exact True.intro); (case c1 => omega); (case c2 => omega); (case c3 => omega); (case kd => ((try dsimp (zetaDelta := true) only [Around.deeper, ktrTop]); ktr_room)); (case ku => ((try dsimp (zetaDelta := true) only [Around.deeper, ktrTop]); ktr_units)); intro t9 h9 tk9 F9 N9; (try dsimp only); (try (walk_at "M foldQ")); (walk_say "USE ct_first_place")))
  k_with "W call ref" => (k_here; (with_reducible show wpAny _ _ (call (Value.ref 224) _) _ _ _); k_dflt (refine' use_int (ct_last_figure _ _ _ _ _ _ _ _ _) ?k1 ?k2 ?k3 ?k4 ?k5 ?kK ?kp ?kd ?ku ?_; (case k1 => k_asm); (case k2 => k_asm); (case k3 => k_asm); (case k4 => k_asm); (case k5 => k_asm); (case kK => first | exact rfl | assumption); (case kp => exact True.intro); (case kd => ((try dsimp (zetaDelta := true) only [Around.deeper, ktrTop]); ktr_room)); (case ku => ((try dsimp (zetaDelta := true) only [Around.deeper, ktrTop]); ktr_units)); intro t9 h9 tk9 F9 N9; (try dsimp only); (try (walk_at "M foldQ")); (walk_say "USE ct_last_figure")))
  k_with "W call ref" => (k_here; (with_reducible show wpAny _ _ (call (Value.ref 224) _) _ _ _); k_dflt (refine' use_int (ct_last_plain _ _ _ _ _ _ _ _ _ ?c1) ?k1 ?k2 ?k3 ?k4 ?k5 ?kK ?kp ?kd ?ku ?_; (case k1 => k_asm); (case k2 => k_asm); (case k3 => k_asm); (case k4 => k_asm); (case k5 => k_asm); (case kK => first | exact rfl | assumption); (case kp => exact True.intro); (case c1 => exact beq_eq_false_iff_ne.mpr (by omega)); (case kd => ((try dsimp (zetaDelta := true) only [Around.deeper, ktrTop]); ktr_room)); (case ku => ((try dsimp (zetaDelta := true) only [Around.deeper, ktrTop]); ktr_units)); intro t9 h9 tk9 F9 N9; (try dsimp only); (try (walk_at "M foldQ")); (walk_say "USE ct_last_plain")))
  k_with "W compareOp Eq int int" => (k_here; (with_reducible refine eq_int_yes (by with_reducible assumption) ?_))
  k_with "W call builtin:str.join" => (k_here; (rename News _ _ _ _ => nJ9); (try simp only [List.push_toArray] at nJ9); k_dflt (refine' join_listW ?jl ?ji ?js ?jw ?_; (case jl => exact News.isList nJ9 (by k_mem)); (case ji => first | with_reducible assumption | exact PyProof.Rows.StrsAre.append' (by with_reducible assumption) (.cons _ _ .nil)); (case js => decide +kernel); (case jw => first | exact few_of (by with_reducible assumption) (by with_reducible assumption) (by with_reducible assumption) | (exfalso; omega))); intro t9 k9)
  k_with "W call ref" => (k_here; (with_reducible show wpAny _ _ (call (Value.ref 70) _) _ _ _); (rename (∀ _ , Ct _ _ 70 _ _ _) => hC70); k_dflt (refine' use_tup (hC70 _) ?k1 ?k2 ?k3 ?k4 ?k5 ?kK ?kp ?kd ?ku ?_; (case k1 => k_asm); (case k2 => k_asm); (case k3 => k_asm); (case k4 => k_asm); (case k5 => k_asm); (case kK => first | exact rfl | assumption); (case kp => exact True.intro); (case kd => ((try dsimp (zetaDelta := true) only [Around.deeper, ktrTop]); ktr_room)); (case ku => ((try dsimp (zetaDelta := true) only [Around.deeper, ktrTop]); ktr_units)); intro D9 us9 n9 h9 tk9 hI9 F9 N9 hne9; (obtain ⟨t9, u9, v9, e9⟩ := hI9); subst e9; (try dsimp only); (try (walk_at "M foldQ")); (walk_say "USE local 70")))
  k_with "W call ref" => (k_here; (with_reducible show wpAny _ _ (call (Value.ref 196) _) _ _ _); (rename (∀ _ _ , Ct _ _ 196 _ _ _) => hC196); k_dflt (refine' use_tup (hC196 _ _) ?k1 ?k2 ?k3 ?k4 ?k5 ?kK ?kp ?kd ?ku ?_; (case k1 => k_asm); (case k2 => k_asm); (case k3 => k_asm); (case k4 => k_asm); (case k5 => k_asm); (case kK => first | exact rfl | assumption); (case kp => exact True.intro); (case kd => ((try dsimp (zetaDelta := true) only [Around.deeper, ktrTop]); ktr_room)); (case ku => ((try dsimp (zetaDelta := true) only [Around.deeper, ktrTop]); ktr_units)); intro D9 us9 n9 h9 tk9 hI9 F9 N9 hne9; (obtain ⟨t9, u9, v9, x9, e9⟩ := hI9); subst e9; (try dsimp only); (try (walk_at "M foldQ")); (walk_say "USE local 196")))
  k_with "W call ref" => (k_here; (with_reducible show wpAny _ _ (call (Value.ref 210) _) _ _ _); (rename (∀ _ _ _ , Ct _ _ 210 _ _ _) => hC210); k_dflt (refine' use_int (hC210 _ _ _) ?k1 ?k2 ?k3 ?k4 ?k5 ?kK ?kp ?kd ?ku ?_; (case k1 => k_asm); (case k2 => k_asm); (case k3 => k_asm); (case k4 => k_asm); (case k5 => k_asm); (case kK => first | exact rfl | assumption); (case kp => exact True.intro); (case kd => ((try dsimp (zetaDelta := true) only [Around.deeper, ktrTop]); ktr_room)); (case ku => ((try dsimp (zetaDelta := true) only [Around.deeper, ktrTop]); ktr_units)); intro t9 h9 tk9 F9 N9; (try dsimp only); (try (walk_at "M foldQ")); (walk_say "USE local 210")))
  exact True.intro
theorem wd_74_0 : True := by
  k_with "W call ref" => (k_here; (with_reducible show wpAny _ _ (call (Value.ref 35) _) _ _ _); (rename (∀ _ , Ct _ _ 35 _ _ _) => hC35); k_dflt (refine' use_bool (hC35 _) ?k1 ?k2 ?k3 ?k4 ?k5 ?kK ?kp ?kd ?ku ?_; (case k1 => k_asm); (case k2 => k_asm); (case k3 => k_asm); (case k4 => k_asm); (case k5 => k_asm); (case kK => first | exact rfl | assumption); (case kp => exact True.intro); (case kd => ((try dsimp (zetaDelta := true) only [Around.deeper, ktrTop]); ktr_room)); (case ku => ((try dsimp (zetaDelta := true) only [Around.deeper, ktrTop]); ktr_units)); intro h9 tk9 F9 N9; (try dsimp only); (try (walk_at "M foldQ")); (walk_say "USE local 35")))
  k_with "W call ref" => (k_here; (with_reducible show wpAny _ _ (call (Value.ref 42) _) _ _ _); (rename (∀ _ , Ct _ _ 42 _ _ _) => hC42); k_dflt (refine' use_bool (hC42 _) ?k1 ?k2 ?k3 ?k4 ?k5 ?kK ?kp ?kd ?ku ?_; (case k1 => k_asm); (case k2 => k_asm); (case k3 => k_asm); (case k4 => k_asm); (case k5 => k_asm); (case kK => first | exact rfl | assumption); (case kp => exact True.intro); (case kd => ((try dsimp (zetaDelta := true) only [Around.deeper, ktrTop]); ktr_room)); (case ku => ((try dsimp (zetaDelta := true) only [Around.deeper, ktrTop]); ktr_units)); intro h9 tk9 F9 N9; (try dsimp only); (try (walk_at "M foldQ")); (walk_say "USE local 42")))
  k_with "W call ref" => (k_here; (with_reducible show wpAny _ _ (call (Value.ref 49) _) _ _ _); (rename (∀ _ , Ct _ _ 49 _ _ _) => hC49); k_dflt (refine' use_bool (hC49 _) ?k1 ?k2 ?k3 ?k4 ?k5 ?kK ?kp ?kd ?ku ?_; (case k1 => k_asm); (case k2 => k_asm); (case k3 => k_asm); (case k4 => k_asm); (case k5 => k_asm); (case kK => first | exact rfl | assumption); (case kp => exact True.intro); (case kd => ((try dsimp (zetaDelta := true) only [Around.deeper, ktrTop]); ktr_room)); (case ku => ((try dsimp (zetaDelta := true) only [Around.deeper, ktrTop]); ktr_units)); intro h9 tk9 F9 N9; (try dsimp only); (try (walk_at "M foldQ")); (walk_say "USE local 49")))
  k_with "W call ref" => (k_here; (with_reducible show wpAny _ _ (call (Value.ref 56) _) _ _ _); (rename (∀ _ , Ct _ _ 56 _ _ _) => hC56); k_dflt (refine' use_bool (hC56 _) ?k1 ?k2 ?k3 ?k4 ?k5 ?kK ?kp ?kd ?ku ?_; (case k1 => k_asm); (case k2 => k_asm); (case k3 => k_asm); (case k4 => k_asm); (case k5 => k_asm); (case kK => first | exact rfl | assumption); (case kp => exact True.intro); (case kd => ((try dsimp (zetaDelta := true) only [Around.deeper, ktrTop]); ktr_room)); (case ku => ((try dsimp (zetaDelta := true) only [Around.deeper, ktrTop]); ktr_units)); intro h9 tk9 F9 N9; (try dsimp only); (try (walk_at "M foldQ")); (walk_say "USE local 56")))
  k_with "W call ref" => (k_here; (with_reducible show wpAny _ _ (call (Value.ref 217) _) _ _ _); (rename (∀ _ , Ct _ _ 217 _ _ _) => hC217); k_dflt (refine' use_tup (hC217 _) ?k1 ?k2 ?k3 ?k4 ?k5 ?kK ?kp ?kd ?ku ?_; (case k1 => k_asm); (case k2 => k_asm); (case k3 => k_asm); (case k4 => k_asm); (case k5 => k_asm); (case kK => first | exact rfl | assumption); (case kp => exact True.intro); (case kd => ((try dsimp (zetaDelta := true) only [Around.deeper, ktrTop]); ktr_room)); (case ku => ((try dsimp (zetaDelta := true) only [Around.deeper, ktrTop]); ktr_units)); intro D9 us9 n9 h9 tk9 hI9 F9 N9 hne9; (obtain ⟨t9, u9, e9⟩ := hI9); subst e9; (try dsimp only); (try (walk_at "M foldQ")); (walk_say "USE local 217")))
  exact True.intro
def laidL (x : Str) (p : Int) : Str := x ++ Txt.mul (Str.ofString "0") (p - (x.length : Int))
theorem ct_laid_out (w : World) (x : Str) (p : Int) (t u : Tok) (hx : (x.length : Int) ≤ p) (hp : p ≤ 21) : Ct w 1 245 [.str x t, .int p u] (fun _ => True) (RetS (laidL x p)) := by
  walk_at "M enter"
  k_steps
  walk_at "M str"; rfl
theorem wd_74_1 : True := by
  k_with "W call ref" => (k_here; (with_reducible show wpAny _ _ (call (Value.ref 245) _) _ _ _); k_dflt (refine' use_str (ct_laid_out _ _ _ _ _ ?c1 ?c2) ?k1 ?k2 ?k3 ?k4 ?k5 ?kK ?kp ?kd ?ku ?_; (case k1 => k_asm); (case k2 => k_asm); (case k3 => k_asm); (case k4 => k_asm); (case k5 => k_asm); (case kK => first | exact rfl | assumption); (case kp => exact True.intro); (case c1 => first | assumption | omega); (case c2 => first | assumption | omega); (case kd => ((try dsimp (zetaDelta := true) only [Around.deeper, ktrTop]); ktr_room)); (case ku => ((try dsimp (zetaDelta := true) only [Around.deeper, ktrTop]); ktr_units)); intro t9 h9 tk9 F9 N9; (try dsimp only); (try (walk_at "M foldQ")); (walk_say "USE ct_laid_out")))
  exact True.intro
theorem ct_show_nan (w : World) (x : Int) (t : Tok) (C : ∀ t, Ct w 1 42 [.int x t] (fun _ => True) (RetB true)) : Ct w 4 259 [.int x t] (fun _ => True) (RetS (Str.ofString "NaN")) := by
  walk_at "M enter"
  k_steps
  walk_at "M str"; rfl
theorem ct_show_zero (w : World) (x : Int) (t : Tok) (C1 : ∀ t, Ct w 1 42 [.int x t] (fun _ => True) (RetB false)) (C2 : ∀ t, Ct w 1 49 [.int x t] (fun _ => True) (RetB false)) (C3 : ∀ t, Ct w 1 56 [.int x t] (fun _ => True) (RetB true)) :
    Ct w 4 259 [.int x t] (fun _ => True) (RetS (Str.ofString "0")) := by
  walk_at "M enter"
  k_steps
  walk_at "M str"; rfl
theorem ct_show_neg (w : World) (x pl : Int) (F : Str) (t : Tok) (C1 : ∀ t, Ct w 1 42 [.int x t] (fun _ => True) (RetB false)) (C2 : ∀ t, Ct w 1 49 [.int x t] (fun _ => True) (RetB false)) (C3 : ∀ t, Ct w 1 56 [.int x t] (fun _ => True) (RetB false))
    (C4 : ∀ t, Ct w 1 35 [.int x t] (fun _ => True) (RetB true)) (C5 : ∀ t, Ct w 3 217 [.int x t] (fun _ => True) (RetT fun vs => ∃ t u, vs = [.str F t, .int pl u])) (h1 : (F.length : Int) ≤ pl) (h2 : pl ≤ 21) (h3 : (laidL F pl).length ≤ 30) :
    Ct w 4 259 [.int x t] (fun _ => True) (RetS (Str.ofString "-" ++ laidL F pl)) := by
  walk_at "M enter"
  k_steps
  walk_at "M str"; rfl
theorem ct_show_pos (w : World) (x pl : Int) (F : Str) (t : Tok) (C1 : ∀ t, Ct w 1 42 [.int x t] (fun _ => True) (RetB false)) (C2 : ∀ t, Ct w 1 49 [.int x t] (fun _ => True) (RetB false)) (C3 : ∀ t, Ct w 1 56 [.int x t] (fun _ => True) (RetB false))
    (C4 : ∀ t, Ct w 1 35 [.int x t] (fun _ => True) (RetB false)) (C5 : ∀ t, Ct w 3 217 [.int x t] (fun _ => True) (RetT fun vs => ∃ t u, vs = [.str F t, .int pl u])) (h1 : (F.length : Int) ≤ pl) (h2 : pl ≤ 21) (h3 : (laidL F pl).length ≤ 30) :
    Ct w 4 259 [.int x t] (fun _ => True) (RetS (Str.ofString "" ++ laidL F pl)) := by
  walk_at "M enter"
  k_steps
  walk_at "M str"; rfl
/-- what the parts of a whole number's bits are -/
def fF (n : Int) (x : Int) : Bool :=
  decide (sigL x = if n < 0 then 1 else 0) && decide (manL x = (n.natAbs : Int) * 2 ^ (52 - n.natAbs.log2)) && decide (powL x = (n.natAbs.log2 : Int) - 52)
    && (isNanL x == false) && (isInfL x == false) && (isZeroL x == false) && (isNegL x == decide (n < 0))
def okL (x : Int) : Int := if isNegL x = true then -(Builtin.bitXor x 9223372036854775808) else x
def fC (m : Nat) : Bool := fF (m + 1 : Nat) (fiL (m + 1 : Nat)) && fF (-(m + 1 : Nat)) (fiL (-(m + 1 : Nat)))
  && decide (okL (fiL (m + 1 : Nat)) = fiL (m + 1 : Nat)) && decide (okL (fiL (-(m + 1 : Nat))) = - fiL (m + 1 : Nat)) && decide (fiL (m : Nat) < fiL (m + 1 : Nat))
theorem fC_all : (List.range 1000).all fC = true := by decide +kernel
theorem fC_at {m : Nat} (h : m < 1000) : fC m = true := List.all_eq_true.mp fC_all m (List.mem_range.mpr h)
theorem fi_zero : fiL 0 = 0 := by decide +kernel
theorem fF_at {n : Int} (h : -1000 ≤ n ∧ n ≤ 1000) (h0 : n ≠ 0) : fF n (fiL n) = true := by
  have h1 := fC_at (m := n.natAbs - 1) (by omega)
  have e : n.natAbs - 1 + 1 = n.natAbs := by omega
  unfold fC at h1
  rw [e] at h1
  simp only [Bool.and_eq_true] at h1
  rcases Int.natAbs_eq n with h2 | h2
  · have := h1.1.1.1.1; rw [← h2] at this; exact this
  · have := h1.1.1.1.2; rw [← h2] at this; exact this
theorem fi_facts {n : Int} (h : -1000 ≤ n ∧ n ≤ 1000) (h0 : n ≠ 0) :
    sigL (fiL n) = (if n < 0 then 1 else 0) ∧ manL (fiL n) = (n.natAbs : Int) * 2 ^ (52 - n.natAbs.log2) ∧ powL (fiL n) = (n.natAbs.log2 : Int) - 52 ∧
    isNanL (fiL n) = false ∧ isInfL (fiL n) = false ∧ isZeroL (fiL n) = false ∧ isNegL (fiL n) = decide (n < 0) := by
  have h1 := fF_at h h0
  unfold fF at h1
  simp only [Bool.and_eq_true, decide_eq_true_eq, beq_iff_eq] at h1
  exact ⟨h1.1.1.1.1.1.1, h1.1.1.1.1.1.2, h1.1.1.1.1.2, h1.1.1.1.2, h1.1.1.2, h1.1.2, h1.2⟩
theorem fi_nan {n : Int} (h : -1000 ≤ n ∧ n ≤ 1000) : isNanL (fiL n) = false := by
  by_cases h0 : n = 0
  · subst h0; decide +kernel
  · exact (fi_facts h h0).2.2.2.1
theorem fi_inf {n : Int} (h : -1000 ≤ n ∧ n ≤ 1000) : isInfL (fiL n) = false := by
  by_cases h0 : n = 0
  · subst h0; decide +kernel
  · exact (fi_facts h h0).2.2.2.2.1
theorem fi_isz {n : Int} (h : -1000 ≤ n ∧ n ≤ 1000) : isZeroL (fiL n) = decide (n = 0) := by
  by_cases h0 : n = 0
  · subst h0; decide +kernel
  · rw [(fi_facts h h0).2.2.2.2.2.1]; simp [h0]
theorem fi_neg {n : Int} (h : -1000 ≤ n ∧ n ≤ 1000) : isNegL (fiL n) = decide (n < 0) := by
  by_cases h0 : n = 0
  · subst h0; decide +kernel
  · exact (fi_facts h h0).2.2.2.2.2.2
theorem fi_step {m : Nat} (h : m < 1000) : fiL (m : Nat) < fiL (m + 1 : Nat) := by
  have h1 := fC_at h
  unfold fC at h1
  simp only [Bool.and_eq_true, decide_eq_true_eq] at h1
  exact h1.2
theorem fi_lt {a b : Nat} (h : a < b) (hb : b ≤ 1000) : fiL (a : Nat) < fiL (b : Nat) := by
  induction b with
  | zero => omega
  | succ b ih =>
    have s := fi_step (m := b) (by omega)
    by_cases e : a = b
    · subst e; exact s
    · exact Int.lt_trans (ih (by omega) (by omega)) s
theorem ok_pos {n : Int} (h : 0 ≤ n ∧ n ≤ 1000) : okL (fiL n) = fiL (n.toNat : Nat) := by
  by_cases h0 : n = 0
  · subst h0; decide +kernel
  · have h1 := fC_at (m := n.toNat - 1) (by omega)
    have e : n.toNat - 1 + 1 = n.toNat := by omega
    unfold fC at h1
    rw [e] at h1
    simp only [Bool.and_eq_true, decide_eq_true_eq] at h1
    have e2 : ((n.toNat : Nat) : Int) = n := by omega
    have := h1.1.1.2
    rw [e2] at this ⊢
    exact this
theorem ok_neg {n : Int} (h : -1000 ≤ n ∧ n < 0) : okL (fiL n) = - fiL ((-n).toNat : Nat) := by
  have h1 := fC_at (m := (-n).toNat - 1) (by omega)
  have e : (-n).toNat - 1 + 1 = (-n).toNat := by omega
  unfold fC at h1
  rw [e] at h1
  simp only [Bool.and_eq_true, decide_eq_true_eq] at h1
  have e2 : (((-n).toNat : Nat) : Int) = -n := by omega
  have := h1.1.2
  rw [e2] at this ⊢
  rw [show - -n = n by omega] at this
  exact this
theorem fi_nonneg {m : Nat} (h : m ≤ 1000) : 0 ≤ fiL (m : Nat) := by
  by_cases h0 : m = 0
  · subst h0; decide +kernel
  · have := fi_lt (a := 0) (b := m) (by omega) h
    rw [show ((0 : Nat) : Int) = 0 from rfl, fi_zero] at this
    omega
theorem ok_lt {a b : Int} (ha : -1000 ≤ a ∧ a ≤ 1000) (hb : -1000 ≤ b ∧ b ≤ 1000) (h : a < b) : okL (fiL a) < okL (fiL b) := by
  by_cases a0 : a < 0
  · rw [ok_neg ⟨ha.1, a0⟩]
    have p : 0 < fiL ((-a).toNat : Nat) := by
      have := fi_lt (a := 0) (b := (-a).toNat) (by omega) (by omega)
      rw [show ((0 : Nat) : Int) = 0 from rfl, fi_zero] at this
      exact this
    by_cases b0 : b < 0
    · rw [ok_neg ⟨hb.1, b0⟩]
      have := fi_lt (a := (-b).toNat) (b := (-a).toNat) (by omega) (by omega)
      omega
    · rw [ok_pos ⟨by omega, hb.2⟩]
      have := fi_nonneg (m := b.toNat) (by omega)
      omega
  · rw [ok_pos ⟨by omega, ha.2⟩, ok_pos ⟨by omega, hb.2⟩]
    exact fi_lt (by omega) (by omega)
theorem ok_order {a b : Int} (ha : -1000 ≤ a ∧ a ≤ 1000) (hb : -1000 ≤ b ∧ b ≤ 1000) : (okL (fiL a) < okL (fiL b) ↔ a < b) ∧ (okL (fiL a) = okL (fiL b) ↔ a = b) := by
  rcases Int.lt_trichotomy a b with h | h | h
  · have := ok_lt ha hb h; constructor <;> constructor <;> intro <;> omega
  · subst h; constructor <;> constructor <;> intro <;> omega
  · have := ok_lt hb ha h; constructor <;> constructor <;> intro <;> omega
theorem nan_nan : isNanL 9221120237041090560 = true := by decide +kernel
theorem nan_ne {n : Int} (h : -1000 ≤ n ∧ n ≤ 1000) : fiL n ≠ 9221120237041090560 := by
  intro e
  have := fi_nan h
  rw [e, nan_nan] at this
  cases this
/-- a number's figures, counted without its text -/
def dcF : Nat → Nat → Nat
  | 0, _ => 1
  | f + 1, n => cond (Nat.ble n 9) 1 (dcF f (n / 10) + 1)
theorem dcF_eq : ∀ (f n : Nat), n < 10 ^ (f + 1) → (Nat.toDigits 10 n).length = dcF f n := by
  intro f
  induction f with
  | zero => intro n h; rw [Nat.toDigits_of_lt_base (by omega)]; rfl
  | succ f ih =>
    intro n h
    unfold dcF
    by_cases h9 : n ≤ 9
    · rw [Nat.toDigits_of_lt_base (by omega), Nat.ble_eq_true_of_le h9]; rfl
    · have e : Nat.ble n 9 = false := Bool.eq_false_iff.mpr fun q => h9 (Nat.le_of_ble_eq_true q)
      have h' : n < 10 * 10 ^ (f + 1) := by rw [Nat.pow_succ, Nat.mul_comm] at h; exact h
      rw [e, Nat.toDigits_of_base_le (by decide) (by omega), List.length_append, ih (n / 10) (Nat.div_lt_of_lt_mul h')]; rfl
def ndF (x : Int) : Int := (dcF 22 x.toNat : Int)
theorem ndF_eq {x : Int} (h0 : 0 < x) (h1 : x < 2 ^ 70) : ndL x = ndF x := by
  obtain ⟨n, rfl⟩ := Int.eq_ofNat_of_zero_le (Int.le_of_lt h0)
  rw [ndL_nat, ndF, Int.toNat_natCast, dcF_eq 22 n (by omega)]
def dpD (d x y : Int) : Int := if 0 ≤ d then (if y * 10 ^ d.toNat ≤ x then d + 1 else d) else if y ≤ x * 10 ^ (0 - d).toNat then d + 1 else d
def fpD (d n a u : Int) : Int :=
  if 0 ≤ d then (if u * 10 ^ d.toNat < n + a then d + 1 else if n + a = u * 10 ^ d.toNat then d + 1 else d)
  else (if u < (n + a) * 10 ^ (0 - d).toNat then d + 1 else if (n + a) * 10 ^ (0 - d).toNat = u then d + 1 else d)
def fpF (n a u : Int) : Int := fpD (dpD (ndF n - ndF u) n u) n a u
theorem fp_eq {n a u : Int} (h0 : 0 < n) (h1 : n < 2 ^ 60) (h2 : 0 < u) (h3 : u < 2 ^ 70) : fpL n a u true = fpF n a u := by
  have e : dpL n u = dpD (ndF n - ndF u) n u := by rw [← ndF_eq h0 (by omega), ← ndF_eq h2 h3]; rfl
  unfold fpL fpF
  rw [e]
  rfl
def kM (m : Nat) : Int := (m : Int) * 2 ^ (52 - m.log2)
def kP (m : Nat) : Int := (m.log2 : Int) - 52
def kN (m : Nat) : Int := kM m * scF (kM m)
def kA (m : Nat) : Int := scA (kM m)
def kU (m : Nat) : Int := scF (kM m) * 2 ^ (0 - kP m).toNat
def kpl (m : Nat) : Int := fpF (kN m) (kA m) (kU m)
def kT (m : Nat) : List Int := (runL 6 (kU m * 10 ^ (kpl m).toNat) (kN m) (kA m) 1).getD []
def ShownR (m : Nat) (pl : Int) (T : List Int) : Prop :=
  (0 ≤ pl ∧ pl ≤ 5) ∧ (runL 6 (kU m * 10 ^ pl.toNat) (kN m) (kA m) 1 = some T) ∧ T.length ≤ 20 ∧ Str.ofString "" ++ laidL (figS T) pl = txt (m : Int) ∧ Str.ofString "-" ++ laidL (figS T) pl = txt (-(m : Int))
    ∧ (((figS T).length : Int) ≤ pl) ∧ (laidL (figS T) pl).length ≤ 30 ∧ ((T.map txt).map (·.length)).sum + (T.map txt).length ≤ 1048576
    ∧ Sz (kU m) 70 ∧ (kU m * 10 ^ pl.toNat ≠ 0) ∧ Sz (kU m * 10 ^ pl.toNat) 200 ∧ (kM m).fmod 2 = 0
    ∧ (0 < kN m ∧ kN m < 2 ^ 60) ∧ (0 < kA m ∧ kA m < 5) ∧ (0 < kU m ∧ kU m < 2 ^ 70) ∧ (-60 ≤ kP m ∧ kP m < 0)
def ShownC (m : Nat) (pl : Int) (T : List Int) : Prop :=
  (0 ≤ pl ∧ pl ≤ 5) ∧ (runL 6 (kU m * 10 ^ pl.toNat) (kN m) (kA m) 1 = some T) ∧ T.length ≤ 20 ∧ Str.ofString "" ++ laidL (figS T) pl = txt (m : Int)
    ∧ (((figS T).length : Int) ≤ pl) ∧ (laidL (figS T) pl).length ≤ 30 ∧ ((T.map txt).map (·.length)).sum + (T.map txt).length ≤ 1048576
    ∧ Sz (kU m) 70 ∧ (kU m * 10 ^ pl.toNat ≠ 0) ∧ Sz (kU m * 10 ^ pl.toNat) 200 ∧ (kM m).fmod 2 = 0
    ∧ (0 < kN m ∧ kN m < 2 ^ 60) ∧ (0 < kA m ∧ kA m < 5) ∧ (0 < kU m ∧ kU m < 2 ^ 70) ∧ (-60 ≤ kP m ∧ kP m < 0)
theorem ofs_append (a b : String) : Str.ofString (a ++ b) = Str.ofString a ++ Str.ofString b := by
  have e : (Str.ofString (a ++ b)).cps.toList = (Str.ofString a ++ Str.ofString b).cps.toList := by
    rw [signs_ofString, Str.cps_append, Array.toList_append, signs_ofString, signs_ofString, String.toList_append, List.map_append]
  exact congrArg Str.mk (Array.toList_inj.mp e)
theorem txt_neg {m : Nat} (h : 1 ≤ m) : txt (-(m : Int)) = Str.ofString "-" ++ txt (m : Int) := by
  unfold txt
  rw [toString_neg (by omega), show (0 - -(m : Int)) = (m : Int) by omega, ofs_append]
theorem ShownC.all {m : Nat} {pl : Int} {T : List Int} (h1 : 1 ≤ m) (h : ShownC m pl T) : ShownR m pl T := by
  obtain ⟨a, b, c, d, e⟩ := h
  refine ⟨a, b, c, d, ?_, e⟩
  rw [txt_neg h1, ← d, show Str.ofString "" ++ laidL (figS T) pl = laidL (figS T) pl from Str.append_left_empty (by decide)]
def chkI (m : Nat) : Decidable (ShownC m (kpl m) (kT m)) := by unfold ShownC Sz; infer_instance
def chk (m : Nat) : Bool := @decide (ShownC m (kpl m) (kT m)) (chkI m)
theorem chk_a : (List.range 250).all (fun i => chk (i + 1)) = true := by decide +kernel
theorem chk_b : (List.range 250).all (fun i => chk (i + 251)) = true := by decide +kernel
theorem chk_c : (List.range 250).all (fun i => chk (i + 501)) = true := by decide +kernel
theorem chk_d : (List.range 250).all (fun i => chk (i + 751)) = true := by decide +kernel
theorem shown_of {i d : Nat} (h : (List.range 250).all (fun i => chk (i + d)) = true) (hi : i < 250) {m : Nat} (hm : 1 ≤ m) (e : i + d = m) : ShownR m (kpl m) (kT m) := by
  have := List.all_eq_true.mp h i (List.mem_range.mpr hi)
  subst e
  unfold chk at this
  exact ShownC.all hm (@of_decide_eq_true _ (chkI _) this)
theorem shown_all {m : Nat} (h : 1 ≤ m ∧ m ≤ 1000) : ShownR m (kpl m) (kT m) := by
  by_cases h1 : m ≤ 250
  · exact shown_of (i := m - 1) chk_a (by omega) h.1 (by omega)
  · by_cases h2 : m ≤ 500
    · exact shown_of (i := m - 251) chk_b (by omega) h.1 (by omega)
    · by_cases h3 : m ≤ 750
      · exact shown_of (i := m - 501) chk_c (by omega) h.1 (by omega)
      · exact shown_of (i := m - 751) chk_d (by omega) h.1 (by omega)
theorem ct_eqB {w : World} {sz : Nat} {f : Addr} {vs : List Value} {Pre : Heap → Prop} {x y : Bool} (C : Ct w sz f vs Pre (RetB x)) (e : x = y) : Ct w sz f vs Pre (RetB y) := e ▸ C
theorem ct_eqI {w : World} {sz : Nat} {f : Addr} {vs : List Value} {Pre : Heap → Prop} {x y : Int} (C : Ct w sz f vs Pre (RetI x)) (e : x = y) : Ct w sz f vs Pre (RetI y) := e ▸ C
theorem ct_eqS {w : World} {sz : Nat} {f : Addr} {vs : List Value} {Pre : Heap → Prop} {x y : Str} (C : Ct w sz f vs Pre (RetS x)) (e : x = y) : Ct w sz f vs Pre (RetS y) := e ▸ C
theorem ct_short_num (w : World) (n : Int) (t : Tok) (hn : -1000 ≤ n ∧ n ≤ 1000) (h0 : n ≠ 0) :
    Ct w 3 217 [.int (fiL n) t] (fun _ => True) (RetT fun vs => ∃ t u, vs = [.str (figS (kT n.natAbs)) t, .int (kpl n.natAbs) u]) := by
  obtain ⟨f1, f2, f3, -⟩ := fi_facts (n := n) (by omega) h0
  obtain ⟨s1, s2, s3, -, -, -, -, s8, s9, s10, s11, s12, s13, s14, s15, s16⟩ := shown_all (m := n.natAbs) (by omega)
  refine ct_shortest_gen w (fiL n) (sigL (fiL n)) (kM n.natAbs) (kP n.natAbs) (kN n.natAbs) (kA n.natAbs) (kU n.natAbs) (kpl n.natAbs) (kT n.natAbs) t ?_ ?_ ?_ s1 s9 s10 s11 s12 ⟨_, _, s2, rfl⟩ s3 s8
  · intro t
    have := ct_parts w (fiL n) t
    rw [f2, f3] at this
    exact this
  · intro t u
    exact ct_scaled w _ _ t u s16
  · intro t u v
    exact ct_eqI (ct_first_place w _ _ _ true t u v s13 s14 s15) (fp_eq s13.1 s13.2 s15.1 s15.2)
theorem ct_show_num (w : World) (n : Int) (t : Tok) (hn : -1000 ≤ n ∧ n ≤ 1000) : Ct w 4 259 [.int (fiL n) t] (fun _ => True) (RetS (txt n)) := by
  have g1 := fi_nan (n := n) (by omega)
  have g2 := fi_inf (n := n) (by omega)
  have g3 := fi_isz (n := n) (by omega)
  have g4 := fi_neg (n := n) (by omega)
  by_cases h0 : n = 0
  · refine ct_eqS (ct_show_zero w _ t (fun t => ct_eqB (ct_is_nan w _ t) g1) (fun t => ct_eqB (ct_is_inf w _ t) g2) (fun t => ct_eqB (ct_is_zero w _ t) (g3.trans (decide_eq_true h0)))) ?_
    subst h0; decide +kernel
  · obtain ⟨s1, -, -, s4, s5, s6, s7, -⟩ := shown_all (m := n.natAbs) (by omega)
    by_cases hneg : n < 0
    · refine ct_eqS (ct_show_neg w _ (kpl n.natAbs) (figS (kT n.natAbs)) t (fun t => ct_eqB (ct_is_nan w _ t) g1) (fun t => ct_eqB (ct_is_inf w _ t) g2) (fun t => ct_eqB (ct_is_zero w _ t) (g3.trans (decide_eq_false h0)))
        (fun t => ct_eqB (ct_is_negative w _ t) (g4.trans (decide_eq_true hneg))) (fun t => ct_short_num w n t hn h0) s6 (by omega) s7) ?_
      rw [s5, show -((n.natAbs : Nat) : Int) = n by omega]
    · refine ct_eqS (ct_show_pos w _ (kpl n.natAbs) (figS (kT n.natAbs)) t (fun t => ct_eqB (ct_is_nan w _ t) g1) (fun t => ct_eqB (ct_is_inf w _ t) g2) (fun t => ct_eqB (ct_is_zero w _ t) (g3.trans (decide_eq_false h0)))
        (fun t => ct_eqB (ct_is_negative w _ t) (g4.trans (decide_eq_false hneg))) (fun t => ct_short_num w n t hn h0) s6 (by omega) s7) ?_
      rw [s4, show ((n.natAbs : Nat) : Int) = n by omega]
theorem ct_show_NaN (w : World) (t : Tok) : Ct w 4 259 [.int 9221120237041090560 t] (fun _ => True) (RetS (Str.ofString "NaN")) :=
  ct_show_nan w _ t (fun t => ct_eqB (ct_is_nan w _ t) nan_nan)

theorem wd_82_0 : True := by
  k_with "W call ref" => (k_here; (with_reducible show wpAny _ _ (call (Value.ref 259) _) _ _ _); k_dflt (refine' use_str (ct_show_NaN _ _) ?k1 ?k2 ?k3 ?k4 ?k5 ?kK ?kp ?kd ?ku ?_; (case k1 => k_asm); (case k2 => k_asm); (case k3 => k_asm); (case k4 => k_asm); (case k5 => k_asm); (case kK => first | exact rfl | assumption); (case kp => exact True.intro); (case kd => ((try dsimp (zetaDelta := true) only [Around.deeper, ktrTop]); ktr_room)); (case ku => ((try dsimp (zetaDelta := true) only [Around.deeper, ktrTop]); ktr_units)); intro t9 h9 tk9 F9 N9; (try dsimp only); (try (walk_at "M foldQ")); (walk_say "USE ct_show_NaN")))
  k_with "W call ref" => (k_here; (with_reducible show wpAny _ _ (call (Value.ref 259) _) _ _ _); k_dflt (refine' use_str (ct_show_num _ _ _ ?c1) ?k1 ?k2 ?k3 ?k4 ?k5 ?kK ?kp ?kd ?ku ?_; (case k1 => k_asm); (case k2 => k_asm); (case k3 => k_asm); (case k4 => k_asm); (case k5 => k_asm); (case kK => first | exact rfl | assumption); (case kp => exact True.intro); (case c1 => omega); (case kd => ((try dsimp (zetaDelta := true) only [Around.deeper, ktrTop]); ktr_room)); (case ku => ((try dsimp (zetaDelta := true) only [Around.deeper, ktrTop]); ktr_units)); intro t9 h9 tk9 F9 N9; (try dsimp only); (try (walk_at "M foldQ")); (walk_say "USE ct_show_num")))
  exact True.intro
/-! a zip of two strs, drawn sign by sign -/
section
variable {prog : Program} {w : World} {A : Around} {E : Value → Shared → Prop} {s : Shared}
theorem nn {a b : Nat} (h : a ≠ b) : @Ne Addr a b := h
abbrev SI (h : Heap) (a : Addr) (x : Str) (t : Tok) (i : Nat) : Prop := h.IsStrIter a (strIterType x) x t i
theorem draw_item (hh : A.handled = none) {a : Addr} {x : Str} {t : Tok} {i c : Nat} {Q : Value → Shared → Prop} (h : SI s.heap a x t i) (hx : x.cps[i]? = some c)
    (hQ : ∀ h', SI h' a x t (i + 1) → Heap.SameBut a s.heap h' → Q (.str ⟨#[c]⟩ s.toks) { s with heap := h', toks := s.toks + 1 }) :
    wpAny (model prog w) A (Builtin.SmallTypes.nextOf (.ref a)) Q E s := by
  have _ := hh
  unfold SI at h hQ
  cases ha : x.cps.all (· < 128)
  · have e : strIterType x = "str_iterator" := by simp [strIterType, ha]
    rw [e] at h hQ
    exact wpAny_nextOf_wide_item h hx hQ
  · have e : strIterType x = "str_ascii_iterator" := by simp [strIterType, ha]
    rw [e] at h hQ
    exact wpAny_nextOf_ascii_item h hx hQ
theorem draw_end (hh : A.handled = none) {a : Addr} {x : Str} {t : Tok} {i : Nat} {Q : Value → Shared → Prop} (h : SI s.heap a x t i) (hx : x.cps[i]? = none)
    (hE : ∀ h' e, Heap.ExtBut a s.heap h' → (∃ o, h'.get? e = some o ∧ o.cls = .type "StopIteration") → E (.ref e) { s with heap := h' }) :
    wpAny (model prog w) A (Builtin.SmallTypes.nextOf (.ref a)) Q E s := by
  unfold SI at h
  cases ha : x.cps.all (· < 128)
  · have e : strIterType x = "str_iterator" := by simp [strIterType, ha]
    rw [e] at h
    exact wpAny_nextOf_wide_end hh h hx hE
  · have e : strIterType x = "str_ascii_iterator" := by simp [strIterType, ha]
    rw [e] at h
    exact wpAny_nextOf_ascii_end hh h hx hE
/-- the five objects of a zip, one behind the other -/
structure ZS (h : Heap) (b : Nat) (f0 : Value) (x : Str) (t : Tok) (i : Nat) (y : Str) (u : Tok) (j : Nat) : Prop where
  z : IsZip h (b + 4) (b + 2) (b + 3) f0
  ti : IsPair h (b + 2) (.ref b) (.ref (b + 1))
  to : ∃ p q, IsPair h (b + 3) p q
  i1 : SI h b x t i
  i2 : SI h (b + 1) y u j
theorem ZS.at {h h' : Heap} {b : Nat} {f0 : Value} {x y : Str} {t u : Tok} {i j : Nat} (Z : ZS h b f0 x t i y u j) (k : ∀ c : Nat, b ≤ c → c ≤ b + 4 → ∀ o, h.get? c = some o → h'.get? c = some o) : ZS h' b f0 x t i y u j where
  z := k _ (by omega) (by omega) _ Z.z
  ti := k _ (by omega) (by omega) _ Z.ti
  to := let ⟨p, q, e⟩ := Z.to; ⟨p, q, k _ (by omega) (by omega) _ e⟩
  i1 := let ⟨o, e, r⟩ := Z.i1; ⟨o, k _ (by omega) (by omega) _ e, r⟩
  i2 := let ⟨o, e, r⟩ := Z.i2; ⟨o, k _ (by omega) (by omega) _ e, r⟩
/-- what a draw leaves alone -/
abbrev ZKeep (b : Nat) (h h' : Heap) : Prop := ∀ (c : Nat) o, c ≠ b → c ≠ b + 1 → c ≠ b + 3 → c ≠ b + 4 → h.get? c = some o → h'.get? c = some o
theorem zs_next {b : Nat} {x y : Str} {t u : Tok} {i c d : Nat} {Q : Value → Shared → Prop} (hh : A.handled = none) (Z : ZS s.heap b .none x t i y u i) (hx : x.cps[i]? = some c) (hy : y.cps[i]? = some d)
    (hQ : ∀ h' tk v w', ZS h' b (rawInt s.heap.objs.size) x t (i + 1) y u (i + 1) → IsPair h' s.heap.objs.size (.str ⟨#[c]⟩ v) (.str ⟨#[d]⟩ w') → ZKeep b s.heap h' → Q (.ref s.heap.objs.size) { s with heap := h', toks := tk }) :
    wpAny (model prog w) A (Builtin.«zip.__next__» ⟨[.ref (b + 4)], []⟩) (fun fin s' => ∃ v, fin = .done (.ret v) ∧ Q v s') E s := by
  obtain ⟨p, q, hTO⟩ := Z.to
  show wpAny _ _ (field (.ref (b + 4)) 2 >>= _) _ _ _
  refine wpAny_bind (wpAny_field Z.z rfl (x := .bool false) rfl ?_)
  show wpAny _ _ (field (.ref (b + 4)) 3 >>= _) _ _ _
  refine wpAny_bind (wpAny_field Z.z rfl (x := .ref (b + 2)) rfl ?_)
  refine wpAny_bind (wpAny_seqItems Z.ti rfl ?_)
  show wpAny _ _ (Builtin.SmallTypes.ownedTupleIsFree (.ref (b + 4)) >>= _) _ _ _
  refine wpAny_bind ?_
  unfold Builtin.SmallTypes.ownedTupleIsFree
  refine wpAny_bind (wpAny_field Z.z rfl (x := .none) rfl (wpAny_pure ?_))
  simp only [if_true]
  refine wpAny_bind (wpAny_rule ?_)
  refine wpAny_bind (wpAny_field Z.z rfl (x := .ref (b + 3)) rfl ?_)
  refine wpAny_bind (wpAny_setField_rec Z.z (by simp) fun h1 z1 s1 => ?_)
  replace z1 : IsZip h1 (b + 4) (b + 2) (b + 3) .ellipsis := z1
  refine wpAny_bind ?_
  simp only [List.zipIdx_cons, List.zipIdx_nil, List.forIn_cons, List.forIn_nil]
  refine wpAny_bind (wpAny_bind (wpAny_onRaise ?_))
  show wpAny _ _ (Builtin.SmallTypes.nextOf (.ref b) >>= _) _ _ _
  refine wpAny_bind (draw_item hh (Heap.IsStrIter.extBut Z.i1 s1.extBut (nn (by omega))) hx fun h2 a2 s2 => wpAny_pure ?_)
  have t2 : IsPair h2 (b + 3) p q := s2.extBut _ _ (nn (by omega)) (s1.extBut _ _ (nn (by omega)) hTO)
  refine wpAny_bind (wpAny_seqItems t2 rfl ?_)
  refine wpAny_bind (wpAny_updateSeq_pair t2 fun h3 t3 s3 => ?_)
  replace t3 : IsPair h3 (b + 3) (.str ⟨#[c]⟩ s.toks) q := t3
  refine wpAny_bind (wpAny_letGo (wpAny_pure ?_))
  refine wpAny_bind (wpAny_bind (wpAny_onRaise ?_))
  show wpAny _ _ (Builtin.SmallTypes.nextOf (.ref (b + 1)) >>= _) _ _ _
  refine wpAny_bind (draw_item hh (Heap.IsStrIter.extBut (Heap.IsStrIter.extBut (Heap.IsStrIter.extBut Z.i2 s1.extBut (nn (by omega))) s2.extBut (nn (by omega))) s3.extBut (nn (by omega))) hy fun h4 a4 s4 => wpAny_pure ?_)
  have t4 : IsPair h4 (b + 3) (.str ⟨#[c]⟩ s.toks) q := s4.extBut _ _ (nn (by omega)) t3
  refine wpAny_bind (wpAny_seqItems t4 rfl ?_)
  refine wpAny_bind (wpAny_updateSeq_pair t4 fun h5 t5 s5 => ?_)
  replace t5 : IsPair h5 (b + 3) (.str ⟨#[c]⟩ s.toks) (.str ⟨#[d]⟩ (s.toks + 1)) := t5
  refine wpAny_bind (wpAny_letGo (wpAny_pure (wpAny_pure ?_)))
  refine wpAny_bind (wpAny_seqItems t5 rfl ?_)
  refine wpAny_bind (wpAny_newTuple ?_)
  have hz : h5.objs.size = s.heap.objs.size := by rw [s5.1, s4.1, s3.1, s2.1, s1.1]
  have z5 : IsZip h5 (b + 4) (b + 2) (b + 3) .ellipsis := s5.extBut _ _ (nn (by omega)) (s4.extBut _ _ (nn (by omega)) (s3.extBut _ _ (nn (by omega)) (s2.extBut _ _ (nn (by omega)) z1)))
  have k5 : ZKeep b s.heap h5 := fun a o c1 c2 c3 c4 e => s5.extBut _ _ c3 (s4.extBut _ _ c2 (s3.extBut _ _ c3 (s2.extBut _ _ c1 (s1.extBut _ _ c4 e))))
  have a5 : SI h5 b x t (i + 1) := Heap.IsStrIter.extBut (Heap.IsStrIter.extBut (Heap.IsStrIter.extBut a2 s3.extBut (nn (by omega))) s4.extBut (nn (by omega))) s5.extBut (nn (by omega))
  have b5 : SI h5 (b + 1) y u (i + 1) := Heap.IsStrIter.extBut a4 s5.extBut (nn (by omega))
  have hzl : b + 4 < h5.objs.size := Heap.lt_size z5
  show wpAny _ _ (Builtin.SmallTypes.ownedTupleHandOut (.ref (b + 4)) (.ref h5.objs.size) >>= _) _ _ _
  refine wpAny_bind ?_
  unfold Builtin.SmallTypes.ownedTupleHandOut
  have z6 : IsZip (h5.push { cls := .type "tuple", data := .seq #[.str ⟨#[c]⟩ s.toks, .str ⟨#[d]⟩ (s.toks + 1)] }) (b + 4) (b + 2) (b + 3) .ellipsis := Heap.get?_push_of_some _ z5
  refine wpAny_bind (wpAny_setField_rec z6 (by simp) fun h7 z7 s7 => ?_)
  replace z7 : IsZip h7 (b + 4) (b + 2) (b + 3) (rawInt h5.objs.size) := z7
  refine wpAny_setField_rec z7 (by simp) fun h8 z8 s8 => ?_
  replace z8 : IsZip h8 (b + 4) (b + 2) (b + 3) (rawInt h5.objs.size) := z8
  have up : ∀ (a : Nat) o, a ≠ b + 4 → h5.get? a = some o → h8.get? a = some o := fun a o c1 e => s8.extBut _ _ c1 (s7.extBut _ _ c1 (Heap.get?_push_of_some _ e))
  have t8 : IsPair h8 h5.objs.size (.str ⟨#[c]⟩ s.toks) (.str ⟨#[d]⟩ (s.toks + 1)) := s8.extBut _ _ (nn (by omega)) (s7.extBut _ _ (nn (by omega)) (Heap.get?_push_size _ rfl))
  rw [hz] at z8 t8
  refine wpAny_pure ⟨_, rfl, ?_⟩
  show Q (.ref h5.objs.size) _
  rw [hz]
  refine hQ h8 _ _ _ ⟨z8, up _ _ (nn (by omega)) (k5 _ _ (nn (by omega)) (nn (by omega)) (nn (by omega)) (nn (by omega)) Z.ti), ⟨_, _, up _ _ (nn (by omega)) t5⟩, ?_, ?_⟩ t8 fun a o c1 c2 c3 c4 e => up a o c4 (k5 a o c1 c2 c3 c4 e)
  · obtain ⟨o, e, r⟩ := a5
    exact ⟨o, up _ _ (nn (by omega)) e, r⟩
  · obtain ⟨o, e, r⟩ := b5
    exact ⟨o, up _ _ (nn (by omega)) e, r⟩
theorem zs_end {b : Nat} {x y : Str} {t u : Tok} {i : Nat} {Q : Fin → Shared → Prop} (hh : A.handled = none) (Z : ZS s.heap b .none x t i y u i) (hend : x.cps[i]? = none ∨ y.cps[i]? = none)
    (hE : ∀ h' tk e, ZKeep b s.heap h' → (∃ o, h'.get? e = some o ∧ o.cls = .type "StopIteration") → E (.ref e) { s with heap := h', toks := tk }) :
    wpAny (model prog w) A (Builtin.«zip.__next__» ⟨[.ref (b + 4)], []⟩) Q E s := by
  obtain ⟨p, q, hTO⟩ := Z.to
  show wpAny _ _ (field (.ref (b + 4)) 2 >>= _) _ _ _
  refine wpAny_bind (wpAny_field Z.z rfl (x := .bool false) rfl ?_)
  show wpAny _ _ (field (.ref (b + 4)) 3 >>= _) _ _ _
  refine wpAny_bind (wpAny_field Z.z rfl (x := .ref (b + 2)) rfl ?_)
  refine wpAny_bind (wpAny_seqItems Z.ti rfl ?_)
  show wpAny _ _ (Builtin.SmallTypes.ownedTupleIsFree (.ref (b + 4)) >>= _) _ _ _
  refine wpAny_bind ?_
  unfold Builtin.SmallTypes.ownedTupleIsFree
  refine wpAny_bind (wpAny_field Z.z rfl (x := .none) rfl (wpAny_pure ?_))
  simp only [if_true]
  refine wpAny_bind (wpAny_rule ?_)
  refine wpAny_bind (wpAny_field Z.z rfl (x := .ref (b + 3)) rfl ?_)
  refine wpAny_bind (wpAny_setField_rec Z.z (by simp) fun h1 z1 s1 => ?_)
  replace z1 : IsZip h1 (b + 4) (b + 2) (b + 3) .ellipsis := z1
  refine wpAny_bind ?_
  simp only [List.zipIdx_cons, List.zipIdx_nil, List.forIn_cons, List.forIn_nil]
  refine wpAny_bind (wpAny_bind (wpAny_onRaise ?_))
  show wpAny _ _ (Builtin.SmallTypes.nextOf (.ref b) >>= _) _ _ _
  cases hx : x.cps[i]? with
  | none =>
    refine wpAny_bind (draw_end hh (Heap.IsStrIter.extBut Z.i1 s1.extBut (nn (by omega))) hx fun h2 e s2 he => ?_)
    obtain ⟨oe, hoe, hce⟩ := he
    have z2 : IsZip h2 (b + 4) (b + 2) (b + 3) .ellipsis := s2 _ _ (nn (by omega)) z1
    have hez : e ≠ b + 4 := fun q => by subst q; rw [z2] at hoe; cases hoe; simp at hce
    refine wpAny_setField_rec z2 (by simp) fun h3 _ s3 => hE h3 _ e (fun a o c1 c2 c3 c4 q => s3.extBut _ _ c4 (s2 _ _ c1 (s1.extBut _ _ c4 q))) ⟨oe, s3.extBut _ _ hez hoe, hce⟩
  | some c =>
    have hy : y.cps[i]? = none := by rcases hend with h | h; rw [hx] at h; cases h; exact h
    refine wpAny_bind (draw_item hh (Heap.IsStrIter.extBut Z.i1 s1.extBut (nn (by omega))) hx fun h2 a2 s2 => wpAny_pure ?_)
    have t2 : IsPair h2 (b + 3) p q := s2.extBut _ _ (nn (by omega)) (s1.extBut _ _ (nn (by omega)) hTO)
    refine wpAny_bind (wpAny_seqItems t2 rfl ?_)
    refine wpAny_bind (wpAny_updateSeq_pair t2 fun h3 t3 s3 => ?_)
    refine wpAny_bind (wpAny_letGo (wpAny_pure ?_))
    refine wpAny_bind (wpAny_bind (wpAny_onRaise ?_))
    show wpAny _ _ (Builtin.SmallTypes.nextOf (.ref (b + 1)) >>= _) _ _ _
    refine wpAny_bind (draw_end hh (Heap.IsStrIter.extBut (Heap.IsStrIter.extBut (Heap.IsStrIter.extBut Z.i2 s1.extBut (nn (by omega))) s2.extBut (nn (by omega))) s3.extBut (nn (by omega))) hy fun h4 e s4 he => ?_)
    obtain ⟨oe, hoe, hce⟩ := he
    have z4 : IsZip h4 (b + 4) (b + 2) (b + 3) .ellipsis := s4 _ _ (nn (by omega)) (s3.extBut _ _ (nn (by omega)) (s2.extBut _ _ (nn (by omega)) z1))
    have hez : e ≠ b + 4 := fun q => by subst q; rw [z4] at hoe; cases hoe; simp at hce
    refine wpAny_setField_rec z4 (by simp) fun h5 _ s5 => hE h5 _ e (fun a o c1 c2 c3 c4 q => s5.extBut _ _ c4 (s4 _ _ c2 (s3.extBut _ _ c3 (s2.extBut _ _ c1 (s1.extBut _ _ c4 q))))) ⟨oe, s5.extBut _ _ hez hoe, hce⟩
theorem zs_pyNext {b : Nat} {x y : Str} {t u : Tok} {i c d : Nat} {Q : Option Value → Shared → Prop} (hh : A.handled = none) (Z : ZS s.heap b .none x t i y u i) (hx : x.cps[i]? = some c) (hy : y.cps[i]? = some d)
    (hQ : ∀ h' tk v w', ZS h' b (rawInt s.heap.objs.size) x t (i + 1) y u (i + 1) → IsPair h' s.heap.objs.size (.str ⟨#[c]⟩ v) (.str ⟨#[d]⟩ w') → ZKeep b s.heap h' → Q (some (.ref s.heap.objs.size)) { s with heap := h', toks := tk }) :
    wpAny (model prog w) A (pyNext (.ref (b + 4))) Q E s := by
  have hT : s.TypeIs (.ref (b + 4)) "zip" := ⟨_, Z.z, rfl⟩
  unfold pyNext
  exact wpAny_bind (wpAny_attempt (wpAny_callSpecial?_slot (name := Str.ofString "__next__") hT F.slot_zip_next
    (wpAny_call_entry F.slot_zip_next hT F.entry_zip_next (zs_next hh Z hx hy fun h' tk v w' a1 a2 a3 => wpAny_pure (hQ h' tk v w' a1 a2 a3)) (F.args_zip_next_1 _))))
theorem zs_pyEnd {b : Nat} {x y : Str} {t u : Tok} {i : Nat} {Q : Option Value → Shared → Prop} (hh : A.handled = none) (Z : ZS s.heap b .none x t i y u i) (hend : x.cps[i]? = none ∨ y.cps[i]? = none)
    (hQ : ∀ h' tk, ZKeep b s.heap h' → Q none { s with heap := h', toks := tk }) : wpAny (model prog w) A (pyNext (.ref (b + 4))) Q E s := by
  have hT : s.TypeIs (.ref (b + 4)) "zip" := ⟨_, Z.z, rfl⟩
  unfold pyNext
  refine wpAny_bind (wpAny_attempt (wpAny_callSpecial?_slot (name := Str.ofString "__next__") hT F.slot_zip_next
    (wpAny_call_entry F.slot_zip_next hT F.entry_zip_next (zs_end hh Z hend fun h' tk e hk he => ?_) (F.args_zip_next_1 _))))
  obtain ⟨o, ho, hc⟩ := he
  exact wpAny_bind (wpAny_isInstance (T := "StopIteration") (b := true) ⟨o, ho, hc⟩ isSubtype_stop (wpAny_pure (hQ _ _ hk)))
abbrev zg1 (h : Heap) (x : Str) (t : Tok) : Heap := h.push { cls := .type (strIterType x), data := .fields #[.str x t, .int 0 0] }
abbrev zg3 (h : Heap) (x : Str) (t : Tok) (y : Str) (u : Tok) : Heap := (zg1 (zg1 h x t) y u).push { cls := .type "tuple", data := .seq #[.ref h.objs.size, .ref (zg1 h x t).objs.size] }
abbrev zg4 (h : Heap) (x : Str) (t : Tok) (y : Str) (u : Tok) : Heap := (zg3 h x t y u).push { cls := .type "tuple", data := .seq #[.none, .none] }
abbrev zg5 (h : Heap) (x : Str) (t : Tok) (y : Str) (u : Tok) : Heap := (zg4 h x t y u).push { cls := .type "zip", data := .fields #[.none, .bool false, .bool false, .ref (zg1 (zg1 h x t) y u).objs.size, .ref (zg3 h x t y u).objs.size] }
theorem zs_new (x y : Str) (t u : Tok) :
    Meets (Builtin.«zip.__new__» ⟨[.type "zip", .str x t, .str y u], []⟩) (fun _ R s => R (.ok (.ret (.ref (zg4 s.heap x t y u).objs.size))) { s with heap := zg5 s.heap x t y u }) :=
  .of_wp fun prog w A R s h => by
    obtain ⟨hp, g, d, tk, os⟩ := s
    have hsub := sub_zip
    wp_walk using wpAny_pyIter_strU
    exact ⟨_, rfl, h⟩
theorem zs_call {x y : Str} {t u : Tok} {Q : Value → Shared → Prop}
    (h : ∀ h', ZS h' s.heap.objs.size .none x t 0 y u 0 → (∀ c o, s.heap.get? c = some o → h'.get? c = some o) → Q (.ref (s.heap.objs.size + 4)) { s with heap := h' }) :
    wpAny (model prog w) A (call (.type "zip") [.str x t, .str y u]) Q E s := by
  refine callType_new F.called_zip (by decide) (F.typeCall_zip_2 _ _) (F.newCall_zip_2 _ _) (fun obj => F.args_object_init_3 obj _ _) F.entry_zip_new (zs_new x y t u) ?_
  have z1 : (zg1 s.heap x t).objs.size = s.heap.objs.size + 1 := Heap.size_push ..
  have z2 : (zg1 (zg1 s.heap x t) y u).objs.size = s.heap.objs.size + 2 := by rw [Heap.size_push, z1]
  have z3 : (zg3 s.heap x t y u).objs.size = s.heap.objs.size + 3 := by rw [Heap.size_push, z2]
  have z4 : (zg4 s.heap x t y u).objs.size = s.heap.objs.size + 4 := by rw [Heap.size_push, z3]
  have g5 : (zg5 s.heap x t y u).get? (zg4 s.heap x t y u).objs.size = some _ := Heap.get?_push_size _ rfl
  have g4 : (zg5 s.heap x t y u).get? (zg3 s.heap x t y u).objs.size = some _ := Heap.get?_push_of_some _ (Heap.get?_push_size _ rfl)
  have g3 : (zg5 s.heap x t y u).get? (zg1 (zg1 s.heap x t) y u).objs.size = some _ := Heap.get?_push_of_some _ (Heap.get?_push_of_some _ (Heap.get?_push_size _ rfl))
  have g2 : (zg5 s.heap x t y u).get? (zg1 s.heap x t).objs.size = some _ := Heap.get?_push_of_some _ (Heap.get?_push_of_some _ (Heap.get?_push_of_some _ (Heap.get?_push_size _ rfl)))
  have g1 : (zg5 s.heap x t y u).get? s.heap.objs.size = some _ := Heap.get?_push_of_some _ (Heap.get?_push_of_some _ (Heap.get?_push_of_some _ (Heap.get?_push_of_some _ (Heap.get?_push_size _ rfl))))
  rw [z2, z3, z4] at g5
  rw [z1, z2] at g3
  rw [z3] at g4
  rw [z1] at g2
  show _ ∧ _
  rw [z4]
  exact ⟨⟨_, g5, rfl⟩, h _ ⟨g5, g3, ⟨_, _, g4⟩, ⟨_, g1, rfl, rfl⟩, ⟨_, g2, rfl, rfl⟩⟩ fun c o q =>
    Heap.get?_push_of_some _ (Heap.get?_push_of_some _ (Heap.get?_push_of_some _ (Heap.get?_push_of_some _ (Heap.get?_push_of_some _ q))))⟩
end
/-! the loop over a zip of two strs -/
section
variable {prog : Program} {w : World} {A : Around} {E : Value → Shared → Prop} {s : Shared} {h₀ : Heap} {env : Env} {body : List Stmt} {Q : Flow → Shared → Prop}
def TwoOff (a c : Str) (m m₀ : Str → Option Value) : Prop := ∀ z, z ≠ a → z ≠ c → m z = m₀ z
theorem TwoOff.form {a c : Str} {m m₀ : Str → Option Value} (h : TwoOff a c m m₀) : (fun z => if z = a then m a else if z = c then m c else m₀ z) = m := by
  funext z
  by_cases h1 : z = a
  · rw [if_pos h1, h1]
  · rw [if_neg h1]
    by_cases h2 : z = c
    · rw [if_pos h2, h2]
    · rw [if_neg h2, h z h1 h2]
def SameTo (x y : Str) (i : Nat) : Prop := ∀ j, j < i → x.cps[j]? = y.cps[j]?
def ZPost (h₀ : Heap) (L : Addr) (a c : Str) (m₀ : Str → Option Value) (own news : Led) (goes : Prop) (s₁ : Shared) (Q : Flow → Shared → Prop) (f : Flow) (s₂ : Shared) : Prop :=
  match f with
  | .ret v => Q (.ret v) s₂
  | .brk => Q .next s₂
  | _ => ∃ h' tk m', s₂ = { s₁ with heap := h', toks := tk } ∧ Fr h₀ L h' m' ∧ News h₀ L h' (own ++ news) ∧ TwoOff a c m' m₀ ∧ goes
abbrev zfp (b : Nat) : List Addr := [b, b + 1, b + 2, b + 3, b + 4]
abbrev zwr (b : Nat) : List Addr := [b, b + 1, b + 3, b + 4]
theorem zfp_mem {b c : Nat} (h1 : b ≤ c) (h2 : c ≤ b + 4) : (c : Addr) ∈ zfp b := by
  rcases (show c = b ∨ c = b + 1 ∨ c = b + 2 ∨ c = b + 3 ∨ c = b + 4 by omega) with rfl | rfl | rfl | rfl | rfl <;> simp
theorem zwr_off {b : Nat} {c : Addr} (h : c ∉ zwr b) : c ≠ b ∧ c ≠ b + 1 ∧ c ≠ b + 3 ∧ c ≠ b + 4 := by
  simp only [zwr, List.mem_cons, List.not_mem_nil, or_false, not_or] at h
  exact h
theorem zfp_lt {b : Nat} {c : Addr} (h : c ∈ zfp b) : @LE.le Nat _ b c := by
  simp only [zfp, List.mem_cons, List.not_mem_nil, or_false] at h
  rcases h with rfl | rfl | rfl | rfl | rfl
  · exact Nat.le_refl _
  · exact Nat.le_add_right _ _
  · exact Nat.le_add_right _ _
  · exact Nat.le_add_right _ _
  · exact Nat.le_add_right _ _
theorem zwr_lt {b : Nat} {c : Addr} (h : c ∈ zwr b) : @LE.le Nat _ b c := by
  simp only [zwr, List.mem_cons, List.not_mem_nil, or_false] at h
  rcases h with rfl | rfl | rfl | rfl
  · exact Nat.le_refl _
  · exact Nat.le_add_right _ _
  · exact Nat.le_add_right _ _
  · exact Nat.le_add_right _ _
theorem zs_turns (hh : A.handled = none) (b : Nat) (x y : Str) (t u : Tok) (elts : List Expr) (k : Nat) (pos : Pos) :
    KTurns prog w A (.Tuple elts k pos) (b + 4) (zfp b) (zwr b) (min x.cps.size y.cps.size)
      (fun i v h => ∃ T c d p q, v = .ref T ∧ x.cps[i]? = some c ∧ y.cps[i]? = some d ∧ IsTup h T #[.str ⟨#[c]⟩ p, .str ⟨#[d]⟩ q])
      (fun i v h => ∃ T c d p q, v = .ref T ∧ x.cps[i]? = some c ∧ y.cps[i]? = some d ∧ IsPair h T (.str ⟨#[c]⟩ p) (.str ⟨#[d]⟩ q) ∧ @LT.lt Nat _ (b + 4) T ∧ ZS h b (rawInt T) x t (i + 1) y u (i + 1))
      (fun i h => ZS h b .none x t i y u i) where
  sub := fun c hc => by
    simp only [zwr, List.mem_cons, List.not_mem_nil, or_false] at hc
    rcases hc with rfl | rfl | rfl | rfl <;> simp
  frame := fun i h h' Z k => Z.at fun c h1 h2 o e => k c (zfp_mem h1 h2) o e
  item := fun i s Q E hi Z hQ => by
    have hix : i < x.cps.size := by omega
    have hiy : i < y.cps.size := by omega
    refine zs_pyNext hh Z (Array.getElem?_eq_getElem hix) (Array.getElem?_eq_getElem hiy) fun h' tk v w' Z' hp hk => ?_
    exact hQ _ _ _ ⟨_, _, _, _, _, rfl, Array.getElem?_eq_getElem hix, Array.getElem?_eq_getElem hiy, hp, Heap.lt_size Z.z, Z'⟩ fun c o hc e => (fun q => hk c o q.1 q.2.1 q.2.2.1 q.2.2.2 e) (zwr_off hc)
  go := fun i v s Q E hm hQ => by
    obtain ⟨T, c, d, p, q, rfl, hx, hy, hT, hlt, Z⟩ := hm
    refine wpAny_letOwnedTupleGo_zip Z.z fun h' z' s' => ?_
    have k' : ∀ (a : Nat) o, a ≠ b + 4 → s.heap.get? a = some o → h'.get? a = some o := fun a o hn e => s'.extBut _ _ hn e
    obtain ⟨p', q', hto⟩ := Z.to
    refine hQ h' ⟨T, c, d, p, q, rfl, hx, hy, _, k' _ _ (by omega) hT, rfl, _, rfl⟩ ⟨z', k' _ _ (by omega) Z.ti, ⟨p', q', k' _ _ (by omega) hto⟩, ?_, ?_⟩ fun a o hn e => k' _ _ (zwr_off hn).2.2.2 e
    · obtain ⟨o, e, r⟩ := Z.i1
      exact ⟨o, k' _ _ (by omega) e, r⟩
    · obtain ⟨o, e, r⟩ := Z.i2
      exact ⟨o, k' _ _ (by omega) e, r⟩
  done := fun s Q E Z hQ => by
    refine zs_pyEnd hh Z ?_ fun h' tk hk => hQ h' tk fun c o hc e => (fun q => hk c o q.1 q.2.1 q.2.2.1 q.2.2.2 e) (zwr_off hc)
    rcases Nat.le_total x.cps.size y.cps.size with h | h
    · exact .inl (by rw [Nat.min_eq_left h]; exact Array.getElem?_eq_none (Nat.le_refl _))
    · exact .inr (by rw [Nat.min_eq_right h]; exact Array.getElem?_eq_none (Nat.le_refl _))
theorem iter_zipS {elts : List Expr} {k : Nat} {pos : Pos} {x y : Str} {t u : Tok} {m₀ : Str → Option Value} {news : Led} (a c : Str)
    (hh : A.handled = none) (F : Fr h₀ env.locals s.heap m₀) (N : News h₀ env.locals s.heap news)
    (turn : ∀ i p q (m₁ : Str → Option Value) h tk T v w' own, x.cps[i]? = some p → y.cps[i]? = some q → SameTo x y i → IsTup h T #[.str ⟨#[p]⟩ v, .str ⟨#[q]⟩ w'] → Fr h₀ env.locals h (fun z => if z = a then m₁ a else if z = c then m₁ c else m₀ z) → News h₀ env.locals h (own ++ news) →
      wpAny (model prog w) A (assign (.Tuple elts k pos) env (.ref T)) (fun _ s₂ => wpAny (model prog w) A (execs body env) (ZPost h₀ env.locals a c m₀ own news (p = q) { s with heap := h, toks := tk } Q) E s₂) E { s with heap := h, toks := tk })
    (done : ∀ (m₁ : Str → Option Value) h tk, SameTo x y (min x.cps.size y.cps.size) → Fr h₀ env.locals h (fun z => if z = a then m₁ a else if z = c then m₁ c else m₀ z) → News h₀ env.locals h news → Q .next { s with heap := h, toks := tk }) :
    wpAny (model prog w) A (call (.type "zip") [.str x t, .str y u]) (fun xv s₁ => wpAny (model prog w) A (pyIter xv) (fun it s₂ => TurnsAt prog w A h₀ env (.Tuple elts k pos) body Q E it s₂) E s₁) E s := by
  refine zs_call fun h' Z keep => ?_
  refine wpAny_pyIter_zip Z.z ?_
  have fresh : ∀ a : Addr, @LE.le Nat _ s.heap.objs.size a → h₀.get? a = none := fun a ha => by
    cases e : h₀.get? a with
    | none => rfl
    | some o => exact absurd (Heap.lt_size (F.keep a o e)) (Nat.not_lt.mpr ha)
  have hL := F.ns.lt
  refine ⟨_, _, _, _, _, _, _, m₀, news, fun i m₁ n₁ => n₁ = news ∧ TwoOff a c m₁ m₀ ∧ SameTo x y i, rfl, zs_turns hh _ x y t u elts k pos, fun hm => ?_, fun b hb => fresh b (zwr_lt hb), fun p hp hm => ?_, Z, F.keeps keep, N.grown keep,
    ⟨rfl, fun _ _ _ => rfl, fun j hj => absurd hj (Nat.not_lt_zero j)⟩, ?_, ?_⟩
  · exact absurd hL (Nat.not_lt.mpr (zfp_lt hm))
  · exact absurd (Heap.lt_size (N p hp).1) (Nat.not_lt.mpr (zwr_lt hm))
  · rintro i v m₁ n₁ h₁ tk₁ own hi ⟨T, p, q, v1, v2, rfl, hx, hy, hT⟩ ⟨rfl, hoff, hsame⟩ hnw _ _ _ _ F₁ N₁
    rw [← hoff.form] at F₁
    refine wpAny_mono (turn i p q m₁ h₁ tk₁ T v1 v2 own hx hy hsame hT F₁ N₁) (fun _ s₃ h₃ => wpAny_mono h₃ (fun f s₄ h₄ => ?_) fun _ _ e => e) fun _ _ e => e
    have fin : (∃ h' tk m', s₄ = { s with heap := h', toks := tk } ∧ Fr h₀ env.locals h' m' ∧ News h₀ env.locals h' (own ++ n₁) ∧ TwoOff a c m' m₀ ∧ p = q) →
        LoopStepU h₀ env.locals (zwr s.heap.objs.size) own (fun m' n' => n' = n₁ ∧ TwoOff a c m' m₀ ∧ SameTo x y (i + 1)) { s with heap := h₁, toks := tk₁ } .next s₄ := by
      rintro ⟨h'', tk, m', rfl, F', N', ho, rfl⟩
      refine ⟨rfl, h'', tk, m', n₁, rfl, F', N', hnw, rfl, ho, fun j hj => ?_⟩
      rcases (show j < i ∨ j = i by omega) with h | h
      · exact hsame j h
      · rw [h, hx, hy]
    cases f with
    | ret v => exact h₄
    | brk => exact h₄
    | next => exact fin h₄
    | cont => exact fin h₄
  · rintro h'' tk m' n' F' N' _ ⟨rfl, hoff, hsame⟩
    rw [← hoff.form] at F'
    exact done m' h'' tk hsame F' N'
end
theorem lt_at {p q : Nat} : ∀ (i : Nat) (l r : List Nat), l[i]? = some p → r[i]? = some q → (∀ j, j < i → l[j]? = r[j]?) → p ≠ q → (l < r ↔ p < q)
  | _, [], _, h, _, _, _ => by simp at h
  | _, _ :: _, [], _, h, _, _ => by simp at h
  | 0, a :: l, b :: r, h1, h2, _, h3 => by
    have e1 : a = p := by simpa using h1
    have e2 : b = q := by simpa using h2
    subst e1; subst e2
    rw [List.cons_lt_cons_iff]
    exact ⟨fun h => h.elim id fun h => absurd h.1 h3, .inl⟩
  | i + 1, a :: l, b :: r, h1, h2, hs, h3 => by
    have e0 : a = b := by simpa using hs 0 (Nat.succ_pos i)
    subst e0
    rw [List.cons_lt_cons_iff]
    have ih := lt_at i l r (by simpa using h1) (by simpa using h2) (fun j hj => by simpa using hs (j + 1) (Nat.succ_lt_succ hj)) h3
    exact ⟨fun h => h.elim (fun h => absurd h (Nat.lt_irrefl a)) fun h => ih.mp h.2, fun h => .inr ⟨rfl, ih.mpr h⟩⟩
theorem lt_len : ∀ (l r : List Nat), (∀ j, j < min l.length r.length → l[j]? = r[j]?) → (l < r ↔ l.length < r.length)
  | [], [], _ => by simp
  | [], b :: r, _ => by simp
  | a :: l, [], _ => by simp
  | a :: l, b :: r, hs => by
    have e0 : a = b := by simpa using hs 0 (by simp only [List.length_cons]; omega)
    subst e0
    have ih := lt_len l r (fun j hj => by simpa using hs (j + 1) (by simp only [List.length_cons]; omega))
    rw [List.cons_lt_cons_iff, List.length_cons, List.length_cons]
    exact ⟨fun h => h.elim (fun h => absurd h (Nat.lt_irrefl a)) fun h => Nat.succ_lt_succ (ih.mp h.2), fun h => .inr ⟨rfl, ih.mpr (Nat.lt_of_succ_lt_succ h)⟩⟩
theorem ahead_at {x y : Str} {i p q : Nat} (hx : x.cps[i]? = some p) (hy : y.cps[i]? = some q) (hs : SameTo x y i) (h : p ≠ q) : decide ((p : Int) < (q : Int)) = decide (x.cps.toList < y.cps.toList) :=
  decide_eq_decide.mpr (Int.ofNat_lt.trans (lt_at i x.cps.toList y.cps.toList (by simpa using hx) (by simpa using hy) (fun j hj => by simpa using hs j hj) h).symm)
theorem ahead_len {x y : Str} (hs : SameTo x y (min x.cps.size y.cps.size)) : decide ((x.length : Int) < (y.length : Int)) = decide (x.cps.toList < y.cps.toList) :=
  decide_eq_decide.mpr (Int.ofNat_lt.trans (lt_len x.cps.toList y.cps.toList (fun j hj => by simpa using hs j (by simpa using hj))).symm)
theorem sign_ne {p q : Nat} (h : (Str.mk #[p] != Str.mk #[q]) = true) : p ≠ q := fun e => by rw [e, bne_self_eq_false] at h; cases h
theorem sign_eq {p q : Nat} (h : (Str.mk #[p] != Str.mk #[q]) = false) : p = q := by
  rw [bne_eq_false_iff_eq] at h
  have := congrArg Str.cps h
  simpa using this
theorem wd_86_0 : True := by
  k_with "W exec For Tuple Call cons nil" => (k_here; (rename Fr _ _ _ _ => lF'); (with_unfolding_all refine' For_turns lF' ?_; k_whole))
  exact True.intro
local macro_rules | `(tactic| walk_at "call type:zip") => `(tactic| (k_here; (with_reducible show wpAny _ _ (call (Value.type _) [Value.str _ _, Value.str _ _]) _ _ _); k_dflt (refine' iter_zipS (Str.ofString "beside") (Str.ofString "sign") ?k0 ?k1 ?k2 ?kt ?kd; (case k0 => exact rfl); (case k1 => k_asm); (case k2 => k_asm); (case' kt => (intro i9 p9 q9 m9 h9 tk9 T9 v9 w9 own9 hx9 hy9 hs9 hT9 F9 N9)); (case' kd => (intro m9 h9 tk9 hs9 F9 N9)))))
theorem wd_86_1 : True := by
  k_with "W M zend" => (refine ⟨_, _, _, rfl, by assumption, by assumption, ?_, ?_⟩)
  exact True.intro
theorem ct_ahead (w : World) (x y : Str) (t u : Tok) (hx : x.length ≤ 1000) (hy : y.length ≤ 1000) : Ct w 1 380 [.str x t, .str y u] (fun _ => True) (RetB (decide (x.cps.toList < y.cps.toList))) := by
  walk_at "M enter"
  k_steps
  · walk_at "M bool"
    exact ahead_len (by with_reducible assumption)
  · dsimp only [ZPost]
    k_steps
    walk_at "M bool"
    exact ahead_at (by with_reducible assumption) (by with_reducible assumption) (by with_reducible assumption) (sign_ne (by with_reducible assumption))
  · walk_at "M zend"
    · intro z h1 h2
      exact (if_neg h1).trans ((if_neg h2).trans ((if_neg h1).trans (if_neg h2)))
    · exact sign_eq (by with_reducible assumption)

theorem wd_86_2 : True := by
  k_with "W call ref" => (k_here; (with_reducible show wpAny _ _ (call (Value.ref 380) _) _ _ _); k_dflt (refine' use_bool (ct_ahead _ _ _ _ _ ?c1 ?c2) ?k1 ?k2 ?k3 ?k4 ?k5 ?kK ?kp ?kd ?ku ?_; (case k1 => k_asm); (case k2 => k_asm); (case k3 => k_asm); (case k4 => k_asm); (case k5 => k_asm); (case kK => first | exact rfl | assumption); (case kp => exact True.intro); (case c1 => first | assumption | omega); (case c2 => first | assumption | omega); (case kd => ((try dsimp (zetaDelta := true) only [Around.deeper, ktrTop]); ktr_room)); (case ku => ((try dsimp (zetaDelta := true) only [Around.deeper, ktrTop]); ktr_units)); intro h9 tk9 F9 N9; (try dsimp only); (try (walk_at "M foldQ")); (walk_say "USE ct_ahead")))
  exact True.intro
/-! truth, worth and text of a value -/
theorem ct_truthy_none (w : World) : Ct w 3 303 [.none] (fun _ => True) (RetB false) := by
  walk_at "M enter"
  k_steps
  walk_at "M bool"; rfl
theorem ct_truthy_null (w : World) : Ct w 3 303 [.ref 275] (fun _ => True) (RetB false) := by
  walk_at "M enter"
  k_steps
  walk_at "M bool"; rfl
theorem ct_truthy_bool (w : World) (b : Bool) : Ct w 3 303 [.bool b] (fun _ => True) (RetB b) := by
  walk_at "M enter"
  k_steps
  walk_at "M bool"; rfl
theorem tr_1 {x : Int} (h : isZeroL x = true) : false = (!isZeroL x && !isNanL x) := by rw [h]; rfl
theorem tr_3 {x : Int} (h : isZeroL x = true) : (!isZeroL x) = (!isZeroL x && !isNanL x) := by rw [h]; rfl
theorem tr_2 {x : Int} (h : isZeroL x = false) : (!isNanL x) = (!isZeroL x && !isNanL x) := by rw [h]; rfl
theorem ct_truthy_int (w : World) (x : Int) (t : Tok) : Ct w 3 303 [.int x t] (fun _ => True) (RetB (!isZeroL x && !isNanL x)) := by
  walk_at "M enter"
  k_steps
  all_goals (walk_at "M bool"; first | exact tr_3 (by with_reducible assumption) | exact tr_1 (by with_reducible assumption) | exact tr_2 (by with_reducible assumption))
theorem ct_truthy_str (w : World) (x : Str) (t : Tok) (hx : x.length ≤ 1000) : Ct w 3 303 [.str x t] (fun _ => True) (RetB (decide ((0 : Int) < x.length))) := by
  walk_at "M enter"
  k_steps
  walk_at "M bool"; rfl
theorem ct_number_none (w : World) : Ct w 9 310 [.none] (fun _ => True) (RetI 9221120237041090560) := by
  walk_at "M enter"
  k_steps
  walk_at "M int"; rfl
theorem ct_number_null (w : World) : Ct w 9 310 [.ref 275] (fun _ => True) (RetI 0) := by
  walk_at "M enter"
  k_steps
  walk_at "M int"; rfl
theorem if_t {α : Type} {b : Bool} {x y : α} (h : b = true) : x = if b = true then x else y := by rw [if_pos h]
theorem if_f {α : Type} {b : Bool} {x y : α} (h : b = false) : y = if b = true then x else y := by rw [if_neg (by rw [h]; decide)]
theorem ct_number_bool (w : World) (b : Bool) : Ct w 9 310 [.bool b] (fun _ => True) (RetI (if b = true then 4607182418800017408 else 0)) := by
  walk_at "M enter"
  k_steps
  all_goals (walk_at "M int"; first | exact if_t (by with_reducible assumption) | exact if_f (by with_reducible assumption))
theorem ct_number_int (w : World) (x : Int) (t : Tok) : Ct w 9 310 [.int x t] (fun _ => True) (RetI x) := by
  walk_at "M enter"
  k_steps
  walk_at "M int"; rfl
theorem ct_number_str (w : World) (x : Str) (k : Option Int) (t : Tok) (h : TX x k) : Ct w 9 310 [.str x t] (fun _ => True) (RetI (bitsT k)) := by
  walk_at "M enter"
  k_steps
  walk_at "M int"; rfl
theorem ct_text_none (w : World) : Ct w 5 317 [.none] (fun _ => True) (RetS (Str.ofString "undefined")) := by
  walk_at "M enter"
  k_steps
  walk_at "M str"; rfl
theorem ct_text_null (w : World) : Ct w 5 317 [.ref 275] (fun _ => True) (RetS (Str.ofString "null")) := by
  walk_at "M enter"
  k_steps
  walk_at "M str"; rfl
theorem ct_text_bool (w : World) (b : Bool) : Ct w 5 317 [.bool b] (fun _ => True) (RetS (if b = true then Str.ofString "true" else Str.ofString "false")) := by
  walk_at "M enter"
  k_steps
  all_goals (walk_at "M str"; first | exact if_t (by with_reducible assumption) | exact if_f (by with_reducible assumption))
theorem wd_88_0 : True := by
  k_with "W call ref" => (k_here; (with_reducible show wpAny _ _ (call (Value.ref 259) _) _ _ _); (rename (∀ _ , Ct _ _ 259 _ _ _) => hC259); k_dflt (refine' use_str (hC259 _) ?k1 ?k2 ?k3 ?k4 ?k5 ?kK ?kp ?kd ?ku ?_; (case k1 => k_asm); (case k2 => k_asm); (case k3 => k_asm); (case k4 => k_asm); (case k5 => k_asm); (case kK => first | exact rfl | assumption); (case kp => exact True.intro); (case kd => ((try dsimp (zetaDelta := true) only [Around.deeper, ktrTop]); ktr_room)); (case ku => ((try dsimp (zetaDelta := true) only [Around.deeper, ktrTop]); ktr_units)); intro t9 h9 tk9 F9 N9; (try dsimp only); (try (walk_at "M foldQ")); (walk_say "USE local 259")))
  exact True.intro
theorem ct_text_int (w : World) (x : Int) (y : Str) (t : Tok) (C : ∀ t, Ct w 4 259 [.int x t] (fun _ => True) (RetS y)) : Ct w 5 317 [.int x t] (fun _ => True) (RetS y) := by
  walk_at "M enter"
  k_steps
  walk_at "M str"; rfl
theorem ct_text_str (w : World) (x : Str) (t : Tok) : Ct w 5 317 [.str x t] (fun _ => True) (RetS x) := by
  walk_at "M enter"
  k_steps
  walk_at "M str"; rfl
/-! what the bits of a whole number are, as contracts; order and sum -/
theorem ct_nan_num (w : World) (n : Int) (t : Tok) (hn : -1000 ≤ n ∧ n ≤ 1000) : Ct w 1 42 [.int (fiL n) t] (fun _ => True) (RetB false) := ct_eqB (ct_is_nan w _ t) (fi_nan hn)
theorem ct_nan_nan (w : World) (t : Tok) : Ct w 1 42 [.int 9221120237041090560 t] (fun _ => True) (RetB true) := ct_eqB (ct_is_nan w _ t) nan_nan
theorem ct_inf_num (w : World) (n : Int) (t : Tok) (hn : -1000 ≤ n ∧ n ≤ 1000) : Ct w 1 49 [.int (fiL n) t] (fun _ => True) (RetB false) := ct_eqB (ct_is_inf w _ t) (fi_inf hn)
theorem ct_isz_num (w : World) (n : Int) (t : Tok) (hn : -1000 ≤ n ∧ n ≤ 1000) : Ct w 1 56 [.int (fiL n) t] (fun _ => True) (RetB (decide (n = 0))) := ct_eqB (ct_is_zero w _ t) (fi_isz hn)
theorem wd_90_0 : True := by
  k_with "W call ref" => (k_here; (with_reducible show wpAny _ _ (call (Value.ref 42) _) _ _ _); k_dflt (refine' use_bool (ct_nan_num _ _ _ ?c1) ?k1 ?k2 ?k3 ?k4 ?k5 ?kK ?kp ?kd ?ku ?_; (case k1 => k_asm); (case k2 => k_asm); (case k3 => k_asm); (case k4 => k_asm); (case k5 => k_asm); (case kK => first | exact rfl | assumption); (case kp => exact True.intro); (case c1 => omega); (case kd => ((try dsimp (zetaDelta := true) only [Around.deeper, ktrTop]); ktr_room)); (case ku => ((try dsimp (zetaDelta := true) only [Around.deeper, ktrTop]); ktr_units)); intro h9 tk9 F9 N9; (try dsimp only); (try (walk_at "M foldQ")); (walk_say "USE ct_nan_num")))
  k_with "W call ref" => (k_here; (with_reducible show wpAny _ _ (call (Value.ref 42) _) _ _ _); k_dflt (refine' use_bool (ct_nan_nan _ _) ?k1 ?k2 ?k3 ?k4 ?k5 ?kK ?kp ?kd ?ku ?_; (case k1 => k_asm); (case k2 => k_asm); (case k3 => k_asm); (case k4 => k_asm); (case k5 => k_asm); (case kK => first | exact rfl | assumption); (case kp => exact True.intro); (case kd => ((try dsimp (zetaDelta := true) only [Around.deeper, ktrTop]); ktr_room)); (case ku => ((try dsimp (zetaDelta := true) only [Around.deeper, ktrTop]); ktr_units)); intro h9 tk9 F9 N9; (try dsimp only); (try (walk_at "M foldQ")); (walk_say "USE ct_nan_nan")))
  k_with "W call ref" => (k_here; (with_reducible show wpAny _ _ (call (Value.ref 49) _) _ _ _); k_dflt (refine' use_bool (ct_inf_num _ _ _ ?c1) ?k1 ?k2 ?k3 ?k4 ?k5 ?kK ?kp ?kd ?ku ?_; (case k1 => k_asm); (case k2 => k_asm); (case k3 => k_asm); (case k4 => k_asm); (case k5 => k_asm); (case kK => first | exact rfl | assumption); (case kp => exact True.intro); (case c1 => omega); (case kd => ((try dsimp (zetaDelta := true) only [Around.deeper, ktrTop]); ktr_room)); (case ku => ((try dsimp (zetaDelta := true) only [Around.deeper, ktrTop]); ktr_units)); intro h9 tk9 F9 N9; (try dsimp only); (try (walk_at "M foldQ")); (walk_say "USE ct_inf_num")))
  k_with "W call ref" => (k_here; (with_reducible show wpAny _ _ (call (Value.ref 56) _) _ _ _); k_dflt (refine' use_bool (ct_isz_num _ _ _ ?c1) ?k1 ?k2 ?k3 ?k4 ?k5 ?kK ?kp ?kd ?ku ?_; (case k1 => k_asm); (case k2 => k_asm); (case k3 => k_asm); (case k4 => k_asm); (case k5 => k_asm); (case kK => first | exact rfl | assumption); (case kp => exact True.intro); (case c1 => omega); (case kd => ((try dsimp (zetaDelta := true) only [Around.deeper, ktrTop]); ktr_room)); (case ku => ((try dsimp (zetaDelta := true) only [Around.deeper, ktrTop]); ktr_units)); intro h9 tk9 F9 N9; (try dsimp only); (try (walk_at "M foldQ")); (walk_say "USE ct_isz_num")))
  exact True.intro
theorem ct_order_key (w : World) (x : Int) (t : Tok) : Ct w 2 338 [.int x t] (fun _ => True) (RetI (okL x)) := by
  walk_at "M enter"
  k_steps
  all_goals (walk_at "M int"; first | exact if_t (by with_reducible assumption) | exact if_f (by with_reducible assumption))
theorem wd_90_1 : True := by
  k_with "W call ref" => (k_here; (with_reducible show wpAny _ _ (call (Value.ref 338) _) _ _ _); k_dflt (refine' use_int (ct_order_key _ _ _) ?k1 ?k2 ?k3 ?k4 ?k5 ?kK ?kp ?kd ?ku ?_; (case k1 => k_asm); (case k2 => k_asm); (case k3 => k_asm); (case k4 => k_asm); (case k5 => k_asm); (case kK => first | exact rfl | assumption); (case kp => exact True.intro); (case kd => ((try dsimp (zetaDelta := true) only [Around.deeper, ktrTop]); ktr_room)); (case ku => ((try dsimp (zetaDelta := true) only [Around.deeper, ktrTop]); ktr_units)); intro t9 h9 tk9 F9 N9; (try dsimp only); (try (walk_at "M foldQ")); (walk_say "USE ct_order_key")))
  exact True.intro
def cmpL (a b : Int) : Int := if okL (fiL a) = okL (fiL b) then 0 else if okL (fiL a) < okL (fiL b) then -1 else 1
theorem cm1 {a b : Int} (h : okL (fiL a) = okL (fiL b)) : 0 = cmpL a b := by rw [cmpL, if_pos h]
theorem cm2 {a b : Int} (h : okL (fiL a) ≠ okL (fiL b)) (h2 : okL (fiL a) < okL (fiL b)) : -1 = cmpL a b := by rw [cmpL, if_neg h, if_pos h2]
theorem cm3 {a b : Int} (h : okL (fiL a) ≠ okL (fiL b)) (h2 : ¬ okL (fiL a) < okL (fiL b)) : 1 = cmpL a b := by rw [cmpL, if_neg h, if_neg h2]
theorem ct_compare_num (w : World) (a b : Int) (t u : Tok) (ha : -1000 ≤ a ∧ a ≤ 1000) (hb : -1000 ≤ b ∧ b ≤ 1000) : Ct w 3 345 [.int (fiL a) t, .int (fiL b) u] (fun _ => True) (RetI (cmpL a b)) := by
  walk_at "M enter"
  k_steps
  all_goals (walk_at "M int"; first | exact cm1 (by with_reducible assumption) | exact cm2 (by with_reducible assumption) (by with_reducible assumption) | exact cm3 (by with_reducible assumption) (by with_reducible assumption))
theorem cmpL_lt {a b : Int} (ha : -1000 ≤ a ∧ a ≤ 1000) (hb : -1000 ≤ b ∧ b ≤ 1000) : decide (cmpL a b < 0) = decide (a < b) := by
  have h := ok_order ha hb
  refine decide_eq_decide.mpr ?_
  unfold cmpL
  split
  · rename_i e
    have := h.2.mp e
    omega
  · split
    · rename_i e
      have := h.1.mp e
      omega
    · rename_i e
      have := fun q => e (h.1.mpr q)
      omega
theorem ct_compare_nan1 (w : World) (x : Int) (t u : Tok) : Ct w 3 345 [.int 9221120237041090560 t, .int x u] (fun _ => True) (RetV fun _ => .none) := by
  walk_at "M enter"
  k_steps
  walk_at "M val"; rfl
theorem ct_compare_nan2 (w : World) (a : Int) (t u : Tok) (ha : -1000 ≤ a ∧ a ≤ 1000) : Ct w 3 345 [.int (fiL a) t, .int 9221120237041090560 u] (fun _ => True) (RetV fun _ => .none) := by
  walk_at "M enter"
  k_steps
  walk_at "M val"; rfl
theorem wd_90_2 : True := by
  k_with "W call ref" => (k_here; (with_reducible show wpAny _ _ (call (Value.ref 345) _) _ _ _); k_dflt (refine' use_int (ct_compare_num _ _ _ _ _ ?c1 ?c2) ?k1 ?k2 ?k3 ?k4 ?k5 ?kK ?kp ?kd ?ku ?_; (case k1 => k_asm); (case k2 => k_asm); (case k3 => k_asm); (case k4 => k_asm); (case k5 => k_asm); (case kK => first | exact rfl | assumption); (case kp => exact True.intro); (case c1 => omega); (case c2 => omega); (case kd => ((try dsimp (zetaDelta := true) only [Around.deeper, ktrTop]); ktr_room)); (case ku => ((try dsimp (zetaDelta := true) only [Around.deeper, ktrTop]); ktr_units)); intro t9 h9 tk9 F9 N9; (try dsimp only); (try (walk_at "M foldQ")); (walk_say "USE ct_compare_num")))
  k_with "W call ref" => (k_here; (with_reducible show wpAny _ _ (call (Value.ref 345) _) _ _ _); k_dflt (refine' use_val (ct_compare_nan2 _ _ _ _ ?c1) ?k1 ?k2 ?k3 ?k4 ?k5 ?kK ?kp ?kd ?ku ?_; (case k1 => k_asm); (case k2 => k_asm); (case k3 => k_asm); (case k4 => k_asm); (case k5 => k_asm); (case kK => first | exact rfl | assumption); (case kp => exact True.intro); (case c1 => omega); (case kd => ((try dsimp (zetaDelta := true) only [Around.deeper, ktrTop]); ktr_room)); (case ku => ((try dsimp (zetaDelta := true) only [Around.deeper, ktrTop]); ktr_units)); intro t9 h9 tk9 F9 N9; (try dsimp only); (try (walk_at "M foldQ")); (walk_say "USE ct_compare_nan2")))
  k_with "W call ref" => (k_here; (with_reducible show wpAny _ _ (call (Value.ref 345) _) _ _ _); k_dflt (refine' use_val (ct_compare_nan1 _ _ _ _) ?k1 ?k2 ?k3 ?k4 ?k5 ?kK ?kp ?kd ?ku ?_; (case k1 => k_asm); (case k2 => k_asm); (case k3 => k_asm); (case k4 => k_asm); (case k5 => k_asm); (case kK => first | exact rfl | assumption); (case kp => exact True.intro); (case kd => ((try dsimp (zetaDelta := true) only [Around.deeper, ktrTop]); ktr_room)); (case ku => ((try dsimp (zetaDelta := true) only [Around.deeper, ktrTop]); ktr_units)); intro t9 h9 tk9 F9 N9; (try dsimp only); (try (walk_at "M foldQ")); (walk_say "USE ct_compare_nan1")))
  exact True.intro
def sN (n : Int) : Int := if n < 0 then 1 else 0
def mN (n : Int) : Int := (n.natAbs : Int) * 2 ^ (52 - n.natAbs.log2)
def pN (n : Int) : Int := if n = 0 then -1074 else (n.natAbs.log2 : Int) - 52
theorem ct_parts_num (w : World) (n : Int) (t : Tok) (hn : -1000 ≤ n ∧ n ≤ 1000) : Ct w 1 70 [.int (fiL n) t] (fun _ => True) (RetT (Is3 (sN n) (mN n) (pN n))) := by
  have h := ct_parts w (fiL n) t
  by_cases h0 : n = 0
  · subst h0
    rw [show sigL (fiL 0) = sN 0 by decide +kernel, show manL (fiL 0) = mN 0 by decide +kernel, show powL (fiL 0) = pN 0 by decide +kernel] at h
    exact h
  · obtain ⟨f1, f2, f3, -⟩ := fi_facts hn h0
    rw [f1, f2, f3] at h
    unfold sN mN pN
    rw [if_neg h0]
    exact h
theorem wd_90_3 : True := by
  k_with "W call ref" => (k_here; (with_reducible show wpAny _ _ (call (Value.ref 70) _) _ _ _); k_dflt (refine' use_tup (ct_parts_num _ _ _ ?c1) ?k1 ?k2 ?k3 ?k4 ?k5 ?kK ?kp ?kd ?ku ?_; (case k1 => k_asm); (case k2 => k_asm); (case k3 => k_asm); (case k4 => k_asm); (case k5 => k_asm); (case kK => first | exact rfl | assumption); (case kp => exact True.intro); (case c1 => omega); (case kd => ((try dsimp (zetaDelta := true) only [Around.deeper, ktrTop]); ktr_room)); (case ku => ((try dsimp (zetaDelta := true) only [Around.deeper, ktrTop]); ktr_units)); intro D9 us9 n9 h9 tk9 hI9 F9 N9 hne9; (obtain ⟨t9, u9, v9, e9⟩ := hI9); subst e9; (try dsimp only); (try (walk_at "M foldQ")); (walk_say "USE ct_parts_num")))
  exact True.intro
theorem ct_add_nan1 (w : World) (x : Int) (t u : Tok) : Ct w 6 324 [.int 9221120237041090560 t, .int x u] (fun _ => True) (RetI 9221120237041090560) := by
  walk_at "M enter"
  k_steps
  walk_at "M int"; rfl
theorem ct_add_nan2 (w : World) (a : Int) (t u : Tok) (ha : -1000 ≤ a ∧ a ≤ 1000) : Ct w 6 324 [.int (fiL a) t, .int 9221120237041090560 u] (fun _ => True) (RetI 9221120237041090560) := by
  walk_at "M enter"
  k_steps
  walk_at "M int"; rfl
theorem log_le {n : Int} (hn : -1000 ≤ n ∧ n ≤ 1000) (h0 : n ≠ 0) : n.natAbs.log2 ≤ 9 := by
  have h1 : n.natAbs ≠ 0 := by omega
  have : n.natAbs.log2 < 10 := (Nat.log2_lt h1).mpr (by omega)
  omega
theorem mN_nonneg (n : Int) : 0 ≤ mN n := Int.mul_nonneg (Int.natCast_nonneg _) (Int.le_of_lt (kbt_pos _))
theorem mN_sz {n : Int} (hn : -1000 ≤ n ∧ n ≤ 1000) : Sz (mN n) 63 := by
  unfold Sz mN
  rw [Int.natAbs_mul, natAbs_pow2, Int.natAbs_natCast, show (63 : Nat) = 10 + 53 from rfl, Nat.pow_add]
  exact Nat.lt_of_le_of_lt (Nat.mul_le_mul_left _ (Nat.pow_le_pow_right (by decide) (Nat.sub_le 52 _))) (Nat.lt_of_lt_of_le (Nat.mul_lt_mul_of_pos_right (show n.natAbs < 2 ^ 10 by omega) (Nat.two_pow_pos 52)) (Nat.mul_le_mul_left _ (by decide)))
theorem pN_le {n : Int} (hn : -1000 ≤ n ∧ n ≤ 1000) : -1074 ≤ pN n ∧ pN n ≤ -40 := by
  unfold pN
  split
  · omega
  · rename_i h0
    have := log_le hn h0
    omega
theorem mN_shl {n st : Int} (hn : -1000 ≤ n ∧ n ≤ 1000) (h : st ≤ pN n) : mN n * 2 ^ (pN n - st).toNat = (n.natAbs : Int) * 2 ^ (-st).toNat := by
  by_cases h0 : n = 0
  · subst h0
    unfold mN
    rw [show (0 : Int).natAbs = 0 from rfl, Int.natCast_zero, Int.zero_mul, Int.zero_mul, Int.zero_mul]
  · have := log_le hn h0
    unfold pN at h ⊢
    rw [if_neg h0] at h ⊢
    unfold mN
    rw [Int.mul_assoc, ← Int.pow_add, show 52 - n.natAbs.log2 + ((n.natAbs.log2 : Int) - 52 - st).toNat = (-st).toNat by omega]
theorem piece_neg {n st : Int} (hn : -1000 ≤ n ∧ n ≤ 1000) (h : st ≤ pN n) (hs : sN n = 1) : -(mN n * 2 ^ (pN n - st).toNat) = n * 2 ^ (-st).toNat := by
  have h1 : n < 0 := by
    unfold sN at hs
    by_cases h : n < 0
    · exact h
    · rw [if_neg h] at hs; omega
  rw [mN_shl hn h, ← Int.neg_mul, show -((n.natAbs : Nat) : Int) = n by omega]
theorem piece_pos {n st : Int} (hn : -1000 ≤ n ∧ n ≤ 1000) (h : st ≤ pN n) (hs : sN n ≠ 1) : mN n * 2 ^ (pN n - st).toNat = n * 2 ^ (-st).toNat := by
  have h1 : 0 ≤ n := by
    unfold sN at hs
    by_cases h : n < 0
    · rw [if_pos h] at hs; omega
    · omega
  rw [mN_shl hn h, show ((n.natAbs : Nat) : Int) = n by omega]
theorem wd_mul {x : Int} (k : Nat) (h : 0 < x) : wd (x * 2 ^ k) = wd x + k := by
  have hp := kbt_pos k
  have h1 : (2 : Int) ^ k ≤ x * 2 ^ k := by
    have := Int.mul_le_mul_of_nonneg_right (show (1 : Int) ≤ x by omega) (Int.le_of_lt hp)
    rwa [Int.one_mul] at this
  have h2 := (wd_step k h1).1
  rwa [Int.mul_fdiv_cancel _ (by omega)] at h2
theorem rr_scale {s x : Int} (k : Nat) (hx : 0 < x ∧ x < 2 ^ 12) : rrL s (x * 2 ^ k) (1 * 2 ^ k) = rrL s x 1 := by
  have hp := kbt_pos k
  have hw : wd x ≤ 12 := wd_le (x := x) (k := 12) (by unfold Sz; omega)
  have hw0 := wd_nonneg x
  have e1 : rrP (x * 2 ^ k) (1 * 2 ^ k) = rrP x 1 := by
    unfold rrP
    rw [wd_mul k hx.1, wd_mul k (by decide : (0 : Int) < 1)]
    rw [show wd x + k - (wd 1 + k) - 53 = wd x - wd 1 - 53 by omega]
  have w1 : wd 1 = 1 := by decide +kernel
  have e2 : rrP x 1 = wd x - 54 := by
    unfold rrP
    rw [w1, if_neg (by omega)]
    omega
  have hT : ∀ p : Int, p < 0 → (quT (x * 2 ^ k) p).fdiv (quB (1 * 2 ^ k) p) = (quT x p).fdiv (quB 1 p) ∧ (quT (x * 2 ^ k) p).fmod (quB (1 * 2 ^ k) p) = 0 ∧ (quT x p).fmod (quB 1 p) = 0 ∧ quB (1 * 2 ^ k) p = 2 ^ k ∧ quB 1 p = 1 := by
    intro p h
    have hn : ¬ 0 ≤ p := by omega
    unfold quT quB
    rw [if_neg hn, if_neg hn, if_neg hn, if_neg hn, Int.one_mul, Int.mul_right_comm, Int.mul_fdiv_cancel _ (by omega), Int.mul_fmod_left, Int.fdiv_one, Int.fmod_one]
    exact ⟨rfl, rfl, rfl, rfl, rfl⟩
  have hR : ∀ p : Int, p < 0 → rndL s (x * 2 ^ k) (1 * 2 ^ k) p = rndL s x 1 p := by
    intro p h
    obtain ⟨a1, a2, a3, a4, a5⟩ := hT p h
    unfold rndL
    rw [a1, a2, a3, a4, a5, if_neg (by omega), if_neg (by omega), if_neg (by omega), if_neg (by omega)]
  unfold rrL
  rw [if_neg (Int.mul_ne_zero (by omega) (by omega)), if_neg (show ¬ x = 0 by omega), e1, (hT _ (by omega)).1, hR _ (by omega), hR _ (by omega)]
theorem add_end {a b st P R s : Int} (ha : -1000 ≤ a ∧ a ≤ 1000) (hb : -1000 ≤ b ∧ b ≤ 1000) (hst : -1074 ≤ st ∧ st < 0) (hP : P = a * 2 ^ (-st).toNat) (hR : R = b * 2 ^ (-st).toNat) (hs : s = if P + R < 0 then 1 else 0) :
    rsL s (if P + R < 0 then -(P + R) else P + R) st = fiL (a + b) := by
  have hp := kbt_pos (-st).toNat
  rw [hP, hR, ← Int.add_mul] at hs ⊢
  have hsg : (a + b) * 2 ^ (-st).toNat < 0 ↔ a + b < 0 := by
    constructor
    · intro h
      rcases Int.lt_or_le (a + b) 0 with h1 | h1
      · exact h1
      · have := Int.mul_nonneg h1 (Int.le_of_lt hp); omega
    · intro h; exact Int.mul_neg_of_neg_of_pos h hp
  have ab : (if (a + b) * 2 ^ (-st).toNat < 0 then -((a + b) * 2 ^ (-st).toNat) else (a + b) * 2 ^ (-st).toNat) = (if a + b < 0 then -(a + b) else a + b) * 2 ^ (-st).toNat := by
    by_cases h : a + b < 0
    · rw [if_pos h, if_pos (hsg.mpr h), Int.neg_mul]
    · rw [if_neg h, if_neg (fun q => h (hsg.mp q))]
  have sg : s = if a + b < 0 then 1 else 0 := by
    rw [hs]
    by_cases h : a + b < 0
    · rw [if_pos h, if_pos (hsg.mpr h)]
    · rw [if_neg h, if_neg (fun q => h (hsg.mp q))]
  rw [ab, sg]
  unfold fiL
  generalize hx : (if a + b < 0 then -(a + b) else a + b) = x
  generalize (if a + b < 0 then (1 : Int) else 0) = sg'
  have hx0 : 0 ≤ x ∧ x ≤ 2000 := by rw [← hx]; split <;> omega
  by_cases h0 : x = 0
  · rw [h0, Int.zero_mul]
    unfold rsL rrL
    rw [if_pos rfl, if_pos rfl]
  · have hw : wd x ≤ 12 := wd_le (x := x) (k := 12) (by unfold Sz; omega)
    have hw1 : 1 ≤ wd x := by unfold wd; rw [if_neg (by omega)]; omega
    unfold rsL
    rw [if_neg (Int.mul_ne_zero h0 (by omega)), wd_mul _ (by omega), if_neg (by omega), if_neg (by omega)]
    exact rr_scale _ (by omega)
theorem abs_nn (z : Int) : 0 ≤ if z < 0 then -z else z := by split <;> omega
theorem sz_abs {z : Int} {k : Nat} (h : Sz z k) : Sz (if z < 0 then -z else z) k := by
  unfold Sz at *
  split <;> omega
theorem sz_neg {z : Int} {k : Nat} (h : Sz z k) : Sz (-z) k := by unfold Sz at *; omega
theorem sz_add {y z : Int} {k : Nat} (h : Sz y k) (h2 : Sz z k) : Sz (y + z) (k + 1) := by
  unfold Sz at *
  rw [Nat.pow_succ]
  omega
theorem sz_sh {a n : Int} (h : Sz a 63) (hn : n ≤ 1074) : Sz (a * 2 ^ n.toNat) (63 + 1074) := by
  unfold Sz at *
  rw [Int.natAbs_mul, natAbs_pow2, Nat.pow_add]
  exact Nat.lt_of_lt_of_le (Nat.mul_lt_mul_of_pos_right h (Nat.two_pow_pos _)) (Nat.mul_le_mul_left _ (Nat.pow_le_pow_right (by decide) (by omega)))
theorem st_le {p q : Int} (hp : -1074 ≤ p ∧ p ≤ -40) (hq : -1074 ≤ q ∧ q ≤ -40) : (-1074 ≤ if q < p then q else p) ∧ (if q < p then q else p) < 0 := by split <;> omega
theorem st_l {p q : Int} : (if q < p then q else p) ≤ p := by split <;> omega
theorem st_r {p q : Int} : (if q < p then q else p) ≤ q := by split <;> omega
theorem st_d {p q r : Int} (hp : -1074 ≤ p ∧ p ≤ -40) (hq : -1074 ≤ q ∧ q ≤ -40) (hr : -1074 ≤ r ∧ r ≤ -40) : r - (if q < p then q else p) ≤ 1074 := by split <;> omega
theorem wd_90_4 : True := by
  k_with "W M s63" => (refine sz_sh (by with_reducible assumption) ?_; exact st_d (by assumption) (by assumption) (by assumption))
  k_with "W M sum" => (refine (sz_abs (sz_add (k := 63 + 1074) ?_ ?_)).mono (by decide); all_goals first | (refine sz_neg ?_; walk_at "M s63") | walk_at "M s63")
  k_with "W call ref" => (k_here; (with_reducible show wpAny _ _ (call (Value.ref 98) _) _ _ _); k_dflt (refine' use_int (ct_round_scaled _ _ _ _ _ _ _ ?c1 ?c2 ?c3 ?c4) ?k1 ?k2 ?k3 ?k4 ?k5 ?kK ?kp ?kd ?ku ?_; (case k1 => k_asm); (case k2 => k_asm); (case k3 => k_asm); (case k4 => k_asm); (case k5 => k_asm); (case kK => first | exact rfl | assumption); (case kp => exact True.intro); (case c1 => omega); (case c2 => exact abs_nn _); (case c3 => walk_at "M sum"); (case c4 => exact st_le (by assumption) (by assumption)); (case kd => ((try dsimp (zetaDelta := true) only [Around.deeper, ktrTop]); ktr_room)); (case ku => ((try dsimp (zetaDelta := true) only [Around.deeper, ktrTop]); ktr_units)); intro t9 h9 tk9 F9 N9; (try dsimp only); (try (walk_at "M foldQ")); (walk_say "USE ct_round_scaled")))
  exact True.intro
theorem add_zero_zero {a b : Int} (ha : a = 0) (hb : b = 0) : Builtin.bitAnd (fiL a) (fiL b) = fiL (a + b) := by subst ha; subst hb; decide +kernel
theorem ct_add_num (w : World) (a b : Int) (t u : Tok) (ha : -1000 ≤ a ∧ a ≤ 1000) (hb : -1000 ≤ b ∧ b ≤ 1000) : Ct w 6 324 [.int (fiL a) t, .int (fiL b) u] (fun _ => True) (RetI (fiL (a + b))) := by
  have h1 := mN_sz ha
  have h2 := mN_sz hb
  have h3 := pN_le ha
  have h4 := pN_le hb
  walk_at "M enter"
  k_steps
  all_goals walk_at "M int"
  all_goals first
    | (refine add_end ha hb (st_le h3 h4) ?_ ?_ ?_
       · first | exact piece_neg ha st_l (by with_reducible assumption) | exact piece_pos ha st_l (by with_reducible assumption)
       · first | exact piece_neg hb st_r (by with_reducible assumption) | exact piece_pos hb st_r (by with_reducible assumption)
       · first | exact (if_pos (by with_reducible assumption)).symm | exact (if_neg (by with_reducible assumption)).symm)
    | exact add_zero_zero (by with_reducible assumption) (by with_reducible assumption)

theorem wd_90_5 : True := by
  k_with "W call ref" => (k_here; (with_reducible show wpAny _ _ (call (Value.ref 324) _) _ _ _); k_dflt (refine' use_int (ct_add_num _ _ _ _ _ ?c1 ?c2) ?k1 ?k2 ?k3 ?k4 ?k5 ?kK ?kp ?kd ?ku ?_; (case k1 => k_asm); (case k2 => k_asm); (case k3 => k_asm); (case k4 => k_asm); (case k5 => k_asm); (case kK => first | exact rfl | assumption); (case kp => exact True.intro); (case c1 => omega); (case c2 => omega); (case kd => ((try dsimp (zetaDelta := true) only [Around.deeper, ktrTop]); ktr_room)); (case ku => ((try dsimp (zetaDelta := true) only [Around.deeper, ktrTop]); ktr_units)); intro t9 h9 tk9 F9 N9; (try dsimp only); (try (walk_at "M foldQ")); (walk_say "USE ct_add_num")))
  k_with "W call ref" => (k_here; (with_reducible show wpAny _ _ (call (Value.ref 324) _) _ _ _); k_dflt (refine' use_int (ct_add_nan2 _ _ _ _ ?c1) ?k1 ?k2 ?k3 ?k4 ?k5 ?kK ?kp ?kd ?ku ?_; (case k1 => k_asm); (case k2 => k_asm); (case k3 => k_asm); (case k4 => k_asm); (case k5 => k_asm); (case kK => first | exact rfl | assumption); (case kp => exact True.intro); (case c1 => omega); (case kd => ((try dsimp (zetaDelta := true) only [Around.deeper, ktrTop]); ktr_room)); (case ku => ((try dsimp (zetaDelta := true) only [Around.deeper, ktrTop]); ktr_units)); intro t9 h9 tk9 F9 N9; (try dsimp only); (try (walk_at "M foldQ")); (walk_say "USE ct_add_nan2")))
  k_with "W call ref" => (k_here; (with_reducible show wpAny _ _ (call (Value.ref 324) _) _ _ _); k_dflt (refine' use_int (ct_add_nan1 _ _ _ _) ?k1 ?k2 ?k3 ?k4 ?k5 ?kK ?kp ?kd ?ku ?_; (case k1 => k_asm); (case k2 => k_asm); (case k3 => k_asm); (case k4 => k_asm); (case k5 => k_asm); (case kK => first | exact rfl | assumption); (case kp => exact True.intro); (case kd => ((try dsimp (zetaDelta := true) only [Around.deeper, ktrTop]); ktr_room)); (case ku => ((try dsimp (zetaDelta := true) only [Around.deeper, ktrTop]); ktr_units)); intro t9 h9 tk9 F9 N9; (try dsimp only); (try (walk_at "M foldQ")); (walk_say "USE ct_add_nan1")))
  exact True.intro
/-! the law's values: what they are, their worth, their text -/
/-- a value, its kind, its worth, its text -/
inductive LV : Value → Str → Option Int → Str → Prop where
  | und : LV .none (Str.ofString "undefined") none (Str.ofString "undefined")
  | nul : LV (.ref 275) (Str.ofString "null") (some 0) (Str.ofString "null")
  | boo (b : Bool) : LV (.bool b) (Str.ofString "boolean") (some (if b = true then 1 else 0)) (if b = true then Str.ofString "true" else Str.ofString "false")
  | nan (t : Tok) : LV (.int 9221120237041090560 t) (Str.ofString "number") none (Str.ofString "NaN")
  | num (n : Int) (t : Tok) (h : -1000 ≤ n ∧ n ≤ 1000) : LV (.int (fiL n) t) (Str.ofString "number") (some n) (txt n)
  | str (x : Str) (k : Option Int) (t : Tok) (h : TX x k) : LV (.str x t) (Str.ofString "string") k x
def NT : Value → Prop
  | .none | .ref 275 | .bool _ | .int _ _ => True
  | _ => False
theorem TX.len {x : Str} {k : Option Int} (h : TX x k) : x.length ≤ 1000 := by cases h <;> decide +kernel
theorem TX.rng {x : Str} {k : Option Int} (h : TX x k) : ∀ n, k = some n → -1000 ≤ n ∧ n ≤ 1000 := by
  cases h <;> intro n e <;> cases e <;> decide
theorem LV.rng {v : Value} {d : Str} {k : Option Int} {x : Str} (h : LV v d k x) : ∀ n, k = some n → -1000 ≤ n ∧ n ≤ 1000 := by
  cases h with
  | und => intro n e; cases e
  | nul => intro n e; cases e; decide
  | boo b => intro n e; cases e; cases b <;> decide
  | nan t => intro n e; cases e
  | num m t h => intro n e; cases e; exact h
  | str _ _ _ h => exact h.rng
theorem txt_len {n : Int} (h : -1000 ≤ n ∧ n ≤ 1000) : (txt n).length ≤ 1000 := by
  by_cases h0 : n = 0
  · subst h0; decide +kernel
  · obtain ⟨s1, -, -, s4, s5, -, s7, -⟩ := shown_all (m := n.natAbs) (by omega)
    have e0 : (Str.ofString "").length = 0 := by decide +kernel
    have e1 : (Str.ofString "-").length = 1 := by decide +kernel
    by_cases hn : n < 0
    · have e : txt n = Str.ofString "-" ++ laidL (figS (kT n.natAbs)) (kpl n.natAbs) := by rw [s5, show -((n.natAbs : Nat) : Int) = n by omega]
      rw [e, Str.length_append, e1]; omega
    · have e : txt n = Str.ofString "" ++ laidL (figS (kT n.natAbs)) (kpl n.natAbs) := by rw [s4, show ((n.natAbs : Nat) : Int) = n by omega]
      rw [e, Str.length_append, e0]; omega
theorem LV.len {v : Value} {d : Str} {k : Option Int} {x : Str} (h : LV v d k x) : x.length ≤ 1000 := by
  cases h with
  | und => decide +kernel
  | nul => decide +kernel
  | boo b => cases b <;> decide +kernel
  | nan t => decide +kernel
  | num m t h => exact txt_len h
  | str _ _ _ h => exact h.len
theorem ct_number_of (w : World) (v : Value) (d : Str) (k : Option Int) (x : Str) (h : LV v d k x) : Ct w 9 310 [v] (fun _ => True) (RetI (bitsT k)) := by
  cases h with
  | und => exact ct_number_none w
  | nul => exact ct_eqI (ct_number_null w) (by decide +kernel)
  | boo b => exact ct_eqI (ct_number_bool w b) (by cases b <;> decide +kernel)
  | nan t => exact ct_number_int w _ t
  | num n t h => exact ct_number_int w _ t
  | str _ _ t h => exact ct_number_str w _ _ t h
theorem ct_text_of (w : World) (v : Value) (d : Str) (k : Option Int) (x : Str) (h : LV v d k x) : Ct w 5 317 [v] (fun _ => True) (RetS x) := by
  cases h with
  | und => exact ct_text_none w
  | nul => exact ct_text_null w
  | boo b => exact ct_text_bool w b
  | nan t => exact ct_text_int w _ _ t fun t => ct_show_NaN w t
  | num n t h => exact ct_text_int w _ _ t fun t => ct_show_num w n t h
  | str _ _ t h => exact ct_text_str w _ t
theorem ct_is_text_str (w : World) (x : Str) (t : Tok) : Ct w 1 296 [.str x t] (fun _ => True) (RetB true) := by
  walk_at "M enter"
  k_steps
  walk_at "M bool"; rfl
theorem ct_is_text_none (w : World) : Ct w 1 296 [.none] (fun _ => True) (RetB false) := by
  walk_at "M enter"
  k_steps
  walk_at "M bool"; rfl
theorem ct_is_text_null (w : World) : Ct w 1 296 [.ref 275] (fun _ => True) (RetB false) := by
  walk_at "M enter"
  k_steps
  walk_at "M bool"; rfl
theorem ct_is_text_bool (w : World) (b : Bool) : Ct w 1 296 [.bool b] (fun _ => True) (RetB false) := by
  walk_at "M enter"
  k_steps
  walk_at "M bool"; rfl
theorem ct_is_text_int (w : World) (x : Int) (t : Tok) : Ct w 1 296 [.int x t] (fun _ => True) (RetB false) := by
  walk_at "M enter"
  k_steps
  walk_at "M bool"; rfl
/-- a law's value that is no text -/
def NL (v : Value) : Prop := v = .none ∨ v = .ref 275 ∨ (∃ b, v = .bool b) ∨ ∃ x t, v = .int x t
theorem ct_is_text_non (w : World) (v : Value) (h : NL v) : Ct w 1 296 [v] (fun _ => True) (RetB false) := by
  rcases h with rfl | rfl | ⟨b, rfl⟩ | ⟨x, t, rfl⟩
  · exact ct_is_text_none w
  · exact ct_is_text_null w
  · exact ct_is_text_bool w b
  · exact ct_is_text_int w x t
theorem wd_92_0 : True := by
  k_with "W call ref" => (k_here; (with_reducible show wpAny _ _ (call (Value.ref 296) _) _ _ _); k_dflt (refine' use_bool (ct_is_text_non _ _ ?c1) ?k1 ?k2 ?k3 ?k4 ?k5 ?kK ?kp ?kd ?ku ?_; (case k1 => k_asm); (case k2 => k_asm); (case k3 => k_asm); (case k4 => k_asm); (case k5 => k_asm); (case kK => first | exact rfl | assumption); (case kp => exact True.intro); (case c1 => with_reducible assumption); (case kd => ((try dsimp (zetaDelta := true) only [Around.deeper, ktrTop]); ktr_room)); (case ku => ((try dsimp (zetaDelta := true) only [Around.deeper, ktrTop]); ktr_units)); intro h9 tk9 F9 N9; (try dsimp only); (try (walk_at "M foldQ")); (walk_say "USE ct_is_text_non")))
  k_with "W call ref" => (k_here; (with_reducible show wpAny _ _ (call (Value.ref 296) _) _ _ _); k_dflt (refine' use_bool (ct_is_text_str _ _ _) ?k1 ?k2 ?k3 ?k4 ?k5 ?kK ?kp ?kd ?ku ?_; (case k1 => k_asm); (case k2 => k_asm); (case k3 => k_asm); (case k4 => k_asm); (case k5 => k_asm); (case kK => first | exact rfl | assumption); (case kp => exact True.intro); (case kd => ((try dsimp (zetaDelta := true) only [Around.deeper, ktrTop]); ktr_room)); (case ku => ((try dsimp (zetaDelta := true) only [Around.deeper, ktrTop]); ktr_units)); intro h9 tk9 F9 N9; (try dsimp only); (try (walk_at "M foldQ")); (walk_say "USE ct_is_text_str")))
  k_with "W call ref" => (k_here; (with_reducible show wpAny _ _ (call (Value.ref 310) _) _ _ _); k_dflt (refine' use_int (ct_number_of _ _ _ _ _ ?c1) ?k1 ?k2 ?k3 ?k4 ?k5 ?kK ?kp ?kd ?ku ?_; (case k1 => k_asm); (case k2 => k_asm); (case k3 => k_asm); (case k4 => k_asm); (case k5 => k_asm); (case kK => first | exact rfl | assumption); (case kp => exact True.intro); (case c1 => with_reducible assumption); (case kd => ((try dsimp (zetaDelta := true) only [Around.deeper, ktrTop]); ktr_room)); (case ku => ((try dsimp (zetaDelta := true) only [Around.deeper, ktrTop]); ktr_units)); intro t9 h9 tk9 F9 N9; (try dsimp only); (try (walk_at "M foldQ")); (walk_say "USE ct_number_of")))
  k_with "W call ref" => (k_here; (with_reducible show wpAny _ _ (call (Value.ref 317) _) _ _ _); k_dflt (refine' use_str (ct_text_of _ _ _ _ _ ?c1) ?k1 ?k2 ?k3 ?k4 ?k5 ?kK ?kp ?kd ?ku ?_; (case k1 => k_asm); (case k2 => k_asm); (case k3 => k_asm); (case k4 => k_asm); (case k5 => k_asm); (case kK => first | exact rfl | assumption); (case kp => exact True.intro); (case c1 => with_reducible assumption); (case kd => ((try dsimp (zetaDelta := true) only [Around.deeper, ktrTop]); ktr_room)); (case ku => ((try dsimp (zetaDelta := true) only [Around.deeper, ktrTop]); ktr_units)); intro t9 h9 tk9 F9 N9; (try dsimp only); (try (walk_at "M foldQ")); (walk_say "USE ct_text_of")))
  exact True.intro
def sumT : Option Int → Option Int → Option Int
  | some a, some b => some (a + b)
  | _, _ => none
theorem ct_add (w : World) (j k : Option Int) (t u : Tok) (hj : ∀ n, j = some n → -1000 ≤ n ∧ n ≤ 1000) (hk : ∀ n, k = some n → -1000 ≤ n ∧ n ≤ 1000) :
    Ct w 6 324 [.int (bitsT j) t, .int (bitsT k) u] (fun _ => True) (RetI (bitsT (sumT j k))) := by
  cases j with
  | none => exact ct_add_nan1 w _ t u
  | some a =>
    cases k with
    | none => exact ct_add_nan2 w a t u (by have := hj a rfl; omega)
    | some b => exact ct_add_num w a b t u (hj a rfl) (hk b rfl)
theorem wd_92_1 : True := by
  k_with "W call ref" => (k_here; (with_reducible show wpAny _ _ (call (Value.ref 324) _) _ _ _); k_dflt (refine' use_int (ct_add _ _ _ _ _ ?c1 ?c2) ?k1 ?k2 ?k3 ?k4 ?k5 ?kK ?kp ?kd ?ku ?_; (case k1 => k_asm); (case k2 => k_asm); (case k3 => k_asm); (case k4 => k_asm); (case k5 => k_asm); (case kK => first | exact rfl | assumption); (case kp => exact True.intro); (case c1 => with_reducible assumption); (case c2 => with_reducible assumption); (case kd => ((try dsimp (zetaDelta := true) only [Around.deeper, ktrTop]); ktr_room)); (case ku => ((try dsimp (zetaDelta := true) only [Around.deeper, ktrTop]); ktr_units)); intro t9 h9 tk9 F9 N9; (try dsimp only); (try (walk_at "M foldQ")); (walk_say "USE ct_add")))
  exact True.intro
theorem ct_plus_1 (w : World) (x y : Str) (v : Value) (d : Str) (k : Option Int) (t : Tok) (j : Option Int) (hx : x.length ≤ 1000) (h0 : LV (.str x t) (Str.ofString "string") j x) (h : LV v d k y) : Ct w 10 359 [.str x t, v] (fun _ => True) (RetS (x ++ y)) := by
  have h2 := h.len
  walk_at "M enter"
  k_steps
  walk_at "M str"; rfl
theorem ct_plus_2 (w : World) (v : Value) (d : Str) (j k : Option Int) (x y : Str) (t : Tok) (hv : NL v) (h : LV v d j x) (h0 : LV (.str y t) (Str.ofString "string") k y) : Ct w 10 359 [v, .str y t] (fun _ => True) (RetS (x ++ y)) := by
  have h1 := h.len
  have h2 := h0.len
  walk_at "M enter"
  k_steps
  walk_at "M str"; rfl
theorem ct_plus_3 (w : World) (u v : Value) (d e : Str) (j k : Option Int) (x y : Str) (hu : NL u) (hv : NL v) (h1 : LV u d j x) (h2 : LV v e k y) : Ct w 10 359 [u, v] (fun _ => True) (RetI (bitsT (sumT j k))) := by
  have h3 := h1.rng
  have h4 := h2.rng
  walk_at "M enter"
  k_steps
  walk_at "M int"; rfl
theorem ct_less_1 (w : World) (x y : Str) (t u : Tok) : Ct w 10 352 [.str x t, .str y u] (fun _ => True) (RetB (decide (x.cps.toList < y.cps.toList))) := by
  walk_at "M enter"
  k_steps
  walk_at "M bool"; rfl
/-- the two are not both texts -/
def NB (u v : Value) : Prop := NL u ∨ (∃ x t, u = .str x t) ∧ NL v
theorem ct_less_2 (w : World) (u v : Value) (d e : Str) (a b : Int) (x y : Str) (hn : NB u v) (h1 : LV u d (some a) x) (h2 : LV v e (some b) y) : Ct w 10 352 [u, v] (fun _ => True) (RetB (decide (a < b))) := by
  have h3 := h1.rng a rfl
  have h4 := h2.rng b rfl
  have h5 := cmpL_lt (a := a) (b := b) (by omega) (by omega)
  refine ct_eqB (x := decide (cmpL a b < 0)) ?_ h5
  rcases hn with hn | ⟨⟨x', t, rfl⟩, hn⟩
  · walk_at "M enter"
    k_steps
    walk_at "M bool"; rfl
  · walk_at "M enter"
    k_steps
    walk_at "M bool"; rfl
theorem ct_less_3 (w : World) (u v : Value) (d e : Str) (k : Option Int) (x y : Str) (hn : NB u v) (h1 : LV u d none x) (h2 : LV v e k y) : Ct w 10 352 [u, v] (fun _ => True) (RetV fun _ => .none) := by
  rcases hn with hn | ⟨⟨x', t, rfl⟩, hn⟩
  · walk_at "M enter"
    k_steps
    walk_at "M val"; rfl
  · walk_at "M enter"
    k_steps
    walk_at "M val"; rfl
theorem ct_less_4 (w : World) (u v : Value) (d e : Str) (a : Int) (x y : Str) (hn : NB u v) (h1 : LV u d (some a) x) (h2 : LV v e none y) : Ct w 10 352 [u, v] (fun _ => True) (RetV fun _ => .none) := by
  have h3 := h1.rng a rfl
  rcases hn with hn | ⟨⟨x', t, rfl⟩, hn⟩
  · walk_at "M enter"
    k_steps
    walk_at "M val"; rfl
  · walk_at "M enter"
    k_steps
    walk_at "M val"; rfl
/-! the law's own values -/
/-- a tells as a value -/
inductive TV : Value → Option Int → Prop where
  | non : TV .none none
  | som (n : Int) (t : Tok) : TV (.int n t) (some n)
def ItemsT (us : List Value) (nx : Led) : Prop :=
  ∀ (i : Nat) (u : Value), us[i]? = some u → ∃ (T : Addr) (x : Str) (k : Option Int) (t : Tok) (tv : Value) (m : Nat), u = Value.ref T ∧ (T, tupO [.str x t, tv] m) ∈ nx ∧ TX x k ∧ TV tv k
theorem itemT {nx : Led} {T : Addr} {x : Str} {k : Option Int} {t : Tok} {tv : Value} {m : Nat} (hm : (T, tupO [.str x t, tv] m) ∈ nx) (hx : TX x k) (ht : TV tv k) :
    ∃ (T' : Addr) (x : Str) (k : Option Int) (t : Tok) (tv : Value) (m : Nat), Value.ref T = Value.ref T' ∧ (T', tupO [.str x t, tv] m) ∈ nx ∧ TX x k ∧ TV tv k := ⟨T, x, k, t, tv, m, rfl, hm, hx, ht⟩
def RetL : Post := fun r tl => ∃ (D : Addr) (us : List Value) (n : Nat) (nx : Led), r = Value.ref D ∧ tl = (D, listOf us.toArray n) :: nx ∧ us.length = 11 ∧ ItemsT us nx
theorem RetL.intro {D : Addr} {us : List Value} {n : Nat} {nx : Led} (h : us.length = 11) (h2 : ItemsT us nx) : RetL (.ref D) ((D, listOf us.toArray n) :: nx) := ⟨_, _, _, _, rfl, rfl, h, h2⟩
section
variable {h₀ h' g : Heap} {L L' : Addr} {m m' : Str → Option Value} {s : Shared} {Q : Value → Shared → Prop} {tk' : Nat} {P : Post}
theorem ret_led {r : Value} {tl news' : Led} (hret : CtRet h₀ L m s P Q) (F : Fr h₀ L h' m) (hg : g = s.heap) (F' : Fr g L' h' m') (N : News g L' h' news') (hm : ∀ q ∈ tl, q ∈ news') (hP : P r tl) : Q r { s with heap := h', toks := tk' } :=
  hret r tl _ _ F (hg ▸ F'.keep) (fun q hq => ⟨(N _ (hm q hq)).1, hg ▸ (N _ (hm q hq)).2.2⟩) hP
end
theorem ct_texts (w : World) : Ct w 1 366 [] (fun _ => True) RetL := by
  walk_at "M enter"
  k_steps
  refine ret_led (by assumption) (by assumption) (by assumption) (by assumption) (by assumption) (fun q hq => hq) (RetL.intro rfl ?_)
  intro i u hi
  rcases (show i = 0 ∨ i = 1 ∨ i = 2 ∨ i = 3 ∨ i = 4 ∨ i = 5 ∨ i = 6 ∨ i = 7 ∨ i = 8 ∨ i = 9 ∨ i = 10 ∨ 11 ≤ i by omega) with rfl | rfl | rfl | rfl | rfl | rfl | rfl | rfl | rfl | rfl | rfl | h
  rotate_right
  · exact absurd (List.getElem?_eq_some_iff.mp hi).1 (Nat.not_lt.mpr h)
  all_goals (
    have e := Option.some.inj hi
    subst e
    refine' itemT ?hm ?hx ?ht
    case hm => repeat (first | exact List.Mem.head _ | refine List.Mem.tail _ ?_)
    case hx => first | exact TX.xE | exact TX.x1 | exact TX.x2 | exact TX.x10 | exact TX.xa | exact TX.xab | exact TX.xB | exact TX.xm3 | exact TX.xs7 | exact TX.xd8 | exact TX.xff
    case ht => first | exact TV.som _ _ | exact TV.non)
section
variable {w : World} {sz : Nat} {f : Addr} {vs : List Value} {Pre : Heap → Prop} {P : Post} {p : Program} {loose : List Str} {mean : ExcName → Option Value} {mg mb : Str → Option Value}
  {dp un : Nat} {gd : Option (List Code)} {cn : Str} {cs : Scope} {a : Addr} {ccd : Value} {cl : List (Str × Addr)} {outer : List Env} {A₀ : Around} {base h₀ : Heap} {L : Addr} {m : Str → Option Value} {s : Shared} {Q E : Value → Shared → Prop} {news : Led}
theorem use_led (C : Ct w sz f vs Pre P) (B : Below A₀ base outer h₀) (F : Fr h₀ L s.heap m) (X : (hd.heap_1 w.params).In h₀) (N : News h₀ L s.heap news) (T : Top p loose mean mg mb h₀) (hk : cs.kind = .function) (hp : Pre s.heap)
    (hd : dp + sz < recursionLimit) (hu : un + 8 * sz < cLine)
    (ret : ∀ r tl h' tk', P r tl → Fr h₀ L h' m → News h₀ L h' (tl ++ news) → Q r { s with heap := h', toks := tk' }) :
    wpAny (model PySem.Challenge.rw_nt0372_01.row.prog w) (ktrTop dp un gd cn cs L a ccd cl outer) (call (.ref f) vs) Q E s :=
  C _ _ _ _ _ _ _ _ _ _ _ _ _ _ _ _ _ _ _ _ _ _ B F X T hk hp hd hu fun r tl h' tk' F' k ht hP => by
    refine ret r tl h' tk' hP F' fun q hm => ?_
    rcases List.mem_append.mp hm with hm | hm
    · have hq := ht q hm
      refine ⟨hq.1, fun e => ?_, ?_⟩
      · obtain ⟨oL, es, ep, hL, _⟩ := F.ns
        have h2 := hq.2
        rw [e, hL] at h2; cases h2
      · cases q' : h₀.get? q.1 with
        | none => rfl
        | some o => have h2 := hq.2; rw [F.keep _ o q'] at h2; cases h2
    · exact news_stays N k q hm
end
/-- a value of the law as its tuple -/
def LTup : List Value → Prop := fun vs => ∃ v d t tv x u k, vs = [v, .str d t, tv, .str x u] ∧ LV v d k x ∧ TV tv k
theorem item_ref {prog : Program} {w : World} {A : Around} {E : Value → Shared → Prop} {s : Shared} {value slice : PySem.Expr} {l : Addr} {vs : List Value} {n : Nat} {k : Int} {u : Tok} {nx : Led} {h₀ : Heap} {L : Addr} {news : Led} {Q : Value → Shared → Prop}
    (N : News h₀ L s.heap news) (hl : (l, listOf vs.toArray n) ∈ news) (hI : ItemsT vs nx) (hs : ∀ q ∈ nx, q ∈ news) (hn : vs.length = 11) (h0 : 0 ≤ k ∧ k < 11)
    (h : ∀ T x kk t tv m, TX x kk → TV tv kk → News h₀ L s.heap ((T, tupO [.str x t, tv] m) :: news) → Q (.ref T) s)
    (hs' : subscripted slice false (.ref l) (.int k u) = operate [.ref l, .int k u] (getItem (.ref l) (.int k u)) := by with_unfolding_all rfl) :
    wpAny (model prog w) A (subscriptTail value slice (.ref l) (.int k u)) Q E s := by
  have hL : s.heap.IsList l vs.toArray := ⟨_, (N _ hl).1, rfl, n, rfl⟩
  have hlt : k.toNat < vs.length := by omega
  have hx : vs[k.toNat]? = some vs[k.toNat] := List.getElem?_eq_getElem hlt
  obtain ⟨T, x, kk, t, tv, m, e, hm, h1, h2⟩ := hI _ _ hx
  rw [e] at hx
  refine tail_any hL.typeIs slot_list_getitem.lookup (wpAny_getItem_list hL h0.1 (by omega) (by simpa using hx) ?_) hs'
  refine h T x kk t tv m h1 h2 fun q hq => ?_
  rcases List.mem_cons.mp hq with rfl | hq
  · exact N _ (hs _ hm)
  · exact N _ hq
theorem six {n : Int} : n.fmod 6 = 0 ∨ n.fmod 6 = 1 ∨ n.fmod 6 = 2 ∨ n.fmod 6 = 3 ∨ n.fmod 6 = 4 ∨ n.fmod 6 = 5 := by
  have h1 := Int.fmod_nonneg_of_pos n (show (0 : Int) < 6 by decide)
  have h2 := Int.fmod_lt_of_pos n (show (0 : Int) < 6 by decide)
  omega
theorem len_11 {prog : Program} {w : World} {A : Around} {E : Value → Shared → Prop} {s : Shared} {l : Addr} {vs : List Value} {n : Nat} {h₀ : Heap} {L : Addr} {news : Led} {Q : Value → Shared → Prop}
    (N : News h₀ L s.heap news) (hl : (l, listOf vs.toArray n) ∈ news) (hn : vs.length = 11) (h : Q (.int 11 (s.toks + 1)) { s with toks := s.toks + 1 + 1 }) : wpAny (model prog w) A (call (.builtin "len") [.ref l]) Q E s := by
  have hL : s.heap.IsList l vs.toArray := ⟨_, (N _ hl).1, rfl, n, rfl⟩
  have e : vs.toArray.size = 11 := by simpa using hn
  refine len_list hL (by rw [e]; decide) ?_
  rw [e]
  exact h
theorem mod_rng (z : Int) {m : Int} (h : 0 < m) : 0 ≤ z.fmod m ∧ z.fmod m < m := ⟨Int.fmod_nonneg_of_pos z h, Int.fmod_lt_of_pos z h⟩
theorem sz_tells (z : Int) : Sz (z.fmod 2001 - 1000) 1100 := by
  have h := mod_rng z (show (0 : Int) < 2001 by decide)
  refine Sz.mono (k := 64) ?_ (by decide)
  unfold Sz
  omega
theorem mem_hd {p : Addr × Obj} {r : Led} : p ∈ p :: r := .head _
theorem mem_tl {q p : Addr × Obj} {r : Led} (h : q ∈ r) : q ∈ p :: r := .tail _ h
theorem wd_95_0 : True := by
  k_with "W M in" => first | with_reducible assumption | exact mem_hd | (with_reducible refine List.mem_append_left _ ?_; walk_at "M in") | (with_reducible refine List.mem_append_right _ ?_; walk_at "M in") | (with_reducible refine mem_tl ?_; walk_at "M in")
  k_with "W call ref" => (k_here; (with_reducible show wpAny _ _ (call (Value.ref 366) _) _ _ _); k_dflt (refine' use_led (ct_texts _) ?k1 ?k2 ?k3 ?k4 ?k5 ?kK ?kp ?kd ?ku ?_; (case k1 => k_asm); (case k2 => k_asm); (case k3 => k_asm); (case k4 => k_asm); (case k5 => k_asm); (case kK => first | exact rfl | assumption); (case kp => exact True.intro); (case kd => ((try dsimp (zetaDelta := true) only [Around.deeper, ktrTop]); ktr_room)); (case ku => ((try dsimp (zetaDelta := true) only [Around.deeper, ktrTop]); ktr_units)); intro r9 tl9 h9 tk9 hP9 F9 N9; (obtain ⟨D9, us9, n9, nx9, e9, e8, hl9, hI9⟩ := hP9); subst e9; subst e8; (try dsimp only); (try simp only [List.cons_append] at N9); (try (walk_at "M fold")); (walk_say "USE texts")))
  k_with "W call builtin:len" => (k_here; (with_reducible show wpAny _ _ (call (Value.builtin "len") [Value.ref _]) _ _ _); (rename List.length _ = 11 => hL9); (refine' len_11 ?k1 ?k2 hL9 ?_; (case k1 => k_asm); (case k2 => walk_at "M in")))
  k_with "W M item" => (k_here; (with_reducible show wpAny _ _ (subscriptTail _ _ (Value.ref _) (Value.int (Int.fmod _ 11) _)) _ _ _); k_dflt (refine' item_ref (nx := _) ?k1 ?k2 ?k3 ?k4 ?k5 ?k6 ?_; (case k1 => k_asm); rotate_left; (case k2 => walk_at "M in"); (case k3 => assumption); (case k4 => (intro q hq; walk_at "M in")); (case k5 => assumption); (case k6 => exact mod_rng _ (by decide)); intro T9 x9 k9 t9 tv9 m9 hX9 hV9 N9; (walk_say "ITEM")))
  k_with "W subscriptTail Name BinOp ref int" => walk_at "M item"
  k_with "W call ref" => (k_here; (with_reducible show wpAny _ _ (call (Value.ref 105) _) _ _ _); k_dflt (refine' use_int (ct_from_int _ _ _ ?c1) ?k1 ?k2 ?k3 ?k4 ?k5 ?kK ?kp ?kd ?ku ?_; (case k1 => k_asm); (case k2 => k_asm); (case k3 => k_asm); (case k4 => k_asm); (case k5 => k_asm); (case kK => first | exact rfl | assumption); (case kp => exact True.intro); (case c1 => first | exact sz_tells _ | walk_at "M sz"); (case kd => ((try dsimp (zetaDelta := true) only [Around.deeper, ktrTop]); ktr_room)); (case ku => ((try dsimp (zetaDelta := true) only [Around.deeper, ktrTop]); ktr_units)); intro t9 h9 tk9 F9 N9; (try dsimp only); (try (walk_at "M foldQ")); (walk_say "USE ct_from_int")))
  exact True.intro
theorem lt_und {t u : Tok} : LTup [.none, .str (Str.ofString "undefined") t, .none, .str (Str.ofString "undefined") u] := ⟨_, _, _, _, _, _, _, rfl, .und, .non⟩
theorem lt_nul {c t u : Tok} : LTup [.ref 275, .str (Str.ofString "null") t, .int 0 c, .str (Str.ofString "null") u] := ⟨_, _, _, _, _, _, _, rfl, .nul, .som _ _⟩
theorem lt_boo1 {z : Int} {c t u : Tok} (h : z.fmod 2 = 1) : LTup [.bool (z.fmod 2 == 1), .str (Str.ofString "boolean") t, .int (z.fmod 2) c, .str (Str.ofString "true") u] := by
  rw [h]
  exact ⟨_, _, _, _, _, _, _, rfl, .boo true, .som _ _⟩
theorem lt_boo2 {z : Int} {c t u : Tok} (h : z.fmod 2 ≠ 1) : LTup [.bool (z.fmod 2 == 1), .str (Str.ofString "boolean") t, .int (z.fmod 2) c, .str (Str.ofString "false") u] := by
  have h2 := mod_rng z (show (0 : Int) < 2 by decide)
  rw [show z.fmod 2 = 0 by omega]
  exact ⟨_, _, _, _, _, _, _, rfl, .boo false, .som _ _⟩
theorem lt_nan {c t u : Tok} : LTup [.int 9221120237041090560 c, .str (Str.ofString "number") t, .none, .str (Str.ofString "NaN") u] := ⟨_, _, _, _, _, _, _, rfl, .nan _, .non⟩
theorem lt_num {z : Int} {c t u v : Tok} : LTup [.int (fiL (z.fmod 2001 - 1000)) c, .str (Str.ofString "number") t, .int (z.fmod 2001 - 1000) v, .str (Str.ofString (toString (z.fmod 2001 - 1000))) u] := by
  have h2 := mod_rng z (show (0 : Int) < 2001 by decide)
  exact ⟨_, _, _, _, _, _, _, rfl, .num _ _ (by omega), .som _ _⟩
theorem lt_str {x : Str} {k : Option Int} {tv : Value} {c t u : Tok} (h : TX x k) (h2 : TV tv k) : LTup [.str x c, .str (Str.ofString "string") t, tv, .str x u] := ⟨_, _, _, _, _, _, _, rfl, .str _ _ _ h, h2⟩
theorem ct_law_value (w : World) (n : Int) (t : Tok) (h0 : 0 ≤ n) : Ct w 6 373 [.int n t] (fun _ => True) (RetT LTup) := by
  walk_at "M enter"
  k_steps
  all_goals (walk_at "M tup"; first | exact lt_und | exact lt_nul | exact lt_boo1 (by with_reducible assumption) | exact lt_boo2 (by with_reducible assumption) | exact lt_nan | exact lt_num | exact lt_str (by with_reducible assumption) (by with_reducible assumption))

theorem wd_95_1 : True := by
  k_with "W call ref" => (k_here; (with_reducible show wpAny _ _ (call (Value.ref 373) _) _ _ _); k_dflt (refine' use_tup (ct_law_value _ _ _ ?c1) ?k1 ?k2 ?k3 ?k4 ?k5 ?kK ?kp ?kd ?ku ?_; (case k1 => k_asm); (case k2 => k_asm); (case k3 => k_asm); (case k4 => k_asm); (case k5 => k_asm); (case kK => first | exact rfl | assumption); (case kp => exact True.intro); (case c1 => first | assumption | omega | exact Int.natCast_nonneg _ | (split <;> omega)); (case kd => ((try dsimp (zetaDelta := true) only [Around.deeper, ktrTop]); ktr_room)); (case ku => ((try dsimp (zetaDelta := true) only [Around.deeper, ktrTop]); ktr_units)); intro D9 us9 n9 h9 tk9 hI9 F9 N9 hne9; (try dsimp only); (try (walk_at "M foldQ")); (walk_say "USE ct_law_value")))
  exact True.intro
/-! a def that reads the caller's objects: its contract with their ledger -/
def CtL (w : World) (sz : Nat) (f : Addr) (vs : List Value) (led : Led) (P : Post) : Prop :=
  ∀ (p : Program) (loose : List Str) (mean : ExcName → Option Value) (mg mb : Str → Option Value)
    (dp un : Nat) (gd : Option (List Code)) (cn : Str) (cs : Scope) (a : Addr) (ccd : Value) (cl : List (Str × Addr)) (outer : List Env) (A₀ : Around) (base h₀ : Heap) (L : Addr) (m : Str → Option Value) (s : Shared) (Q E : Value → Shared → Prop),
    Below A₀ base outer h₀ → Fr h₀ L s.heap m → (hd.heap_1 w.params).In h₀ → News h₀ L s.heap led → Top p loose mean mg mb h₀ → cs.kind = .function →
    dp + sz < recursionLimit → un + 8 * sz < cLine → CtRet h₀ L m s P Q →
    wpAny (model PySem.Challenge.rw_nt0372_01.row.prog w) (ktrTop dp un gd cn cs L a ccd cl outer) (call (.ref f) vs) Q E s
section
variable {prog : Program} {w : World} {A A₀ : Around} {s : Shared} {K : Frag} {L : Addr} {h₀ base : Heap} {m mg mb : Str → Option Value} {p : Program} {loose : List Str} {mean : ExcName → Option Value}
theorem enterL {env : Env} {outer : List Env} {R : Result → Shared → Prop} {name qual : Str} {params : Arguments} {body : List Stmt} {scope : Scope} {dV kV doc pm cdv ct oc : Value} {an od : Option Addr} {osl : Array (Option Value)} {f : Addr} {args : Args} {binds : List (Str × Value)} {led : Led}
    (B : Below A₀ base outer h₀) (F : Fr h₀ L s.heap m) (X₀ : K.In h₀) (N : News h₀ L s.heap led) (T : Top p loose mean mg mb h₀) (hA : A.frames = some (env :: outer)) (hf : env.frame = some L) (hke : env.scope.kind = .function)
    (ho : K.lookup f = some ⟨oc, od, .func (fnOf name qual params body scope dV kV doc pm an cdv ct), osl⟩) (hcd : codeIn K cdv qual = true) (hroom : A.depth < recursionLimit)
    (hbind : BindsTo s (fnOf name qual params body scope dV kV doc pm an cdv ct) args binds) (hloc : ∀ y ∈ binds, scope.names.lookup y.1 = some .local)
    (h : let m' := fun y => binds.reverse.lookup y
      ∀ g L' h₁, GSub s.heap g (led.map (·.1)) → Fr g L' h₁ m' → News g L' h₁ led → Below A base (env :: outer) g → K.In g → Top p loose mean mg mb g →
      let A' := A.deeper (envOf qual scope L' f cdv)
      wpAny (model prog w) A' (execs body (envOf qual scope L' f cdv))
        (fun fl s' => LeaveK h₀ L m g R (match fl with | .ret v => v | _ => .none) s')
        (fun e s' => wpAny (model prog w) A' (leaving (envOf qual scope L' f cdv) e) (fun _ s'' => R (.error e) s'') (fun e' s'' => R (.error e') s'') s')
        { s with heap := h₁, toks := s.toks + binds.length })
    (hco : scope.isCoroutine = false) (hgen : scope.isGenerator = false) (hk : scope.kind = .function)
    (hcell : ∀ x ∈ scope.names, x.2 ≠ .cell) : codeAny (model prog w) A (.call (.ref f) args) R s :=
  code_defG B F X₀ N T hA hf hke ho hcd hroom hbind hloc (fun g L' h₁ _ F' N' B' X' T' G => h g L' h₁ G F' N' B' X' T') hco hgen hk hcell
end
section
variable {h₀ h' g : Heap} {L L' : Addr} {m m' : Str → Option Value} {s : Shared} {Q : Value → Shared → Prop} {tk' : Nat} {P : Post} {led news' : Led}
theorem two_in {p q : Addr × Obj} (h1 : p ∈ news') (h2 : q ∈ news') : ∀ r ∈ [p, q], r ∈ news' := fun r hr => by
  rcases List.mem_cons.mp hr with rfl | hr
  · exact h1
  · rw [List.mem_singleton.mp hr]; exact h2
theorem ret_boolL {x y : Bool} (hret : CtRet h₀ L m s (RetB x) Q) (e : y = x) (F : Fr h₀ L h' m) (G : GSub s.heap g (led.map (·.1))) (N₀ : News h₀ L s.heap led) (F' : Fr g L' h' m') (N' : News g L' h' news') (hs : ∀ q ∈ led, q ∈ news') :
    Q (.bool y) { s with heap := h', toks := tk' } := by
  subst e
  refine hret _ [] _ _ F (fun b o q => ?_) (fun _ h => nomatch h) ⟨rfl, 0, rfl⟩
  by_cases hb : b ∈ led.map (·.1)
  · obtain ⟨p, hp, rfl⟩ := List.mem_map.mp hb
    have h1 := (N₀ p hp).1
    rw [q] at h1
    cases h1
    exact (N' p (hs p hp)).1
  · exact F'.keep b o (G b o q hb)
end
section
variable {w : World} {sz : Nat} {f : Addr} {vs : List Value} {led : Led} {P : Post} {p : Program} {loose : List Str} {mean : ExcName → Option Value} {mg mb : Str → Option Value}
  {dp un : Nat} {gd : Option (List Code)} {cn : Str} {cs : Scope} {a : Addr} {ccd : Value} {cl : List (Str × Addr)} {outer : List Env} {A₀ : Around} {base h₀ : Heap} {L : Addr} {m : Str → Option Value} {s : Shared} {Q E : Value → Shared → Prop} {news : Led}
theorem use_boolL {x : Bool} (C : CtL w sz f vs led (RetB x)) (B : Below A₀ base outer h₀) (F : Fr h₀ L s.heap m) (X : (hd.heap_1 w.params).In h₀) (N : News h₀ L s.heap news) (hl : ∀ q ∈ led, q ∈ news) (T : Top p loose mean mg mb h₀) (hk : cs.kind = .function)
    (hd : dp + sz < recursionLimit) (hu : un + 8 * sz < cLine)
    (ret : ∀ h' tk', Fr h₀ L h' m → News h₀ L h' news → Q (.bool x) { s with heap := h', toks := tk' }) :
    wpAny (model PySem.Challenge.rw_nt0372_01.row.prog w) (ktrTop dp un gd cn cs L a ccd cl outer) (call (.ref f) vs) Q E s :=
  C _ _ _ _ _ _ _ _ _ _ _ _ _ _ _ _ _ _ _ _ _ _ B F X (fun q hq => N q (hl q hq)) T hk hd hu fun r tl h' tk' F' k _ hP => by
    obtain ⟨_, t, rfl⟩ := hP
    exact ret h' tk' F' (news_stays N k)
end
section
variable {prog : Program} {w : World} {A : Around} {E : Value → Shared → Prop} {s : Shared} {Q : Value → Shared → Prop}
theorem eq_str_same {x : Str} {t u : Tok} (h : Q (.bool true) s) : wpAny (model prog w) A (compareOp .Eq (.str x t) (.str x u)) Q E s := by
  refine eq_str ?_
  rw [beq_self_eq_true x]
  exact h
theorem ne_str_same {x : Str} {t u : Tok} (h : Q (.bool false) s) : wpAny (model prog w) A (compareOp .NotEq (.str x t) (.str x u)) Q E s := by
  refine ne_str ?_
  rw [bne_self_eq_false x]
  exact h
theorem ne_bool_same {b : Bool} (h : Q (.bool false) s) : wpAny (model prog w) A (compareOp .NotEq (.bool b) (.bool b)) Q E s := by
  refine ne_bool ?_
  rw [bne_self_eq_false b]
  exact h
theorem ne_int_same {a : Int} {t u : Tok} (h : Q (.bool false) s) : wpAny (model prog w) A (compareOp .NotEq (.int a t) (.int a u)) Q E s := by
  refine ne_int ?_
  rw [bne_self_eq_false a]
  exact h
end
theorem wd_96_0 : True := by
  k_with "W M enterL" => (w_top off; unfold CtL; (try k_fill); intro _ _ _ _ _ _ _ _ _ _ _ _ _ _ _ _ _ _ _ _ _ _ _ _ _ _ _ _ _ _ _; (refine wpAny_call ?_); k_dflt (refine' enterL ?k1 ?k2 ?k3 ?k4 ?k5 ?kA ?kF ?kK ?k6 ?k7 ?k8 ?k9 ?kB ?_ ?c2 ?c3 ?c4 ?c5; (case kA => exact rfl); (case kF => exact rfl); (case kK => assumption); (case k1 => k_asm); (case k2 => k_asm); (case k3 => k_asm); (case k4 => k_asm); (case k5 => k_asm); (case k6 => k_is); (case k7 => k_is); (case k8 => ktr_room); (case k9 => exact BindsTo.of_eq rfl); (case c5 => decide); (case kB => exact locs rfl); (case c2 => exact rfl); (case c3 => exact rfl); (case c4 => exact rfl); k_whole; intro m9 _ _ _ _ _ _ _ _ _ A9; (try dsimp only); (try (walk_at "M fold"))))
  k_with "W M boolL" => (refine' ret_boolL ?r ?_ ?F ?G ?N0 ?F2 ?N2 ?hs; (case r => assumption); (case G => assumption); (case N0 => assumption); (case F => assumption); (case F2 => assumption); (case N2 => assumption); rotate_left; (case hs => exact two_in (by k_mem) (by k_mem)))
  k_with "W compareOp Eq str str" => (k_here; first | (with_reducible refine eq_str_same ?_) | (with_reducible refine eq_str_no (by with_reducible assumption) ?_))
  k_with "W compareOp NotEq str str" => (k_here; (with_reducible refine ne_str_same ?_))
  k_with "W compareOp NotEq bool bool" => (k_here; (with_reducible refine ne_bool_same ?_))
  k_with "W compareOp NotEq int int" => (k_here; (with_reducible refine ne_int_same ?_))
  k_with "W call ref" => (k_here; (with_reducible show wpAny _ _ (call (Value.ref 352) _) _ _ _); k_dflt (refine' use_bool (ct_less_1 _ _ _ _ _) ?k1 ?k2 ?k3 ?k4 ?k5 ?kK ?kp ?kd ?ku ?_; (case k1 => k_asm); (case k2 => k_asm); (case k3 => k_asm); (case k4 => k_asm); (case k5 => k_asm); (case kK => first | exact rfl | assumption); (case kp => exact True.intro); (case kd => ((try dsimp (zetaDelta := true) only [Around.deeper, ktrTop]); ktr_room)); (case ku => ((try dsimp (zetaDelta := true) only [Around.deeper, ktrTop]); ktr_units)); intro h9 tk9 F9 N9; (try dsimp only); (try (walk_at "M foldQ")); (walk_say "USE ct_less_1")))
  k_with "W call ref" => (k_here; (with_reducible show wpAny _ _ (call (Value.ref 352) _) _ _ _); k_dflt (refine' use_val (ct_less_4 _ _ _ _ _ _ _ _ ?c1 ?c2 ?c3) ?k1 ?k2 ?k3 ?k4 ?k5 ?kK ?kp ?kd ?ku ?_; (case k1 => k_asm); (case k2 => k_asm); (case k3 => k_asm); (case k4 => k_asm); (case k5 => k_asm); (case kK => first | exact rfl | assumption); (case kp => exact True.intro); (case c1 => with_reducible assumption); (case c2 => with_reducible assumption); (case c3 => with_reducible assumption); (case kd => ((try dsimp (zetaDelta := true) only [Around.deeper, ktrTop]); ktr_room)); (case ku => ((try dsimp (zetaDelta := true) only [Around.deeper, ktrTop]); ktr_units)); intro t9 h9 tk9 F9 N9; (try dsimp only); (try (walk_at "M foldQ")); (walk_say "USE ct_less_4")))
  k_with "W call ref" => (k_here; (with_reducible show wpAny _ _ (call (Value.ref 352) _) _ _ _); k_dflt (refine' use_val (ct_less_3 _ _ _ _ _ _ _ _ ?c1 ?c2 ?c3) ?k1 ?k2 ?k3 ?k4 ?k5 ?kK ?kp ?kd ?ku ?_; (case k1 => k_asm); (case k2 => k_asm); (case k3 => k_asm); (case k4 => k_asm); (case k5 => k_asm); (case kK => first | exact rfl | assumption); (case kp => exact True.intro); (case c1 => with_reducible assumption); (case c2 => with_reducible assumption); (case c3 => with_reducible assumption); (case kd => ((try dsimp (zetaDelta := true) only [Around.deeper, ktrTop]); ktr_room)); (case ku => ((try dsimp (zetaDelta := true) only [Around.deeper, ktrTop]); ktr_units)); intro t9 h9 tk9 F9 N9; (try dsimp only); (try (walk_at "M foldQ")); (walk_say "USE ct_less_3")))
  k_with "W call ref" => (k_here; (with_reducible show wpAny _ _ (call (Value.ref 352) _) _ _ _); k_dflt (refine' use_bool (ct_less_2 _ _ _ _ _ _ _ _ _ ?c1 ?c2 ?c3) ?k1 ?k2 ?k3 ?k4 ?k5 ?kK ?kp ?kd ?ku ?_; (case k1 => k_asm); (case k2 => k_asm); (case k3 => k_asm); (case k4 => k_asm); (case k5 => k_asm); (case kK => first | exact rfl | assumption); (case kp => exact True.intro); (case c1 => with_reducible assumption); (case c2 => with_reducible assumption); (case c3 => with_reducible assumption); (case kd => ((try dsimp (zetaDelta := true) only [Around.deeper, ktrTop]); ktr_room)); (case ku => ((try dsimp (zetaDelta := true) only [Around.deeper, ktrTop]); ktr_units)); intro h9 tk9 F9 N9; (try dsimp only); (try (walk_at "M foldQ")); (walk_say "USE ct_less_2")))
  k_with "W call ref" => (k_here; (with_reducible show wpAny _ _ (call (Value.ref 359) _) _ _ _); k_dflt (refine' use_str (ct_plus_2 _ _ _ _ _ _ _ _ ?c1 ?c2 ?c3) ?k1 ?k2 ?k3 ?k4 ?k5 ?kK ?kp ?kd ?ku ?_; (case k1 => k_asm); (case k2 => k_asm); (case k3 => k_asm); (case k4 => k_asm); (case k5 => k_asm); (case kK => first | exact rfl | assumption); (case kp => exact True.intro); (case c1 => with_reducible assumption); (case c2 => with_reducible assumption); (case c3 => with_reducible assumption); (case kd => ((try dsimp (zetaDelta := true) only [Around.deeper, ktrTop]); ktr_room)); (case ku => ((try dsimp (zetaDelta := true) only [Around.deeper, ktrTop]); ktr_units)); intro t9 h9 tk9 F9 N9; (try dsimp only); (try (walk_at "M foldQ")); (walk_say "USE ct_plus_2")))
  k_with "W call ref" => (k_here; (with_reducible show wpAny _ _ (call (Value.ref 359) _) _ _ _); k_dflt (refine' use_str (ct_plus_1 _ _ _ _ _ _ _ _ ?c1 ?c2 ?c3) ?k1 ?k2 ?k3 ?k4 ?k5 ?kK ?kp ?kd ?ku ?_; (case k1 => k_asm); (case k2 => k_asm); (case k3 => k_asm); (case k4 => k_asm); (case k5 => k_asm); (case kK => first | exact rfl | assumption); (case kp => exact True.intro); (case c1 => with_reducible assumption); (case c2 => with_reducible assumption); (case c3 => with_reducible assumption); (case kd => ((try dsimp (zetaDelta := true) only [Around.deeper, ktrTop]); ktr_room)); (case ku => ((try dsimp (zetaDelta := true) only [Around.deeper, ktrTop]); ktr_units)); intro t9 h9 tk9 F9 N9; (try dsimp only); (try (walk_at "M foldQ")); (walk_say "USE ct_plus_1")))
  exact True.intro
theorem ct_plus_nan1 (w : World) (u v : Value) (d e : Str) (k : Option Int) (x y : Str) (hu : NL u) (hv : NL v) (h1 : LV u d none x) (h2 : LV v e k y) : Ct w 10 359 [u, v] (fun _ => True) (RetI 9221120237041090560) := ct_plus_3 w u v d e none k x y hu hv h1 h2
theorem ct_plus_nan2 (w : World) (u v : Value) (d e : Str) (a : Int) (x y : Str) (hu : NL u) (hv : NL v) (h1 : LV u d (some a) x) (h2 : LV v e none y) : Ct w 10 359 [u, v] (fun _ => True) (RetI 9221120237041090560) := ct_plus_3 w u v d e (some a) none x y hu hv h1 h2
theorem ct_plus_sum (w : World) (u v : Value) (d e : Str) (a b : Int) (x y : Str) (hu : NL u) (hv : NL v) (h1 : LV u d (some a) x) (h2 : LV v e (some b) y) : Ct w 10 359 [u, v] (fun _ => True) (RetI (fiL (a + b))) := ct_plus_3 w u v d e (some a) (some b) x y hu hv h1 h2
theorem wd_96_1 : True := by
  k_with "W call ref" => (k_here; (with_reducible show wpAny _ _ (call (Value.ref 359) _) _ _ _); k_dflt (refine' use_int (ct_plus_nan1 _ _ _ _ _ _ _ _ ?c1 ?c2 ?c3 ?c4) ?k1 ?k2 ?k3 ?k4 ?k5 ?kK ?kp ?kd ?ku ?_; (case k1 => k_asm); (case k2 => k_asm); (case k3 => k_asm); (case k4 => k_asm); (case k5 => k_asm); (case kK => first | exact rfl | assumption); (case kp => exact True.intro); (case c1 => with_reducible assumption); (case c2 => with_reducible assumption); (case c3 => with_reducible assumption); (case c4 => with_reducible assumption); (case kd => ((try dsimp (zetaDelta := true) only [Around.deeper, ktrTop]); ktr_room)); (case ku => ((try dsimp (zetaDelta := true) only [Around.deeper, ktrTop]); ktr_units)); intro t9 h9 tk9 F9 N9; (try dsimp only); (try (walk_at "M foldQ")); (walk_say "USE ct_plus_nan1")))
  k_with "W call ref" => (k_here; (with_reducible show wpAny _ _ (call (Value.ref 359) _) _ _ _); k_dflt (refine' use_int (ct_plus_nan2 _ _ _ _ _ _ _ _ ?c1 ?c2 ?c3 ?c4) ?k1 ?k2 ?k3 ?k4 ?k5 ?kK ?kp ?kd ?ku ?_; (case k1 => k_asm); (case k2 => k_asm); (case k3 => k_asm); (case k4 => k_asm); (case k5 => k_asm); (case kK => first | exact rfl | assumption); (case kp => exact True.intro); (case c1 => with_reducible assumption); (case c2 => with_reducible assumption); (case c3 => with_reducible assumption); (case c4 => with_reducible assumption); (case kd => ((try dsimp (zetaDelta := true) only [Around.deeper, ktrTop]); ktr_room)); (case ku => ((try dsimp (zetaDelta := true) only [Around.deeper, ktrTop]); ktr_units)); intro t9 h9 tk9 F9 N9; (try dsimp only); (try (walk_at "M foldQ")); (walk_say "USE ct_plus_nan2")))
  k_with "W call ref" => (k_here; (with_reducible show wpAny _ _ (call (Value.ref 359) _) _ _ _); k_dflt (refine' use_int (ct_plus_sum _ _ _ _ _ _ _ _ _ ?c1 ?c2 ?c3 ?c4) ?k1 ?k2 ?k3 ?k4 ?k5 ?kK ?kp ?kd ?ku ?_; (case k1 => k_asm); (case k2 => k_asm); (case k3 => k_asm); (case k4 => k_asm); (case k5 => k_asm); (case kK => first | exact rfl | assumption); (case kp => exact True.intro); (case c1 => with_reducible assumption); (case c2 => with_reducible assumption); (case c3 => with_reducible assumption); (case c4 => with_reducible assumption); (case kd => ((try dsimp (zetaDelta := true) only [Around.deeper, ktrTop]); ktr_room)); (case ku => ((try dsimp (zetaDelta := true) only [Around.deeper, ktrTop]); ktr_units)); intro t9 h9 tk9 F9 N9; (try dsimp only); (try (walk_at "M foldQ")); (walk_say "USE ct_plus_sum")))
  exact True.intro
theorem ct_from_int_rng (w : World) (n : Int) (t : Tok) (hn : -2000 ≤ n ∧ n ≤ 2000) : Ct w 4 105 [.int n t] (fun _ => True) (RetI (fiL n)) := ct_from_int w n t (Sz.mono (k := 64) (by unfold Sz; omega) (by decide))
theorem wd_96_2 : True := by
  k_with "W call ref" => (k_here; (with_reducible show wpAny _ _ (call (Value.ref 105) _) _ _ _); k_dflt (refine' use_int (ct_from_int_rng _ _ _ ?c1) ?k1 ?k2 ?k3 ?k4 ?k5 ?kK ?kp ?kd ?ku ?_; (case k1 => k_asm); (case k2 => k_asm); (case k3 => k_asm); (case k4 => k_asm); (case k5 => k_asm); (case kK => first | exact rfl | assumption); (case kp => exact True.intro); (case c1 => omega); (case kd => ((try dsimp (zetaDelta := true) only [Around.deeper, ktrTop]); ktr_room)); (case ku => ((try dsimp (zetaDelta := true) only [Around.deeper, ktrTop]); ktr_units)); intro t9 h9 tk9 F9 N9; (try dsimp only); (try (walk_at "M foldQ")); (walk_say "USE ct_from_int_rng")))
  exact True.intro
theorem ct_pair_tt (w : World) (S T : Addr) (x y : Str) (j k : Option Int) (tv tw : Value) (t1 t2 t3 u1 u2 u3 : Tok) (n1 n2 : Nat) (h1 : LV (.str x t1) (Str.ofString "string") j x) (h2 : LV (.str y u1) (Str.ofString "string") k y) :
    CtL w 12 394 [.ref S, .ref T] [(S, tupO [.str x t1, .str (Str.ofString "string") t2, tv, .str x t3] n1), (T, tupO [.str y u1, .str (Str.ofString "string") u2, tw, .str y u3] n2)] (RetB true) := by
  have h3 := h1.len
  have h4 := h2.len
  walk_at "M enterL"
  k_steps
  all_goals (walk_at "M boolL"; rfl)
theorem wd_96_3 : True := by
  k_with "W M pair" => ((walk_at "M enterL"); k_steps; all_goals (walk_at "M boolL"; rfl))
  exact True.intro
section
variable (w : World) (S T : Addr) (x y d e : Str) (u v : Value) (t1 t2 t3 t4 u1 u2 u3 u4 : Tok) (n1 n2 : Nat) (a b : Int) (j k : Option Int)
abbrev led2 (S T : Addr) (u v tu tv : Value) (d e x y : Str) (t2 t3 u2 u3 : Tok) (n1 n2 : Nat) : Led := [(S, tupO [u, .str d t2, tu, .str x t3] n1), (T, tupO [v, .str e u2, tv, .str y u3] n2)]
theorem ct_pair_nn (hu : NL u) (hv : NL v) (hd : d ≠ Str.ofString "string") (he : e ≠ Str.ofString "string") (hj : LV u d j x) (hk : LV v e k y) (tu tv : Value) (hju : TV tu j) (hkv : TV tv k) :
    CtL w 12 394 [.ref S, .ref T] (led2 S T u v tu tv d e x y t2 t3 u2 u3 n1 n2) (RetB true) := by
  have hNB : NB u v := .inl hu
  have hr1 := hj.rng
  have hr2 := hk.rng
  unfold led2
  cases hju with
  | non => cases hkv with
    | non => walk_at "M pair"
    | som b t4 => walk_at "M pair"
  | som a t4 => cases hkv with
    | non => walk_at "M pair"
    | som b u4 =>
      have hr3 := hr1 a rfl
      have hr4 := hr2 b rfl
      walk_at "M pair"
theorem ct_pair_tn (hv : NL v) (he : e ≠ Str.ofString "string") (hj : LV (.str x t1) (Str.ofString "string") j x) (hk : LV v e k y) (tu tv : Value) (hju : TV tu j) (hkv : TV tv k) :
    CtL w 12 394 [.ref S, .ref T] (led2 S T (.str x t1) v tu tv (Str.ofString "string") e x y t2 t3 u2 u3 n1 n2) (RetB true) := by
  have hNB : NB (.str x t1) v := .inr ⟨⟨_, _, rfl⟩, hv⟩
  have hl1 := hj.len
  have hl2 := hk.len
  unfold led2
  cases hju with
  | non => cases hkv with
    | non => walk_at "M pair"
    | som b t4 => walk_at "M pair"
  | som a t4 => cases hkv with
    | non => walk_at "M pair"
    | som b u4 => walk_at "M pair"
theorem ct_pair_nt (hu : NL u) (hd : d ≠ Str.ofString "string") (hj : LV u d j x) (hk : LV (.str y u1) (Str.ofString "string") k y) (tu tv : Value) (hju : TV tu j) (hkv : TV tv k) :
    CtL w 12 394 [.ref S, .ref T] (led2 S T u (.str y u1) tu tv d (Str.ofString "string") x y t2 t3 u2 u3 n1 n2) (RetB true) := by
  have hNB : NB u (.str y u1) := .inl hu
  have hl1 := hj.len
  have hl2 := hk.len
  unfold led2
  cases hju with
  | non => cases hkv with
    | non => walk_at "M pair"
    | som b t4 => walk_at "M pair"
  | som a t4 => cases hkv with
    | non => walk_at "M pair"
    | som b u4 => walk_at "M pair"
end
theorem str_ne {x y : Str} (h : (x == y) = false) : x ≠ y := beq_eq_false_iff_ne.mp h
theorem LV.kind {v : Value} {d : Str} {k : Option Int} {x : Str} (h : LV v d k x) : ((∃ t, v = .str x t) ∧ d = Str.ofString "string") ∨ (NL v ∧ d ≠ Str.ofString "string") := by
  cases h with
  | und => exact .inr ⟨.inl rfl, str_ne (by decide +kernel)⟩
  | nul => exact .inr ⟨.inr (.inl rfl), str_ne (by decide +kernel)⟩
  | boo b => exact .inr ⟨.inr (.inr (.inl ⟨_, rfl⟩)), str_ne (by decide +kernel)⟩
  | nan t => exact .inr ⟨.inr (.inr (.inr ⟨_, _, rfl⟩)), str_ne (by decide +kernel)⟩
  | num n t h => exact .inr ⟨.inr (.inr (.inr ⟨_, _, rfl⟩)), str_ne (by decide +kernel)⟩
  | str x k t h => exact .inl ⟨⟨_, rfl⟩, rfl⟩
theorem ct_pair (w : World) (S T : Addr) (us vs : List Value) (n1 n2 : Nat) (h1 : LTup us) (h2 : LTup vs) : CtL w 12 394 [.ref S, .ref T] [(S, tupO us n1), (T, tupO vs n2)] (RetB true) := by
  obtain ⟨u, d, t2, tu, x, t3, j, rfl, a1, a2⟩ := h1
  obtain ⟨v, e, u2, tv, y, u3, k, rfl, b1, b2⟩ := h2
  rcases a1.kind with ⟨⟨t1, rfl⟩, rfl⟩ | ⟨p1, p2⟩
  · rcases b1.kind with ⟨⟨u1, rfl⟩, rfl⟩ | ⟨q1, q2⟩
    · exact ct_pair_tt w S T x y j k tu tv t1 t2 t3 u1 u2 u3 n1 n2 a1 b1
    · apply ct_pair_tn <;> assumption
  · rcases b1.kind with ⟨⟨u1, rfl⟩, rfl⟩ | ⟨q1, q2⟩
    · apply ct_pair_nt <;> assumption
    · apply ct_pair_nn <;> assumption
/-! a loop over the law's values -/
def Off3 (x a b : Str) (m m₀ : Str → Option Value) : Prop := ∀ z, z ≠ x → z ≠ a → z ≠ b → m z = m₀ z
abbrev form3 (x a b : Str) (v : Option Value) (m m₀ : Str → Option Value) : Str → Option Value := fun z => if z = x then v else if z = a then m a else if z = b then m b else m₀ z
theorem Off3.form {x a b : Str} {m m₀ : Str → Option Value} (v : Value) (h : Off3 x a b m m₀) : (fun z => if z = x then some v else m z) = form3 x a b (some v) m m₀ := by
  funext z
  by_cases h1 : z = x
  · simp only [form3, if_pos h1]
  · simp only [form3, if_neg h1]
    by_cases h2 : z = a
    · rw [if_pos h2, h2]
    · rw [if_neg h2]
      by_cases h3 : z = b
      · rw [if_pos h3, h3]
      · rw [if_neg h3, h z h1 h2 h3]
theorem Off3.form' {x a b : Str} {m m₀ : Str → Option Value} (h : Off3 x a b m m₀) : m = form3 x a b (m x) m m₀ := by
  funext z
  by_cases h1 : z = x
  · subst h1; exact (if_pos rfl).symm
  · simp only [form3, if_neg h1]
    by_cases h2 : z = a
    · rw [if_pos h2, h2]
    · rw [if_neg h2]
      by_cases h3 : z = b
      · rw [if_pos h3, h3]
      · rw [if_neg h3, h z h1 h2 h3]
def GoodY (ys : List Value) (tups : Led) : Prop := ∀ y ∈ ys, ∃ (T : Addr) (us : List Value) (k : Nat), y = Value.ref T ∧ (T, tupO us k) ∈ tups ∧ LTup us
section
variable {prog : Program} {w : World} {A : Around} {E : Value → Shared → Prop} {s : Shared} {env : Env} {h₀ : Heap} {body : List Stmt} {Q : Flow → Shared → Prop}
def VPost (h₀ : Heap) (L : Addr) (x a b : Str) (m₀ : Str → Option Value) (led : Led) (s₁ : Shared) (Q : Flow → Shared → Prop) (f : Flow) (s₂ : Shared) : Prop :=
  match f with
  | .ret v => Q (.ret v) s₂
  | .brk => Q .next s₂
  | _ => ∃ h' tk m', s₂ = { s₁ with heap := h', toks := tk } ∧ Fr h₀ L h' m' ∧ News h₀ L h' led ∧ Off3 x a b m' m₀
theorem iter_vals {x : Str} {l : Addr} {ys : List Value} {n : Nat} {m₀ : Str → Option Value} {news tups : Led} (a b : Str)
    (hh : A.handled = none) (hl : (l, listOf ys.toArray n) ∈ news) (hY : GoodY ys tups) (ht : ∀ q ∈ tups, q ∈ news) (F : Fr h₀ env.locals s.heap m₀) (N : News h₀ env.locals s.heap news)
    (turn : ∀ T us k (m₁ : Str → Option Value) h tk own, LTup us → Fr h₀ env.locals h (form3 x a b (some (.ref T)) m₁ m₀) → News h₀ env.locals h ((T, tupO us k) :: (news ++ own)) →
      wpAny (model prog w) A (execs body env) (VPost h₀ env.locals x a b m₀ (news ++ own) { s with heap := h, toks := tk } Q) E { s with heap := h, toks := tk })
    (done : ∀ (m₁ : Str → Option Value) h tk, Fr h₀ env.locals h (form3 x a b (m₁ x) m₁ m₀) → News h₀ env.locals h news → Q .next { s with heap := h, toks := tk }) :
    wpAny (model prog w) A (pyIter (.ref l)) (fun it s₂ => LoopAtV prog w A h₀ env x body Q E it s₂) E s := by
  have hol : s.heap.get? l = some (listOf ys.toArray n) := (N _ hl).1
  have hls : s.heap.IsList l ys.toArray := ⟨_, hol, rfl, n, rfl⟩
  have hne : l ≠ s.heap.objs.size := Nat.ne_of_lt (Heap.lt_size hol)
  refine wpAny_pyIter_list hls ?_
  refine ⟨_, _, _, ys.toArray.size, _, _, m₀, news, (fun _ m nx => nx = news ∧ Off3 x a b m m₀), rfl, Walks.list (prog := prog) (w := w) hh s.heap.objs.size l hne ys.toArray, ?_, ?_, ?_, ⟨⟨_, Heap.get?_push_size _ rfl, rfl, rfl⟩, hls.at fun o e => Heap.get?_push_of_some _ e⟩, F.push _, (fun p hp => ⟨Heap.get?_push_of_some _ (N p hp).1, (N p hp).2⟩), ⟨rfl, fun _ _ _ _ => rfl⟩, ?_, ?_⟩
  · intro hm
    rcases List.mem_cons.mp hm with e | hm
    · exact absurd F.ns.lt (e ▸ Nat.lt_irrefl _)
    · exact (N _ hl).2.1 ((List.mem_singleton.mp hm).symm)
  · intro b hb
    rw [List.mem_singleton.mp hb]
    exact next_is_new F
  · intro p hp hI
    exact absurd (Heap.lt_size (N p hp).1) ((List.mem_singleton.mp hI) ▸ Nat.lt_irrefl _)
  · rintro i v m₁ nx s₁ own ⟨hh', tk', rfl⟩ hin hP ⟨rfl, hoff⟩ hnw _ _ _ _ F₁ N₁
    have hv : v ∈ ys := by
      have hP' : ys.toArray[i]? = some v := hP
      exact List.mem_of_getElem? (by simpa using hP')
    obtain ⟨T, us, k, rfl, hT, hL⟩ := hY v hv
    rw [hoff.form (.ref T)] at F₁
    have N₂ : News h₀ env.locals hh' (nx ++ own) := fun p hp => N₁ p ((List.mem_append.mp hp).elim (fun h => List.mem_append.mpr (.inr h)) fun h => List.mem_append.mpr (.inl h))
    have N₃ : News h₀ env.locals hh' ((T, tupO us k) :: (nx ++ own)) := fun p hp => by
      rcases List.mem_cons.mp hp with rfl | hp
      · exact N₂ _ (List.mem_append_left _ (ht _ hT))
      · exact N₂ p hp
    refine wpAny_mono (turn T us k m₁ hh' tk' own hL F₁ N₃) (fun f s₂ h₂ => ?_) fun _ _ e => e
    have fin : (∃ h' tk m', s₂ = { s with heap := h', toks := tk } ∧ Fr h₀ env.locals h' m' ∧ News h₀ env.locals h' (nx ++ own) ∧ Off3 x a b m' m₀) →
        LoopStepU h₀ env.locals [s.heap.objs.size] own (fun m n' => n' = nx ∧ Off3 x a b m m₀) { s with heap := hh', toks := tk' } .next s₂ := by
      rintro ⟨h', tk, m', rfl, F', N', ho⟩
      exact ⟨rfl, h', tk, m', nx, rfl, F', fun p hp => N' p ((List.mem_append.mp hp).elim (fun h => List.mem_append.mpr (.inr h)) fun h => List.mem_append.mpr (.inl h)), hnw, rfl, ho⟩
    cases f with
    | ret v => exact .ret h₂
    | brk => exact .brk h₂
    | next => exact .next (fin h₂)
    | cont => exact .cont (fin h₂)
  · rintro h' tk m' n' F' N' _ ⟨rfl, hoff⟩
    rw [hoff.form'] at F'
    exact done m' h' tk F' N'
end
section
variable {prog : Program} {w : World} {A : Around} {s : Shared} {h₀ : Heap} {L : Addr} {m : Str → Option Value} {env : Env}
def StepEnd (h₀ : Heap) (L : Addr) (m : Str → Option Value) (s₁ : Shared) (led : Led) (y : Value) (s₂ : Shared) : Prop :=
  ∃ (h' : Heap) (tk : Nat) (T : Addr) (us : List Value) (k : Nat), y = .ref T ∧ s₂ = { s₁ with heap := h', toks := tk } ∧ Fr h₀ L h' m ∧ News h₀ L h' ((T, tupO us k) :: led) ∧ (∀ p ∈ led, p.1 ≠ T) ∧ LTup us
theorem comp_law {elt : Expr} {x : Str} {scope : Scope} {cl : List (Str × Addr)} {ax : Addr} {ws : List Value} {ns : List Int} {news₀ : Led} {Fin : List Value → Led → Prop} (hi : IntsAre ws ns) (hS : LCg.SrcAt h₀ ax ws.toArray news₀)
    (step : ∀ n t ys tups I oI C oC D m₂ h tk (E' : Value → Shared → Prop), LCg.NsObj oC m₂ → m₂ x = some (.int n t) → Fr h₀ L h m → News h₀ L h ((I, oI) :: (C, oC) :: (D, LCg.lst ys) :: (tups ++ news₀)) →
      wpAny (model prog w) A (eval elt (compEnvC scope cl C env)) (StepEnd h₀ L m { s with heap := h, toks := tk } ((I, oI) :: (C, oC) :: (D, LCg.lst ys) :: (tups ++ news₀))) E' { s with heap := h, toks := tk })
    (fin : ∀ ys tups, ys.length = ns.length → GoodY ys tups → Fin ys (tups ++ news₀)) :
    LCg.CompRest prog w A h₀ L m env elt x scope cl s (LCg.SrcAt h₀ ax ws.toArray) (fun i v => ws.toArray[i]? = some v) Fin ws.toArray.size 0 [] news₀ := by
  have hlen : ws.toArray.size = ns.length := by simp [hi.length]
  have main : ∀ k i ys tups, i + k = ns.length → ys.length = i → GoodY ys tups → LCg.CompRest prog w A h₀ L m env elt x scope cl s (LCg.SrcAt h₀ ax ws.toArray) (fun i v => ws.toArray[i]? = some v) Fin k i ys (tups ++ news₀) := by
    intro k
    induction k with
    | zero => exact fun i ys tups hk hy hY => LCg.CompRest.zero (fin ys tups (by omega) hY)
    | succ k ih =>
      intro i ys tups hk hy hY
      refine LCg.CompRest.succ fun v I oI C oC D m₂ h tk E' hP hC hx F N off ne => ?_
      have hlt : i < ns.length := by omega
      obtain ⟨t, hg⟩ := hi.get i ns[i] (by simp [hlt])
      have hv : v = .int ns[i] t := by
        have hP' : ws[i]? = some v := by simpa using hP
        rw [hg] at hP'; exact (Option.some.inj hP').symm
      subst hv
      refine wpAny_mono (step ns[i] t ys tups I oI C oC D m₂ h tk E' hC hx F N) (fun y s₂ h₂ => ?_) fun _ _ e => e
      obtain ⟨h', tk', T, us, kk, rfl, rfl, F', N', hne, hL⟩ := h₂
      refine ⟨h', tk', (T, tupO us kk) :: (tups ++ news₀), rfl, F', fun p hp => N' p ?_, ?_, ?_, ?_⟩
      · rcases List.mem_cons.mp hp with rfl | hp
        · exact .tail _ (.head _)
        rcases List.mem_cons.mp hp with rfl | hp
        · exact .tail _ (.tail _ (.head _))
        rcases List.mem_cons.mp hp with rfl | hp
        · exact .tail _ (.tail _ (.tail _ (.head _)))
        rcases List.mem_cons.mp hp with rfl | hp
        · exact .head _
        · exact .tail _ (.tail _ (.tail _ (.tail _ hp)))
      · exact ⟨⟨fun e => hne _ (.head _) e.symm, fun e => hne _ (.tail _ (.head _)) e.symm, fun e => hne _ (.tail _ (.tail _ (.head _))) e.symm⟩, off⟩
      · rcases hS with h | ⟨o, hm, r⟩
        · exact .inl h
        · exact .inr ⟨o, .tail _ (List.mem_append_right _ hm), r⟩
      · refine ih (i + 1) (ys ++ [.ref T]) ((T, tupO us kk) :: tups) (by omega) (by rw [List.length_append, hy]; rfl) fun y hy' => ?_
        rcases List.mem_append.mp hy' with h1 | h1
        · obtain ⟨T', us', k', e, hm, hl⟩ := hY y h1
          exact ⟨T', us', k', e, .tail _ hm, hl⟩
        · rw [List.mem_singleton.mp h1]
          exact ⟨T, us, kk, rfl, .head _, hL⟩
  rw [hlen]
  exact main ns.length 0 [] [] (by omega) rfl (fun y hy => nomatch hy)
theorem news_tail {h : Heap} {p : Addr × Obj} {r : Led} (N : News h₀ L h (p :: r)) : News h₀ L h r := fun q hq => N q (.tail _ hq)
theorem len_N {E : Value → Shared → Prop} {l : Addr} {vs : List Value} {n : Nat} {news : Led} {Q : Value → Shared → Prop}
    (N : News h₀ L s.heap news) (hl : (l, listOf vs.toArray n) ∈ news) (hn : vs.length ≤ 1000) (h : Q (.int (vs.length : Int) (s.toks + 1)) { s with toks := s.toks + 1 + 1 }) : wpAny (model prog w) A (call (.builtin "len") [.ref l]) Q E s := by
  have hL : s.heap.IsList l vs.toArray := ⟨_, (N _ hl).1, rfl, n, rfl⟩
  have e : vs.toArray.size = vs.length := by simp
  refine len_list hL (by rw [e]; omega) ?_
  rw [e]
  exact h
theorem add_vals {E : Value → Shared → Prop} {a b : Addr} {ys zs : List Value} {n k : Nat} {news : Led} {Q : Value → Shared → Prop} (F : Fr h₀ L s.heap m) (N : News h₀ L s.heap news) (ha : (a, listOf ys.toArray n) ∈ news) (hb : (b, listOf zs.toArray k) ∈ news) (h1 : ys.length ≤ 1000) (h2 : zs.length ≤ 1000)
    (h : ∀ D h', Fr h₀ L h' m → News h₀ L h' ((D, listOf (ys ++ zs).toArray 0) :: news) → Q (.ref D) { s with heap := h' }) : wpAny (model prog w) A (binaryOp .Add (.ref a) (.ref b)) Q E s :=
  add_lists F N ⟨_, (N _ ha).1, rfl, n, rfl⟩ ⟨_, (N _ hb).1, rfl, k, rfl⟩ (fun h' F' N' => h _ h' F' N') (by rw [sizeLine_eq]; omega)
/-- what stands behind the if: a list of the law's values -/
def JoinP (h₀ : Heap) (L : Addr) (m : Str → Option Value) (s₁ : Shared) (f : Flow) (s₂ : Shared) : Prop :=
  f = .next ∧ ∃ (h' : Heap) (tk : Nat) (D : Addr) (ys : List Value) (n : Nat) (tups : Led) (m' : Str → Option Value), s₂ = { s₁ with heap := h', toks := tk } ∧ Fr h₀ L h' m' ∧ (∀ z, z ≠ Str.ofString "values_here" → m' z = m z) ∧ m' (Str.ofString "values_here") = some (.ref D) ∧ News h₀ L h' ((D, listOf ys.toArray n) :: tups) ∧ GoodY ys tups
theorem if_join {E : Value → Shared → Prop} {st : Stmt} {Q : Flow → Shared → Prop} (_F : Fr h₀ L s.heap m) (h : wpAny (model prog w) A (exec st env) (JoinP h₀ L m s) E s)
    (k : ∀ h' tk D ys n tups, Fr h₀ L h' (fun z => if z = Str.ofString "values_here" then some (.ref D) else m z) → News h₀ L h' ((D, listOf ys.toArray n) :: tups) → GoodY ys tups → Q .next { s with heap := h', toks := tk }) :
    wpAny (model prog w) A (exec st env) Q E s := by
  refine wpAny_mono h (fun f s' hp => ?_) fun _ _ e => e
  obtain ⟨rfl, h', tk, D, ys, n, tups, m', rfl, F, h1, h2, N, hY⟩ := hp
  refine k h' tk D ys n tups ?_ N hY
  have e : m' = fun z => if z = Str.ofString "values_here" then some (.ref D) else m z := by
    funext z
    by_cases hz : z = Str.ofString "values_here"
    · rw [if_pos hz, hz, h2]
    · rw [if_neg hz, h1 z hz]
  rw [← e]
  exact F
theorem GoodY.mono {ys : List Value} {t t' : Led} (h : GoodY ys t) (hs : ∀ q ∈ t, q ∈ t') : GoodY ys t' := fun y hy => by
  obtain ⟨T, us, k, e, hm, hl⟩ := h y hy
  exact ⟨T, us, k, e, hs _ hm, hl⟩
theorem GoodY.snoc {ys : List Value} {t : Led} {S T : Addr} {us vs : List Value} {j k : Nat} (h : GoodY ys t) (h1 : (S, tupO us j) ∈ t) (h2 : (T, tupO vs k) ∈ t) (l1 : LTup us) (l2 : LTup vs) : GoodY (ys ++ [.ref S, .ref T]) t := fun y hy => by
  rcases List.mem_append.mp hy with hy | hy
  · exact h y hy
  rcases List.mem_cons.mp hy with rfl | hy
  · exact ⟨_, _, _, rfl, h1, l1⟩
  · rw [List.mem_singleton.mp hy]
    exact ⟨_, _, _, rfl, h2, l2⟩
end
/-- the ten shapes of the law's values -/
inductive LC : List Value → Prop where
  | und (t u : Tok) (h : LV .none (Str.ofString "undefined") none (Str.ofString "undefined")) : LC [.none, .str (Str.ofString "undefined") t, .none, .str (Str.ofString "undefined") u]
  | nul (t c u : Tok) (h : LV (.ref 275) (Str.ofString "null") (some 0) (Str.ofString "null")) : LC [.ref 275, .str (Str.ofString "null") t, .int 0 c, .str (Str.ofString "null") u]
  | fls (t c u : Tok) (h : LV (.bool false) (Str.ofString "boolean") (some 0) (Str.ofString "false")) : LC [.bool false, .str (Str.ofString "boolean") t, .int 0 c, .str (Str.ofString "false") u]
  | tru (t c u : Tok) (h : LV (.bool true) (Str.ofString "boolean") (some 1) (Str.ofString "true")) : LC [.bool true, .str (Str.ofString "boolean") t, .int 1 c, .str (Str.ofString "true") u]
  | nan (c t u : Tok) (h : LV (.int 9221120237041090560 c) (Str.ofString "number") none (Str.ofString "NaN")) : LC [.int 9221120237041090560 c, .str (Str.ofString "number") t, .none, .str (Str.ofString "NaN") u]
  | zer (c t b u : Tok) (h : LV (.int 0 c) (Str.ofString "number") (some 0) (txt 0)) : LC [.int 0 c, .str (Str.ofString "number") t, .int 0 b, .str (txt 0) u]
  | num (n : Int) (c t b u : Tok) (h : LV (.int (fiL n) c) (Str.ofString "number") (some n) (txt n)) (h1 : -1000 ≤ n ∧ n ≤ 1000) (h0 : n ≠ 0) (h2 : fiL n ≠ 0) : LC [.int (fiL n) c, .str (Str.ofString "number") t, .int n b, .str (txt n) u]
  | emp (c t b u : Tok) (h : LV (.str (Str.ofString "") c) (Str.ofString "string") (some 0) (Str.ofString "")) : LC [.str (Str.ofString "") c, .str (Str.ofString "string") t, .int 0 b, .str (Str.ofString "") u]
  | sno (x : Str) (c t u : Tok) (h : LV (.str x c) (Str.ofString "string") none x) (h0 : x ≠ Str.ofString "") : LC [.str x c, .str (Str.ofString "string") t, .none, .str x u]
  | sso (x : Str) (n : Int) (c t b u : Tok) (h : LV (.str x c) (Str.ofString "string") (some n) x) (h1 : -1000 ≤ n ∧ n ≤ 1000) (h0 : x ≠ Str.ofString "") : LC [.str x c, .str (Str.ofString "string") t, .int n b, .str x u]
theorem fi_ne0 {n : Int} (h : -1000 ≤ n ∧ n ≤ 1000) (h0 : n ≠ 0) : fiL n ≠ 0 := by
  intro e
  have h1 := fi_isz (n := n) (by omega)
  rw [e, decide_eq_false h0] at h1
  have h2 : isZeroL 0 = true := by decide +kernel
  rw [h2] at h1
  cases h1
theorem TX.empty {x : Str} {k : Option Int} (h : TX x k) (e : x = Str.ofString "") : k = some 0 := by
  cases h with
  | xE => rfl
  | x1 => exact absurd e (str_ne (by decide +kernel))
  | x2 => exact absurd e (str_ne (by decide +kernel))
  | x10 => exact absurd e (str_ne (by decide +kernel))
  | xa => exact absurd e (str_ne (by decide +kernel))
  | xab => exact absurd e (str_ne (by decide +kernel))
  | xB => exact absurd e (str_ne (by decide +kernel))
  | xm3 => exact absurd e (str_ne (by decide +kernel))
  | xs7 => exact absurd e (str_ne (by decide +kernel))
  | xd8 => exact absurd e (str_ne (by decide +kernel))
  | xff => exact absurd e (str_ne (by decide +kernel))
theorem LTup.shape {us : List Value} (h : LTup us) : LC us := by
  obtain ⟨v, d, t, tv, x, u, k, rfl, hV, hT⟩ := h
  cases hV with
  | und => cases hT; exact .und _ _ .und
  | nul => cases hT; exact .nul _ _ _ .nul
  | boo b =>
    cases hT
    cases b
    · exact .fls _ _ _ (.boo false)
    · exact .tru _ _ _ (.boo true)
  | nan t => cases hT; exact .nan _ _ _ (.nan _)
  | num n t h =>
    cases hT
    by_cases h0 : n = 0
    · subst h0
      have q : LV (.int (fiL 0) t) (Str.ofString "number") (some 0) (txt 0) := .num 0 t h
      rw [fi_zero] at q ⊢
      exact .zer _ _ _ _ q
    · exact .num n _ _ _ _ (.num n t h) h h0 (fi_ne0 h h0)
  | str x k t h =>
    by_cases h0 : x = Str.ofString ""
    · have e := h.empty h0
      subst h0
      subst e
      cases hT
      exact .emp _ _ _ _ (.str _ _ _ h)
    · cases hT with
      | non => exact .sno _ _ _ _ (.str _ _ _ h) h0
      | som n b => exact .sso _ n _ _ _ _ (.str _ _ _ h) (h.rng n rfl) h0
theorem ct_number_nanV (w : World) (v : Value) (d : Str) (x : Str) (h : LV v d none x) : Ct w 9 310 [v] (fun _ => True) (RetI 9221120237041090560) := ct_number_of w v d none x h
theorem ct_number_numV (w : World) (v : Value) (d : Str) (n : Int) (x : Str) (h : LV v d (some n) x) : Ct w 9 310 [v] (fun _ => True) (RetI (fiL n)) := ct_number_of w v d (some n) x h
theorem ct_truthy_nan (w : World) (t : Tok) : Ct w 3 303 [.int 9221120237041090560 t] (fun _ => True) (RetB false) := ct_eqB (ct_truthy_int w _ t) (by decide +kernel)
theorem ct_truthy_zero (w : World) (t : Tok) : Ct w 3 303 [.int 0 t] (fun _ => True) (RetB false) := ct_eqB (ct_truthy_int w _ t) (by decide +kernel)
theorem ct_truthy_num (w : World) (n : Int) (t : Tok) (h : -1000 ≤ n ∧ n ≤ 1000) (h0 : n ≠ 0) : Ct w 3 303 [.int (fiL n) t] (fun _ => True) (RetB true) := ct_eqB (ct_truthy_int w _ t) (by rw [fi_isz (by omega), fi_nan (by omega), decide_eq_false h0]; rfl)
theorem ct_truthy_empty (w : World) (t : Tok) : Ct w 3 303 [.str (Str.ofString "") t] (fun _ => True) (RetB false) := ct_eqB (ct_truthy_str w _ t (by decide +kernel)) (by decide +kernel)
theorem str_pos {x : Str} (h : x ≠ Str.ofString "") : decide ((0 : Int) < x.length) = true := by
  refine decide_eq_true ?_
  rcases Nat.eq_zero_or_pos x.length with h1 | h1
  · refine absurd ?_ h
    have h2 : x.cps = #[] := Array.eq_empty_of_size_eq_zero h1
    cases x
    simp only at h2
    rw [h2]
    decide +kernel
  · exact Int.ofNat_lt.mpr h1
theorem ct_truthy_text (w : World) (x : Str) (d : Str) (k : Option Int) (t : Tok) (h : LV (.str x t) d k x) (h0 : x ≠ Str.ofString "") : Ct w 3 303 [.str x t] (fun _ => True) (RetB true) := ct_eqB (ct_truthy_str w _ t h.len) (str_pos h0)
theorem ct_truthy_negz (w : World) (t : Tok) : Ct w 3 303 [.int 9223372036854775808 t] (fun _ => True) (RetB false) := ct_eqB (ct_truthy_int w _ t) (by decide +kernel)
theorem ct_truthy_inf (w : World) (t : Tok) : Ct w 3 303 [.int 9218868437227405312 t] (fun _ => True) (RetB true) := ct_eqB (ct_truthy_int w _ t) (by decide +kernel)
theorem ct_truthy_one (w : World) (t : Tok) : Ct w 3 303 [.int 1 t] (fun _ => True) (RetB true) := ct_eqB (ct_truthy_int w _ t) (by decide +kernel)
theorem nl_int (x : Int) (t : Tok) : NL (.int x t) := .inr (.inr (.inr ⟨_, _, rfl⟩))
theorem wd_98a_0 : True := by
  k_with "W call ref" => (k_here; (with_reducible show wpAny _ _ (call (Value.ref 310) _) _ _ _); k_dflt (refine' use_int (ct_number_int _ _ _) ?k1 ?k2 ?k3 ?k4 ?k5 ?kK ?kp ?kd ?ku ?_; (case k1 => k_asm); (case k2 => k_asm); (case k3 => k_asm); (case k4 => k_asm); (case k5 => k_asm); (case kK => first | exact rfl | assumption); (case kp => exact True.intro); (case kd => ((try dsimp (zetaDelta := true) only [Around.deeper, ktrTop]); ktr_room)); (case ku => ((try dsimp (zetaDelta := true) only [Around.deeper, ktrTop]); ktr_units)); intro t9 h9 tk9 F9 N9; (try dsimp only); (try (walk_at "M foldQ")); (walk_say "USE ct_number_int")))
  exact True.intro
theorem ct_less_negz (w : World) (t u : Tok) : Ct w 10 352 [.int 9223372036854775808 t, .int (fiL 0) u] (fun _ => True) (RetB false) := by
  rw [fi_zero]
  have h1 := nl_int 9223372036854775808 t
  walk_at "M enter"
  k_steps
  all_goals (walk_at "M bool"; rfl)
theorem ct_less_inf (w : World) (t u : Tok) : Ct w 10 352 [.int 9218868437227405312 t, .int 9218868437227405312 u] (fun _ => True) (RetB false) := by
  have h1 := nl_int 9218868437227405312 t
  walk_at "M enter"
  k_steps
  all_goals (walk_at "M bool"; rfl)
theorem ct_plus_negz (w : World) (t u : Tok) : Ct w 10 359 [.int 9223372036854775808 t, .int 9223372036854775808 u] (fun _ => True) (RetI 9223372036854775808) := by
  have h1 := nl_int 9223372036854775808 t
  have h2 := nl_int 9223372036854775808 u
  walk_at "M enter"
  k_steps
  all_goals (walk_at "M int"; decide +kernel)
/-! whether a value stands in a written tuple of mixed kinds -/
section
variable {prog : Program} {w : World} {A : Around} {E : Value → Shared → Prop} {s : Shared} {h₀ : Heap} {L : Addr} {news : Led} {Q : Value → Shared → Prop}
theorem tup_has {t : Addr} {items : Array Value} {x : Value} (e : Value → Bool) {P : Fin → Shared → Prop} (ht : IsTup s.heap t items)
    (he : ∀ y ∈ items.toList, ∀ (E : Value → Shared → Prop) (Q : Bool → Shared → Prop), Q (e y) s → wpAny (model prog w) A (eqBool y x) Q E s) (h : P (.done (.ret (.bool (items.toList.any e)))) s) :
    wpAny (model prog w) A (Builtin.«tuple.__contains__» ⟨[.ref t, x], []⟩) P E s := by
  show wpAny _ _ (Builtin.Tuple.tupleItemsOf (.ref t) >>= _) _ _ s
  refine wpAny_bind (tupleItemsOf_ ht ?_)
  refine wpAny_bind (forIn_array_ _ (fun rest b s' => b.1 = none ∧ s' = s ∧ (∀ y ∈ rest, y ∈ items.toList) ∧ P (.done (.ret (.bool (rest.any e)))) s) _ ?_ ?_ items _ ⟨rfl, rfl, fun _ h => h, h⟩)
  · rintro y rest b s' ⟨hb, rfl, hm, hP⟩
    refine wpAny_bind (he y (hm y (.head _)) _ _ ?_)
    rw [List.any_cons] at hP
    cases hy : e y with
    | true =>
      rw [hy] at hP
      exact wpAny_bind (wpAny_pure (wpAny_pure (wpAny_pure (by simpa using hP))))
    | false =>
      rw [hy] at hP
      exact wpAny_pure ⟨rfl, rfl, fun z hz => hm z (.tail _ hz), by simpa using hP⟩
  · rintro ⟨b1, b2⟩ s' ⟨hb, rfl, _, hP⟩
    simp only at hb
    subst hb
    exact wpAny_pure (by simpa using hP)
theorem notin_tup {t : Addr} {items : Array Value} {x : Value} (e : Value → Bool) (ht : IsTup s.heap t items)
    (he : ∀ y ∈ items.toList, ∀ (E : Value → Shared → Prop) (Q : Bool → Shared → Prop), Q (e y) s → wpAny (model prog w) A.in1 (eqBool y x) Q E s) (h : Q (.bool (!(items.toList.any e))) s) :
    wpAny (model prog w) A (compareOp .NotIn x (.ref t)) Q E s := by
  show wpAny _ _ (do return .bool (!(← contains (.ref t) x))) Q E s
  refine wpAny_bind ?_
  unfold contains
  refine wpAny_holding ?_
  refine wpAny_bind (wpAny_specialOf ht.typeIs slot_tuple_contains.lookup ?_)
  rw [if_neg (by decide)]
  exact wpAny_bind (wpAny_callSpecialUnlessNone?_slot (name := Str.ofString "__contains__") ht.typeIs slot_tuple_contains
    (wpAny_call_entry slot_tuple_contains ht.typeIs entry_tuple_contains (tup_has e ht he ⟨_, rfl, wpAny_truthy_bool (wpAny_pure h)⟩) (args_tuple_contains _ _)))
theorem eq_none_none {E : Value → Shared → Prop} {Q : Bool → Shared → Prop} (h : Q true s) : wpAny (model prog w) A (eqBool .none .none) Q E s := by
  unfold eqBool
  refine wpAny_holding ?_
  exact wpAny_ite_split (fun _ => wpAny_bind (wpAny_rule (wpAny_pure h))) (fun hab => absurd rfl hab)
variable {T : Addr} {t : Tok} {n : Nat}
abbrev three (t : Tok) (n : Nat) : Obj := tupO [.str (Str.ofString "") t, .bool false, .none] n
abbrev nilZero (t : Tok) (n : Nat) : Obj := tupO [.none, .int 0 t] n
theorem in_three {P : Value → Prop} (h1 : P (.str (Str.ofString "") t)) (h2 : P (.bool false)) (h3 : P .none) : ∀ y ∈ (#[.str (Str.ofString "") t, .bool false, .none] : Array Value).toList, P y := fun y hy => by
  rcases List.mem_cons.mp hy with rfl | hy
  · exact h1
  rcases List.mem_cons.mp hy with rfl | hy
  · exact h2
  · rw [List.mem_singleton.mp hy]; exact h3
theorem in_nilZero {P : Value → Prop} (h1 : P .none) (h2 : P (.int 0 t)) : ∀ y ∈ (#[.none, .int 0 t] : Array Value).toList, P y := fun y hy => by
  rcases List.mem_cons.mp hy with rfl | hy
  · exact h1
  · rw [List.mem_singleton.mp hy]; exact h2
theorem tup_at (N : News h₀ L s.heap news) {vs : List Value} (hm : (T, tupO vs n) ∈ news) : IsTup s.heap T vs.toArray := ⟨_, (N _ hm).1, rfl, n, rfl⟩
def eN : Value → Bool | .none => true | _ => false
def eB (b : Bool) : Value → Bool | .bool a => a == b | _ => false
def eI (k : Int) : Value → Bool | .bool a => (if a then 1 else 0) == k | .int m _ => m == k | _ => false
def eS (x : Str) : Value → Bool | .str y _ => y == x | _ => false
theorem ni_none (N : News h₀ L s.heap news) (hm : (T, three t n) ∈ news) (h : Q (.bool false) s) : wpAny (model prog w) A (compareOp .NotIn .none (.ref T)) Q E s :=
  notin_tup eN (tup_at N hm) (in_three (P := fun y => ∀ E Q, Q (eN y) s → wpAny (model prog w) A.in1 (eqBool y .none) Q E s)
    (fun E Q q => SeqAt.EqAt.str_none _ _ prog w E Q q) (fun E Q q => SeqAt.EqAt.bool_none _ prog w E Q q) (fun _E _Q q => eq_none_none q)) h
theorem ni_bool {b : Bool} (N : News h₀ L s.heap news) (hm : (T, three t n) ∈ news) (h : Q (.bool b) s) : wpAny (model prog w) A (compareOp .NotIn (.bool b) (.ref T)) Q E s :=
  notin_tup (eB b) (tup_at N hm) (in_three (P := fun y => ∀ E Q, Q (eB b y) s → wpAny (model prog w) A.in1 (eqBool y (.bool b)) Q E s)
    (fun E Q q => SeqAt.EqAt.str_bool _ _ _ prog w E Q q) (fun E Q q => SeqAt.EqAt.bool_bool _ _ prog w E Q q) (fun E Q q => SeqAt.EqAt.none_bool _ prog w E Q q)) (by cases b <;> exact h)
theorem ni_zero {u : Tok} (N : News h₀ L s.heap news) (hm : (T, three t n) ∈ news) (h : Q (.bool false) s) : wpAny (model prog w) A (compareOp .NotIn (.int 0 u) (.ref T)) Q E s :=
  notin_tup (eI 0) (tup_at N hm) (in_three (P := fun y => ∀ E Q, Q (eI 0 y) s → wpAny (model prog w) A.in1 (eqBool y (.int 0 u)) Q E s)
    (fun E Q q => SeqAt.EqAt.str_int _ _ _ _ prog w E Q q) (fun E Q q => SeqAt.EqAt.bool_int _ _ _ prog w E Q q) (fun E Q q => SeqAt.EqAt.none_int _ _ prog w E Q q)) h
theorem ni_int {k : Int} {u : Tok} (hk : k ≠ 0) (N : News h₀ L s.heap news) (hm : (T, three t n) ∈ news) (h : Q (.bool true) s) : wpAny (model prog w) A (compareOp .NotIn (.int k u) (.ref T)) Q E s := by
  refine notin_tup (eI k) (tup_at N hm) (in_three (P := fun y => ∀ E Q, Q (eI k y) s → wpAny (model prog w) A.in1 (eqBool y (.int k u)) Q E s)
    (fun E Q q => SeqAt.EqAt.str_int _ _ _ _ prog w E Q q) (fun E Q q => SeqAt.EqAt.bool_int _ _ _ prog w E Q q) (fun E Q q => SeqAt.EqAt.none_int _ _ prog w E Q q)) ?_
  have e : ((0 : Int) == k) = false := beq_eq_false_iff_ne.mpr (Ne.symm hk)
  show Q (.bool (!(false || (((0 : Int) == k) || (false || false))))) s
  rw [e]
  exact h
theorem ni_empty {u : Tok} (N : News h₀ L s.heap news) (hm : (T, three t n) ∈ news) (h : Q (.bool false) s) : wpAny (model prog w) A (compareOp .NotIn (.str (Str.ofString "") u) (.ref T)) Q E s := by
  refine notin_tup (eS (Str.ofString "")) (tup_at N hm) (in_three (P := fun y => ∀ E Q, Q (eS (Str.ofString "") y) s → wpAny (model prog w) A.in1 (eqBool y (.str (Str.ofString "") u)) Q E s)
    (fun E Q q => SeqAt.EqAt.str_str _ _ _ _ prog w E Q q) (fun E Q q => SeqAt.EqAt.bool_str _ _ _ prog w E Q q) (fun E Q q => SeqAt.EqAt.none_str _ _ prog w E Q q)) ?_
  show Q (.bool (!((Str.ofString "" == Str.ofString "") || (false || (false || false))))) s
  rw [beq_self_eq_true]
  exact h
theorem ni_str {x : Str} {u : Tok} (hx : x ≠ Str.ofString "") (N : News h₀ L s.heap news) (hm : (T, three t n) ∈ news) (h : Q (.bool true) s) : wpAny (model prog w) A (compareOp .NotIn (.str x u) (.ref T)) Q E s := by
  refine notin_tup (eS x) (tup_at N hm) (in_three (P := fun y => ∀ E Q, Q (eS x y) s → wpAny (model prog w) A.in1 (eqBool y (.str x u)) Q E s)
    (fun E Q q => SeqAt.EqAt.str_str _ _ _ _ prog w E Q q) (fun E Q q => SeqAt.EqAt.bool_str _ _ _ prog w E Q q) (fun E Q q => SeqAt.EqAt.none_str _ _ prog w E Q q)) ?_
  show Q (.bool (!((Str.ofString "" == x) || (false || (false || false))))) s
  rw [beq_eq_false_iff_ne.mpr (Ne.symm hx)]
  exact h
theorem nz_none (N : News h₀ L s.heap news) (hm : (T, nilZero t n) ∈ news) (h : Q (.bool false) s) : wpAny (model prog w) A (compareOp .NotIn .none (.ref T)) Q E s :=
  notin_tup eN (tup_at N hm) (in_nilZero (P := fun y => ∀ E Q, Q (eN y) s → wpAny (model prog w) A.in1 (eqBool y .none) Q E s)
    (fun _E _Q q => eq_none_none q) (fun E Q q => SeqAt.EqAt.int_none _ _ prog w E Q q)) h
theorem nz_int {k : Int} {u : Tok} (hk : k ≠ 0) (N : News h₀ L s.heap news) (hm : (T, nilZero t n) ∈ news) (h : Q (.bool true) s) : wpAny (model prog w) A (compareOp .NotIn (.int k u) (.ref T)) Q E s := by
  refine notin_tup (eI k) (tup_at N hm) (in_nilZero (P := fun y => ∀ E Q, Q (eI k y) s → wpAny (model prog w) A.in1 (eqBool y (.int k u)) Q E s)
    (fun E Q q => SeqAt.EqAt.none_int _ _ prog w E Q q) (fun E Q q => SeqAt.EqAt.int_int _ _ _ _ prog w E Q q)) ?_
  have e : ((0 : Int) == k) = false := beq_eq_false_iff_ne.mpr (Ne.symm hk)
  show Q (.bool (!(false || (((0 : Int) == k) || false)))) s
  rw [e]
  exact h
end
/-! the one object Null() beside a plain value -/
theorem str_eq_inst (b : Str) (u : Tok) (l C d : Addr) :
    Meets (Builtin.«str.__eq__» ⟨[.str b u, .ref l], []⟩) (fun _ R s => s.heap.get? l = some { cls := .ref C, dict := some d } ∧ R (.ok (.ret .notImplemented)) s) :=
  .of_wp fun prog w A R s h => by obtain ⟨hp, g, d, tk, os⟩ := s; obtain ⟨hl, h⟩ := h; wp_walk using AutoSeq1.wpAny_loadPart' hl, wpAny_load hl; exact ⟨_, rfl, h⟩
theorem int_eq_inst (b : Bool) (l C d : Addr) :
    Meets (Builtin.«int.__eq__» ⟨[.bool b, .ref l], []⟩) (fun _ R s => s.heap.get? l = some { cls := .ref C, dict := some d } ∧ R (.ok (.ret .notImplemented)) s) :=
  .of_wp fun prog w A R s h => by obtain ⟨hp, g, d, tk, os⟩ := s; obtain ⟨hl, h⟩ := h; wp_walk using AutoSeq1.wpAny_loadPart' hl, wpAny_load hl; exact ⟨_, rfl, h⟩
theorem keepL {K : Frag} {a : Addr} {o : Obj} (h : K.lookup a = some o) : K.lookup a = some o := h
section
variable {w : World} {A : Around} {E : Value → Shared → Prop} {s : Shared}
theorem null_tries {y : Value} {Q : Option Value → Shared → Prop} (X : (hd.heap_1 w.params).In s.heap) (hs : isSame (.ref 275) y = pure false) (h : Q none s) :
    wpAny (model PySem.Challenge.rw_nt0372_01.row.prog w) A (tryCompare (.ref 275) "__eq__" y) Q E s := by
  revert X
  k_fill
  intro X
  have hx : s.heap.get? 275 = some { cls := .ref 269, dict := some 274 } := X _ _ (by k_is)
  have hC := X _ _ (keepL (K := hd.heap_1 w.params) (a := 269) (by k_is))
  obtain ⟨hp, g, d, tk, os⟩ := s
  simp only [tryCompare]
  refine wpAny_bind ?_
  simp only [callSpecialIfBound?, bindSpecialIfBound?]
  refine wpAny_holding (wpAny_bind (wpAny_bind (Looks.here (looks_specialIn X (r := some (.builtin "object.__eq__")) (by k_is)) ?_)))
  simp only [F.cmp_object.eq.bind]
  refine wpAny_bind (wpAny_askSetting (wpAny_ite ?_))
  have body : ∀ (A' : Around) (E' : Value → Shared → Prop) (Q' : Fin → Shared → Prop), Q' (.done (.ret .notImplemented)) ⟨hp, g, d, tk, os⟩ → wpAny (model PySem.Challenge.rw_nt0372_01.row.prog w) A' (Builtin.«object.__eq__» ⟨[.ref 275, y], []⟩) Q' E' ⟨hp, g, d, tk, os⟩ := by
    intro A' E' Q' hq
    show wpAny _ _ (isSame (.ref 275) y >>= _) _ _ _
    refine wpAny_bind (wpAny_of_eq hs ?_)
    exact wpAny_pure hq
  have fin : wpAny (model PySem.Challenge.rw_nt0372_01.row.prog w) A (call (.builtin "object.__eq__") ([.ref 275] ++ [y]) >>= fun v => pure (some v)) (fun v s' => wpAny (model PySem.Challenge.rw_nt0372_01.row.prog w) A (match v with | some .notImplemented | none => pure none | some v => pure (some v)) Q E s') E ⟨hp, g, d, tk, os⟩ := by
    refine wpAny_bind (wpAny_call (codeAny_call_builtin F.cmp_object.eq.plain F.cmpEntry_eq (wpAny_check_slot_inst F.cmpKind_eq F.cmpSplit_eq (F.cmpArgs_eq _ _) F.cmp_object.hasObject hx rfl hC (body _ _ _ ?_))))
    exact wpAny_pure (wpAny_pure h)
  split
  · exact wpAny_bind (wpAny_pure (wpAny_pure fin))
  · exact wpAny_tryCatch (wpAny_bind (wpAny_pure (wpAny_pure fin)))
theorem null_rc {y : Value} {Ty ida : String} {Q : Value → Shared → Prop} (X : (hd.heap_1 w.params).In s.heap) (hu : A.units < cLine) (hy : s.TypeIs y Ty) (hsub : subIn (hd.heap_1 w.params) (.ref 269) (.type Ty) = some false)
    (h1 : Slot Ty "__eq__" ida) (hc1 : ∀ Q' : Value → Shared → Prop, Q' .notImplemented s → wpAny (model PySem.Challenge.rw_nt0372_01.row.prog w) A (call (.builtin ida) [y, .ref 275]) Q' E s) (hs1 : isSame (.ref 275) y = pure false) (hs2 : isSame y (.ref 275) = pure false)
    (h : Q (.bool false) s) : wpAny (model PySem.Challenge.rw_nt0372_01.row.prog w) A (richCompare .Eq y (.ref 275)) Q E s := by
  revert X
  k_fill
  intro X
  simp only [richCompare, cmpInfo_Eq, hy.oneThing_none]
  try with_reducible refine wpAny_holding ?_
  refine wpAny_bind (wpAny_cRoomFor_or (.inr hu) ?_)
  refine wpAny_bind (wpAny_typeOf hy (wpAny_bind (Looks.here (looks_typeIn X (t := .ref 269) (by k_is)) ?_)))
  rw [if_pos (show (Value.type Ty != Value.ref 269) = true from rfl)]
  refine wpAny_bind (Looks.here (looks_subIn X hsub) ?_)
  simp only [Bool.false_eq_true, if_false, Bool.not_false, if_true]
  refine wpAny_bind (m := tryCompare y _ (.ref 275)) (wpAny_tryCompare_declines hy h1 (hc1 _ ⟨rfl, ?_⟩))
  refine wpAny_bind (m := tryCompare (.ref 275) _ y) (null_tries X hs1 ?_)
  exact wpAny_bind (wpAny_rule (wpAny_bind (wpAny_of_eq hs2 (wpAny_pure h))))
theorem ni_null {h₀ : Heap} {L T : Addr} {t : Tok} {n : Nat} {news : Led} {Q : Value → Shared → Prop} (X : (hd.heap_1 w.params).In s.heap) (hu : A.in1.units < cLine) (N : News h₀ L s.heap news) (hm : (T, three t n) ∈ news) (h : Q (.bool true) s) :
    wpAny (model PySem.Challenge.rw_nt0372_01.row.prog w) A (compareOp .NotIn (.ref 275) (.ref T)) Q E s := by
  revert X
  k_fill
  intro X
  have hx : s.heap.get? 275 = some { cls := .ref 269, dict := some 274 } := X _ _ (by k_is)
  refine notin_tup (fun _ => false) (tup_at N hm) (in_three (P := fun y => ∀ E Q, Q false s → wpAny (model PySem.Challenge.rw_nt0372_01.row.prog w) A.in1 (eqBool y (.ref 275)) Q E s) ?_ ?_ ?_) h
  · intro E Q q
    unfold eqBool
    refine wpAny_holding ?_
    refine wpAny_ite_split (fun hab => absurd (eq_of_beq hab) nofun) (fun _ => ?_)
    exact wpAny_bind (null_rc X hu (typeIs_str s _ _) (by k_is) F.slot_str_eq (fun Q' q' => call_meets F.slot_str_eq (typeIs_str s _ _) F.entry_str_eq (F.args_str_eq_2 _ _) (str_eq_inst _ _ 275 269 274) ⟨hx, q'⟩) rfl rfl (wpAny_truthy_bool q))
  · intro E Q q
    unfold eqBool
    refine wpAny_holding ?_
    refine wpAny_ite_split (fun hab => absurd (eq_of_beq hab) nofun) (fun _ => ?_)
    exact wpAny_bind (null_rc (Ty := "bool") X hu rfl (by k_is) F.slot_bool_eq (fun Q' q' => call_meets F.slot_bool_eq rfl F.entry_int_eq (F.args_int_eq_2 _ _) (int_eq_inst _ 275 269 274) ⟨hx, q'⟩) rfl rfl (wpAny_truthy_bool q))
  · intro E Q q
    unfold eqBool
    refine wpAny_holding ?_
    refine wpAny_ite_split (fun hab => absurd (eq_of_beq hab) nofun) (fun _ => ?_)
    exact wpAny_bind (null_rc (Ty := "NoneType") X hu rfl (by k_is) F.slot_NoneType_eq (fun Q' q' => call_gives F.slot_NoneType_eq rfl F.entry_NoneType_eq (F.args_NoneType_eq_2 _ _) (SeqAt.NoneType___eq___none_ref_0 275) q') rfl rfl (wpAny_truthy_bool q))
end
theorem wd_99_0 : True := by
  k_with "W call ref" => (k_here; (with_reducible show wpAny _ _ (call (Value.ref 303) _) _ _ _); k_dflt (refine' use_bool (ct_truthy_text _ _ _ _ _ ?c1 ?c2) ?k1 ?k2 ?k3 ?k4 ?k5 ?kK ?kp ?kd ?ku ?_; (case k1 => k_asm); (case k2 => k_asm); (case k3 => k_asm); (case k4 => k_asm); (case k5 => k_asm); (case kK => first | exact rfl | assumption); (case kp => exact True.intro); (case c1 => with_reducible assumption); (case c2 => with_reducible assumption); (case kd => ((try dsimp (zetaDelta := true) only [Around.deeper, ktrTop]); ktr_room)); (case ku => ((try dsimp (zetaDelta := true) only [Around.deeper, ktrTop]); ktr_units)); intro h9 tk9 F9 N9; (try dsimp only); (try (walk_at "M foldQ")); (walk_say "USE ct_truthy_text")))
  k_with "W call ref" => (k_here; (with_reducible show wpAny _ _ (call (Value.ref 303) _) _ _ _); k_dflt (refine' use_bool (ct_truthy_empty _ _) ?k1 ?k2 ?k3 ?k4 ?k5 ?kK ?kp ?kd ?ku ?_; (case k1 => k_asm); (case k2 => k_asm); (case k3 => k_asm); (case k4 => k_asm); (case k5 => k_asm); (case kK => first | exact rfl | assumption); (case kp => exact True.intro); (case kd => ((try dsimp (zetaDelta := true) only [Around.deeper, ktrTop]); ktr_room)); (case ku => ((try dsimp (zetaDelta := true) only [Around.deeper, ktrTop]); ktr_units)); intro h9 tk9 F9 N9; (try dsimp only); (try (walk_at "M foldQ")); (walk_say "USE ct_truthy_empty")))
  k_with "W call ref" => (k_here; (with_reducible show wpAny _ _ (call (Value.ref 303) _) _ _ _); k_dflt (refine' use_bool (ct_truthy_num _ _ _ ?c1 ?c2) ?k1 ?k2 ?k3 ?k4 ?k5 ?kK ?kp ?kd ?ku ?_; (case k1 => k_asm); (case k2 => k_asm); (case k3 => k_asm); (case k4 => k_asm); (case k5 => k_asm); (case kK => first | exact rfl | assumption); (case kp => exact True.intro); (case c1 => with_reducible assumption); (case c2 => with_reducible assumption); (case kd => ((try dsimp (zetaDelta := true) only [Around.deeper, ktrTop]); ktr_room)); (case ku => ((try dsimp (zetaDelta := true) only [Around.deeper, ktrTop]); ktr_units)); intro h9 tk9 F9 N9; (try dsimp only); (try (walk_at "M foldQ")); (walk_say "USE ct_truthy_num")))
  k_with "W call ref" => (k_here; (with_reducible show wpAny _ _ (call (Value.ref 303) _) _ _ _); k_dflt (refine' use_bool (ct_truthy_nan _ _) ?k1 ?k2 ?k3 ?k4 ?k5 ?kK ?kp ?kd ?ku ?_; (case k1 => k_asm); (case k2 => k_asm); (case k3 => k_asm); (case k4 => k_asm); (case k5 => k_asm); (case kK => first | exact rfl | assumption); (case kp => exact True.intro); (case kd => ((try dsimp (zetaDelta := true) only [Around.deeper, ktrTop]); ktr_room)); (case ku => ((try dsimp (zetaDelta := true) only [Around.deeper, ktrTop]); ktr_units)); intro h9 tk9 F9 N9; (try dsimp only); (try (walk_at "M foldQ")); (walk_say "USE ct_truthy_nan")))
  k_with "W call ref" => (k_here; (with_reducible show wpAny _ _ (call (Value.ref 303) _) _ _ _); k_dflt (refine' use_bool (ct_truthy_one _ _) ?k1 ?k2 ?k3 ?k4 ?k5 ?kK ?kp ?kd ?ku ?_; (case k1 => k_asm); (case k2 => k_asm); (case k3 => k_asm); (case k4 => k_asm); (case k5 => k_asm); (case kK => first | exact rfl | assumption); (case kp => exact True.intro); (case kd => ((try dsimp (zetaDelta := true) only [Around.deeper, ktrTop]); ktr_room)); (case ku => ((try dsimp (zetaDelta := true) only [Around.deeper, ktrTop]); ktr_units)); intro h9 tk9 F9 N9; (try dsimp only); (try (walk_at "M foldQ")); (walk_say "USE ct_truthy_one")))
  k_with "W call ref" => (k_here; (with_reducible show wpAny _ _ (call (Value.ref 303) _) _ _ _); k_dflt (refine' use_bool (ct_truthy_zero _ _) ?k1 ?k2 ?k3 ?k4 ?k5 ?kK ?kp ?kd ?ku ?_; (case k1 => k_asm); (case k2 => k_asm); (case k3 => k_asm); (case k4 => k_asm); (case k5 => k_asm); (case kK => first | exact rfl | assumption); (case kp => exact True.intro); (case kd => ((try dsimp (zetaDelta := true) only [Around.deeper, ktrTop]); ktr_room)); (case ku => ((try dsimp (zetaDelta := true) only [Around.deeper, ktrTop]); ktr_units)); intro h9 tk9 F9 N9; (try dsimp only); (try (walk_at "M foldQ")); (walk_say "USE ct_truthy_zero")))
  k_with "W call ref" => (k_here; (with_reducible show wpAny _ _ (call (Value.ref 303) _) _ _ _); k_dflt (refine' use_bool (ct_truthy_inf _ _) ?k1 ?k2 ?k3 ?k4 ?k5 ?kK ?kp ?kd ?ku ?_; (case k1 => k_asm); (case k2 => k_asm); (case k3 => k_asm); (case k4 => k_asm); (case k5 => k_asm); (case kK => first | exact rfl | assumption); (case kp => exact True.intro); (case kd => ((try dsimp (zetaDelta := true) only [Around.deeper, ktrTop]); ktr_room)); (case ku => ((try dsimp (zetaDelta := true) only [Around.deeper, ktrTop]); ktr_units)); intro h9 tk9 F9 N9; (try dsimp only); (try (walk_at "M foldQ")); (walk_say "USE ct_truthy_inf")))
  k_with "W call ref" => (k_here; (with_reducible show wpAny _ _ (call (Value.ref 303) _) _ _ _); k_dflt (refine' use_bool (ct_truthy_negz _ _) ?k1 ?k2 ?k3 ?k4 ?k5 ?kK ?kp ?kd ?ku ?_; (case k1 => k_asm); (case k2 => k_asm); (case k3 => k_asm); (case k4 => k_asm); (case k5 => k_asm); (case kK => first | exact rfl | assumption); (case kp => exact True.intro); (case kd => ((try dsimp (zetaDelta := true) only [Around.deeper, ktrTop]); ktr_room)); (case ku => ((try dsimp (zetaDelta := true) only [Around.deeper, ktrTop]); ktr_units)); intro h9 tk9 F9 N9; (try dsimp only); (try (walk_at "M foldQ")); (walk_say "USE ct_truthy_negz")))
  k_with "W call ref" => (k_here; (with_reducible show wpAny _ _ (call (Value.ref 303) _) _ _ _); k_dflt (refine' use_bool (ct_truthy_bool _ _) ?k1 ?k2 ?k3 ?k4 ?k5 ?kK ?kp ?kd ?ku ?_; (case k1 => k_asm); (case k2 => k_asm); (case k3 => k_asm); (case k4 => k_asm); (case k5 => k_asm); (case kK => first | exact rfl | assumption); (case kp => exact True.intro); (case kd => ((try dsimp (zetaDelta := true) only [Around.deeper, ktrTop]); ktr_room)); (case ku => ((try dsimp (zetaDelta := true) only [Around.deeper, ktrTop]); ktr_units)); intro h9 tk9 F9 N9; (try dsimp only); (try (walk_at "M foldQ")); (walk_say "USE ct_truthy_bool")))
  k_with "W call ref" => (k_here; (with_reducible show wpAny _ _ (call (Value.ref 303) _) _ _ _); k_dflt (refine' use_bool (ct_truthy_null _) ?k1 ?k2 ?k3 ?k4 ?k5 ?kK ?kp ?kd ?ku ?_; (case k1 => k_asm); (case k2 => k_asm); (case k3 => k_asm); (case k4 => k_asm); (case k5 => k_asm); (case kK => first | exact rfl | assumption); (case kp => exact True.intro); (case kd => ((try dsimp (zetaDelta := true) only [Around.deeper, ktrTop]); ktr_room)); (case ku => ((try dsimp (zetaDelta := true) only [Around.deeper, ktrTop]); ktr_units)); intro h9 tk9 F9 N9; (try dsimp only); (try (walk_at "M foldQ")); (walk_say "USE ct_truthy_null")))
  k_with "W call ref" => (k_here; (with_reducible show wpAny _ _ (call (Value.ref 303) _) _ _ _); k_dflt (refine' use_bool (ct_truthy_none _) ?k1 ?k2 ?k3 ?k4 ?k5 ?kK ?kp ?kd ?ku ?_; (case k1 => k_asm); (case k2 => k_asm); (case k3 => k_asm); (case k4 => k_asm); (case k5 => k_asm); (case kK => first | exact rfl | assumption); (case kp => exact True.intro); (case kd => ((try dsimp (zetaDelta := true) only [Around.deeper, ktrTop]); ktr_room)); (case ku => ((try dsimp (zetaDelta := true) only [Around.deeper, ktrTop]); ktr_units)); intro h9 tk9 F9 N9; (try dsimp only); (try (walk_at "M foldQ")); (walk_say "USE ct_truthy_none")))
  k_with "W call ref" => (k_here; (with_reducible show wpAny _ _ (call (Value.ref 352) _) _ _ _); k_dflt (refine' use_bool (ct_less_negz _ _ _) ?k1 ?k2 ?k3 ?k4 ?k5 ?kK ?kp ?kd ?ku ?_; (case k1 => k_asm); (case k2 => k_asm); (case k3 => k_asm); (case k4 => k_asm); (case k5 => k_asm); (case kK => first | exact rfl | assumption); (case kp => exact True.intro); (case kd => ((try dsimp (zetaDelta := true) only [Around.deeper, ktrTop]); ktr_room)); (case ku => ((try dsimp (zetaDelta := true) only [Around.deeper, ktrTop]); ktr_units)); intro h9 tk9 F9 N9; (try dsimp only); (try (walk_at "M foldQ")); (walk_say "USE ct_less_negz")))
  k_with "W call ref" => (k_here; (with_reducible show wpAny _ _ (call (Value.ref 352) _) _ _ _); k_dflt (refine' use_bool (ct_less_inf _ _ _) ?k1 ?k2 ?k3 ?k4 ?k5 ?kK ?kp ?kd ?ku ?_; (case k1 => k_asm); (case k2 => k_asm); (case k3 => k_asm); (case k4 => k_asm); (case k5 => k_asm); (case kK => first | exact rfl | assumption); (case kp => exact True.intro); (case kd => ((try dsimp (zetaDelta := true) only [Around.deeper, ktrTop]); ktr_room)); (case ku => ((try dsimp (zetaDelta := true) only [Around.deeper, ktrTop]); ktr_units)); intro h9 tk9 F9 N9; (try dsimp only); (try (walk_at "M foldQ")); (walk_say "USE ct_less_inf")))
  k_with "W call ref" => (k_here; (with_reducible show wpAny _ _ (call (Value.ref 359) _) _ _ _); k_dflt (refine' use_int (ct_plus_negz _ _ _) ?k1 ?k2 ?k3 ?k4 ?k5 ?kK ?kp ?kd ?ku ?_; (case k1 => k_asm); (case k2 => k_asm); (case k3 => k_asm); (case k4 => k_asm); (case k5 => k_asm); (case kK => first | exact rfl | assumption); (case kp => exact True.intro); (case kd => ((try dsimp (zetaDelta := true) only [Around.deeper, ktrTop]); ktr_room)); (case ku => ((try dsimp (zetaDelta := true) only [Around.deeper, ktrTop]); ktr_units)); intro t9 h9 tk9 F9 N9; (try dsimp only); (try (walk_at "M foldQ")); (walk_say "USE ct_plus_negz")))
  k_with "W call ref" => (k_here; (with_reducible show wpAny _ _ (call (Value.ref 310) _) _ _ _); k_dflt (refine' use_int (ct_number_nanV _ _ _ _ ?c1) ?k1 ?k2 ?k3 ?k4 ?k5 ?kK ?kp ?kd ?ku ?_; (case k1 => k_asm); (case k2 => k_asm); (case k3 => k_asm); (case k4 => k_asm); (case k5 => k_asm); (case kK => first | exact rfl | assumption); (case kp => exact True.intro); (case c1 => with_reducible assumption); (case kd => ((try dsimp (zetaDelta := true) only [Around.deeper, ktrTop]); ktr_room)); (case ku => ((try dsimp (zetaDelta := true) only [Around.deeper, ktrTop]); ktr_units)); intro t9 h9 tk9 F9 N9; (try dsimp only); (try (walk_at "M foldQ")); (walk_say "USE ct_number_nanV")))
  k_with "W call ref" => (k_here; (with_reducible show wpAny _ _ (call (Value.ref 310) _) _ _ _); k_dflt (refine' use_int (ct_number_numV _ _ _ _ _ ?c1) ?k1 ?k2 ?k3 ?k4 ?k5 ?kK ?kp ?kd ?ku ?_; (case k1 => k_asm); (case k2 => k_asm); (case k3 => k_asm); (case k4 => k_asm); (case k5 => k_asm); (case kK => first | exact rfl | assumption); (case kp => exact True.intro); (case c1 => with_reducible assumption); (case kd => ((try dsimp (zetaDelta := true) only [Around.deeper, ktrTop]); ktr_room)); (case ku => ((try dsimp (zetaDelta := true) only [Around.deeper, ktrTop]); ktr_units)); intro t9 h9 tk9 F9 N9; (try dsimp only); (try (walk_at "M foldQ")); (walk_say "USE ct_number_numV")))
  k_with "W exec Assign cons ListComp" => (k_here; k_dflt (refine LCg.Assign_ListComp_U (F₀ := by k_asm) (by rfl) (by with_unfolding_all rfl) (by rfl) (by decide) (by rfl) (by decide) (by rfl) (by rfl) (by rfl) ?_); k_dflt lcg_toSrc)
  k_with "W CompSrc" => (k_here; k_dflt (refine LCg.CompSrc.ledger (by rfl) (by k_asm) (by k_asm) (by k_mem) (by first | size_fits | exact Nat.le_of_ble_eq_true rfl) ?_; intro g'; refine comp_law (by assumption) (.inr ⟨_, by k_mem, rfl, _, rfl⟩) (fun n9 t9 ys9 tups9 I9 oI9 C9 oC9 D9 m9 h9 tk9 E9 hC9 hx9 F9 N9 => ?_) (fun ys9 tups9 hl9 hY9 => ?_)); all_goals ((try dsimp only); (try (walk_at "M fold"))))
  k_with "W StepEnd" => exact ⟨_, _, _, _, _, rfl, rfl, by assumption, by assumption, by assumption, by assumption⟩
  k_with "W exec If" => (k_here; (with_reducible show wpAny _ _ (exec (Stmt.If (Expr.Compare (Expr.Call (Expr.Name (Str.ofString "len") _) _ _ _) _ _ _) _ _ _) _) _ _ _); (fail_if_success (with_reducible show wpAny _ _ _ (JoinP _ _ _ _) _ _)); k_dflt (refine' if_join ?kF ?_ ?_; (case kF => k_asm); rotate_left; (case' _ => (intro h9 tk9 D9 ys9 n9 tups9 F9 N9 hY9; (try dsimp only); (try (walk_at "M fold")))); rotate_right))
  k_with "W call builtin:len" => (k_here; (with_reducible show wpAny _ _ (call (Value.builtin "len") [Value.ref _]) _ _ _); (refine' len_N ?k1 ?k2 ?k3 ?_; (case k1 => k_asm); (case k2 => walk_at "M in"); (case k3 => (rename (_ : Nat) = _ => hN9; simp at hN9; omega))))
  k_with "W binaryOp Add ref ref" => (k_here; k_dflt (refine' add_vals ?k1 ?k2 ?k3 ?k4 ?k5 ?k6 ?_; (case k1 => k_asm); (case k2 => k_asm); rotate_right; (case k3 => walk_at "M in"); (case k4 => walk_at "M in"); (case k5 => (rename (_ : Nat) = _ => hN9; simp at hN9; omega)); (case k6 => exact Nat.le_of_ble_eq_true rfl); intro D9 h9 F9 N9; (try dsimp only); (try (walk_at "M fold"))))
  k_with "W M good" => (refine GoodY.mono (by with_reducible assumption) ?_; intro q hq; walk_at "M in")
  k_with "W JoinP" => (refine' ⟨rfl, _, _, _, _, _, _, _, rfl, ?jF, ?jo, ?jv, ?jN, ?jY⟩; (case jF => assumption); (case jv => exact if_pos rfl); (case jo => (intro z hz; first | exact (if_neg hz).trans rfl | exact if_neg hz | rfl)); (case jN => assumption); (case jY => first | exact GoodY.snoc (by walk_at "M good") (by walk_at "M in") (by walk_at "M in") (by assumption) (by assumption) | walk_at "M good"))
  exact True.intro
local macro_rules | `(tactic| walk_at "M loop") => `(tactic| (k_here; k_dflt (refine' iter_vals (Str.ofString "bits") (Str.ofString "other") ?k0 ?k1 ?k2 ?k3 ?k4 ?k5 ?kt ?kd; (case k0 => exact rfl); (case k4 => k_asm); (case k5 => k_asm); (case k1 => walk_at "M in"); (case k2 => assumption); (case k3 => (intro q hq; walk_at "M in")); rotate_right; (case' kd => (intro m9 h9 tk9 F9 N9; (try dsimp only); (try (walk_at "M fold")))); rotate_left)))
theorem wd_99_1 : True := by
  k_with "W pyIter ref" => ((with_reducible show wpAny _ _ (pyIter (Value.ref _)) (fun it s₂ => LoopAtV _ _ _ _ _ (Str.ofString "other") _ _ _ it s₂) _ _); walk_at "M loop"; (case' kt => (intro T9 us9 k9 m9 h9 tk9 own9 hL9 F9 N9; (try dsimp only); (try (walk_at "M fold")))); (walk_say "LOOP other"))
  k_with "W pyIter ref" => ((with_reducible show wpAny _ _ (pyIter (Value.ref _)) (fun it s₂ => LoopAtV _ _ _ _ _ (Str.ofString "one") _ _ _ it s₂) _ _); walk_at "M loop"; (case' kt => (intro T9 us9 k9 m9 h9 tk9 own9 hL9 F9 N9; (have hS9 := LTup.shape hL9); (cases hS9); (try dsimp only); (try (walk_at "M fold")))); (walk_say "LOOP one"))
  k_with "W call ref" => (k_here; (with_reducible show wpAny _ _ (call (Value.ref 394) _) _ _ _); k_dflt (refine' use_boolL (ct_pair _ _ _ _ _ _ _ ?ka ?kb) ?k1 ?k2 ?k3 ?k4 ?kl ?k5 ?kK ?kd ?ku ?_; (case k1 => k_asm); (case k2 => k_asm); (case k3 => k_asm); (case k4 => k_asm); (case k5 => k_asm); (case kl => exact two_in (by walk_at "M in") (by walk_at "M in")); (case ka => assumption); (case kb => assumption); (case kK => first | exact rfl | assumption); (case kd => ((try dsimp (zetaDelta := true) only [Around.deeper, ktrTop]); ktr_room)); (case ku => ((try dsimp (zetaDelta := true) only [Around.deeper, ktrTop]); ktr_units)); intro h9 tk9 F9 N9; (try dsimp only); (try (walk_at "M fold")); (walk_say "USE ct_pair")))
  k_with "W compareOp NotIn none ref" => (k_here; first | k_dflt (refine' nz_none ?k1 ?k2 ?_; (case k1 => k_asm); (case k2 => walk_at "M in")) | k_dflt (refine' ni_none ?k1 ?k2 ?_; (case k1 => k_asm); (case k2 => walk_at "M in")))
  k_with "W compareOp NotIn bool ref" => (k_here; k_dflt (refine' ni_bool ?k1 ?k2 ?_; (case k1 => k_asm); (case k2 => walk_at "M in")))
  k_with "W compareOp NotIn int ref" => (k_here; first | k_dflt (refine' nz_int (by with_reducible assumption) ?k1 ?k2 ?_; (case k1 => k_asm); (case k2 => walk_at "M in")) | k_dflt (refine' ni_int (by first | with_reducible assumption | decide) ?k1 ?k2 ?_; (case k1 => k_asm); (case k2 => walk_at "M in")) | k_dflt (refine' ni_zero ?k1 ?k2 ?_; (case k1 => k_asm); (case k2 => walk_at "M in")))
  k_with "W compareOp NotIn str ref" => (k_here; first | k_dflt (refine' ni_str (by with_reducible assumption) ?k1 ?k2 ?_; (case k1 => k_asm); (case k2 => walk_at "M in")) | k_dflt (refine' ni_empty ?k1 ?k2 ?_; (case k1 => k_asm); (case k2 => walk_at "M in")))
  k_with "W compareOp NotIn ref ref" => (k_here; k_dflt (refine' ni_null ?kX ?ku ?k1 ?k2 ?_; (case k1 => k_asm); (case k2 => walk_at "M in"); (case kX => first | assumption | exact Frag.In.keeps (by k_asm) (Fr.keep (by k_asm))); (case ku => first | k_units | ktr_units)))
  k_with "W VPost" => (refine' ⟨_, _, _, rfl, ?vF, ?vN, ?vO⟩; (case vF => assumption); (case vN => first | exact news_tail (by assumption) | exact news_tail (news_tail (by assumption)) | exact news_tail (news_tail (news_tail (by assumption)))); (case vO => (intro z h1 h2 h3; first | (simp only [form3, if_neg h1, if_neg h2, if_neg h3]; done) | (simp (zetaDelta := true) only [form3, if_neg h1, if_neg h2, if_neg h3]))))
  exact True.intro
theorem law_holds : PySem.Challenge.rw_nt0372_01.Holds := hd (by
  w_top off
  k_go0
  all_goals try k_fold
  k_steps)
end Mine
theorem PySem.Challenge.cw_nt0372_01_holds : PySem.Challenge.rw_nt0372_01.Holds := by
  exact Mine.law_holds
