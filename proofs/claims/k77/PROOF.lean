import PyProof.Rows.All
import Wide.All
import OpenK.AllK
import Wide.FinOn
import HandS.CallSlots
import HandS.EndTab
import HandS.EndBits
import HandS.Words
import HandS.WordsExc
import HandS.HotCalls
import HandS.ExcCtx
import HandS.Lambda
import HandS.Comp
import KE.KExcIs
import KE.KTryMore
import HandS.IsInst
import HandS.ExcIs
import HandS.Codes
import HandS.Defaults
import HandS.TupMul
import HandS.SortKw
import HandS.FltList
import HandS.Iter
import KE.DataMinKey
import PyProof.WalkInts
import HandS.TupAny
import PyProof.SumAnyB
import PyProof.InstSpecial
import HandS.Rev
import HandS.MapObj
import HandS.MapJoin
import KE.DataMinMax
import HandS.List
import KE.SortData
import HandS.ForMost
import HandS.Exc
import HandS.ExcOwn
import HandS.Wide
import HandS.Style
import HandS.Conv
import HandS.More
import KE.KNestM
import HandS.WideBits
import HandS.Zip
import PyProof.StrLawsIn
import HandS.Dict
import PyProof.StrLawsRepr
import PyProof.FitsInt
import PyProof.Rows.RegStrFacts
import PyProof.ReprRoads
import HandS.ExcInit
import HandS.ExcField
import HandS.Strs
import HandS.Deep
import PyProof.P3In
import PyProof.TupleKey
import PyProof.DictRoadsH
import PyProof.DictKinds
import HandS.FStr
import KE.LtData
import KE.KSuperObj
import HandS.IntHex
import HandS.ReplaceLit
import PyProof.StrLawsReplace
import KE.GoesEnumKw
import PyProof.Rows.CountFlat
import PyProof.InstNe
import HandS.SlotsOwn
import KE.KCallOwn
import HandS.RaiseMore
import PyProof.EqKinds
import PyProof.FactsAll.bool_1
import PyProof.FactsAll.NoneType_1
import HandS.OwnEq
import PyProof.Rows.ReprOcc
import PyProof.SeqIndex
import KE.DataFind
import HandS.TupSets
import HandS.SetKeys
import PyProof.WalksMore
import PyProof.Rows.StrOr
import KE.KeyNested
import HandS.Spec
import KE.HD2
import PySem.Challenge.RW_nearthrees_k77_whole_all_words_of_so_man
set_option Elab.async false
set_option linter.all false
set_option maxRecDepth 100000
set_option maxHeartbeats 4000000
section
open PySem PySem.W PyProof.Rows
namespace HeadQ
open PySem PySem.W PySem.Calls PyProof.Rows HeadRun
abbrev R : OpenRow := OpenLaw.row PySem.Challenge.rw_nearthrees_k77_whole_all_words_of_so_man
/-- what the walk sees of the top: the law alone -/
abbrev qv : Program := view R.prog [133]
def nm : List PySem.Str := (["_wall", "__name__", "NoNumber", "NoKin", "OverNought", "NoPlace", "TooMany", "NoRing", "NoWord", "NoStep", "Uneven", "NoWay", "NoTable", "NoTriple", "NoForm", "is_whole", "are_wholes", "shared_by", "sign_in", "side_of", "is_square", "lowest_terms", "LEAST_SQUARE", "PARTS", "is_under_root", "is_bottom", "LOOKS", "look_parts", "Root", "contrary_of"] : List PySem.Str) ++ (["root_text", "sum_text", "MOST_RING", "MOST_NUMBER", "is_within", "is_row", "is_number_ring", "shortest_part", "table_of_row", "form_of_row", "LETTERS", "MOST_LETTERS", "is_word", "look_word", "Ring", "how_many_b", "uneven_pair", "is_even", "uneven_parts", "WAY_LETTERS", "even_word", "is_step_word", "look_step", "look_step_steps", "cut_by", "cut_of", "way_to", "way_by_left", "way_by_right", "way_of_word"] : List PySem.Str) ++ (["look_way", "word_of_way", "UNIT", "LETTER_TABLES", "is_pair_of", "is_table", "size_of", "is_turning", "look_turning", "joined", "corners", "contrary_by", "table_by", "table_of", "first_letter", "word_of", "Form", "ONES", "TWO", "MANY", "is_triple", "look_triple", "exchanged", "THIRD", "ALONE", "look_step_joins", "number_of", "triple_of", "turned_row", "square_at"] : List PySem.Str) ++ (["is_greater", "WALL", "NUMBERS", "row_of_word", "form_by", "is_tuple_of", "is_place_of", "is_part_of", "even_holds", "uneven_holds", "same_holds", "triple_holds", "below_holds", "above_holds", "form_in", "form_below_holds", "form_above_holds", "HOLD", "HOLD_SAME", "HOLD_OF_THREE", "holds", "_law_urn", "_law_draw", "_law_shared", "_law_all_words", "_law_even_right", "_law_step_right", "_law_no_way"] : List PySem.Str)
def Xq : Shared → Bool := fun s => xlAt qv [] s && recOk (RowW.records R.toRowW) s
theorem run_join {α β : Type} {x : Option SharedT} {f : SharedT → Bool} {g : SharedT → α} {h : SharedT → β} {a : Bool} {b : α} {c : β} (h1 : x.map f = some a) (h2 : x.map g = some b) (h3 : x.map h = some c) : x.map (fun s => (f s, g s, h s)) = some (a, b, c) := by
  cases x with
  | none => cases h1
  | some s =>
    obtain rfl : f s = a := Option.some.inj h1
    obtain rfl : g s = b := Option.some.inj h2
    obtain rfl : h s = c := Option.some.inj h3
    rfl
abbrev Wb (b : Bool) (w : World) : World := w.withFollow "special-get-raises" b
/-- more than the steps of the top -/
def M9 : Nat := 60000
noncomputable abbrev endR (w : World) (os : OsState) : Option SharedT := endF (stepQ (denQ tabQ) R.prog w) M9 R.prog w os
theorem run_a0 (w : World) (os : OsState) : (endR (Wb false w) os).map (fun s => looksF R.prog (boot_heap (Wb false w).params) s.abs) = some true := by kernel_rfl
theorem run_a1 (w : World) (os : OsState) : (endR (Wb true w) os).map (fun s => looksF R.prog (boot_heap (Wb true w).params) s.abs) = some true := by kernel_rfl
theorem run_b0 (w : World) (os : OsState) : (endR (Wb false w) os).map (fun s => seenQ qv nm (importedModules R.prog.main.body) Xq s.abs) = some (openGood qv nm) := by kernel_rfl
theorem run_b1 (w : World) (os : OsState) : (endR (Wb true w) os).map (fun s => seenQ qv nm (importedModules R.prog.main.body) Xq s.abs) = some (openGood qv nm) := by kernel_rfl
theorem left_any {β : Type} {Yf : Shared → β} {Ya : World → β} {N : Nat} (yf : SharedT → β) (ey : ∀ s : SharedT, yf s = Yf s.abs)
    (e : opening R.prog = plainProg R.prog.main.scope.names) (hN : Nat.ble 600 N = true) (f : ∀ s, fenceModules? R.prog s = some s) (le : Nat.ble M9 N = true)
    (r : ∀ (b : Bool) (w : World) (os : OsState), (endR (Wb b w) os).map yf = some (Ya (Wb b w))) : LeftO R.prog qv nm Xq Yf Ya N true :=
  left_one (M := M9) e hN f le fun w os => by
    have z := byRow2 "special-get-raises" (P := fun w => ∀ os : OsState, (endR w os).map (fun s => (looksF R.prog (boot_heap w.params) s.abs, seenQ qv nm (importedModules R.prog.main.body) Xq s.abs, yf s)) = some (true, openGood qv nm, Ya w)) (fun w os => run_join (run_a0 w os) (run_b0 w os) (r false w os)) (fun w os => run_join (run_a1 w os) (run_b1 w os) (r true w os)) w os
    have eo : yf = fun s => Yf s.abs := funext ey
    rw [eo] at z
    simp only [endQ_eq, seenQ_eq]
    exact z
/-- the objects that the walk reads, their places, the makers' tables: told once, so that each run is a declaration of its own -/
def grab {K : Params → Frag} {as : List Addr} {e : ∀ P, as = (K P).map (·.1)} {H : Hook} (_ : H = kHook K as e) : (Params → Frag) × List Addr × List Addr := (K, as, [])
end HeadQ
section
local macro_rules | `(tactic| o_head $H) => `(tactic| (assumption; exact HeadQ.grab (H := $H) rfl))
set_option maxRecDepth 100000 in
set_option maxHeartbeats 0 in
noncomputable def HeadQ.kall : (PySem.Params → PySem.W.Frag) × List PySem.Addr × List PySem.Addr := by
  refine (fun (_ : HeadQ.R.Holds → HeadQ.R.Holds) (t : (PySem.Params → PySem.W.Frag) × List PySem.Addr × List PySem.Addr) => t) ?a ?t
  intro h
  k_head
end
namespace HeadQ
open PySem PySem.W PySem.Calls PyProof.Rows HeadRun
/-- the objects, off the tree, and the tables -/
def RunT (K : Params → Frag) (as ts : List Addr) (b : Bool) : Prop := ∀ (w : World) (os : OsState), (endR (Wb b w) os).map (fun s => (as.map (getT s), ts.map (getT s))) = some ((K (Wb b w).params).map fun x => some x.2, ts.map fun _ => some (tabObj #[]))
set_option maxRecDepth 100000 in
theorem run_t0 : RunT kall.1 kall.2.1 kall.2.2 false := by
  intro w os
  kernel_rfl
set_option maxRecDepth 100000 in
theorem run_t1 : RunT kall.1 kall.2.1 kall.2.2 true := by
  intro w os
  kernel_rfl
theorem fst_run {α β : Type} {x : Option SharedT} {f : SharedT → α} {g : SharedT → β} {a : α} {b : β} (h : x.map (fun s => (f s, g s)) = some (a, b)) : x.map f = some a := by
  cases x with
  | none => cases h
  | some s =>
    have h' : (f s, g s) = (a, b) := Option.some.inj h
    exact congrArg some (Prod.mk.inj h').1
theorem left_two {K : Params → Frag} {as : List Addr} {ek : ∀ P, as = (K P).map (·.1)} {N : Nat}
    (e : opening R.prog = plainProg R.prog.main.scope.names) (hN : Nat.ble 600 N = true) (f : ∀ s, fenceModules? R.prog s = some s) (le : Nat.ble M9 N = true) (r0 : RunT K as [] false) (r1 : RunT K as [] true) :
    LeftO R.prog qv nm Xq (Hook.obs (kHook K as ek)) (Hook.val (kHook K as ek)) N true :=
  left_any (fun s => as.map (getT s)) (fun s => List.map_congr_left fun a _ => getT_eq s a) e hN f le fun b w os => by cases b; exact fst_run (r0 w os); exact fst_run (r1 w os)
end HeadQ
section
local macro_rules | `(tactic| o_head $H) => `(tactic| (
  refine holds_open (r := HeadQ.R) (q := HeadQ.qv) (loose := HeadQ.nm) (Xt := HeadQ.Xq) (XP := XL HeadQ.qv []) (Yf := Hook.obs $H) (Ya := Hook.val $H) (YP := Hook.says $H) (N := 70000) ?hl (Hook.of $H) (Hook.keeps $H) (fun s e => xl_of s (Bool.and_eq_true_iff.mp e).1) XL.keeps (by rfl) (by rfl) (by rfl) (fun s e => recFacts_of (Bool.and_eq_true_iff.mp e).2) (by rfl) (by first | assumption | decide +kernel) (by decide +kernel) ⟨rfl, rfl, rfl, rfl, rfl, by decide +kernel⟩ ?hw ?hc
  case hl =>
    (refine HeadQ.left_two (by kernel_rfl) (by rfl) (fun s => by kernel_rfl) (by rfl) ?r0 ?r1
     (case r0 => exact HeadQ.run_t0)
     (case r1 => exact HeadQ.run_t1))))
set_option maxRecDepth 100000 in
set_option maxHeartbeats 0 in
/-- the law's looks and runs, told while little else is loaded: what is left is the law's walk -/
noncomputable def HeadQ.early : {T : Prop // (Unit -> T) -> PySem.Challenge.rw_nearthrees_k77_whole_all_words_of_so_man.Holds} := by
  refine' ⟨_, ?p⟩
  case p =>
    intro hT
    w_on; o_law; k_head; (case hw => w_witness2)
    exact hT ()
end
namespace HeadQ
end HeadQ

end
/-! Promises of defs that are called where nothing is being shown (repr): calls, bodies, the law's end. -/
namespace Hx
open PySem PySem.Spec PyProof.Rows L2
/-- room for k calls, and no repr is under way -/
structure RoomG (k : Nat) (A : Around) : Prop where
  rm : Room k A
  gd : A.guards = some []
section
variable {j k : Nat} {A : Around}
theorem RoomG.mono (r : RoomG k A) (h : j ≤ k) : RoomG j A := ⟨r.rm.mono h, r.gd⟩
theorem RoomG.deeper (r : RoomG (k + 1) A) (env : Env) : RoomG k (A.deeper env) := ⟨r.rm.deeper env, r.gd⟩
theorem RoomG.in1 (r : RoomG (k + 1) A) : RoomG k A.in1 := ⟨r.rm.in1, r.gd⟩
theorem RoomG.depth (r : RoomG k A) : A.depth < recursionLimit := r.rm.depth
theorem RoomG.units (r : RoomG k A) : A.units + 64 < cLine := r.rm.units
theorem RoomG.hd (r : RoomG k A) : A.handled = none := r.rm.hd
end
structure FnG (P : Program) (w : World) (K : PySem.W.Frag) (mg : Str → Option Value) (base : Heap) (CX : CXT) (k : Nat) (f : Addr) (fd : FuncData) (ps : List Str) (sp : Sp) : Prop where
  len : ∀ vs H Q E, sp vs H Q E → vs.length = ps.length
  run : ∀ (A : Around) (outer : List Env) (s : Shared) (H : Hp) (args : Args) (us : List Value) (vs : List V) (Q : VK) (E : XK), RoomG k A → Env0 P w K mg base A outer s H → BindsTo s fd args (ps.zip us) → Vals vs us → sp vs H Q E →
    codeAny (model P w) A (.call (.ref f) args) (CR CX outer P w H s Q E) s
section
variable {X : Cx} {CX : CXT} {k : Nat} {f : Addr} {fd : FuncData} {ps : List Str} {sp : Sp} {dvs : List V} {ds : List Value} {E : L2.St → XK} {x : Str} {p pos : Pos} {e : Expr} {es : List Expr} {t : TA}
theorem fnG_run {pins : List (Addr × Obj)} {σ : L2.St} {H : Hp} {s : Shared} {Q : VK} {us : List Value} {vs : List V} (F : FnG X.prog X.w X.K X.mg X.base CX k f fd ps sp) (hr : RoomG k X.A) (hb : Binds X.K fd ps ds) (hd : Vals dvs ds) (hx : PassesAt CX X σ (E σ))
    (I : Inv X pins σ H s) (r : Vals vs us) (h : sp (vs ++ dvs) H Q (E σ)) : wpAny (model X.prog X.w) X.A (call (.ref f) us) (EP X pins σ Q) X.xe s := by
  have all : Vals (vs ++ dvs) (us ++ ds) := r.append hd
  have bind := hb s us I.kIn (by rw [← all.length]; exact F.len _ _ _ _ h)
  refine wpAny_call (codeAny_mono (F.run X.A X.stack s H _ _ _ Q (E σ) hr I.env0 bind all h) fun out s' got => ?_)
  match out, got with
  | .error e, got => exact hx pins H s e s' I got
  | .ok (.ret u), got => exact I.after got
/-- f(e, ..) -/
theorem pe_callG (F : FnG X.prog X.w X.K X.mg X.base CX k f fd ps sp) (hr : RoomG k X.A) (hg : Gl X x) (hm : X.mg x = some (.ref f)) (hk : PySem.W.keepIn X.K (.ref f) = true) (hb : Binds X.K fd ps ds) (hd : Vals dvs ds) (hx : ∀ σ, PassesAt CX X σ (E σ))
    (ha : PA X (e :: es) t) (hdb : (x == ("__debug__" : Str)) = false := by decide) (he : starEach (e :: es) X.env = (false, eval e X.env) :: starEach es X.env := by rfl) (hpl : (backTo pos (starEach es X.env)).any (·.1) = false := by rfl) :
    PE X (.Call (.Name x p) (e :: es) [] pos) (tCallSD sp dvs E t) :=
  ⟨fun pins s σ H Q I h => wpAny_Call_Name_kw (ld_glob I hg hm (PySem.W.callWith_K (h₀ := X.base) I.ok.mod.kin hk (thn (ha.run pos pins s σ H _ I h) fun us s1 ⟨vs, H1, I1, r, q⟩ => ⟨I1.kIn, fnG_run F hr hb hd (hx σ) I1 r q⟩) he hpl) hdb)⟩
end
/-- a def by its body -/
theorem fnG_of {CX : CXT} {P : Program} {w : World} {K : PySem.W.Frag} {mg : Str → Option Value} {base : Heap} {k : Nat} {f : Addr} {x qual : Str} {st : Stmt} {fd : FuncData} {N ps : List Str} {sp : Sp} (F : L2.Fun K x qual st f fd) (S : FnScope N ps (defScope st)) (len : ∀ vs H Q E, sp vs H Q E → vs.length = ps.length)
    (body : ∀ (cdv : Value), cdv = fd.code → ∀ (A : Around) (outer : List Env) (s : Shared) (H : Hp) (vs : List V) (Q : VK) (E : XK), RoomG k (A.deeper (envOfC qual (defScope st) s.heap.objs.size f cdv)) → sp vs H Q E →
      ∃ t, PSs (cxOf CX P w K mg base N qual (defScope st) f cdv A outer s H E) (defBody st) t ∧ t { nx := fun _ H' => Q .non H', rt := Q } (L2.start N vs) H) : FnG P w K mg base CX (k + 1) f fd ps sp := by
  refine ⟨len, fun A outer s H args us vs Q E room e0 bind r q => ?_⟩
  obtain ⟨oc, od, kV, doc, pm, an, cdv, ct, osl, rfl, lk, code⟩ := F.ex
  have KX : K.In s.heap := e0.mod.kin.keeps fun b o e => (e0.bs b o e).1
  have lim : s.heap.NoLimit := e0.mod.nolimit.keeps fun b o e => (e0.bs b o e).1
  have known : ∀ y ∈ ps.zip us, (defScope st).names.lookup y.1 = some .local ∨ ((defScope st).names.lookup y.1 = some .cell ∧ ((cellsFrom (s.heap.objs.size + 1) (defScope st).names []).lookup y.1).isSome = true) := fun y hy =>
    (S.par y.1 (List.of_mem_zip (a := y.1) (b := y.2) hy).1).imp id fun z => ⟨z, PySem.W.cellsFrom_some _ _ _ (.inl z)⟩
  refine codeAny_call_function room.depth (KX _ _ lk) rfl S.co S.gen rfl (PySem.W.codeRec_of KX code) (bind _ _ _ _ (wpAny_newFunctionEnv_cells S.kind known fun env he s1 y => ?_))
  subst he
  obtain ⟨t, ht, hq⟩ := body cdv rfl A outer s H vs Q E (room.deeper _) q
  have I : Inv (cxOf CX P w K mg base N qual (defScope st) f cdv A outer s H E) [] (L2.start N vs) H s1 := inv_start S room.hd e0 (len _ _ _ _ q) r y
  refine ⟨lim.keeps y.toInCall.keep, codeAny_func (wpAny_mono (ht.run [] s1 _ H _ I hq) (fun fl s' z => ?_) fun e s' z => z)⟩
  match fl, z with
  | .ret u, ⟨v, σ', H', J, rv, z⟩ => exact ⟨v, H', J.os, J.bare, J.base, J.hok, rv, z⟩
  | .next, ⟨σ', H', J, z⟩ => exact ⟨.non, H', J.os, J.bare, J.base, J.hok, rfl, z⟩
  | .brk, ⟨_, _, _, z⟩ => exact z.elim
  | .cont, ⟨_, _, _, z⟩ => exact z.elim
/-! ### the law -/
section
variable {P : Program} {w : World} {K : PySem.W.Frag} {mg mb : Str → Option Value} {CX : CXT} {k : Nat} {fa a : Addr} {cs : List (Addr × Addr)} {fd : FuncData} {x : Str} {sp : Sp} {s : Shared} {vs : List Value} {ns : List Int}
abbrev tblO : Obj := { cls := .none, data := .fields #[] }
abbrev scrO (vs : List Value) : Obj := { cls := .type "list", data := .seq vs.toArray }
/-- the heap at the law's start: its tables, and the script where the written part has it not -/
def lawH (K : PySem.W.Frag) (cs : List (Addr × Addr)) (a : Addr) (vs : List Value) (ns : List Int) : Hp := fun b => if b ∈ cs.map (·.2) then some (.tbl #[]) else if b = a ∧ K.lookup a = none then some (.frz (scrO vs) (.lst (ns.map V.int))) else none
theorem lawH_tab {b : Addr} (h : b ∈ cs.map (·.2)) : lawH K cs a vs ns b = some (.tbl #[]) := if_pos h
theorem lawH_cases (b : Addr) : (b ∈ cs.map (·.2) ∧ lawH K cs a vs ns b = some (.tbl #[])) ∨ (b ∉ cs.map (·.2) ∧ (b = a ∧ K.lookup a = none) ∧ lawH K cs a vs ns b = some (.frz (scrO vs) (.lst (ns.map V.int)))) ∨ (b ∉ cs.map (·.2) ∧ ¬ (b = a ∧ K.lookup a = none) ∧ lawH K cs a vs ns b = none) := by
  unfold lawH
  by_cases h : b ∈ cs.map (·.2)
  · exact .inl ⟨h, if_pos h⟩
  · by_cases g : b = a ∧ K.lookup a = none
    · exact .inr (.inl ⟨h, g, (if_neg h).trans (if_pos g)⟩)
    · exact .inr (.inr ⟨h, g, (if_neg h).trans (if_neg g)⟩)
theorem lawG_call (KX : K.In s.heap) (hm : s.heap.Ns mainGlobals mg) (hb : s.heap.Ns builtinsNs mb) (hbo : ∀ x : Str, x ≠ "__name__" → mb x = bootBuiltins x) (hn : s.heap.NoLimit) (hgen : s.gens = #[])
    (hT : ∀ p ∈ cs, s.heap.get? p.2 = some tblO) (nT : ∀ p ∈ cs, K.lookup p.2 = none) (hC : ∀ p ∈ cs, PySem.W.CodeHd s.heap p.1 p.2)
    (hbm : ∃ (bm : Addr) (ob : Obj), mg "__builtins__" = some (.ref bm) ∧ bm ≠ builtinsNs ∧ s.heap.get? bm = some ob ∧ ob.cls = .type "module" ∧ ob.dict = some builtinsNs ∧ ob.data = .plain)
    (ha : s.heap.get? a = some (scrO vs)) (hi : IntsAre vs ns) (hl : ns.length ≤ sizeLine) (hr : RoomG k callerA)
    (F : ∀ base : Heap, K.In base → base.Ns mainGlobals mg → (∀ p ∈ cs, LamX.TabB base mg p.1 p.2) → FnG P w K mg base CX k fa fd [x] sp) (bind : ∀ (s : Shared) (u : Value), BindsTo s fd ⟨[u], []⟩ [(x, u)])
    (hsp : ∀ H : Hp, (∀ p ∈ cs, H p.2 = some (.tbl #[])) → SqL K H a (ns.map V.int) → sp [.ref a] H (fun v _ => v = .bl true) fun _ _ _ => False)
    (hCX : ∀ H e s', CX [] H s (fun _ _ _ => False) e s' → False) :
    codeAny (model P w) callerA (.call (.ref fa) ⟨[.ref a], []⟩) (fun r s' => r = .ok (.ret (.bool true)) ∧ OldK s.heap s'.heap ∧ s'.os = s.os ∧ AllBare s'.gens) s := by
  have tabAt : ∀ b, b ∈ cs.map (·.2) → s.heap.get? b = some tblO := fun b h => by
    obtain ⟨p, hp, e⟩ := List.mem_map.mp h
    exact e ▸ hT p hp
  have tabK : ∀ b, b ∈ cs.map (·.2) → K.lookup b = none := fun b h => by
    obtain ⟨p, hp, e⟩ := List.mem_map.mp h
    exact e ▸ nT p hp
  have inT : ∀ p ∈ cs, p.2 ∈ cs.map (·.2) := fun p hp => List.mem_map.mpr ⟨p, hp, rfl⟩
  have aT : a ∉ cs.map (·.2) := fun h => by
    have z := ha.symm.trans (tabAt a h)
    cases z
  -- what is neither a list nor an empty record isn't tracked
  have out : ∀ {b : Addr} {o : Obj}, s.heap.get? b = some o → (∀ us n, o.data ≠ .seq us n) → o.data ≠ .fields #[] → lawH K cs a vs ns b = none := fun {b o} e h1 h2 => by
    rcases lawH_cases (K := K) (cs := cs) (a := a) (vs := vs) (ns := ns) b with ⟨z, _⟩ | ⟨_, z, _⟩ | ⟨_, _, z⟩
    · rw [tabAt b z] at e
      cases e
      exact absurd rfl h2
    · rw [z.1, ha] at e
      cases e
      exact absurd rfl (h1 _ _)
    · exact z
  have seen : ∀ {b : Addr} {o : Obj}, s.heap.get? b = some o → (∀ us n, o.data ≠ .seq us n) → o.data ≠ .fields #[] → (hidT s.heap (lawH K cs a vs ns)).get? b = some o := fun e h1 h2 => hidT_get e (out e h1 h2)
  have space : ∀ {b : Addr} {m : Str → Option Value}, s.heap.Ns b m → (hidT s.heap (lawH K cs a vs ns)).Ns b m := fun ⟨o, es, ep, e, d, r⟩ => ⟨o, es, ep, seen e (fun us n z => by rw [d] at z; cases z) (fun z => by rw [d] at z; cases z), d, r⟩
  have KB : K.In (hidT s.heap (lawH K cs a vs ns)) := fun b o e => hidT_get (KX b o e) (by
    rcases lawH_cases (K := K) (cs := cs) (a := a) (vs := vs) (ns := ns) b with ⟨z, _⟩ | ⟨_, z, _⟩ | ⟨_, _, z⟩
    · rw [tabK b z] at e
      cases e
    · rw [z.1, z.2] at e
      cases e
    · exact z)
  have hmod : L2.Mod K mg (hidT s.heap (lawH K cs a vs ns)) := ⟨KB, space hm, ⟨mb, space hb, hbo⟩, hn.imp fun _ h => ⟨space h.1, h.2⟩⟩
  have TB : ∀ p ∈ cs, LamX.TabB (hidT s.heap (lawH K cs a vs ns)) mg p.1 p.2 := fun p hp => by
    have tp := hT p hp
    refine ⟨?_, ?_, fun z => ?_⟩
    · obtain ⟨o, us, c1, c2, c3, c4, c5, c6, c7, e1, r1, r2, r3, rest⟩ := hC p hp
      refine ⟨o, us, c1, c2, c3, c4, c5, c6, c7, seen e1 (fun vs n z => by rw [r2] at z; cases z) (fun z => ?_), r1, r2, r3, rest⟩
      rw [r2] at z
      cases z
      simp at r3
    · obtain ⟨bm, ob, b1, b2, b3, b4, b5, b6⟩ := hbm
      have n1 : bm ≠ mainGlobals := fun q => by
        obtain ⟨o, es, ep, e, d, _⟩ := hm
        rw [← q, b3] at e
        cases e
        rw [b6] at d
        cases d
      have n2 : bm ≠ p.2 := fun q => by
        rw [q, tp] at b3
        cases b3
        cases b6
      exact ⟨bm, ob, b1, b2, n1, n2, seen b3 (fun vs n z => by rw [b6] at z; cases z) (fun z => by rw [b6] at z; cases z), b4, b5, b6⟩
    · obtain ⟨o, es, ep, e, d, _⟩ := hm
      rw [z, tp] at e
      cases e
      cases d
  have hok : HOk P w (lawH K cs a vs ns) s.heap := fun b u e => by
    rcases lawH_cases (K := K) (cs := cs) (a := a) (vs := vs) (ns := ns) b with ⟨z, q⟩ | ⟨_, z, q⟩ | ⟨_, _, q⟩
    · cases q.symm.trans e
      exact tabAt b z
    · cases q.symm.trans e
      rw [z.1]
      exact ⟨ha, by rw [List.length_map]; exact hl, vs, _, vals_ints hi, ha⟩
    · cases q.symm.trans e
  have e0 : Env0 P w K mg (hidT s.heap (lawH K cs a vs ns)) callerA [] s (lawH K cs a vs ns) := ⟨rfl, hmod, fun b o e => of_hidT e, Nat.le_of_eq (hidT_size _ _), trivial, fun b z => (nomatch (show b ∈ ([] : List Addr) from z)), hok, .of_eq hgen⟩
  have list : SqL K (lawH K cs a vs ns) a (ns.map V.int) := by
    cases q : K.lookup a with
    | some o =>
      cases ha.symm.trans (KX a o q)
      exact .inr ⟨_, vs.toArray, _, q, rfl, rfl, rfl, by rw [List.size_toArray, hi.length]; exact hl, by simpa using vals_ints hi⟩
    | none => exact .inl (.inr ⟨scrO vs, (if_neg aT).trans (if_pos ⟨rfl, q⟩)⟩)
  refine codeAny_mono ((F _ KB (space hm) TB).run callerA [] s (lawH K cs a vs ns) ⟨[.ref a], []⟩ [.ref a] [.ref a] _ _ hr e0 (bind s (.ref a)) (.cons rfl .nil) (hsp _ (fun p hp => lawH_tab (inT p hp)) list)) fun r s' got => ?_
  match r, got with
  | .error e, got => exact (hCX _ e s' got).elim
  | .ok (.ret u), ⟨v, H', os, bare, un, hok', rv, q⟩ =>
    have q' : v = .bl true := q
    subst q'
    obtain rfl : u = Value.bool true := rv
    have kept : ∀ b o, b ∉ cs.map (·.2) → s.heap.get? b = some o → s'.heap.get? b = some o := fun b o nb e => by
      rcases lawH_cases (K := K) (cs := cs) (a := a) (vs := vs) (ns := ns) b with ⟨z, _⟩ | ⟨_, z, q⟩ | ⟨_, _, q⟩
      · exact absurd z nb
      · have h1 := (hok b _ q).1
        rw [e] at h1
        cases h1
        exact (hok' b _ (un.frzs b _ _ q)).1
      · exact un.keep b o e q (fun z => (nomatch (show b ∈ ([] : List Addr) from z))) (fun z => (nomatch z))
    have grown : ∀ p ∈ cs, ∃ more : Array Value, s'.heap.get? p.2 = some { cls := .none, data := .fields more } := fun p hp => by
      obtain ⟨more, z⟩ := un.tbls p.2 #[] (lawH_tab (inT p hp))
      exact ⟨_, hok' p.2 _ z⟩
    refine ⟨rfl, ⟨fun b o e => ?_, fun b o e => ?_⟩, os, bare⟩
    · by_cases hb : b ∈ cs.map (·.2)
      · obtain ⟨p, hp, rfl⟩ := List.mem_map.mp hb
        obtain ⟨more, hmo⟩ := grown p hp
        cases (hT p hp).symm.trans e
        exact .inr (.inl ⟨((hC p hp).tab (hT p hp)).isCodeTable, rfl, #[], more, rfl, by rw [Array.empty_append]; exact hmo⟩)
      · exact .inl (kept b o hb e)
    · by_cases hb : b ∈ cs.map (·.2)
      · obtain ⟨p, hp, rfl⟩ := List.mem_map.mp hb
        obtain ⟨more, hmo⟩ := grown p hp
        exact ⟨_, hmo⟩
      · exact ⟨o, kept b o hb e⟩
end
/-- what is known of the law at the head's heap -/
def LawG (l : PySem.W.OpenLaw) (w : World) (K : PySem.W.Frag) (CX : CXT) (k n : Nat) (x : Str) (mg : Str → Option Value) (fa : Addr) (h : Heap) : Prop :=
  ∃ (fd : FuncData) (cs : List (Addr × Addr)) (sp : Sp), (∀ p ∈ cs, h.get? p.2 = some tblO) ∧ (∀ p ∈ cs, K.lookup p.2 = none) ∧ (∀ p ∈ cs, PySem.W.CodeHd h p.1 p.2) ∧ (∀ (s : Shared) (u : Value), BindsTo s fd ⟨[u], []⟩ [(x, u)]) ∧
    (∀ (H : Hp) (a : Addr) (ns : List Int), ns.length ≤ n → (∀ z ∈ ns, Builtin.Int.intBits z ≤ 1048576) → (∀ p ∈ cs, H p.2 = some (.tbl #[])) → SqL K H a (ns.map V.int) → sp [.ref a] H (fun v _ => v = .bl true) fun _ _ _ => False) ∧
    ∀ base : Heap, K.In base → base.Ns mainGlobals mg → (∀ p ∈ cs, LamX.TabB base mg p.1 p.2) → FnG l.prog w K mg base CX k fa fd [x] sp
theorem lawG_end {l : PySem.W.OpenLaw} {n k : Nat} {q : Program} {loose : List Str} {XP : (Str → Option Value) → Heap → Prop} {YP : World → Heap → Prop} {d : DefRec} {K : Params → PySem.W.Frag} {CX : World → CXT} {x : Str}
    (hn : l.most = some n) (hn2 : n ≤ sizeLine) (hdf : d.params.defaults = []) (hr : RoomG k callerA) (hY : ∀ (w : World) (h : Heap), YP w h → (K w.params).In h)
    (F : ∀ (w : World) (mg : Str → Option Value) (fa : Addr) (h : Heap), YP w h → (K w.params).In h → h.Ns mainGlobals mg → mg d.name = some (.ref fa) → LawG l w (K w.params) (CX w) k n x mg fa h)
    (hCX : ∀ (w : World) (H : Hp) (s : Shared) (e : Value) (s' : Shared), CX w [] H s (fun _ _ _ => False) e s' → False) :
    PySem.W.WalkO q loose XP YP l.row.toRowW d [] (fun f vs => PySem.call f vs) :=
  Att.attach_callB hn hdf fun w s₀ s₁ mg mb fa o pm cd doc a vs ns G Y ho hd hcd hmg hobj hints hlen hbits hg =>
    let KX := hY w _ Y
    let ⟨_, _, _, hT, nT, hC, hb, hsp, hF⟩ := F w mg fa _ Y KX G.T.g hmg
    lawG_call KX G.T.g G.T.b G.T.builtins G.T.nolimit hg hT nT hC G.T.bmain hobj hints (Nat.le_trans hlen hn2) hr hF hb (fun H hH hS => hsp H a ns hlen hbits hH hS) fun H e s' => hCX w H s₁ e s'
end Hx

/-! loops and stores while an exception is handled -/
namespace Hx
open PySem PySem.Spec PyProof.Rows L2 HotX
section
variable {prog : Program} {w : World} {A : Around} {E : Value → Shared → Prop} {s : Shared}
end
section
variable {X : Cx} {pos : Pos}
end
end Hx

/-! a comprehension while an exception is handled -/
namespace Hx
open PySem PySem.Spec PyProof.Rows L2 HotX
section
variable {X : Cx} {pins : List (Addr × Obj)} {σ : L2.St} {H : Hp} {s : Shared}
end
end Hx

/-! calls within an except suite; several clauses that name the exception; a lambda handed to a def -/
namespace Hx
open PySem PySem.Spec PyProof.Rows L2 HotX
/-! ### a def called within an except suite -/
section
variable {X : Cx}
end
end Hx

/-! try: several clauses, each of one class or of a tuple of classes, with a name or without -/
namespace Hx
open PySem PySem.Spec PyProof.Rows L2 HotX
/-! ### the tests -/
section
variable {M : Model} {K : PySem.W.Frag}
open PySem.W
theorem exm_each {cls : Value} : ∀ (cs : List Value) (b : Bool), exmAny K cls cs = some b → ∀ c ∈ cs, ∃ v, exmOne K cls c = some v
  | c :: r, b, h, d, hd => by
    obtain ⟨b1, d1, h1, h2, _⟩ := exmAny_cons h
    rcases List.mem_cons.mp hd with e | hd
    · exact ⟨b1, e ▸ h1⟩
    · exact exm_each r d1 h2 d hd
/-- a written tuple of classes, of any length -/
theorem exm_tuple {cs : List Value} {cls : Value} {tp e : Addr} {b : Bool} {h : Heap} (X : K.In h) (LT : Looks M h (typeOf (.ref e)) cls) (hp : h.get? tp = some { cls := .type "tuple", data := .seq cs.toArray }) (hx : exmAny K cls cs = some b) :
    Looks M h (excMatches (.ref e) (.ref tp)) b := by
  intro A Q E s k q
  have isT : Looks M s.heap (isInstance (.ref tp) (.type "tuple")) true := (((Looks.ld hp).andThen .now).andThen (Looks.of_pure isSubtype_tuple_tuple)).keeps k
  have LTs := LT.keeps k
  have one : ∀ c ∈ cs, ∀ v, exmOne K cls c = some v → Looks M s.heap (isExcClass c) true ∧ Looks M s.heap (isSubtype cls c) v := fun c _ v hv =>
    let ⟨h1, h2⟩ := exm_cls (M := M) X hv
    ⟨h1.keeps k, h2.keeps k⟩
  -- first all are seen to be classes of exceptions, then each is asked
  have pass1 : ∀ (l : List Value), (∀ c ∈ l, c ∈ cs) → ∀ {f : Value → PUnit → Sem (ForInStep PUnit)} {Q' : PUnit → Shared → Prop}, (∀ c ∈ cs, ∀ {R : ForInStep PUnit → Shared → Prop}, R (.yield ⟨⟩) s → wpAny M A (f c ⟨⟩) R E s) → Q' ⟨⟩ s → wpAny M A (forIn l PUnit.unit f) Q' E s := by
    intro l
    induction l with
    | nil => intro _ f Q' _ z; rw [List.forIn_nil]; exact wpAny_pure z
    | cons c r ih =>
      intro hm f Q' hf z
      rw [List.forIn_cons]
      exact wpAny_bind (hf c (hm c (.head _)) (ih (fun d hd => hm d (.tail _ hd)) hf z))
  have pass2 : ∀ (l : List Value) (v : Bool), (∀ c ∈ l, c ∈ cs) → exmAny K cls l = some v → ∀ {f : Value → (Option Bool × Unit) → Sem (ForInStep (Option Bool × Unit))} {Q' : (Option Bool × Unit) → Shared → Prop},
      (∀ c ∈ cs, ∀ u, exmOne K cls c = some u → ∀ {R : ForInStep (Option Bool × Unit) → Shared → Prop}, R (if u = true then .done (some true, ()) else .yield (none, ())) s → wpAny M A (f c (none, ())) R E s) →
      Q' (if v = true then (some true, ()) else (none, ())) s → wpAny M A (forIn l ((none : Option Bool), ()) f) Q' E s := by
    intro l
    induction l with
    | nil =>
      intro v _ hv f Q' _ z
      cases (show some false = some v from hv)
      rw [List.forIn_nil]
      exact wpAny_pure z
    | cons c r ih =>
      intro v hm hv f Q' hf z
      obtain ⟨u, d, h1, h2, rfl⟩ := exmAny_cons hv
      rw [List.forIn_cons]
      refine wpAny_bind (hf c (hm c (.head _)) u h1 ?_)
      cases u with
      | true => exact wpAny_pure z
      | false => exact ih d (fun d hd => hm d (.tail _ hd)) h2 hf z
  unfold excMatches
  refine wpAny_bind (isT.at ?_)
  dsimp only
  rw [if_pos rfl]
  have hp' := k _ _ hp
  first
    | refine wpAny_bind (wpAny_seqItems hp' rfl ?_)
    | refine wpAny_bind (wpAny_bind (wpAny_seqItems hp' rfl (wpAny_pure ?_)))
  dsimp only [Option.getD_some, Option.getD]
  refine wpAny_bind (wpAny_pure (wpAny_bind (pass1 cs (fun _ h => h) (fun c hc R z => ?_) ?_)))
  · obtain ⟨v, hv⟩ := exm_each cs b hx c hc
    refine wpAny_bind ((one c hc v hv).1.at ?_)
    rw [if_neg (by decide)]
    exact wpAny_pure z
  · refine wpAny_bind (LTs.at (wpAny_bind (pass2 cs b (fun _ h => h) hx (fun c hc u hu R z => ?_) ?_)))
    · refine wpAny_bind ((one c hc u hu).2.at ?_)
      cases u <;> exact wpAny_pure z
    · cases b <;> exact wpAny_pure q
end
/-- a clause's written classes -/
inductive Nms (X : Cx) : List Expr → List Value → Prop
  | nil : Nms X [] []
  | cons {x : Str} {p : Pos} {c : Value} {es : List Expr} {cs : List Value} (h : Names X x c) (r : Nms X es cs) : Nms X (.Name x p :: es) (c :: cs)
inductive Tst (X : Cx) : Expr → List Value → Prop
  | one {x : Str} {p : Pos} {c : Value} (h : Names X x c) : Tst X (.Name x p) [c]
  | many {es : List Expr} {cs : List Value} {k : Nat} {p : Pos} (h : Nms X es cs) (hz : cs.length ≤ 1000) : Tst X (.Tuple es k p) cs
section
variable {X : Cx} {a : Addr} {pn pins : List (Addr × Obj)} {σ : L2.St} {H : Hp} {s : Shared}
theorem name_in {x : Str} {p : Pos} {c : Value} {Q : Value → Shared → Prop} {E : Value → Shared → Prop} (S : Inv (X.suite a pn) pins σ H s) (h : Names X x c) (q : Q c s) : wpAny (model X.prog X.w) (X.A.mark (some (.ref a))) (eval (.Name x p) X.env) Q E s := by
  obtain ⟨hg, hd, hm | ⟨hm, hv, hn⟩⟩ := h
  · exact ld_glob (X := X.suite a pn) S hg hm q hd
  · exact ld_blt (X := X.suite a pn) S hg hm hv q hn hd
theorem names_in {E : Value → Shared → Prop} {pos : Pos} (S : Inv (X.suite a pn) pins σ H s) {es : List Expr} {cs : List Value} (h : Nms X es cs) : ∀ {Q : List Value → Shared → Prop}, Q cs s → wpAny (model X.prog X.w) (X.A.mark (some (.ref a))) (spliced (backTo pos (starEach es X.env))) Q E s := by
  induction h with
  | nil => intro Q q; exact Calls.spliced_nil q
  | cons hc _ ih => intro Q q; exact Calls.spliced_cons (name_in S hc (ih q))
/-- a clause's test: it changes nothing that was there -/
theorem tst_in {e : Expr} {cs : List Value} {cls : Value} {b : Bool} {oe : Obj} {Q : Bool → Shared → Prop} {E E2 : Value → Shared → Prop} (t : Tst X e cs) (S : Inv (X.suite a pn) pins σ H s) (get : s.heap.get? a = some oe) (hcls : oe.cls = cls) (hx : PySem.W.exmAny X.K cls cs = some b)
    (q : ∀ h' : Heap, (∀ c o, s.heap.get? c = some o → h'.get? c = some o) → Q b { s with heap := h' }) :
    wpAny (model X.prog X.w) (X.A.mark (some (.ref a))) (eval e X.env) (fun c s1 => wpAny (model X.prog X.w) (X.A.mark (some (.ref a))) (excMatches (.ref a) c) Q E2 s1) E s := by
  have look : ∀ (h : Heap), h.get? a = some oe → PySem.W.Looks (model X.prog X.w) h (typeOf (.ref a)) cls := fun h g A' Q' E' s' k z => wpAny_typeOf_ref (k _ _ g) (by rw [hcls]; exact z)
  cases t with
  | one hc =>
    obtain ⟨b1, d1, h1, h2, rfl⟩ := PySem.W.exmAny_cons hx
    cases (show some false = some d1 from h2)
    refine name_in S hc ((PySem.W.exm_one (M := model X.prog X.w) S.kIn (look _ get) h1).here ?_)
    have z := q s.heap fun _ _ z => z
    rw [Bool.or_false] at z
    exact z
  | many hc hz =>
    refine wpAny_Tuple_spliced (names_in S hc ⟨Nat.le_trans hz (by rw [sizeLine_eq]; decide), ?_⟩)
    have k : ∀ c o, s.heap.get? c = some o → (s.heap.push { cls := .type "tuple", data := .seq cs.toArray }).get? c = some o := fun c o z => Heap.get?_push_of_some _ z
    exact (exm_tuple (M := model X.prog X.w) (S.kIn.keeps k) (look _ (k _ _ get)) (Heap.get?_push_size _ rfl) hx).here (q _ k)
end
/-! ### the clauses -/
/-- behind a suite the name is gone -/
def goneN (n : Option (Str × Nat)) (D : Ends) : Ends := match n with
  | none => D
  | some (_, i) => { nx := fun σ H => D.nx (σ.set i none) H, rt := D.rt, bk := fun σ H => D.bk (σ.set i none) H, ct := fun σ H => D.ct (σ.set i none) H }
def bindN (n : Option (Str × Nat)) (a : Addr) (σ : L2.St) : L2.St := match n with
  | none => σ
  | some (_, i) => σ.set i (some (.ref a))
structure Cl where
  cs : List Value
  n : Option (Str × Nat)
  ts : Addr → Value → Option Addr → TS
/-- what the clauses wish of an exception, one after the other -/
def wCls (K : PySem.W.Frag) (Wout : WX) (D : Ends) : List Cl → WX
  | [] => Wout
  | c :: r => fun cls d σ H => ∃ b, PySem.W.exmAny K cls c.cs = some b ∧ (b = true → ∀ a, H a = none → c.ts a cls d (goneN c.n D) (bindN c.n a σ) H) ∧ (b = false → wCls K Wout D r cls d σ H)
def NmOk (X : Cx) : Option (Str × Nat) → Prop
  | none => True
  | some (n, i) => X.N.Nodup ∧ X.N[i]? = some n ∧ X.env.kindOf n = some .local
inductive Hds (X : Cx) : List ExceptHandler → List Cl → Prop
  | nil : Hds X [] []
  | cons {c : Cl} {e : Expr} {b₀ : Stmt} {suite : List Stmt} {pos : Pos} {hds : List ExceptHandler} {l : List Cl} (hn : NmOk X c.n) (ht : Tst X e c.cs)
      (hsu : ∀ (a : Addr) (oe : Obj) (cls : Value) (d : Option Addr) (pn : List (Addr × Obj)), L2N.Zn cls d oe → (∃ vs, oe.data = .fields vs) → PSs (X.suite a ((a, oe) :: pn)) (b₀ :: suite) (c.ts a cls d)) (r : Hds X hds l) :
      Hds X (.ExceptHandler (some e) (c.n.map (·.1)) (b₀ :: suite) pos :: hds) (c :: l)
section
variable {X : Cx} {Wout : WX} {a : Addr} {B : Heap} {pins : List (Addr × Obj)} {σ : L2.St} {H : Hp} {cls : Value} {d : Option Addr} {D : Ends} {sI s' : Shared}
/-- what stands of a caught exception -/
structure Cgt (X : Cx) (a : Addr) (B : Heap) (pins : List (Addr × Obj)) (σ : L2.St) (H : Hp) (cls : Value) (d : Option Addr) (sI s : Shared) : Prop where
  inv : Inv X pins σ H sI
  nb : ∀ b o, sI.heap.get? b = some o → b ∉ frs X.stack → B.get? b = some o
  up : sI.heap.UpToSlots s.heap
  fl : HandSPX.FlyingZ B X.stack a (L2N.Zn cls d) s.heap
  na : H a = none
  os : s.os = sI.os
  ag : AllBare s.gens
theorem Cgt.step {h' : Heap} (c : Cgt X a B pins σ H cls d sI s') (fl : HandSPX.FlyingZ B X.stack a (L2N.Zn cls d) h') (up : s'.heap.UpToSlots h') : Cgt X a B pins σ H cls d sI { s' with heap := h' } := ⟨c.inv, c.nb, c.up.trans up, fl, c.na, c.os, c.ag⟩
theorem Cgt.here (c : Cgt X a B pins σ H cls d sI s') : Inv X pins σ H s' := c.inv.landed c.nb c.fl.1 c.up c.os c.ag
theorem Cgt.obj (c : Cgt X a B pins σ H cls d sI s') (hs : X.stack = X.env :: X.outer) (hf : X.env.frame = some X.env.locals) : ∃ oe vs, s'.heap.get? a = some oe ∧ L2N.Zn cls d oe ∧ oe.data = .fields vs ∧ Inv (X.suite a ((a, oe) :: (X.pn ++ pins))) [] σ H s' := by
  obtain ⟨oe, vs, he, hz, hd⟩ := c.fl.there
  have nfr : a ∉ frs X.stack := fun hm => by
    obtain ⟨_, o, e, hnf⟩ := c.fl.2.2.1.mem hm
    rw [he] at e
    cases e
    exact hnf _ hd
  rw [hs] at nfr
  refine ⟨oe, vs, he, hz, hd, c.here.suite he hd c.na (fun z => nfr ?_) fun hm => nfr ?_⟩
  · exact List.mem_filterMap.mpr ⟨X.env, .head _, by rw [hf, z]⟩
  · obtain ⟨e, he, q⟩ := List.mem_filterMap.mp hm
    exact List.mem_filterMap.mpr ⟨e, .tail _ he, q⟩
theorem flying_new {fs : List Env} {Z : Obj → Prop} {h h' : Heap} (k : ∀ c o, h.get? c = some o → h'.get? c = some o) (fl : HandSPX.FlyingZ B fs a Z h) : HandSPX.FlyingZ B fs a Z h' := by
  obtain ⟨f1, f2, f3, oe, vs, T, oT, ts, g1, hz, hd, h1, hn, ne, g2, hT, h3⟩ := fl
  exact ⟨fun c o e => k c o (f1 c o e), f2, f3.of_keeps fun c o e _ => ⟨o, k c o e, rfl⟩, oe, vs, T, oT, ts, k _ _ g1, hz, hd, h1, hn, ne, k _ _ g2, hT, h3⟩
/-- the suite's end: the name goes, the def's own context is back -/
theorem suite_end {f : Flow} {oe : Obj} {n : Option (Str × Nat)} {pos : Pos} {s6 : Shared} (ok : X.Ok) (hn : NmOk X n) (q : SP (X.suite a ((a, oe) :: (X.pn ++ pins))) [] (goneN n D) f s6) :
    (match n.map (·.1) with
      | none => SP X pins D f s6
      | some m => wpAny (model X.prog X.w) X.A (do bindName X.env m .none; unbindBehindTheSuite X.env m pos) (fun _ s7 => SP X pins D f s7) X.xe s6) := by
  match n, hn, q with
  | none, _, q =>
    match f, q with
    | .next, ⟨σ6, H6, S6, q6⟩ => exact ⟨_, _, S6.unsuite ok, q6⟩
    | .brk, ⟨σ6, H6, S6, q6⟩ => exact ⟨_, _, S6.unsuite ok, q6⟩
    | .cont, ⟨σ6, H6, S6, q6⟩ => exact ⟨_, _, S6.unsuite ok, q6⟩
    | .ret u, ⟨v, σ6, H6, S6, r6, q6⟩ => exact ⟨_, _, _, S6.unsuite ok, r6, q6⟩
  | some (m, i), ⟨hN, hi, hl⟩, q =>
    match f, q with
    | .next, ⟨σ6, H6, S6, q6⟩ => exact gone_ok (S6.unsuite ok) hN hi hl fun s7 J => ⟨_, _, J, q6⟩
    | .brk, ⟨σ6, H6, S6, q6⟩ => exact gone_ok (S6.unsuite ok) hN hi hl fun s7 J => ⟨_, _, J, q6⟩
    | .cont, ⟨σ6, H6, S6, q6⟩ => exact gone_ok (S6.unsuite ok) hN hi hl fun s7 J => ⟨_, _, J, q6⟩
    | .ret u, ⟨v, σ6, H6, S6, r6, q6⟩ => exact gone_ok (S6.unsuite ok) hN hi hl fun s7 J => ⟨_, _, _, J, r6, q6⟩
theorem handle_ok (hs : X.stack = X.env :: X.outer) (hf : X.env.frame = some X.env.locals) (tk : L2N.Takes X Wout) {hds : List ExceptHandler} {l : List Cl} (hh : Hds X hds l) :
    ∀ s' : Shared, Cgt X a B pins σ H cls d sI s' → wCls X.K Wout D l cls d σ H → wpAny (model X.prog X.w) X.A (handleBy (.ref a) X.env hds) (SP X pins D) X.xe s' := by
  induction hh with
  | nil =>
    intro s' c w
    obtain ⟨_, _, _, oe, vs, T, oT, ts', he, hz, hd, h1, hr⟩ := id c.fl
    refine wpAny_handleBy_nil ?_
    unfold PySem.passOn
    refine wpAny_bind (wpAny_field he hd h1 ?_)
    rw [if_neg (show ¬ ((Value.ref T == Value.none) = true) from by simp)]
    have fin : wpAny (model X.prog X.w) X.A (setFlight (.ref a) X.env.frame) (fun _ s4 => wpAny (model X.prog X.w) X.A (throw (.ref a) : Sem Flow) (SP X pins D) X.xe s4) X.xe s' := by
      rw [hf]
      exact HandSPX.setFlight_upZ (s := s') c.fl fun h4 hh4 up4 => wpAny_throw (tk _ _ ⟨a, B, sI, pins, σ, H, cls, d, rfl, c.inv, c.nb, c.up.trans up4, .inr (.inr hh4), c.na, c.os, c.ag, w⟩)
    first
      | exact wpAny_bind (wpAny_pure (wpAny_bind fin))
      | exact wpAny_bind fin
  | @cons cl e b₀ suite pos hds l hn ht hsu r ih =>
    intro s' c ⟨b, hb, yes, no⟩
    obtain ⟨oe, vs, he, hz, hd, S⟩ := c.obj hs hf
    refine wpAny_handleBy_cons (codeAny_handlers_test (tst_in ht S he hz.1 hb fun h' k => ?_)) (by intro q; cases q)
    have c2 : Cgt X a B pins σ H cls d sI { s' with heap := h' } := c.step (flying_new k c.fl) (Heap.UpToSlots.of_keeps k)
    cases b with
    | false => exact ih _ c2 (no rfl)
    | true =>
      have ok := c.inv.ok
      obtain ⟨cs, n, ts⟩ := cl
      cases n with
      | none =>
        refine codeAny_handlers_suite (HandSPX.lands_againZ (s := { s' with heap := h' }) c2.fl fun h4 fl4 up4 => ?_)
        obtain ⟨oe4, vs4, he4, hz4, hd4, S4⟩ := (c2.step fl4 up4).obj hs hf
        exact wpAny_mono ((hsu a oe4 cls d (X.pn ++ pins) hz4 ⟨_, hd4⟩).run [] _ σ H _ S4 (yes rfl a c.na)) (fun f s6 q => suite_end (n := none) (pos := pos) ok trivial q) fun _ _ z => z.elim
      | some ni =>
        obtain ⟨nm, i⟩ := ni
        obtain ⟨hN, hi, hl⟩ := id hn
        refine codeAny_handlers_suite_as (HandSPX.lands_againZ (s := { s' with heap := h' }) c2.fl fun h4 fl4 up4 => ?_)
        obtain ⟨oe4, vs4, he4, hz4, hd4, S4⟩ := (c2.step fl4 up4).obj hs hf
        refine store_ok (X := X.suite a ((a, oe4) :: (X.pn ++ pins))) (v := .ref a) S4 hN hi (.inl hl) rfl (fun s5 S5 => ?_) (.inr hl)
        exact wpAny_mono ((hsu a oe4 cls d (X.pn ++ pins) hz4 ⟨_, hd4⟩).run [] s5 _ H _ S5 (yes rfl a c.na)) (fun f s6 q => suite_end (n := some (nm, i)) (pos := pos) ok hn q) fun _ _ z => z.elim
theorem ps_tryN {body : List Stmt} {h₀ : ExceptHandler} {hds : List ExceptHandler} {l : List Cl} {pos : Pos} {tb : WX → TS} (hs : X.stack = X.env :: X.outer) (hf : X.env.frame = some X.env.locals) (tk : L2N.Takes X Wout)
    (hb : ∀ (W : WX) (pn : List (Addr × Obj)) (xe : Value → Shared → Prop), L2N.Takes (X.tr pn xe) W → PassesOwn (model X.prog X.w) X.A X.env xe → PSs (X.tr pn xe) body (tb W)) (hh : Hds X (h₀ :: hds) l) :
    PS X (.Try body (h₀ :: hds) [] [] pos) (fun D σ H => tb (wCls X.K Wout D l) D σ H) := by
  refine ⟨fun pins s σ H D I h => wpAny_Try_except ?_⟩
  have fr : X.A.frames = some (X.env :: X.outer) := by rw [I.ok.frames, hs]
  have body' := hb (wCls X.K Wout D l) (X.pn ++ pins) (fun e s₁ => wpAny (model X.prog X.w) X.A (noteFrame e X.env) (fun _ s₂ => wpAny (model X.prog X.w) X.A (setFlight e none) (fun _ s₃ =>
    wpAny (model X.prog X.w) X.A (handleBy e X.env (h₀ :: hds)) (SP X pins D) X.xe s₃) X.xe s₂) X.xe s₁) (fun u s' ⟨a, B, sI, pins', σ', H', cls, d, e, J, nb, up, sky, na, os, ag, w⟩ => ?_) PassesOwn.looking
  · refine wpAny_mono (body'.run [] s σ H D (I.toTry _) h) (fun f s1 q => ?_) fun _ _ z => z
    match f, q with
    | .next, ⟨σ', H', J, q⟩ => exact wpAny_execs_nil ⟨σ', H', J.ofTry I.ok, q⟩
    | .brk, ⟨σ', H', J, q⟩ => exact ⟨σ', H', J.ofTry I.ok, q⟩
    | .cont, ⟨σ', H', J, q⟩ => exact ⟨σ', H', J.ofTry I.ok, q⟩
    | .ret u, ⟨v, σ', H', J, r, q⟩ => exact ⟨v, σ', H', J.ofTry I.ok, r, q⟩
  · subst e
    have sky' : Sky B (X.env :: X.outer) a (L2N.Zn cls d) X.env.locals s'.heap := hs ▸ sky
    refine L2N.Sky.land L2N.Zn.steady fr hf sky' fun h3 fl3 up3 => handle_ok hs hf tk hh { s' with heap := h3 } ⟨J.ofTry I.ok, nb, up.trans up3, by rw [hs]; exact fl3, na, os, ag⟩ w
end
end Hx

/-! a lambda without parameters handed to a def that calls it within a try -/
namespace Hx
open PySem PySem.Spec PyProof.Rows L2 HotX LamX
section
variable {X : Cx} {pins : List (Addr × Obj)} {σ : L2.St} {H HZ : Hp} {s : Shared}
end
end Hx

/-! A def called with keywords, where what it raises is wished for at the caller's slots. -/
namespace Hx
open PySem PySem.Spec PyProof.Rows L2
/-- the things at these places -/
def sel {α : Type} (idx : List Nat) (l : List α) : List α := idx.filterMap fun i => l[i]?
section
variable {X : Cx} {CX : CXT} {k n : Nat} {f : Addr} {fd : FuncData} {ps ks : List Str} {sp : Sp} {idx : List Nat} {dvs : List V} {E : L2.St → XK} {x : Str} {p pos : Pos} {e : Expr} {es : List Expr} {kws : List Keyword} {t tk : TA}
end
end Hx

/-! A tuple told once. -/
namespace Hx
open PySem PySem.Spec PyProof.Rows L2
theorem once_tuple (l : Addr) (items : Array Value) (n : Nat) (dd : Option Addr) (sl : Array (Option Value)) (u : Tok) :
    Meets (Builtin.«tuple.__mul__» ⟨[.ref l, .int 1 u], []⟩) (fun _ R s => s.heap.get? l = some { cls := .type "tuple", dict := dd, data := .seq items n, slots := sl } ∧ R (.ok (.ret (Value.ref l))) s) :=
  .of_wp fun prog w A R s h => by
    obtain ⟨hp, g, d, tk, os⟩ := s
    obtain ⟨hl, h⟩ := h
    have f1 := AutoSeq1.idx_int
    have c0 : (decide ((1 : Int) < -(2 ^ 63)) || decide ((1 : Int) ≥ 2 ^ 63)) = false := by decide
    have c1 : (items.isEmpty || (1 : Int) == 1) = true := by rw [show ((1 : Int) == 1) = true from rfl, Bool.or_true]
    wp_walk using wpAny_loadPart' hl
    repeat (first
      | (refine wpAny_ite_false (decide_eq_false (by rw [c0]; exact Bool.false_ne_true)) ?_; wp_walk using wpAny_loadPart' hl)
      | (refine wpAny_ite_true (decide_eq_true (by exact c1)) ?_; wp_walk using wpAny_loadPart' hl))
    exact ⟨_, rfl, h⟩
section
variable {X : Cx}
def rOnce (K : PySem.W.Frag) : R2 := fun x y H Q => ∃ l xs, x = .ref l ∧ y = .int 1 ∧ SqT K H l xs ∧ Q (.ref l) H
theorem op_once : OpR X (binaryOp .Mult) (rOnce X.K) := by
  intro pins s σ H x y v u Q I rx ry h
  obtain ⟨l, xs, rfl, rfl, hT, q⟩ := h
  cases rx
  obtain ⟨t, rfl⟩ := ry
  obtain ⟨its, r, ⟨⟨cls, dd, data, sl⟩, ho, hc, n, hd⟩, hs⟩ := I.tuple hT
  simp only at hc hd
  subst hc hd
  refine wpAny_binaryOp_repeat_ref (T := "tuple") (U := "int") (by decide) ⟨_, ho, rfl⟩ (fun s' => typeIs_int s' 1 t) noFill_tuple_mul F.fills_int_mul F.slot_int_rmul repeat_tuple F.slot_int_index.lookup
    (call_meets F.slot_int_rmul (typeIs_int s 1 t) F.entry_int_rmul (F.args_int_rmul_2 _ _) (int_rmul_tuple 1 t l its.toArray n dd sl)
      ⟨ho, rfl, ⟨_, ho, rfl⟩, call_meets F.slot_tuple_mul ⟨_, ho, rfl⟩ F.entry_tuple_mul (F.args_tuple_mul_2 _ _) (once_tuple l its.toArray n dd sl t) ⟨ho, ?_⟩⟩)
  exact ⟨.ref l, H, I, rfl, q⟩
end
end Hx

/-! max and min of a list by a def that tells an int of each. -/
namespace Hx
open PySem PySem.Spec PyProof.Rows L2
/-- where a list's iterator stands; the list's things are told by what they stand for -/
def StV (l I : Addr) (xs : List V) (i : Nat) (s : Shared) : Prop := s.heap.IsListIter I l i ∧ ∃ its : List Value, Vals xs its ∧ s.heap.IsList l its.toArray
def PV (xs : List V) (i : Nat) (v : Value) : Prop := ∃ x, xs[i]? = some x ∧ RelV x v
theorem vals_at : ∀ {xs : List V} {its : List Value}, Vals xs its → ∀ {i : Nat} {v : Value}, its.toArray[i]? = some v → PV xs i v := fun {xs its} r {i v} h => by
  have h' : its[i]? = some v := by simpa using h
  clear h
  induction r generalizing i with
  | nil => simp at h'
  | cons r t ih =>
    cases i with
    | zero =>
      simp at h'
      subst h'
      exact ⟨_, rfl, r⟩
    | succ i =>
      obtain ⟨x, hx, rx⟩ := ih (i := i) (by simpa using h')
      exact ⟨x, by simpa using hx, rx⟩
theorem walksV {prog : Program} {w : World} {A : Around} (hh : A.handled = none) (l I : Addr) (hne : l ≠ I) (xs : List V) : WalksS prog w A I [I, l] [I] (fun a b => b = a) xs.length (PV xs) (StV l I xs) where
  sub := fun b hb => by simp at hb; simp [hb]
  grefl := fun _ => rfl
  gtrans := fun _ _ _ h1 h2 => h2.trans h1
  frame := fun i s h' tk ⟨⟨o, e, a, b⟩, its, r, o2, e2, c, d⟩ _ hk => ⟨⟨o, hk I (by simp) o e, a, b⟩, its, r, o2, hk l (by simp) o2 e2, c, d⟩
  item := fun i s Q E hi ⟨st, its, r, hl⟩ hQ => by
    have W := (Walks.list (prog := prog) (w := w) (A := A) hh I l hne its.toArray).toS
    have hn : its.toArray.size = xs.length := by rw [List.size_toArray]; exact r.length.symm
    exact W.item i s Q E (by omega) ⟨st, hl⟩ fun v s' hP st' m => hQ v s' (vals_at r hP) ⟨st'.1, its, r, st'.2⟩ m
  done := fun s Q E ⟨st, its, r, hl⟩ hQ => by
    have W := (Walks.list (prog := prog) (w := w) (A := A) hh I l hne its.toArray).toS
    have hn : its.toArray.size = xs.length := by rw [List.size_toArray]; exact r.length.symm
    exact W.done s Q E ⟨by rw [hn]; exact st, hl⟩ hQ
  self := fun i s Q E ⟨st, its, r, hl⟩ h => by
    have W := (Walks.list (prog := prog) (w := w) (A := A) hh I l hne its.toArray).toS
    exact W.self i s Q E ⟨st, hl⟩ h
section
variable {X : Cx} {k : Nat} {f : Addr} {fd : FuncData} {p : Str} {sp : Sp} {pins : List (Addr × Obj)} {σ : L2.St}
/-- what stays while the things are looked at -/
def JK (X : Cx) (pins : List (Addr × Obj)) (σ : L2.St) (Jp : Hp → Prop) (S I : Addr) (s : Shared) : Prop := ∃ H, Inv X pins σ H s ∧ Jp H ∧ FpOk X pins H S ∧ FpOk X pins H I
theorem keyRun {l I S : Addr} {xs : List V} {kf : Nat → Int} {Jp : Hp → Prop} {op : CmpOp} {bt : Nat → Nat → Bool} (F : FnG X.prog X.w X.K X.mg X.base (L2N.CX X.prog X.w) k f fd [p] sp) (hr : RoomG (k + 1) X.A) (hb : Binds X.K fd [p] [])
    (hJl : ∀ H, Jp H → SqL X.K H l xs) (hSl : S ≠ l) (hSI : S ≠ I) (hli : l ≠ I) (hsp : ∀ i x H, xs[i]? = some x → Jp H → sp [x] H (fun u H' => u = .int (kf i) ∧ Jp H') fun _ _ _ => False)
    (hcmp : ∀ {A : Around}, CmpOf X.prog X.w A op (fun i v => ∃ t, v = .int (kf i) t) bt) :
    KeyRun X.prog X.w X.A.in1 (.ref f) op S [I] (fun a b => b = a) xs.length (PV xs) (StV l I xs) (JK X pins σ Jp S I) (fun i v _ => ∃ t, v = .int (kf i) t) bt where
  keep := fun s s' ⟨H, J, j, fS, fI⟩ m => by
    obtain ⟨h1, g1, d1, t1, o1⟩ := s
    obtain ⟨h2, g2, d2, t2, o2⟩ := s'
    have e1 : g2 = g1 := m.gens
    have e2 : d2 = d1 := m.drawn
    have e3 : o2 = o1 := m.os
    subst e1 e2 e3
    exact ⟨H, J.turnedL (t' := t2) (ch := [S, I]) (fun b o hb e => m.heap b o hb e) (fun b hb => by
      simp only [List.mem_cons, List.not_mem_nil, or_false] at hb
      rcases hb with rfl | rfl
      · exact fS
      · exact fI), j, fS, fI⟩
  keepV := fun _ _ _ _ h _ => h
  turn := fun i v s o Q E hi ⟨x, hx, rx⟩ ⟨H, J, j, fS, fI⟩ ⟨⟨oI, eI, c1, c2⟩, its, rv, hl⟩ hS hQ => by
    refine wpAny_call (codeAny_mono (F.run X.A.in1 X.stack s H ⟨[v], []⟩ [v] [x] (fun u H' => u = .int (kf i) ∧ Jp H') (fun _ _ _ => False) hr.in1 J.env0.in1 (by
      have := hb s [v] J.kIn rfl
      simpa using this) (.cons rx .nil) (hsp i x H hx j)) fun out s' got => ?_)
    match out, got with
    | .error e, got =>
      obtain ⟨_, _, _, _, _, _, _, _, _, _, _, _, z⟩ := (show L2N.CX X.prog X.w X.stack H s (fun _ _ _ => False) e s' from got)
      exact z.elim
    | .ok (.ret u), ⟨y, H', os, bare, un, hok, ry, ey, j'⟩ =>
      subst ey
      obtain ⟨t, rfl⟩ := ry
      have J' := J.call' os un hok bare (ch := []) (fun b z => absurd z (by simp))
      have nfr : ∀ {b : Addr}, FpOk X pins H b → b ∉ frs X.stack := fun {b} hf hb' => by
        rcases List.mem_cons.mp (J.stkSub b hb') with e | e
        · exact hf.2.1 e
        · exact hf.2.2.1 e
      have kS := un.keep S o hS fS.1 (nfr fS) (by simp)
      have kI := un.keep I oI eI fI.1 (nfr fI) (by simp)
      have nS := un.free S o hS fS.1 (by simp)
      have nI := un.free I oI eI fI.1 (by simp)
      obtain ⟨its', rv', pl, _⟩ := J'.list (hJl H' j')
      exact hQ _ s' ⟨H', J', j', ⟨nS, fS.2⟩, ⟨nI, fI.2⟩⟩ ⟨⟨oI, kI, c1, c2⟩, its', rv', pl.isList⟩ kS ⟨t, rfl⟩ fun _ _ h => h
  cmp := fun i j ki kj s Q E _ hi hj h => hcmp i j ki kj s Q E hi hj h
/-- max(l, key=f), min(l, key=f) -/
def rKey (K : PySem.W.Frag) (f : Addr) (sp : Sp) (up : Bool) : List V → List V → Hp → VK → Prop := fun vs zs H Q => ∃ (l : Addr) (xs : List V) (kf : Nat → Int) (Jp : Hp → Prop), vs = [.ref l] ∧ zs = [.ref f] ∧ 0 < xs.length ∧ Jp H ∧ (∀ H', Jp H' → SqL K H' l xs) ∧
  (∀ i x H', xs[i]? = some x → Jp H' → sp [x] H' (fun u H'' => u = .int (kf i) ∧ Jp H'') fun _ _ _ => False) ∧ ∀ x H', Jp H' → xs[argBest (fun i j => if up then decide (kf i > kf j) else decide (kf i < kf j)) (xs.length - 1)]? = some x → Q x H'
theorem cr_maxKey (hc : X.calm = true) (F : FnG X.prog X.w X.K X.mg X.base (L2N.CX X.prog X.w) k f fd [p] sp) (hr : RoomG (k + 1) X.A) (hb : Binds X.K fd [p] []) : CallRK X (.builtin "max") [Str.ofString "key"] (rKey X.K f sp true) := by
  intro pins s σ H vs zs us ws Q J r1 r2 ⟨l, xs, kf, Jp, e1, e2, hn, j, hJl, hsp, q⟩
  subst e1 e2
  rw [Vals.ref1 r1, Vals.ref1 r2]
  obtain ⟨its, rv, pl, _⟩ := J.list (hJl H j)
  refine call_max_walkK (iter_anyList pl.isList fun s₂ e st hfp hlI => ?_)
  subst e
  have kk : ∀ b o, s.heap.get? b = some o → (s.heap.push ({ cls := .type "list_iterator", data := .fields #[.ref l, .int 0 0] } : Obj)).get? b = some o := fun b o e => Heap.get?_push_of_some _ e
  have J2 := J.kept (t' := s.toks) kk
  have hsz : (s.heap.push ({ cls := .type "list_iterator", data := .fields #[.ref l, .int 0 0] } : Obj)).objs.size = s.heap.objs.size + 1 := Heap.size_push ..
  have nI : H s.heap.objs.size = none := J.hok.fresh (Nat.le_refl _)
  have fI : FpOk X pins H s.heap.objs.size := J.fpOk (Nat.le_refl _) nI
  have fS : FpOk X pins H (s.heap.push ({ cls := .type "list_iterator", data := .fields #[.ref l, .int 0 0] } : Obj)).objs.size := J2.fpOk (Nat.le_refl _) (J2.hok.fresh (Nat.le_refl _))
  have hlt : l < s.heap.objs.size := by obtain ⟨_, e, _⟩ := pl.isList; exact Heap.lt_size e
  refine ⟨_, _, _, _, _, _, _, _, _, _, rfl, walksV (A := X.A.in1) (J.ok.hd hc) l s.heap.objs.size hlI xs, ⟨st.1, its, rv, st.2⟩, hfp, hn, keyRun (S := (s.heap.push ({ cls := .type "list_iterator", data := .fields #[.ref l, .int 0 0] } : Obj)).objs.size) (I := s.heap.objs.size) (l := l) (kf := kf) (Jp := Jp) (pins := pins) (σ := σ) F hr hb hJl (by rw [hsz]; exact Nat.ne_of_gt (Nat.lt_succ_of_lt hlt)) (by rw [hsz]; exact Nat.succ_ne_self _) hlI hsp (CmpOf.ints_gt kf fun _ _ h => h), ⟨H, J2, j, fS, fI⟩, fun v s' ⟨x, hx, rx⟩ ⟨H', J', j', _⟩ => ⟨x, H', J', rx, q x H' j' hx⟩⟩
theorem cr_minKey (hc : X.calm = true) (F : FnG X.prog X.w X.K X.mg X.base (L2N.CX X.prog X.w) k f fd [p] sp) (hr : RoomG (k + 1) X.A) (hb : Binds X.K fd [p] []) : CallRK X (.builtin "min") [Str.ofString "key"] (rKey X.K f sp false) := by
  intro pins s σ H vs zs us ws Q J r1 r2 ⟨l, xs, kf, Jp, e1, e2, hn, j, hJl, hsp, q⟩
  subst e1 e2
  rw [Vals.ref1 r1, Vals.ref1 r2]
  obtain ⟨its, rv, pl, _⟩ := J.list (hJl H j)
  refine call_min_walkK (iter_anyList pl.isList fun s₂ e st hfp hlI => ?_)
  subst e
  have kk : ∀ b o, s.heap.get? b = some o → (s.heap.push ({ cls := .type "list_iterator", data := .fields #[.ref l, .int 0 0] } : Obj)).get? b = some o := fun b o e => Heap.get?_push_of_some _ e
  have J2 := J.kept (t' := s.toks) kk
  have hsz : (s.heap.push ({ cls := .type "list_iterator", data := .fields #[.ref l, .int 0 0] } : Obj)).objs.size = s.heap.objs.size + 1 := Heap.size_push ..
  have nI : H s.heap.objs.size = none := J.hok.fresh (Nat.le_refl _)
  have fI : FpOk X pins H s.heap.objs.size := J.fpOk (Nat.le_refl _) nI
  have fS : FpOk X pins H (s.heap.push ({ cls := .type "list_iterator", data := .fields #[.ref l, .int 0 0] } : Obj)).objs.size := J2.fpOk (Nat.le_refl _) (J2.hok.fresh (Nat.le_refl _))
  have hlt : l < s.heap.objs.size := by obtain ⟨_, e, _⟩ := pl.isList; exact Heap.lt_size e
  refine ⟨_, _, _, _, _, _, _, _, _, _, rfl, walksV (A := X.A.in1) (J.ok.hd hc) l s.heap.objs.size hlI xs, ⟨st.1, its, rv, st.2⟩, hfp, hn, keyRun (S := (s.heap.push ({ cls := .type "list_iterator", data := .fields #[.ref l, .int 0 0] } : Obj)).objs.size) (I := s.heap.objs.size) (l := l) (kf := kf) (Jp := Jp) (pins := pins) (σ := σ) F hr hb hJl (by rw [hsz]; exact Nat.ne_of_gt (Nat.lt_succ_of_lt hlt)) (by rw [hsz]; exact Nat.succ_ne_self _) hlI hsp (CmpOf.ints_lt kf fun _ _ h => h), ⟨H, J2, j, fS, fI⟩, fun v s' ⟨x, hx, rx⟩ ⟨H', J', j', _⟩ => ⟨x, H', J', rx, q x H' j' hx⟩⟩
end
end Hx
namespace Hx
open PySem PySem.Spec PyProof.Rows L2
/-! ### max, min of a list of ints -/
section
variable {X : Cx}
end
end Hx

/-! sum of a list of tuples, from a tuple on. -/
namespace Hx
open PySem PySem.Spec PyProof.Rows L2 HT
section
variable {X : Cx} {pins : List (Addr × Obj)} {σ : L2.St}
end
end Hx

/-! Own classes over promises of defs that are called where nothing is being shown: an instance is made, its methods are called. -/
namespace Hx
open PySem PySem.Spec PyProof.Rows L2
theorem RoomG.make {k : Nat} {A : Around} (r : RoomG (k + 1) A) (C : Addr) (us : List Value) (kw : List (Str × Value)) : RoomG k (A.under (.builtin "type.__call__" ⟨.ref C :: us, kw⟩)) := ⟨r.rm.make C us kw, r.gd⟩
/-- C(e, ..): what __init__ is handed is the new instance and the arguments -/
def tMakeS (C : Addr) (sp : Sp) (dvs : List V) (E : L2.St → XK) (t : TA) : TE := fun σ H Q => t σ H fun vs H1 => ∀ x dx, H1 x = none → H1 dx = none → dx ≠ x →
  sp (.ref x :: (vs ++ dvs)) (upd (upd H1 dx (.own x)) x (.ins C dx [])) (fun v H2 => v = .non ∧ Q (.ref x) H2) (E σ)
def tMethS (C : Addr) (m : Str) (sp : Sp) (dvs : List V) (E : L2.St → XK) (ta : TE) (t : TA) : TE := fun σ H Q => ta σ H fun x H1 => ∃ a dx fs, x = .ref a ∧ H1 a = some (.ins C dx fs) ∧ fs.lookup m = none ∧
  t σ H1 fun vs H2 => sp (x :: (vs ++ dvs)) H2 Q (E σ)
section
variable {X : Cx} {CX : CXT} {k : Nat} {f C : Addr} {fd : FuncData} {ps : List Str} {sp : Sp} {dvs : List V} {ds : List Value} {E : L2.St → XK} {x m : Str} {p pos apos : Pos} {o e : Expr} {es : List Expr} {t : TA} {ta : TE}
theorem makeG_run {pins : List (Addr × Obj)} {σ : L2.St} {H : Hp} {s : Shared} {Q : VK} {us : List Value} {vs : List V} (M : Mk X.K C f) (F : FnG X.prog X.w X.K X.mg X.base CX k f fd ps sp) (hr : RoomG (k + 1) X.A) (hb : Binds X.K fd ps ds) (hd : Vals dvs ds) (hx : PassesAt CX X σ (E σ))
    (I : Inv X pins σ H s) (r : Vals vs us)
    (h : ∀ x dx, H x = none → H dx = none → dx ≠ x → sp (.ref x :: (vs ++ dvs)) (upd (upd H dx (.own x)) x (.ins C dx [])) (fun v H2 => v = .non ∧ Q (.ref x) H2) (E σ)) :
    wpAny (model X.prog X.w) X.A (call (.ref C) us) (EP X pins σ Q) X.xe s := by
  have ready := Inv.made (C := C) I
  have spun := h (s.heap.objs.size + 1) s.heap.objs.size (I.hok.fresh (Nat.le_succ _)) (I.hok.fresh (Nat.le_refl _)) (Nat.ne_of_lt (Nat.lt_succ_self _))
  have all : Vals (V.ref (s.heap.objs.size + 1) :: (vs ++ dvs)) (Value.ref (s.heap.objs.size + 1) :: (us ++ ds)) := .cons rfl (r.append hd)
  have many : (Value.ref (s.heap.objs.size + 1) :: us ++ ds).length = ps.length := (show _ = _ from all.length.symm).trans (F.len _ _ _ _ spun)
  refine wpAny_call (make_map (f := f) I.kIn M.makes M.init (beq_iff_eq.mp M.fn) (codeAny_mono (F.run _ X.stack _ _ ⟨Value.ref (s.heap.objs.size + 1) :: us, []⟩ (Value.ref (s.heap.objs.size + 1) :: (us ++ ds)) _ _ (E σ) (hr.make C us [])
    (ready.env0.make C us []) (hb _ (Value.ref (s.heap.objs.size + 1) :: us) ready.kIn many) all spun) fun out s' got => ?_))
  match out, got with
  | .error e, got => exact hx pins _ _ e s' ready got
  | .ok (.ret u), got =>
    obtain ⟨v, H', J, rv, ev, q⟩ := ready.after got
    subst ev
    exact ⟨rv, V.ref (s.heap.objs.size + 1), H', J, rfl, q⟩
theorem pe_makeG (M : Mk X.K C f) (F : FnG X.prog X.w X.K X.mg X.base CX k f fd ps sp) (hr : RoomG (k + 1) X.A) (hg : Gl X x) (hm : X.mg x = some (.ref C)) (hb : Binds X.K fd ps ds) (hd : Vals dvs ds) (hx : ∀ σ, PassesAt CX X σ (E σ))
    (ha : PA X (e :: es) t) (hdb : (x == ("__debug__" : Str)) = false := by decide) (he : starEach (e :: es) X.env = (false, eval e X.env) :: starEach es X.env := by rfl) (hpl : (backTo pos (starEach es X.env)).any (·.1) = false := by rfl) :
    PE X (.Call (.Name x p) (e :: es) [] pos) (tMakeS C sp dvs E t) :=
  ⟨fun pins s σ H Q I h => wpAny_Call_Name_kw (ld_glob I hg hm (PySem.W.callWith_K (h₀ := X.base) I.ok.mod.kin M.kp (thn (ha.run pos pins s σ H _ I h) fun us s1 ⟨vs, H1, I1, r, q⟩ => ⟨I1.kIn, makeG_run M F hr hb hd (hx σ) I1 r q⟩) he hpl) hdb)⟩
/-- o.m(e, ..) -/
theorem pe_methG {pl : Sem Bool} (he : PE X o ta) (c : Cls X.K C) (hm : Meth X.K C m f) (F : FnG X.prog X.w X.K X.mg X.base CX k f fd ps sp) (hr : RoomG k X.A) (hb : Binds X.K fd ps ds) (hd : Vals dvs ds) (hx : ∀ σ, PassesAt CX X σ (E σ)) (ha : PA X (e :: es) t)
    (hst : starEach (e :: es) X.env = (false, eval e X.env) :: starEach es X.env := by rfl) (hpl : (backTo pos (starEach es X.env)).any (·.1) = false := by rfl)
    (ht : eval (.Call (.Attribute o m apos) (e :: es) [] pos) X.env = (do
      let ov ← eval o X.env
      standAt apos.atName
      let (f, first) ← holding [ov] (getMethod ov m pl)
      callWith pos f first (backTo pos (starEach (e :: es) X.env)) (backToKw pos (keywordEach [] X.env))) := by rfl) :
    PE X (.Call (.Attribute o m apos) (e :: es) [] pos) (tMethS C m sp dvs E ta t) := by
  refine ⟨fun pins s σ H Q I h => PySem.W.methodCall_KW (pl := pl) (thn (he.run pins s σ H _ I h) fun u s1 ⟨x, H1, I1, rx, a, dx, fs, ex, ea, l, q⟩ => ?_) ht⟩
  subst ex
  cases rx
  exact getmeth_ok I1 ea c hm l (PySem.W.callWith_K (first := [.ref a]) (h₀ := X.base) I.ok.mod.kin hm.kp (thn (ha.run pos pins s1 σ H1 _ I1 q) fun us s2 ⟨vs, H2, I2, r, q2⟩ => ⟨I2.kIn, fnG_run (us := .ref a :: us) (vs := .ref a :: vs) F hr hb hd (hx σ) I2 (.cons rfl r) q2⟩) hst hpl)
/-- o.m() -/
theorem pe_methG0 {pl : Sem Bool} (he : PE X o ta) (c : Cls X.K C) (hm : Meth X.K C m f) (F : FnG X.prog X.w X.K X.mg X.base CX k f fd ps sp) (hr : RoomG k X.A) (hb : Binds X.K fd ps ds) (hd : Vals dvs ds) (hx : ∀ σ, PassesAt CX X σ (E σ))
    (ht : eval (.Call (.Attribute o m apos) [] [] pos) X.env = (do
      let ov ← eval o X.env
      standAt apos.atName
      let (f, first) ← holding [ov] (getMethod ov m pl)
      callWith pos f first (backTo pos (starEach [] X.env)) (backToKw pos (keywordEach [] X.env))) := by rfl) :
    PE X (.Call (.Attribute o m apos) [] [] pos) (tMethS C m sp dvs E ta tNil) := by
  refine ⟨fun pins s σ H Q I h => PySem.W.methodCall_KW (pl := pl) (thn (he.run pins s σ H _ I h) fun u s1 ⟨x, H1, I1, rx, a, dx, fs, ex, ea, l, q⟩ => ?_) ht⟩
  subst ex
  cases rx
  exact getmeth_ok I1 ea c hm l (PySem.W.callWith_K0 (first := [.ref a]) I1.kIn hm.kp (fnG_run (us := [.ref a]) (vs := [.ref a]) F hr hb hd (hx σ) I1 (.cons rfl .nil) q))
end
end Hx
namespace Hx
open PySem PySem.Spec PyProof.Rows L2
end Hx

/-! Defs with defaults whose promises are called where nothing is being shown. -/
namespace Hx
open PySem PySem.Spec PyProof.Rows L2
/-- a def whose defaults are the items of the tuple at T -/
structure FunV (K : PySem.W.Frag) (x qual : Str) (st : Stmt) (f : Addr) (fd : FuncData) (T : Addr) (its : Array Value) : Prop where
  ex : ∃ (oc : Value) (od : Option Addr) (kV doc pm : Value) (an : Option Addr) (cdv ct : Value) (osl : Array (Option Value)),
    fd = PySem.W.fnOf x qual (defArgs st) (defBody st) (defScope st) (.ref T) kV doc pm an cdv ct ∧ K.lookup f = some ⟨oc, od, .func fd, osl⟩ ∧ PySem.W.codeIn K cdv qual = true
  dfl : ∃ (o : Obj) (n : Nat), K.lookup T = some o ∧ o.data = .seq its n
  kp : PySem.W.keepIn K (.ref f) = true
theorem funV_mk {K : PySem.W.Frag} {x qual : Str} {st : Stmt} {f T : Addr} {its : Array Value} {oc oc2 kV doc pm cdv ct : Value} {od od2 an : Option Addr} {osl osl2 : Array (Option Value)} {n : Nat}
    (l : K.lookup f = some ⟨oc, od, .func (PySem.W.fnOf x qual (defArgs st) (defBody st) (defScope st) (.ref T) kV doc pm an cdv ct), osl⟩) (c : PySem.W.codeIn K cdv qual = true) (k : PySem.W.keepIn K (.ref f) = true) (t : K.lookup T = some ⟨oc2, od2, .seq its n, osl2⟩) :
    FunV K x qual st f (PySem.W.fnOf x qual (defArgs st) (defBody st) (defScope st) (.ref T) kV doc pm an cdv ct) T its := ⟨⟨oc, od, kV, doc, pm, an, cdv, ct, osl, rfl, l, c⟩, ⟨_, n, t, rfl⟩, k⟩
/-- what a call binds, where the defaults are looked at -/
theorem FunV.to {K : PySem.W.Frag} {x qual : Str} {st : Stmt} {f T : Addr} {its : Array Value} {fd : FuncData} {args : Args} {bs : List (Str × Value)} {s : Shared} (F : FunV K x qual st f fd T its) (X : K.In s.heap)
    (h : ∃ k, bindArgs fd args = seqItems? (.ref T) >>= k ∧ k (some its) = pure bs) : BindsTo s fd args bs := by
  obtain ⟨o, n, lT, oT⟩ := F.dfl
  obtain ⟨k, e1, e2⟩ := h
  refine BindsTo.of_looks fun M => ?_
  rw [e1]
  exact looks_items X lT oT (.of_pure e2)
/-- such a def by its body -/
theorem fnG_ofV {CX : CXT} {P : Program} {w : World} {K : PySem.W.Frag} {mg : Str → Option Value} {base : Heap} {k : Nat} {f T : Addr} {its : Array Value} {x qual : Str} {st : Stmt} {fd : FuncData} {N ps : List Str} {sp : Sp} (F : FunV K x qual st f fd T its) (S : FnScope N ps (defScope st)) (len : ∀ vs H Q E, sp vs H Q E → vs.length = ps.length)
    (body : ∀ (cdv : Value), cdv = fd.code → ∀ (A : Around) (outer : List Env) (s : Shared) (H : Hp) (vs : List V) (Q : VK) (E : XK), RoomG k (A.deeper (envOfC qual (defScope st) s.heap.objs.size f cdv)) → sp vs H Q E →
      ∃ t, PSs (cxOf CX P w K mg base N qual (defScope st) f cdv A outer s H E) (defBody st) t ∧ t { nx := fun _ H' => Q .non H', rt := Q } (L2.start N vs) H) : FnG P w K mg base CX (k + 1) f fd ps sp := by
  refine ⟨len, fun A outer s H args us vs Q E room e0 bind r q => ?_⟩
  obtain ⟨oc, od, kV, doc, pm, an, cdv, ct, osl, rfl, lk, code⟩ := F.ex
  have KX : K.In s.heap := e0.mod.kin.keeps fun b o e => (e0.bs b o e).1
  have lim : s.heap.NoLimit := e0.mod.nolimit.keeps fun b o e => (e0.bs b o e).1
  have known : ∀ y ∈ ps.zip us, (defScope st).names.lookup y.1 = some .local ∨ ((defScope st).names.lookup y.1 = some .cell ∧ ((cellsFrom (s.heap.objs.size + 1) (defScope st).names []).lookup y.1).isSome = true) := fun y hy =>
    (S.par y.1 (List.of_mem_zip (a := y.1) (b := y.2) hy).1).imp id fun z => ⟨z, PySem.W.cellsFrom_some _ _ _ (.inl z)⟩
  refine codeAny_call_function room.depth (KX _ _ lk) rfl S.co S.gen rfl (PySem.W.codeRec_of KX code) (bind _ _ _ _ (wpAny_newFunctionEnv_cells S.kind known fun env he s1 y => ?_))
  subst he
  obtain ⟨t, ht, hq⟩ := body cdv rfl A outer s H vs Q E (room.deeper _) q
  have I : Inv (cxOf CX P w K mg base N qual (defScope st) f cdv A outer s H E) [] (L2.start N vs) H s1 := inv_start S room.hd e0 (len _ _ _ _ q) r y
  refine ⟨lim.keeps y.toInCall.keep, codeAny_func (wpAny_mono (ht.run [] s1 _ H _ I hq) (fun fl s' z => ?_) fun e s' z => z)⟩
  match fl, z with
  | .ret u, ⟨v, σ', H', J, rv, z⟩ => exact ⟨v, H', J.os, J.bare, J.base, J.hok, rv, z⟩
  | .next, ⟨σ', H', J, z⟩ => exact ⟨.non, H', J.os, J.bare, J.base, J.hok, rfl, z⟩
  | .brk, ⟨_, _, _, z⟩ => exact z.elim
  | .cont, ⟨_, _, _, z⟩ => exact z.elim
end Hx

/-! len of an instance whose class has a __len__ of its own. -/
namespace Hx
open PySem PySem.Spec PyProof.Rows L2
open Builtin
end Hx

/-! sep.join(reversed(xs)), xs a list of texts -/
namespace Hx
open PySem PySem.Spec PyProof.Rows L2 Builtin Builtin.Str
section
variable {prog : Program} {w : World} {A : Around} {E : Value → Shared → Prop} {s : Shared}
end
section
variable {X : Cx}
end
end Hx

/-! min of four ints; min of a list of ints with default. -/
namespace Hx
open PySem PySem.Spec PyProof.Rows L2
section
variable {prog : Program} {w : World} {A : Around} {E : Value → Shared → Prop} {s : Shared}
end
section
variable {X : Cx}
end
end Hx

/-! sorted and min of a list of data of one make. -/
namespace Hx
open PySem PySem.Spec PyProof.Rows L2
section
variable {X : Cx}
end
end Hx

/-! A layer of readings by value over the hand layer: tuples, frozen lists, frozen instances are values; owned lists and instances stand in a store. -/
namespace Dv
open PySem L2

inductive D where
  | non | bl (b : Bool) | int (i : Int) | str (x : Str)
  | tup (xs : List D) | lst (xs : List D) | tupX (xs : List D)
  | inst (C : Str) (ns : List Str) (xs : List D)
  | obj (a : Addr) | ty (n : String)
  | exc (a : Addr) (od : Option Addr) (ns : List Str) (xs : List D)
  | fn (x : Str)
  | hob (o : HO)
  | dct (ks : List Key) (xs : List D)

inductive SO where
  | lst (xs : List D)
  | ins (C : Str) (ns : List Str) (xs : List D)
  | tab (q : Str)
  | dic (ks : List Key) (xs : List D)

abbrev Sd := Addr → Option SO
def upS (S : Sd) (a : Addr) (o : SO) : Sd := fun b => if b = a then some o else S b
def del (S : Sd) (a : Addr) : Sd := fun b => if b = a then none else S b
theorem upS_same {S : Sd} {a : Addr} {o : SO} : upS S a o a = some o := by unfold upS; rw [if_pos rfl]
theorem upS_ne {S : Sd} {a b : Addr} {o : SO} (h : b ≠ a) : upS S a o b = S b := by unfold upS; rw [if_neg h]
theorem upS_upS {S : Sd} {a : Addr} {o u : SO} : upS (upS S a o) a u = upS S a u := by
  funext b; unfold upS; split <;> rfl
theorem del_same {S : Sd} {a : Addr} : del S a a = none := by unfold del; rw [if_pos rfl]
theorem del_ne {S : Sd} {a b : Addr} (h : b ≠ a) : del S a b = S b := by unfold del; rw [if_neg h]
theorem del_upS {S : Sd} {a : Addr} {o : SO} (h : S a = none) : del (upS S a o) a = S := by
  funext b
  by_cases e : b = a
  · rw [e, del_same, h]
  · rw [del_ne e, upS_ne e]

/-- a list of the written part -/
def KL (K : PySem.W.Frag) (a : Addr) (xs : List V) : Prop :=
  ∃ (o : Obj) (its : Array Value) (n : Nat), K.lookup a = some o ∧ o.cls = .type "list" ∧ o.dict = none ∧ o.data = .seq its n ∧ its.size ≤ sizeLine ∧ Vals xs its.toList

/-- the class that a global of the text names -/
def ClsAt (K : PySem.W.Frag) (n : Str) (C : Addr) : Prop := PySem.W.nsIn K mainGlobals n = some (some (.ref C))
theorem ClsAt.one {K : PySem.W.Frag} {n : Str} {C D : Addr} (h : ClsAt K n C) (g : ClsAt K n D) : C = D := by
  unfold ClsAt at h g
  rw [h] at g
  cases g
  rfl
mutual
def Rp (K : PySem.W.Frag) (H : Hp) (S : Sd) : D → V → Prop
  | .non, v => v = .non
  | .bl b, v => v = .bl b
  | .int i, v => v = .int i
  | .str x, v => v = .str x
  | .tup ds, v => ∃ a vs, v = .ref a ∧ SqT K H a vs ∧ RpL K H S ds vs
  | .lst ds, v => ∃ a vs, v = .ref a ∧ ((Rd H a (.lst vs) ∧ S a = none) ∨ KL K a vs) ∧ RpL K H S ds vs
  | .inst n ns ds, v => ∃ C a dx fs, ClsAt K n C ∧ v = .ref a ∧ H a = some (.ins C dx fs) ∧ S a = none ∧ fs.map Prod.fst = ns ∧ RpL K H S ds (fs.map Prod.snd)
  | .tupX ds, v => ∃ a o vs, v = .ref a ∧ H a = some (.frz o (.tup vs)) ∧ o.dict = none ∧ RpL K H S ds vs
  | .obj a, v => v = .ref a
  | .ty n, v => v = .ty n
  | .fn x, v => ∃ f, v = .ref f ∧ PySem.W.nsIn K mainGlobals x = some (some (.ref f))
  | .hob o, v => ∃ a, v = .ref a ∧ H a = some o ∧ S a = none
  | .dct ks ds, v => ∃ a kvs, v = .ref a ∧ H a = some (.dK kvs) ∧ S a = none ∧ kvs.map Prod.fst = ks ∧ RpL K H S ds (kvs.map Prod.snd)
  | .exc a od ns ds, v => v = .ref a ∧ (od = none → ns = []) ∧ (∀ dx, od = some dx → ∃ fs, H dx = some (.xd fs) ∧ S dx = none ∧ (ns = [] ∨ (fs.map Prod.fst = ns ∧ RpL K H S ds (fs.map Prod.snd))))
def RpL (K : PySem.W.Frag) (H : Hp) (S : Sd) : List D → List V → Prop
  | [], vs => vs = []
  | d :: ds, vs => ∃ v r, vs = v :: r ∧ Rp K H S d v ∧ RpL K H S ds r
end

def SoOk (K : PySem.W.Frag) (H : Hp) (S : Sd) (a : Addr) : SO → Prop
  | .lst ds => ∃ vs, H a = some (.lst vs) ∧ RpL K H S ds vs
  | .ins n ns ds => ∃ C dx fs, ClsAt K n C ∧ H a = some (.ins C dx fs) ∧ fs.map Prod.fst = ns ∧ RpL K H S ds (fs.map Prod.snd)
  | .tab q => LamX.TabS H a q
  | .dic ks ds => ∃ kvs, H a = some (.dK kvs) ∧ kvs.map Prod.fst = ks ∧ RpL K H S ds (kvs.map Prod.snd)
def RelS (K : PySem.W.Frag) (H : Hp) (S : Sd) : Prop := ∀ a o, S a = some o → SoOk K H S a o
/-- what is not owned stays, and stays not owned -/
def Step (H : Hp) (S : Sd) (H' : Hp) (S' : Sd) : Prop := ∀ a o, H a = some o → S a = none → H' a = some o ∧ S' a = none

section
variable {K : PySem.W.Frag} {H H' H2 : Hp} {S S' S2 : Sd} {a p : Addr} {ds es : List D} {vs ws : List V} {d : D} {v : V}

theorem RelS.some_h (R : RelS K H S) {o : SO} (h : S a = some o) : (∃ vs, H a = some (.lst vs)) ∨ (∃ C dx fs, H a = some (.ins C dx fs)) ∨ (∃ ps, H a = some (.tbl ps)) ∨ ∃ kvs, H a = some (.dK kvs) := by
  have x := R a o h
  cases o with
  | lst ds => obtain ⟨vs, e, _⟩ := x; exact .inl ⟨vs, e⟩
  | ins C ns ds => obtain ⟨C, dx, fs, _, e, _⟩ := x; exact .inr (.inl ⟨C, dx, fs, e⟩)
  | tab q => obtain ⟨ps, e, _⟩ := x; exact .inr (.inr (.inl ⟨ps, e⟩))
  | dic ks ds => obtain ⟨kvs, e, _⟩ := x; exact .inr (.inr (.inr ⟨kvs, e⟩))
theorem RelS.freeOf (R : RelS K H S) (h1 : ∀ vs, H a ≠ some (.lst vs)) (h2 : ∀ C dx fs, H a ≠ some (.ins C dx fs)) (h3 : ∀ ps, H a ≠ some (.tbl ps)) (h4 : ∀ kvs, H a ≠ some (.dK kvs)) : S a = none := by
  cases e : S a with
  | none => rfl
  | some o =>
    rcases R.some_h e with ⟨vs, q⟩ | ⟨C, dx, fs, q⟩ | ⟨ps, q⟩ | ⟨kvs, q⟩
    · exact absurd q (h1 vs)
    · exact absurd q (h2 C dx fs)
    · exact absurd q (h3 ps)
    · exact absurd q (h4 kvs)
theorem RelS.free (R : RelS K H S) (h : H a = none) : S a = none := R.freeOf (fun _ q => by rw [h] at q; cases q) (fun _ _ _ q => by rw [h] at q; cases q) (fun _ q => by rw [h] at q; cases q) fun _ q => by rw [h] at q; cases q
theorem RelS.tupFree (R : RelS K H S) (h : H a = some (.tup vs)) : S a = none := R.freeOf (fun _ q => by rw [h] at q; cases q) (fun _ _ _ q => by rw [h] at q; cases q) (fun _ q => by rw [h] at q; cases q) fun _ q => by rw [h] at q; cases q
theorem RelS.frzFree {o : Obj} {u : HO} (R : RelS K H S) (h : H a = some (.frz o u)) : S a = none := R.freeOf (fun _ q => by rw [h] at q; cases q) (fun _ _ _ q => by rw [h] at q; cases q) (fun _ q => by rw [h] at q; cases q) fun _ q => by rw [h] at q; cases q
theorem RelS.codeFree {q : Str} (R : RelS K H S) (h : H a = some (LamX.CodeO a q)) : S a = none := R.freeOf (fun _ z => by rw [h] at z; cases z) (fun _ _ _ z => by rw [h] at z; cases z) (fun ps z => by rw [h] at z; exact LamX.codeO_ne ps (Option.some.inj z)) fun _ z => by rw [h] at z; cases z

theorem Step.refl : Step H S H S := fun _ _ h1 h2 => ⟨h1, h2⟩
theorem Step.trans (s1 : Step H S H' S') (s2 : Step H' S' H2 S2) : Step H S H2 S2 := fun b o h1 h2 =>
  let ⟨q1, q2⟩ := s1 b o h1 h2
  s2 b o q1 q2
theorem step_rdT (R : RelS K H S) (s : Step H S H' S') (h : Rd H a (.tup vs)) : Rd H' a (.tup vs) := by
  rcases h with h | ⟨o, h⟩
  · exact .inl (s a _ h (R.tupFree h)).1
  · exact .inr ⟨o, (s a _ h (R.frzFree h)).1⟩
theorem step_sqT (R : RelS K H S) (s : Step H S H' S') (h : SqT K H a vs) : SqT K H' a vs := by
  rcases h with h | h
  · exact .inl (step_rdT R s h)
  · exact .inr h
theorem step_rdL (s : Step H S H' S') (h : Rd H a (.lst vs)) (n : S a = none) : Rd H' a (.lst vs) ∧ S' a = none := by
  rcases h with h | ⟨o, h⟩
  · exact ⟨.inl (s a _ h n).1, (s a _ h n).2⟩
  · exact ⟨.inr ⟨o, (s a _ h n).1⟩, (s a _ h n).2⟩

mutual
theorem rp_step (R : RelS K H S) (s : Step H S H' S') : ∀ (d : D) (v : V), Rp K H S d v → Rp K H' S' d v
  | .non, v, h => h
  | .bl _, v, h => h
  | .int _, v, h => h
  | .str _, v, h => h
  | .tup ds, v, h => by
    obtain ⟨a, vs, e, q, r⟩ := h
    exact ⟨a, vs, e, step_sqT R s q, rpL_step R s ds vs r⟩
  | .lst ds, v, h => by
    obtain ⟨a, vs, e, q, r⟩ := h
    refine ⟨a, vs, e, ?_, rpL_step R s ds vs r⟩
    rcases q with ⟨q, n⟩ | q
    · exact .inl (step_rdL s q n)
    · exact .inr q
  | .inst C ns ds, v, h => by
    obtain ⟨C, a, dx, fs, c, e, q, n, hn, r⟩ := h
    exact ⟨C, a, dx, fs, c, e, (s a _ q n).1, (s a _ q n).2, hn, rpL_step R s ds _ r⟩
  | .tupX ds, v, h => by
    obtain ⟨a, o, vs, e, q, n, r⟩ := h
    exact ⟨a, o, vs, e, (s a _ q (R.frzFree q)).1, n, rpL_step R s ds vs r⟩
  | .obj _, v, h => h
  | .ty _, v, h => h
  | .fn _, v, h => h
  | .hob o, v, h => by
    obtain ⟨a, e, h1, h2⟩ := h
    exact ⟨a, e, s a _ h1 h2⟩
  | .dct ks ds, v, h => by
    obtain ⟨a, kvs, e, h1, h2, hn, r⟩ := h
    exact ⟨a, kvs, e, (s a _ h1 h2).1, (s a _ h1 h2).2, hn, rpL_step R s ds _ r⟩
  | .exc a od ns ds, v, h => by
    obtain ⟨e, h0, h1⟩ := h
    refine ⟨e, h0, fun dx ed => ?_⟩
    obtain ⟨fs, q, n, r⟩ := h1 dx ed
    exact ⟨fs, (s dx _ q n).1, (s dx _ q n).2, r.imp id fun ⟨e1, r1⟩ => ⟨e1, rpL_step R s ds _ r1⟩⟩
theorem rpL_step (R : RelS K H S) (s : Step H S H' S') : ∀ (ds : List D) (vs : List V), RpL K H S ds vs → RpL K H' S' ds vs
  | [], vs, h => h
  | d :: ds, vs, h => by
    obtain ⟨v, r, e, h1, h2⟩ := h
    exact ⟨v, r, e, rp_step R s d v h1, rpL_step R s ds r h2⟩
end

theorem rpL_nil : RpL K H S [] [] := rfl
theorem rpL_cons (h : Rp K H S d v) (r : RpL K H S ds vs) : RpL K H S (d :: ds) (v :: vs) := ⟨v, vs, rfl, h, r⟩
theorem rpL_len : ∀ {ds : List D} {vs : List V}, RpL K H S ds vs → ds.length = vs.length
  | [], vs, h => by
    have e : vs = [] := h
    rw [e]; rfl
  | d :: ds, vs, h => by
    obtain ⟨v, r, e, _, h2⟩ := h
    rw [e, List.length_cons, List.length_cons, rpL_len h2]
theorem rpL_get : ∀ {ds : List D} {vs : List V} {i : Nat} {d : D}, RpL K H S ds vs → ds[i]? = some d → ∃ v, vs[i]? = some v ∧ Rp K H S d v
  | [], _, i, d, _, e => by simp at e
  | d0 :: ds, vs, 0, d, h, e => by
    obtain ⟨v, r, e1, h1, h2⟩ := h
    simp at e
    subst e e1
    exact ⟨v, by simp, h1⟩
  | d0 :: ds, vs, i + 1, d, h, e => by
    obtain ⟨v, r, e1, h1, h2⟩ := h
    subst e1
    obtain ⟨w, q1, q2⟩ := rpL_get (i := i) h2 (by simpa using e)
    exact ⟨w, by simpa using q1, q2⟩
theorem rpL_app : ∀ {ds : List D} {vs : List V}, RpL K H S ds vs → RpL K H S es ws → RpL K H S (ds ++ es) (vs ++ ws)
  | [], vs, h, k => by
    have e : vs = [] := h
    subst e
    exact k
  | d :: ds, vs, h, k => by
    obtain ⟨v, r, e, h1, h2⟩ := h
    subst e
    exact ⟨v, r ++ ws, rfl, h1, rpL_app h2 k⟩
theorem rpL_take : ∀ {ds : List D} {vs : List V} (n : Nat), RpL K H S ds vs → RpL K H S (ds.take n) (vs.take n)
  | [], vs, n, h => by
    have e : vs = [] := h
    subst e
    simp [RpL]
  | d :: ds, vs, 0, h => by simp [RpL]
  | d :: ds, vs, n + 1, h => by
    obtain ⟨v, r, e, h1, h2⟩ := h
    subst e
    exact ⟨v, r.take n, rfl, h1, rpL_take n h2⟩
theorem rpL_drop : ∀ {ds : List D} {vs : List V} (n : Nat), RpL K H S ds vs → RpL K H S (ds.drop n) (vs.drop n)
  | [], vs, n, h => by
    have e : vs = [] := h
    subst e
    simp [RpL]
  | d :: ds, vs, 0, h => h
  | d :: ds, vs, n + 1, h => by
    obtain ⟨v, r, e, h1, h2⟩ := h
    subst e
    exact rpL_drop n h2
theorem rpL_set : ∀ {ds : List D} {vs : List V} (n : Nat), RpL K H S ds vs → Rp K H S d v → RpL K H S (ds.set n d) (vs.set n v)
  | [], vs, n, h, k => by
    have e : vs = [] := h
    subst e
    simp [RpL]
  | d0 :: ds, vs, 0, h, k => by
    obtain ⟨w, r, e, h1, h2⟩ := h
    subst e
    exact ⟨v, r, rfl, k, h2⟩
  | d0 :: ds, vs, n + 1, h, k => by
    obtain ⟨w, r, e, h1, h2⟩ := h
    subst e
    exact ⟨w, r.set n v, rfl, h1, rpL_set n h2 k⟩
theorem soOk_step (R : RelS K H S) (s : Step H S H' S') {o : SO} (h : SoOk K H S a o) (k : ∀ u, H a = some u → H' a = some u) : SoOk K H' S' a o := by
  cases o with
  | lst ds => obtain ⟨vs, e, r⟩ := h; exact ⟨vs, k _ e, rpL_step R s _ _ r⟩
  | ins C ns ds => obtain ⟨C, dx, fs, c, e, n, r⟩ := h; exact ⟨C, dx, fs, c, k _ e, n, rpL_step R s _ _ r⟩
  | dic ks ds => obtain ⟨kvs, e, n, r⟩ := h; exact ⟨kvs, k _ e, n, rpL_step R s _ _ r⟩
  | tab q =>
    obtain ⟨ps, e, t, c⟩ := h
    refine ⟨ps, k _ e, t, fun pos cv hc => ?_⟩
    obtain ⟨c', e1, e2⟩ := c pos cv hc
    exact ⟨c', e1, (s c' _ e2 (R.codeFree e2)).1⟩

/-- a new object, not owned -/
theorem step_new {o : HO} (h : H p = none) : Step H S (upd H p o) S := fun b u h1 h2 => ⟨by rw [upd_ne (ne_of_none h1 h)]; exact h1, h2⟩
theorem rel_new {o : HO} (R : RelS K H S) (h : H p = none) : RelS K (upd H p o) S := fun b u e =>
  soOk_step R (step_new h) (R b u e) fun w hw => by rw [upd_ne (ne_of_none hw h)]; exact hw
/-- a new object, owned -/
theorem step_own {o : HO} {u : SO} (h : H p = none) : Step H S (upd H p o) (upS S p u) := fun b w h1 h2 => by
  have n := ne_of_none h1 h
  exact ⟨by rw [upd_ne n]; exact h1, by rw [upS_ne n]; exact h2⟩
theorem rel_own {o : HO} {u : SO} (R : RelS K H S) (h : H p = none) (k : SoOk K (upd H p o) (upS S p u) p u) : RelS K (upd H p o) (upS S p u) := fun b w e => by
  by_cases hb : b = p
  · subst hb
    rw [upS_same] at e
    cases e
    exact k
  · rw [upS_ne hb] at e
    exact soOk_step R (step_own h) (R b w e) fun x hx => by rw [upd_ne hb]; exact hx
/-- an owned object is changed -/
theorem step_set {o : HO} {u u0 : SO} (h : S a = some u0) : Step H S (upd H a o) (upS S a u) := fun b w h1 h2 => by
  have n : b ≠ a := fun e => by rw [e, h] at h2; cases h2
  exact ⟨by rw [upd_ne n]; exact h1, by rw [upS_ne n]; exact h2⟩
theorem rel_set {o : HO} {u u0 : SO} (R : RelS K H S) (h : S a = some u0) (k : SoOk K (upd H a o) (upS S a u) a u) : RelS K (upd H a o) (upS S a u) := fun b w e => by
  by_cases hb : b = a
  · subst hb
    rw [upS_same] at e
    cases e
    exact k
  · rw [upS_ne hb] at e
    exact soOk_step R (step_set h) (R b w e) fun x hx => by rw [upd_ne hb]; exact hx
/-- an owned object is let go -/
theorem step_del : Step H S H (del S a) := fun b w h1 h2 => ⟨h1, by
  by_cases e : b = a
  · rw [e]; exact del_same
  · rw [del_ne e]; exact h2⟩
theorem rel_del (R : RelS K H S) : RelS K H (del S a) := fun b w e => by
  by_cases hb : b = a
  · rw [hb, del_same] at e; cases e
  · rw [del_ne hb] at e
    exact soOk_step R step_del (R b w e) fun x hx => hx
theorem rp_frozen (R : RelS K H S) (h : S a = some (.lst ds)) : Rp K H (del S a) (.lst ds) (.ref a) := by
  obtain ⟨vs, e, r⟩ := R a _ h
  exact ⟨a, vs, rfl, .inl ⟨.inl e, del_same⟩, rpL_step R step_del _ _ r⟩
theorem rp_frozenI {C : Str} {ns : List Str} (R : RelS K H S) (h : S a = some (.ins C ns ds)) : Rp K H (del S a) (.inst C ns ds) (.ref a) := by
  obtain ⟨C, dx, fs, c, e, n, r⟩ := R a _ h
  exact ⟨C, a, dx, fs, c, rfl, e, del_same, n, rpL_step R step_del _ _ r⟩
end

/-! ### the state by values -/
abbrev Si := List (Option D)
abbrev DK := D → Sd → Prop
abbrev TED := Si → Sd → DK → Prop
abbrev TTD := Si → Sd → (Bool → Sd → Prop) → Prop
abbrev TAD := Si → Sd → (List D → Sd → Prop) → Prop
structure EndsD where
  nx : Si → Sd → Prop
  rt : DK
  bk : Si → Sd → Prop := fun _ _ => False
  ct : Si → Sd → Prop := fun _ _ => False
abbrev TSD := EndsD → Si → Sd → Prop
/-- an exception by values: its class, its own fields -/
structure Xd where
  cls : Str
  ns : List Str
  xs : List D
abbrev XKD := Xd → Sd → Prop
abbrev WXD := Xd → Si → Sd → Prop

structure Ok (K : PySem.W.Frag) (H : Hp) (S : Sd) (fr : List (V × D)) (σd : Si) (σ : L2.St) : Prop where
  rel : RelS K H S
  fr : ∀ p ∈ fr, Rp K H S p.2 p.1
  len : σd.length = σ.length
  si : ∀ (i : Nat) (d : D), σd[i]? = some (some d) → ∃ v, σ[i]? = some (some v) ∧ Rp K H S d v
/-- the exception's object: its class by the module's name, its own dict bears its fields -/
def RpX (K : PySem.W.Frag) (H : Hp) (S : Sd) (x : Xd) (cls : Value) (od : Option Addr) : Prop :=
  PySem.W.nsIn K mainGlobals x.cls = some (some cls) ∧ (od = none → x.ns = []) ∧ (∀ dx, od = some dx → ∃ fs, H dx = some (.xd fs) ∧ S dx = none ∧ (x.ns = [] ∨ (fs.map Prod.fst = x.ns ∧ RpL K H S x.xs (fs.map Prod.snd))))
/-- what is wished of exceptions: by the heap, by values -/
structure Wi where
  V : L2.WX
  D : WXD
abbrev W0 : Wi := ⟨fun _ _ _ _ => False, fun _ _ _ => False⟩
def Cl (K : PySem.W.Frag) (W : Wi) (fr : List (V × D)) : Prop := ∀ σd σ H S cls od x, Ok K H S fr σd σ → RpX K H S x cls od → W.D x σd S → W.V cls od σ H
theorem Cl.zero {K : PySem.W.Frag} {fr : List (V × D)} : Cl K W0 fr := fun _ _ _ _ _ _ _ _ _ h => h

section
variable {K : PySem.W.Frag} {H H' : Hp} {S S' : Sd} {fr : List (V × D)} {σd : Si} {σ : L2.St} {d : D} {v : V} {W : Wi}
theorem Ok.step (o : Ok K H S fr σd σ) (s : Step H S H' S') (r : RelS K H' S') : Ok K H' S' fr σd σ :=
  ⟨r, fun p hp => rp_step o.rel s _ _ (o.fr p hp), o.len, fun i d e => let ⟨v, h1, h2⟩ := o.si i d e; ⟨v, h1, rp_step o.rel s _ _ h2⟩⟩
theorem Ok.cons (o : Ok K H S fr σd σ) (h : Rp K H S d v) : Ok K H S ((v, d) :: fr) σd σ :=
  ⟨o.rel, fun p hp => by
    rcases List.mem_cons.mp hp with e | hp
    · rw [e]; exact h
    · exact o.fr p hp, o.len, o.si⟩
theorem Ok.tail {q : V × D} (o : Ok K H S (q :: fr) σd σ) : Ok K H S fr σd σ := ⟨o.rel, fun p hp => o.fr p (List.mem_cons_of_mem _ hp), o.len, o.si⟩
theorem Ok.head {q : V × D} (o : Ok K H S (q :: fr) σd σ) : Rp K H S q.2 q.1 := o.fr q List.mem_cons_self
theorem Ok.set (o : Ok K H S fr σd σ) (h : Rp K H S d v) (i : Nat) : Ok K H S fr (σd.set i (some d)) (σ.set i (some v)) := by
  refine ⟨o.rel, o.fr, by rw [List.length_set, List.length_set]; exact o.len, fun j e q => ?_⟩
  by_cases hj : i = j
  · subst hj
    have hl : i < σd.length := by
      rcases Nat.lt_or_ge i σd.length with z | z
      · exact z
      · have w : (σd.set i (some d))[i]? = none := List.getElem?_eq_none (by rw [List.length_set]; exact z)
        rw [w] at q; cases q
    rw [List.getElem?_set_self hl] at q
    cases q
    exact ⟨v, List.getElem?_set_self (by rw [← o.len]; exact hl), h⟩
  · rw [List.getElem?_set_ne hj] at q
    obtain ⟨w, h1, h2⟩ := o.si j e q
    exact ⟨w, by rw [List.getElem?_set_ne hj]; exact h1, h2⟩
theorem Ok.gone (o : Ok K H S fr σd σ) (i : Nat) (w : Option V) : Ok K H S fr (σd.set i none) (σ.set i w) := by
  refine ⟨o.rel, o.fr, by rw [List.length_set, List.length_set]; exact o.len, fun j e q => ?_⟩
  by_cases hj : i = j
  · subst hj
    rcases Nat.lt_or_ge i σd.length with z | z
    · rw [List.getElem?_set_self z] at q; cases q
    · have w : (σd.set i none)[i]? = none := List.getElem?_eq_none (by rw [List.length_set]; exact z)
      rw [w] at q; cases q
  · rw [List.getElem?_set_ne hj] at q
    obtain ⟨w, h1, h2⟩ := o.si j e q
    exact ⟨w, by rw [List.getElem?_set_ne hj]; exact h1, h2⟩
theorem Cl.tail {q : V × D} (c : Cl K W fr) : Cl K W (q :: fr) := fun σd σ H S cls od x o => c σd σ H S cls od x o.tail

/-! ### readings by values, lifted -/
def upE (K : PySem.W.Frag) (W : Wi) (t : TED) : TE := fun σ H Qv => ∃ σd S fr Qd, Ok K H S fr σd σ ∧ Cl K W fr ∧ t σd S Qd ∧ ∀ v d H' S', Ok K H' S' fr σd σ → Rp K H' S' d v → Qd d S' → Qv v H'
def upT (K : PySem.W.Frag) (W : Wi) (t : TTD) : TT := fun σ H Qv => ∃ σd S fr Qd, Ok K H S fr σd σ ∧ Cl K W fr ∧ t σd S Qd ∧ ∀ b H' S', Ok K H' S' fr σd σ → Qd b S' → Qv b H'
def upA (K : PySem.W.Frag) (W : Wi) (t : TAD) : TA := fun σ H Qv => ∃ σd S fr Qd, Ok K H S fr σd σ ∧ Cl K W fr ∧ t σd S Qd ∧ ∀ vs ds H' S', Ok K H' S' fr σd σ → RpL K H' S' ds vs → Qd ds S' → Qv vs H'
structure EndOk (K : PySem.W.Frag) (fr : List (V × D)) (Dd : EndsD) (D : Ends) : Prop where
  nx : ∀ σd σ H S, Ok K H S fr σd σ → Dd.nx σd S → D.nx σ H
  rt : ∀ v d σd σ H S, Ok K H S fr σd σ → Rp K H S d v → Dd.rt d S → D.rt v H
  bk : ∀ σd σ H S, Ok K H S fr σd σ → Dd.bk σd S → D.bk σ H
  ct : ∀ σd σ H S, Ok K H S fr σd σ → Dd.ct σd S → D.ct σ H
def upSt (K : PySem.W.Frag) (W : Wi) (t : TSD) : TS := fun D σ H => ∃ σd S fr Dd, Ok K H S fr σd σ ∧ Cl K W fr ∧ t Dd σd S ∧ EndOk K fr Dd D
end

theorem PE.imp {X : Cx} {e : Expr} {t t' : TE} (h : PE X e t) (k : ∀ σ H Q, t' σ H Q → t σ H Q) : PE X e t' := ⟨fun pins s σ H Q I q => h.run pins s σ H Q I (k _ _ _ q)⟩
theorem PT.imp {X : Cx} {e : Expr} {t t' : TT} (h : PT X e t) (k : ∀ σ H Q, t' σ H Q → t σ H Q) : PT X e t' := ⟨fun pins s σ H Q I q => h.run pins s σ H Q I (k _ _ _ q)⟩
theorem PW.imp {X : Cx} {e : Expr} {t t' : TT} (h : PW X e t) (k : ∀ σ H Q, t' σ H Q → t σ H Q) : PW X e t' := ⟨fun wh pins s σ H Q I q => h.run wh pins s σ H Q I (k _ _ _ q)⟩
theorem PA.imp {X : Cx} {e : List Expr} {t t' : TA} (h : PA X e t) (k : ∀ σ H Q, t' σ H Q → t σ H Q) : PA X e t' := ⟨fun pos pins s σ H Q I q => h.run pos pins s σ H Q I (k _ _ _ q)⟩
theorem PS.imp {X : Cx} {e : Stmt} {t t' : TS} (h : PS X e t) (k : ∀ D σ H, t' D σ H → t D σ H) : PS X e t' := ⟨fun pins s σ H D I q => h.run pins s σ H D I (k _ _ _ q)⟩
theorem PSs.imp {X : Cx} {e : List Stmt} {t t' : TS} (h : PSs X e t) (k : ∀ D σ H, t' D σ H → t D σ H) : PSs X e t' := ⟨fun pins s σ H D I q => h.run pins s σ H D I (k _ _ _ q)⟩

structure DE (X : Cx) (W : Wi) (e : Expr) (t : TED) : Prop where
  p : PE X e (upE X.K W t)
structure DT (X : Cx) (W : Wi) (e : Expr) (t : TTD) : Prop where
  p : PT X e (upT X.K W t)
structure DW (X : Cx) (W : Wi) (e : Expr) (t : TTD) : Prop where
  p : PW X e (upT X.K W t)
structure DA (X : Cx) (W : Wi) (es : List Expr) (t : TAD) : Prop where
  p : PA X es (upA X.K W t)
structure DS (X : Cx) (W : Wi) (s : Stmt) (t : TSD) : Prop where
  p : PS X s (upSt X.K W t)
structure DB (X : Cx) (W : Wi) (s : List Stmt) (t : TSD) : Prop where
  p : PSs X s (upSt X.K W t)
end Dv

/-! Readings by value, 1: expressions, tests, operators, displays, subscripts. -/
namespace Dv
open PySem L2 PyProof.Rows

theorem sl_eq : sizeLine = 16777216 := sizeLine_eq
theorem sz_le {n : Nat} (h : n ≤ 16777216) : n ≤ sizeLine := by rw [sl_eq]; exact h
theorem sz_lt' {n : Nat} (h : n < 16777216) : n < sizeLine := by rw [sl_eq]; exact h

section
variable {X : Cx} {W : Wi} {a b c e : Expr} {ta tb tc : TED} {tA tB : TTD} {pos : Pos} {es : List Expr}

/-! ### names, constants -/
def dVar (i : Nat) : TED := fun σ S Q => match σ[i]? with
  | some (some d) => Q d S
  | _ => False
theorem dVar_of {i : Nat} {σ : Si} {S : Sd} {Q : DK} {d : D} (h : σ[i]? = some (some d)) : dVar i σ S Q = Q d S := by unfold dVar; rw [h]
theorem dVar_inv {i : Nat} {σ : Si} {S : Sd} {Q : DK} (h : dVar i σ S Q) : ∃ d, σ[i]? = some (some d) ∧ Q d S := by
  unfold dVar at h
  split at h
  · exact ⟨_, by assumption, h⟩
  · exact h.elim
theorem dv (i : Nat) {x : Str} {pos : Pos} (hN : X.N[i]? = some x := by rfl) (hv : Vis X.env.scope x := by first | exact Or.inl rfl | exact Or.inr (Or.inl rfl) | exact Or.inr (Or.inr rfl)) (hd : (x == ("__debug__" : Str)) = false := by decide)
    (hcd : (x == ("__classdict__" : Str)) = false := by decide) : DE X W (.Name x pos) (dVar i) :=
  ⟨PE.imp (pe_var hN hv hd hcd) fun σ H Q ⟨σd, S, fr, Qd, ok, cl, h, k⟩ => by
    obtain ⟨d, e, q⟩ := dVar_inv h
    obtain ⟨v, e2, r⟩ := ok.si i d e
    exact ⟨v, e2, k v d H S ok r q⟩⟩
def dC (d : D) : TED := fun _ S Q => Q d S
theorem de_c {v : V} {d : D} (h : PE X e (tC v)) (r : ∀ H S, Rp X.K H S d v) : DE X W e (dC d) :=
  ⟨PE.imp h fun σ H Q ⟨σd, S, fr, Qd, ok, cl, q, k⟩ => k v d H S ok (r H S) q⟩
theorem de_int {i j pos} : DE X W (.Constant (.int i) j pos) (dC (.int i)) := de_c pe_int fun _ _ => rfl
theorem de_bl {i j pos} : DE X W (.Constant (.bool i) j pos) (dC (.bl i)) := de_c pe_bl fun _ _ => rfl
theorem de_non {j pos} : DE X W (.Constant .none j pos) (dC .non) := de_c pe_non fun _ _ => rfl
theorem de_str {x j pos} : DE X W (.Constant (.str x) j pos) (dC (.str x)) := de_c pe_str fun _ _ => rfl
/-- a module's constant -/
theorem de_k {x : Str} {v : V} {d : D} {u : Value} {pos : Pos} (hg : Gl X x) (hm : X.mg x = some u) (r : RelV v u) (kr : ∀ H S, Rp X.K H S d v) (hd : (x == ("__debug__" : Str)) = false := by decide) : DE X W (.Name x pos) (dC d) := de_c (pe_glob hg hm r hd) kr
/-- a built-in class as a value -/
theorem de_ty {x : Str} {n : String} {pos : Pos} (hg : Gl X x) (hm : X.mg x = none) (hv : bootBuiltins x = some (.type n)) (hn : x ≠ "__name__" := by decide) (hd : (x == ("__debug__" : Str)) = false := by decide) : DE X W (.Name x pos) (dC (.ty n)) :=
  de_c (pe_bltn (v := .ty n) hg hm hv rfl hn hd) fun _ _ => rfl

/-! ### operators -/
abbrev RD2 := D → D → Sd → DK → Prop
def Lift2 (K : PySem.W.Frag) (r : R2) (rd : RD2) : Prop := ∀ H S fr σd σ x y dx dy Qv Qd, Ok K H S fr σd σ → Rp K H S dx x → Rp K H S dy y → rd dx dy S Qd →
  (∀ v d H' S', Ok K H' S' fr σd σ → Rp K H' S' d v → Qd d S' → Qv v H') → r x y H Qv
def OpD (X : Cx) (f : Value → Value → Sem Value) (rd : RD2) : Prop := ∃ r : R2, OpR X f r ∧ Lift2 X.K r rd
def dOp (rd : RD2) (ta tb : TED) : TED := fun σ S Q => ta σ S fun x S1 => tb σ S1 fun y S2 => rd x y S2 Q
theorem op2_lift {r : R2} {rd : RD2} (l : Lift2 X.K r rd) (σ : L2.St) (H : Hp) (Q : VK) (h : upE X.K W (dOp rd ta tb) σ H Q) : tOp r (upE X.K W ta) (upE X.K W tb) σ H Q := by
  obtain ⟨σd, S, fr, Qd, ok, cl, h, k⟩ := h
  refine ⟨σd, S, fr, _, ok, cl, h, fun x dx H1 S1 ok1 r1 h1 => ?_⟩
  refine ⟨σd, S1, (x, dx) :: fr, _, ok1.cons r1, cl.tail, h1, fun y dy H2 S2 ok2 r2 h2 => ?_⟩
  exact l H2 S2 fr σd σ x y dx dy Q Qd ok2.tail ok2.head r2 h2 k
theorem de_op {op : Operator} {rd : RD2} (ho : OpD X (binaryOp op) rd) (ha : DE X W a ta) (hb : DE X W b tb) : DE X W (.BinOp a op b pos) (dOp rd ta tb) := by
  obtain ⟨r, ho, l⟩ := ho
  exact ⟨PE.imp (pe_op ho ha.p hb.p) (op2_lift l)⟩
theorem de_cmp {op : CmpOp} {rd : RD2} (ho : OpD X (compareOp op) rd) (ha : DE X W a ta) (hb : DE X W b tb) (hm : behindInMarks op b = false) : DE X W (.Compare a [op] [b] pos) (dOp rd ta tb) := by
  obtain ⟨r, ho, l⟩ := ho
  exact ⟨PE.imp (pe_cmpR ho ha.p hb.p hm) (op2_lift l)⟩
/-- a value that is a truth, as a test -/
def dTest (t : TED) : TTD := fun σ S Q => t σ S fun x S1 => match x with
  | .bl k => Q k S1
  | _ => False
theorem test_lift {t : TED} (σ : L2.St) (H : Hp) (Q : Bool → Hp → Prop) (h : upT X.K W (dTest t) σ H Q) : tTest (upE X.K W t) σ H Q := by
  obtain ⟨σd, S, fr, Qd, ok, cl, h, k⟩ := h
  refine ⟨σd, S, fr, _, ok, cl, h, fun x dx H1 S1 ok1 r1 h1 => ?_⟩
  cases dx with
  | bl b => exact ⟨b, r1, k b H1 S1 ok1 h1⟩
  | _ => exact (show False from h1).elim
theorem tTest_mono {t t' : TE} (h : ∀ σ H Q, t' σ H Q → t σ H Q) (σ : L2.St) (H : Hp) (Q : Bool → Hp → Prop) (q : tTest t' σ H Q) : tTest t σ H Q := h σ H _ q
theorem dt_cmp {op : CmpOp} {rd : RD2} (ho : OpD X (compareOp op) rd) (ha : DE X W a ta) (hb : DE X W b tb) (hm : behindInMarks op b = false) : DT X W (.Compare a [op] [b] pos) (dTest (dOp rd ta tb)) := by
  obtain ⟨r, ho, l⟩ := ho
  exact ⟨PT.imp (pt_cmpR ho ha.p hb.p hm) fun σ H Q h => tTest_mono (op2_lift l) σ H Q (test_lift σ H Q h)⟩
/-- an expression whose value is a truth, as a test -/
theorem dt_val {t : TED} (h : DE X W e t) (he : ∀ whole, isTrue e X.env whole = (do let v ← whole; standAt e.pos; holding [v] (truthy v)) := by intro _; rfl) : DT X W e (dTest t) :=
  ⟨PT.imp (pt_val h.p he) fun σ H Q q => test_lift σ H Q q⟩
def dUn (rd : D → Sd → DK → Prop) (ta : TED) : TED := fun σ S Q => ta σ S fun x S1 => rd x S1 Q
def Lift1 (K : PySem.W.Frag) (r : V → Hp → VK → Prop) (rd : D → Sd → DK → Prop) : Prop := ∀ H S fr σd σ x dx Qv Qd, Ok K H S fr σd σ → Rp K H S dx x → rd dx S Qd →
  (∀ v d H' S', Ok K H' S' fr σd σ → Rp K H' S' d v → Qd d S' → Qv v H') → r x H Qv
theorem de_un {op : UnaryOp} {r : V → Hp → VK → Prop} {rd : D → Sd → DK → Prop} (ho : UnR X (unaryOp op) r) (l : Lift1 X.K r rd) (ha : DE X W a ta) : DE X W (.UnaryOp op a pos) (dUn rd ta) :=
  ⟨PE.imp (pe_un ho ha.p) fun σ H Q ⟨σd, S, fr, Qd, ok, cl, h, k⟩ => ⟨σd, S, fr, _, ok, cl, h, fun x dx H1 S1 ok1 r1 h1 => l H1 S1 fr σd σ x dx Q Qd ok1 r1 h1 k⟩⟩
def rdNeg : D → Sd → DK → Prop
  | .int i, S, Q => Q (.int (-i)) S
  | _, _, _ => False
theorem de_neg (ha : DE X W a ta) : DE X W (.UnaryOp .USub a pos) (dUn rdNeg ta) := de_un un_neg (fun H S fr σd σ x dx Qv Qd ok r h k => by
  cases dx with
  | int i => exact ⟨i, r, k _ (.int (-i)) H S ok rfl h⟩
  | _ => exact (show False from h).elim) ha

/-! ### and, or, not -/
def dAndV (ta tb : TED) : TED := fun σ S Q => ta σ S fun x S1 => match x with
  | .bl k => if k = true then tb σ S1 Q else Q (.bl false) S1
  | _ => False
def dOrV (ta tb : TED) : TED := fun σ S Q => ta σ S fun x S1 => match x with
  | .bl k => if k = true then Q (.bl true) S1 else tb σ S1 Q
  | _ => False
def dNotV (ta : TED) : TED := fun σ S Q => ta σ S fun x S1 => match x with
  | .bl k => Q (.bl (!k)) S1
  | _ => False
theorem de_one {op : BoolOp} (h : DE X W a ta) : DE X W (.BoolOp op [a] pos) ta := ⟨pe_one h.p⟩
theorem de_and {rest : List Expr} (ha : DE X W a ta) (hb : DE X W (.BoolOp .And (b :: rest) pos) tb) : DE X W (.BoolOp .And (a :: b :: rest) pos) (dAndV ta tb) :=
  ⟨PE.imp (pe_and ha.p hb.p) fun σ H Q ⟨σd, S, fr, Qd, ok, cl, h, k⟩ => ⟨σd, S, fr, _, ok, cl, h, fun x dx H1 S1 ok1 r1 h1 => by
    cases dx with
    | bl b =>
      refine ⟨b, r1, ?_⟩
      cases b with
      | true => exact (if_pos rfl : _ = _) ▸ ⟨σd, S1, fr, Qd, ok1, cl, (show tb σd S1 Qd from by simpa using h1), k⟩
      | false => exact (show Q (.bl false) H1 from k _ (.bl false) H1 S1 ok1 rfl (by simpa using h1))
    | _ => exact (show False from h1).elim⟩⟩
theorem de_not (ha : DE X W a ta) : DE X W (.UnaryOp .Not a pos) (dNotV ta) :=
  ⟨PE.imp (pe_not ha.p) fun σ H Q ⟨σd, S, fr, Qd, ok, cl, h, k⟩ => ⟨σd, S, fr, _, ok, cl, h, fun x dx H1 S1 ok1 r1 h1 => by
    cases dx with
    | bl b => exact ⟨b, r1, k _ (.bl (!b)) H1 S1 ok1 rfl h1⟩
    | _ => exact (show False from h1).elim⟩⟩
def dAnd (t u : TTD) : TTD := fun σ S Q => t σ S fun k S1 => if k = true then u σ S1 Q else Q false S1
def dOr (t u : TTD) : TTD := fun σ S Q => t σ S fun k S1 => if k = true then Q true S1 else u σ S1 Q
def dNot (t : TTD) : TTD := fun σ S Q => t σ S fun k S1 => Q (!k) S1
theorem DW.pt (h : DW X W e tA) : DT X W e tA := ⟨h.p.pt⟩
theorem dw_and1 (ha : DT X W a tA) : DW X W (.BoolOp .And [a] pos) tA := ⟨pw_and1 ha.p⟩
theorem dw_or1 (ha : DT X W a tA) : DW X W (.BoolOp .Or [a] pos) tA := ⟨pw_or1 ha.p⟩
theorem dw_and {rest : List Expr} (ha : DT X W a tA) (hb : DW X W (.BoolOp .And (b :: rest) pos) tB) : DW X W (.BoolOp .And (a :: b :: rest) pos) (dAnd tA tB) :=
  ⟨PW.imp (pw_and ha.p hb.p) fun σ H Q ⟨σd, S, fr, Qd, ok, cl, h, k⟩ => ⟨σd, S, fr, _, ok, cl, h, fun c H1 S1 ok1 h1 => by
    cases c with
    | true => exact (show upT X.K W tB σ H1 Q from ⟨σd, S1, fr, Qd, ok1, cl, (show tB σd S1 Qd from by simpa using h1), k⟩)
    | false => exact (show Q false H1 from k false H1 S1 ok1 (by simpa using h1))⟩⟩
theorem dw_or {rest : List Expr} (ha : DT X W a tA) (hb : DW X W (.BoolOp .Or (b :: rest) pos) tB) : DW X W (.BoolOp .Or (a :: b :: rest) pos) (dOr tA tB) :=
  ⟨PW.imp (pw_or ha.p hb.p) fun σ H Q ⟨σd, S, fr, Qd, ok, cl, h, k⟩ => ⟨σd, S, fr, _, ok, cl, h, fun c H1 S1 ok1 h1 => by
    cases c with
    | false => exact (show upT X.K W tB σ H1 Q from ⟨σd, S1, fr, Qd, ok1, cl, (show tB σd S1 Qd from by simpa using h1), k⟩)
    | true => exact (show Q true H1 from k true H1 S1 ok1 (by simpa using h1))⟩⟩
theorem dt_not (ha : DT X W a tA) : DT X W (.UnaryOp .Not a pos) (dNot tA) :=
  ⟨PT.imp (pt_not ha.p) fun σ H Q ⟨σd, S, fr, Qd, ok, cl, h, k⟩ => ⟨σd, S, fr, _, ok, cl, h, fun c H1 S1 ok1 h1 => k (!c) H1 S1 ok1 h1⟩⟩
def dIf (t : TTD) (ta tb : TED) : TED := fun σ S Q => t σ S fun k S1 => if k = true then ta σ S1 Q else tb σ S1 Q
/-! ### arguments, displays -/
def dNil : TAD := fun _ S Q => Q [] S
def dCons (ta : TED) (tr : TAD) : TAD := fun σ S Q => ta σ S fun x S1 => tr σ S1 fun xs S2 => Q (x :: xs) S2
theorem da_nil : DA X W [] dNil := ⟨PA.imp pa_nil fun σ H Q ⟨σd, S, fr, Qd, ok, cl, h, k⟩ => k [] [] H S ok rfl h⟩
theorem da_cons {tr : TAD} (ha : DE X W a ta) (hr : DA X W es tr) (hs : starEach (a :: es) X.env = (false, eval a X.env) :: starEach es X.env := by rfl) : DA X W (a :: es) (dCons ta tr) :=
  ⟨PA.imp (pa_cons ha.p hr.p hs) fun σ H Q ⟨σd, S, fr, Qd, ok, cl, h, k⟩ => ⟨σd, S, fr, _, ok, cl, h, fun x dx H1 S1 ok1 r1 h1 =>
    ⟨σd, S1, (x, dx) :: fr, _, ok1.cons r1, cl.tail, h1, fun vs ds H2 S2 ok2 r2 h2 => k (x :: vs) (dx :: ds) H2 S2 ok2.tail (rpL_cons ok2.head r2) h2⟩⟩⟩
def dTup (t : TAD) : TED := fun σ S Q => t σ S fun ds S1 => ds.length ≤ 16777216 ∧ Q (.tup ds) S1
def dLst (t : TAD) : TED := fun σ S Q => t σ S fun ds S1 => ds.length ≤ 16777216 ∧ Q (.lst ds) S1
/-- an owned list -/
def dLstO (t : TAD) : TED := fun σ S Q => t σ S fun ds S1 => ds.length ≤ 16777216 ∧ ∀ p, S1 p = none → Q (.obj p) (upS S1 p (.lst ds))
theorem rp_tupNew {K : PySem.W.Frag} {H : Hp} {S : Sd} {p : Addr} {vs : List V} {ds : List D} (R : RelS K H S) (hp : H p = none) (r : RpL K H S ds vs) : Rp K (upd H p (.tup vs)) S (.tup ds) (.ref p) :=
  ⟨p, vs, rfl, SqT.of upd_same, rpL_step R (step_new hp) _ _ r⟩
theorem rp_lstNew {K : PySem.W.Frag} {H : Hp} {S : Sd} {p : Addr} {vs : List V} {ds : List D} (R : RelS K H S) (hp : H p = none) (r : RpL K H S ds vs) : Rp K (upd H p (.lst vs)) S (.lst ds) (.ref p) :=
  ⟨p, vs, rfl, .inl ⟨.inl upd_same, R.free hp⟩, rpL_step R (step_new hp) _ _ r⟩
theorem Ok.new {K : PySem.W.Frag} {H : Hp} {S : Sd} {fr : List (V × D)} {σd : Si} {σ : L2.St} {p : Addr} {o : HO} (ok : Ok K H S fr σd σ) (hp : H p = none) : Ok K (upd H p o) S fr σd σ := ok.step (step_new hp) (rel_new ok.rel hp)
theorem soOk_new {K : PySem.W.Frag} {H : Hp} {S : Sd} {p : Addr} {vs : List V} {ds : List D} (R : RelS K H S) (hp : H p = none) (r : RpL K H S ds vs) : SoOk K (upd H p (.lst vs)) (upS S p (.lst ds)) p (.lst ds) :=
  ⟨vs, upd_same, rpL_step R (step_own hp) _ _ r⟩
theorem Ok.own {K : PySem.W.Frag} {H : Hp} {S : Sd} {fr : List (V × D)} {σd : Si} {σ : L2.St} {p : Addr} {vs : List V} {ds : List D} (ok : Ok K H S fr σd σ) (hp : H p = none) (r : RpL K H S ds vs) :
    Ok K (upd H p (.lst vs)) (upS S p (.lst ds)) fr σd σ := ok.step (step_own hp) (rel_own ok.rel hp (soOk_new ok.rel hp r))
theorem de_tup {x1 : Nat} {t : TAD} (h : DA X W es t) : DE X W (.Tuple es x1 pos) (dTup t) :=
  ⟨PE.imp (pe_tup h.p) fun σ H Q ⟨σd, S, fr, Qd, ok, cl, h, k⟩ => ⟨σd, S, fr, _, ok, cl, h, fun vs ds H1 S1 ok1 r1 h1 => ⟨sz_le (by rw [← rpL_len r1]; exact h1.1), fun p hp =>
    k (.ref p) (.tup ds) _ S1 (ok1.new hp) (rp_tupNew ok1.rel hp r1) h1.2⟩⟩⟩
theorem de_lst {t : TAD} (h : DA X W es t) : DE X W (.List es pos) (dLst t) :=
  ⟨PE.imp (pe_lst h.p) fun σ H Q ⟨σd, S, fr, Qd, ok, cl, h, k⟩ => ⟨σd, S, fr, _, ok, cl, h, fun vs ds H1 S1 ok1 r1 h1 => ⟨sz_le (by rw [← rpL_len r1]; exact h1.1), fun p hp =>
    k (.ref p) (.lst ds) _ S1 (ok1.new hp) (rp_lstNew ok1.rel hp r1) h1.2⟩⟩⟩
theorem de_lstO {t : TAD} (h : DA X W es t) : DE X W (.List es pos) (dLstO t) :=
  ⟨PE.imp (pe_lst h.p) fun σ H Q ⟨σd, S, fr, Qd, ok, cl, h, k⟩ => ⟨σd, S, fr, _, ok, cl, h, fun vs ds H1 S1 ok1 r1 h1 => ⟨sz_le (by rw [← rpL_len r1]; exact h1.1), fun p hp =>
    k (.ref p) (.obj p) _ (upS S1 p (.lst ds)) (ok1.own hp r1) rfl (h1.2 p (ok1.rel.free hp))⟩⟩⟩
end

/-! ### the arithmetic operators -/
/-- the items of a sequence -/
def itemsD (S : Sd) : D → Option (List D)
  | .tup ds => some ds
  | .lst ds => some ds
  | .obj a => match S a with
    | some (.lst ds) => some ds
    | _ => none
  | _ => none
section
variable {K : PySem.W.Frag} {H : Hp} {S : Sd} {fr : List (V × D)} {σd : Si} {σ : L2.St} {d : D} {v : V} {ds : List D}
/-- a list's items by the heap -/
theorem rp_list (R : RelS K H S) (h : Rp K H S (.lst ds) v) : ∃ a vs, v = .ref a ∧ SqL K H a vs ∧ RpL K H S ds vs := by
  obtain ⟨a, vs, e, q, r⟩ := h
  refine ⟨a, vs, e, ?_, r⟩
  rcases q with ⟨q, _⟩ | q
  · exact .inl q
  · exact .inr q
theorem rp_obj (R : RelS K H S) {a : Addr} (e : S a = some (.lst ds)) : ∃ vs, H a = some (.lst vs) ∧ RpL K H S ds vs := R a _ e
theorem rp_items (R : RelS K H S) (h : Rp K H S d v) (e : itemsD S d = some ds) : ∃ a vs, v = .ref a ∧ (SqL K H a vs ∨ SqT K H a vs) ∧ RpL K H S ds vs := by
  cases d with
  | tup xs =>
    cases e
    obtain ⟨a, vs, e, q, r⟩ := h
    exact ⟨a, vs, e, .inr q, r⟩
  | lst xs =>
    cases e
    obtain ⟨a, vs, e, q, r⟩ := rp_list R h
    exact ⟨a, vs, e, .inl q, r⟩
  | obj a =>
    have e' : (match S a with | some (.lst ds) => some ds | _ => none) = some ds := e
    split at e'
    · rename_i xs q
      cases e'
      obtain ⟨vs, q1, q2⟩ := rp_obj R q
      exact ⟨a, vs, h, .inl (.inl (.inl q1)), q2⟩
    · cases e'
  | _ => cases e
end

/-- the items of a list -/
def lstD (S : Sd) : D → Option (List D)
  | .lst ds => some ds
  | .obj a => match S a with
    | some (.lst ds) => some ds
    | _ => none
  | _ => none
theorem rp_lstD {K : PySem.W.Frag} {H : Hp} {S : Sd} {d : D} {v : V} {ds : List D} (R : RelS K H S) (h : Rp K H S d v) (e : lstD S d = some ds) : ∃ a vs, v = .ref a ∧ SqL K H a vs ∧ RpL K H S ds vs := by
  cases d with
  | lst xs =>
    cases e
    exact rp_list R h
  | obj a =>
    have e' : (match S a with | some (.lst ds) => some ds | _ => none) = some ds := e
    split at e'
    · rename_i xs q
      cases e'
      obtain ⟨vs, q1, q2⟩ := rp_obj R q
      exact ⟨a, vs, h, .inl (.inl q1), q2⟩
    · cases e'
  | _ => cases e
def catD (Q : DK) (S : Sd) : Option (List D) → Option (List D) → Prop
  | some a, some b => a.length + b.length ≤ 16777216 ∧ Q (.lst (a ++ b)) S
  | _, _ => False
theorem catD_inv {Q : DK} {S : Sd} : ∀ {o u : Option (List D)}, catD Q S o u → ∃ a b, o = some a ∧ u = some b ∧ a.length + b.length ≤ 16777216 ∧ Q (.lst (a ++ b)) S
  | some a, some b, h => ⟨a, b, rfl, rfl, h.1, h.2⟩
  | none, _, h => h.elim
  | some _, none, h => h.elim
def rdAdd : RD2 := fun x y S Q => match x, y with
  | .int i, .int j => Q (.int (i + j)) S
  | .int i, .bl k => Q (.int (i + b2i k)) S
  | .str x, .str y => x.length + y.length ≤ 16777216 ∧ Q (.str (x ++ y)) S
  | .tup x, .tup y => x.length + y.length ≤ 16777216 ∧ Q (.tup (x ++ y)) S
  | x, y => catD Q S (lstD S x) (lstD S y)
def rdSub : RD2
  | .int i, .int j, S, Q => Q (.int (i - j)) S
  | _, _, _, _ => False
def rdFdiv : RD2
  | .int i, .int j, S, Q => (j ≠ 0 ∧ j.natAbs.log2 < 9000) ∧ Q (.int (i.fdiv j)) S
  | _, _, _, _ => False
def rdMod : RD2
  | .int i, .int j, S, Q => j ≠ 0 ∧ Q (.int (i.fmod j)) S
  | _, _, _, _ => False
def rdPow : RD2
  | .int i, .int j, S, Q => (0 ≤ j ∧ ((i.natAbs.log2 : Int) + 1) * j ≤ 134217728) ∧ Q (.int (i ^ j.toNat)) S
  | _, _, _, _ => False
section
variable {X : Cx}
theorem od_sub : OpD X (binaryOp .Sub) rdSub := ⟨_, op_sub, fun H S fr σd σ x y dx dy Qv Qd ok rx ry h k => by
  cases dx with
  | int i =>
    cases dy with
    | int j => exact ⟨i, j, rx, ry, k _ (.int (i - j)) H S ok rfl h⟩
    | _ => exact (show False from h).elim
  | _ => cases dy <;> exact (show False from h).elim⟩
theorem od_fdiv : OpD X (binaryOp .FloorDiv) rdFdiv := ⟨rI (fun _ j => j ≠ 0 ∧ j.natAbs.log2 < 9000) fun i j => .int (i.fdiv j), opI (fun i j t u s Q E hc q => floordiv_int hc.1 q (.inl (PyProof.noPylong_of_log2 hc.2))), fun H S fr σd σ x y dx dy Qv Qd ok rx ry h k => by
  cases dx with
  | int i =>
    cases dy with
    | int j => exact ⟨i, j, rx, ry, h.1, k _ (.int (i.fdiv j)) H S ok rfl h.2⟩
    | _ => exact (show False from h).elim
  | _ => cases dy <;> exact (show False from h).elim⟩
theorem od_mod : OpD X (binaryOp .Mod) rdMod := ⟨_, op_modN, fun H S fr σd σ x y dx dy Qv Qd ok rx ry h k => by
  cases dx with
  | int i =>
    cases dy with
    | int j => exact ⟨i, j, rx, ry, h.1, k _ (.int (i.fmod j)) H S ok rfl h.2⟩
    | _ => exact (show False from h).elim
  | _ => cases dy <;> exact (show False from h).elim⟩
theorem bits_le (x : Int) : Builtin.Int.intBits x ≤ x.natAbs.log2 + 1 := by
  unfold Builtin.Int.intBits
  split <;> omega
theorem od_pow : OpD X (binaryOp .Pow) rdPow := ⟨rI (fun i j => 0 ≤ j ∧ ((i.natAbs.log2 : Int) + 1) * j ≤ 134217728) fun i j => .int (i ^ j.toNat), opI (fun i j t u s Q E hc q => pow_int hc.1 (by
    have h1 := bits_le i
    have h2 : (Builtin.Int.intBits i : Int) * j ≤ ((i.natAbs.log2 : Int) + 1) * j := Int.mul_le_mul_of_nonneg_right (by omega) hc.1
    have h3 := hc.2
    have h4 : (2 : Int) ^ 27 = 134217728 := by decide
    omega) q), fun H S fr σd σ x y dx dy Qv Qd ok rx ry h k => by
  cases dx with
  | int i =>
    cases dy with
    | int j => exact ⟨i, j, rx, ry, h.1, k _ (.int (i ^ j.toNat)) H S ok rfl h.2⟩
    | _ => exact (show False from h).elim
  | _ => cases dy <;> exact (show False from h).elim⟩
/-- two lists, tracked or not -/
def rCatL (K : PySem.W.Frag) : R2 := fun x y H Q => ∃ l b xs zs, x = .ref l ∧ y = .ref b ∧ SqL K H l xs ∧ SqL K H b zs ∧ xs.length + zs.length ≤ sizeLine ∧ ∀ p, H p = none → Q (.ref p) (upd H p (.lst (xs ++ zs)))
theorem op_catL : OpR X (binaryOp .Add) (rCatL X.K) := by
  intro pins s σ H x y v u Q I rx ry h
  obtain ⟨l, b, xs, zs, rfl, rfl, hH, hB, hz, q⟩ := h
  cases rx
  cases ry
  obtain ⟨its, r, ⟨o1, n1, e1, c1, d1, f1⟩, z1⟩ := I.list hH
  obtain ⟨its2, r2, ⟨o2, n2, e2, c2, d2, f2⟩, z2⟩ := I.list hB
  obtain ⟨cls, dd, data, sl⟩ := o1
  obtain ⟨cls2, dd2, data2, sl2⟩ := o2
  simp only at c1 d1 f1 c2 d2 f2
  subst c1 d1 f1 c2 d2 f2
  have ea : its.toArray ++ its2.toArray = (its ++ its2).toArray := by simp
  have l1 := r.length
  have l2 := r2.length
  refine concat_meets ⟨_, e1, rfl⟩ ⟨_, e2, rfl⟩ noFill_list_add seq_list_add PySem.F.slot_list_add PySem.F.entry_list_add (PySem.F.args_list_add_2 _ _) (list_addW l b its.toArray its2.toArray n1 n2 none none sl sl2 (by simp only [List.size_toArray]; omega)) ⟨e1, e2, ?_⟩
  rw [ea]
  exact ⟨.ref _, _, I.lnew (t' := s.toks) (r.append r2) (by rw [List.length_append]; omega), rfl, q _ I.fresh⟩
theorem od_add : OpD X (binaryOp .Add) rdAdd := by
  refine ⟨_, (op_add (X := X)).or (op_add_ib.or (op_add_str.or (op_catA.or op_catL))), fun H S fr σd σ x y dx dy Qv Qd ok rx ry h k => ?_⟩
  have lists : catD Qd S (lstD S dx) (lstD S dy) → rCatL X.K x y H Qv := fun q => by
    obtain ⟨a, b, h1, h2, h3⟩ := catD_inv q
    obtain ⟨p, vs, e1, q1, r1⟩ := rp_lstD ok.rel rx h1
    obtain ⟨q, ws, e2, q2, r2⟩ := rp_lstD ok.rel ry h2
    exact ⟨p, q, vs, ws, e1, e2, q1, q2, by rw [← rpL_len r1, ← rpL_len r2, sl_eq]; exact h3.1, fun l hl => k _ (.lst (a ++ b)) _ S (ok.new hl) (rp_lstNew ok.rel hl (rpL_app r1 r2)) h3.2⟩
  cases dx with
  | int i =>
    cases dy with
    | int j => exact .inl ⟨i, j, rx, ry, k _ (.int (i + j)) H S ok rfl h⟩
    | bl j => exact .inr (.inl ⟨i, j, rx, ry, k _ (.int (i + b2i j)) H S ok rfl h⟩)
    | _ => exact (show False from h).elim
  | str i =>
    cases dy with
    | str j => exact .inr (.inr (.inl ⟨i, j, rx, ry, by rw [sl_eq]; exact h.1, k _ (.str (i ++ j)) H S ok rfl h.2⟩))
    | _ => exact (show False from h).elim
  | tup xs =>
    cases dy with
    | tup ys =>
      obtain ⟨p, vs, e1, q1, r1⟩ := rx
      obtain ⟨q, ws, e2, q2, r2⟩ := ry
      have h' : xs.length + ys.length ≤ 16777216 ∧ Qd (.tup (xs ++ ys)) S := h
      refine .inr (.inr (.inr (.inl ⟨p, q, vs, ws, e1, e2, q1, q2, by rw [← rpL_len r1, ← rpL_len r2, sl_eq]; exact h'.1, fun e => ?_, fun _ e => ?_, fun _ _ l hl => ?_⟩)))
      · subst e
        have e3 : xs = [] := List.length_eq_zero_iff.mp (rpL_len r1)
        subst e3
        exact k _ (.tup ys) H S ok ⟨q, ws, rfl, q2, r2⟩ h'.2
      · subst e
        have e3 : ys = [] := List.length_eq_zero_iff.mp (rpL_len r2)
        subst e3
        have q := h'.2
        rw [List.append_nil] at q
        exact k _ (.tup xs) H S ok ⟨p, vs, rfl, q1, r1⟩ q
      · exact k _ (.tup (xs ++ ys)) _ S (ok.new hl) (rp_tupNew ok.rel hl (rpL_app r1 r2)) h'.2
    | _ => exact (show False from h).elim
  | lst xs => exact .inr (.inr (.inr (.inr (lists (by cases dy <;> exact h)))))
  | obj p => exact .inr (.inr (.inr (.inr (lists (by cases dy <;> exact h)))))
  | non => exact (by cases dy <;> exact h : False).elim
  | bl b => exact (by cases dy <;> exact h : False).elim
  | tupX ds => exact (by cases dy <;> exact h : False).elim
  | inst C ns ds => exact (by cases dy <;> exact h : False).elim
  | ty n => exact (by cases dy <;> exact h : False).elim
  | exc a od ns xs => exact (by cases dy <;> exact h : False).elim
  | fn x => exact (by cases dy <;> exact h : False).elim
  | hob x => exact (by cases dy <;> exact h : False).elim
  | dct ks xs => exact (by cases dy <;> exact h : False).elim
end
end Dv

/-! Readings by value, 2: equality, order, chains, in, subscripts, slices, calls, built-ins. -/
namespace Dv
open PySem L2 PyProof.Rows

/-! ### plain data -/
mutual
def isData : D → Bool
  | .non => true | .bl _ => true | .int _ => true | .str _ => true
  | .tup ds => isDataL ds
  | .lst ds => isDataL ds
  | _ => false
def isDataL : List D → Bool
  | [] => true
  | d :: ds => isData d && isDataL ds
end
mutual
def pd : D → PyData
  | .bl b => .bool b | .int i => .int i | .str x => .str x
  | .tup ds => .tuple (pdL ds)
  | .lst ds => .list (pdL ds)
  | _ => .none
def pdL : List D → List PyData
  | [] => []
  | d :: ds => pd d :: pdL ds
end
mutual
/-- == of data -/
def deq : D → D → Bool
  | .non, .non => true
  | .bl a, .bl b => a == b
  | .bl a, .int j => (if a then 1 else 0) == j
  | .int i, .bl b => i == (if b then 1 else 0)
  | .int i, .int j => i == j
  | .str x, .str y => x == y
  | .tup xs, .tup ys => deqL xs ys
  | .lst xs, .lst ys => deqL xs ys
  | _, _ => false
def deqL : List D → List D → Bool
  | [], [] => true
  | x :: xs, y :: ys => deq x y && deqL xs ys
  | _, _ => false
end
mutual
theorem eqv_pd : ∀ (x y : D), isData x = true → isData y = true → PyData.eqv (pd x) (pd y) = deq x y
  | .tup xs, y, hx, hy => by
    cases y with
    | tup ys =>
      have h1 : isDataL xs = true := hx
      have h2 : isDataL ys = true := hy
      show PyData.eqvAll (pdL xs) (pdL ys) = deqL xs ys
      exact eqv_pdL xs ys h1 h2
    | tupX _ => exact absurd (show false = true from hy) Bool.false_ne_true
    | inst _ _ _ => exact absurd (show false = true from hy) Bool.false_ne_true
    | obj _ => exact absurd (show false = true from hy) Bool.false_ne_true
    | ty _ => exact absurd (show false = true from hy) Bool.false_ne_true
    | exc _ _ _ _ => exact absurd (show false = true from hy) Bool.false_ne_true
    | fn _ => exact absurd (show false = true from hy) Bool.false_ne_true
    | hob _ => exact absurd (show false = true from hy) Bool.false_ne_true
    | dct _ _ => exact absurd (show false = true from hy) Bool.false_ne_true
    | _ => rfl
  | .lst xs, y, hx, hy => by
    cases y with
    | lst ys =>
      have h1 : isDataL xs = true := hx
      have h2 : isDataL ys = true := hy
      show PyData.eqvAll (pdL xs) (pdL ys) = deqL xs ys
      exact eqv_pdL xs ys h1 h2
    | tupX _ => exact absurd (show false = true from hy) Bool.false_ne_true
    | inst _ _ _ => exact absurd (show false = true from hy) Bool.false_ne_true
    | obj _ => exact absurd (show false = true from hy) Bool.false_ne_true
    | ty _ => exact absurd (show false = true from hy) Bool.false_ne_true
    | exc _ _ _ _ => exact absurd (show false = true from hy) Bool.false_ne_true
    | fn _ => exact absurd (show false = true from hy) Bool.false_ne_true
    | hob _ => exact absurd (show false = true from hy) Bool.false_ne_true
    | dct _ _ => exact absurd (show false = true from hy) Bool.false_ne_true
    | _ => rfl
  | .non, y, hx, hy => by
    cases y with
    | tupX _ => exact absurd (show false = true from hy) Bool.false_ne_true
    | inst _ _ _ => exact absurd (show false = true from hy) Bool.false_ne_true
    | obj _ => exact absurd (show false = true from hy) Bool.false_ne_true
    | ty _ => exact absurd (show false = true from hy) Bool.false_ne_true
    | exc _ _ _ _ => exact absurd (show false = true from hy) Bool.false_ne_true
    | fn _ => exact absurd (show false = true from hy) Bool.false_ne_true
    | hob _ => exact absurd (show false = true from hy) Bool.false_ne_true
    | dct _ _ => exact absurd (show false = true from hy) Bool.false_ne_true
    | _ => rfl
  | .bl _, y, hx, hy => by
    cases y with
    | tupX _ => exact absurd (show false = true from hy) Bool.false_ne_true
    | inst _ _ _ => exact absurd (show false = true from hy) Bool.false_ne_true
    | obj _ => exact absurd (show false = true from hy) Bool.false_ne_true
    | ty _ => exact absurd (show false = true from hy) Bool.false_ne_true
    | exc _ _ _ _ => exact absurd (show false = true from hy) Bool.false_ne_true
    | fn _ => exact absurd (show false = true from hy) Bool.false_ne_true
    | hob _ => exact absurd (show false = true from hy) Bool.false_ne_true
    | dct _ _ => exact absurd (show false = true from hy) Bool.false_ne_true
    | _ => rfl
  | .int _, y, hx, hy => by
    cases y with
    | tupX _ => exact absurd (show false = true from hy) Bool.false_ne_true
    | inst _ _ _ => exact absurd (show false = true from hy) Bool.false_ne_true
    | obj _ => exact absurd (show false = true from hy) Bool.false_ne_true
    | ty _ => exact absurd (show false = true from hy) Bool.false_ne_true
    | exc _ _ _ _ => exact absurd (show false = true from hy) Bool.false_ne_true
    | fn _ => exact absurd (show false = true from hy) Bool.false_ne_true
    | hob _ => exact absurd (show false = true from hy) Bool.false_ne_true
    | dct _ _ => exact absurd (show false = true from hy) Bool.false_ne_true
    | _ => rfl
  | .str _, y, hx, hy => by
    cases y with
    | tupX _ => exact absurd (show false = true from hy) Bool.false_ne_true
    | inst _ _ _ => exact absurd (show false = true from hy) Bool.false_ne_true
    | obj _ => exact absurd (show false = true from hy) Bool.false_ne_true
    | ty _ => exact absurd (show false = true from hy) Bool.false_ne_true
    | exc _ _ _ _ => exact absurd (show false = true from hy) Bool.false_ne_true
    | fn _ => exact absurd (show false = true from hy) Bool.false_ne_true
    | hob _ => exact absurd (show false = true from hy) Bool.false_ne_true
    | dct _ _ => exact absurd (show false = true from hy) Bool.false_ne_true
    | _ => rfl
  | .tupX _, y, hx, hy => absurd (show false = true from hx) Bool.false_ne_true
  | .inst _ _ _, y, hx, hy => absurd (show false = true from hx) Bool.false_ne_true
  | .obj _, y, hx, hy => absurd (show false = true from hx) Bool.false_ne_true
  | .ty _, y, hx, hy => absurd (show false = true from hx) Bool.false_ne_true
  | .exc _ _ _ _, y, hx, hy => absurd (show false = true from hx) Bool.false_ne_true
theorem eqv_pdL : ∀ (xs ys : List D), isDataL xs = true → isDataL ys = true → PyData.eqvAll (pdL xs) (pdL ys) = deqL xs ys
  | [], [], _, _ => rfl
  | [], y :: ys, _, _ => rfl
  | x :: xs, [], _, _ => rfl
  | x :: xs, y :: ys, hx, hy => by
    have h1 := Bool.and_eq_true_iff.mp (show (isData x && isDataL xs) = true from hx)
    have h2 := Bool.and_eq_true_iff.mp (show (isData y && isDataL ys) = true from hy)
    show (PyData.eqv (pd x) (pd y) && PyData.eqvAll (pdL xs) (pdL ys)) = (deq x y && deqL xs ys)
    rw [eqv_pd x y h1.1 h2.1, eqv_pdL xs ys h1.2 h2.2]
end
section
variable {K : PySem.W.Frag} {H : Hp} {S : Sd}
mutual
theorem dp_of (R : RelS K H S) : ∀ (d : D) (v : V), isData d = true → Rp K H S d v → Dp K H v (pd d)
  | .non, v, _, h => by
    have e : v = .non := h
    subst e; exact .non
  | .bl b, v, _, h => by
    have e : v = .bl b := h
    subst e; exact .bl b
  | .int i, v, _, h => by
    have e : v = .int i := h
    subst e; exact .int i
  | .str x, v, _, h => by
    have e : v = .str x := h
    subst e; exact .str x
  | .tup ds, v, k, h => by
    obtain ⟨a, vs, e, q, r⟩ := h
    subst e
    exact .tup q (dp_ofL R ds vs k r)
  | .lst ds, v, k, h => by
    obtain ⟨a, vs, e, q, r⟩ := rp_list R h
    subst e
    exact .lst q (dp_ofL R ds vs k r)
  | .tupX _, v, k, _ => absurd (show false = true from k) Bool.false_ne_true
  | .inst _ _ _, v, k, _ => absurd (show false = true from k) Bool.false_ne_true
  | .obj _, v, k, _ => absurd (show false = true from k) Bool.false_ne_true
  | .ty _, v, k, _ => absurd (show false = true from k) Bool.false_ne_true
  | .exc _ _ _ _, v, k, _ => absurd (show false = true from k) Bool.false_ne_true
theorem dp_ofL (R : RelS K H S) : ∀ (ds : List D) (vs : List V), isDataL ds = true → RpL K H S ds vs → DpAll K H vs (pdL ds)
  | [], vs, _, h => by
    have e : vs = [] := h
    subst e; exact .nil
  | d :: ds, vs, k, h => by
    obtain ⟨v, r, e, h1, h2⟩ := h
    subst e
    have k' := Bool.and_eq_true_iff.mp (show (isData d && isDataL ds) = true from k)
    exact .cons (dp_of R d v k'.1 h1) (dp_ofL R ds r k'.2 h2)
end
end
/-- what == may be asked of -/
def eqOk (d : D) : Bool := isData d && SeqAt.shaped (pd d)
def rdEq : RD2 := fun x y S Q => match x, y with
  | .int i, .int j => Q (.bl (decide (i = j))) S
  | .str i, .str j => Q (.bl (decide (i = j))) S
  | .bl i, .bl j => Q (.bl (decide (i = j))) S
  | x, y => (eqOk x = true ∧ eqOk y = true) ∧ Q (.bl (deq x y)) S
def rdNe : RD2 := fun x y S Q => match x, y with
  | .int i, .int j => Q (.bl (!decide (i = j))) S
  | .str i, .str j => Q (.bl (!decide (i = j))) S
  | .bl i, .bl j => Q (.bl (!decide (i = j))) S
  | x, y => (eqOk x = true ∧ eqOk y = true) ∧ Q (.bl (!deq x y)) S
def rdLt : RD2
  | .int i, .int j, S, Q => Q (.bl (decide (i < j))) S
  | _, _, _, _ => False
def rdLe : RD2
  | .int i, .int j, S, Q => Q (.bl (decide (i ≤ j))) S
  | _, _, _, _ => False
def rdGt : RD2
  | .int i, .int j, S, Q => Q (.bl (decide (j < i))) S
  | _, _, _, _ => False
def rdGe : RD2
  | .int i, .int j, S, Q => Q (.bl (decide (j ≤ i))) S
  | _, _, _, _ => False
def rdIsN : RD2
  | x, .non, S, Q => Q (.bl (match x with | .non => true | _ => false)) S
  | _, _, _, _ => False
def rdNotN : RD2
  | x, .non, S, Q => Q (.bl (match x with | .non => false | _ => true)) S
  | _, _, _, _ => False
theorem rp_non {K : PySem.W.Frag} {H : Hp} {S : Sd} {d : D} {v : V} (h : Rp K H S d v) : decide (v = .non) = (match d with | .non => true | _ => false) := by
  cases d with
  | non => have e : v = .non := h; subst e; rfl
  | bl b => have e : v = .bl b := h; subst e; rfl
  | int b => have e : v = .int b := h; subst e; rfl
  | str b => have e : v = .str b := h; subst e; rfl
  | tup ds => obtain ⟨a, vs, e, _⟩ := h; subst e; rfl
  | lst ds => obtain ⟨a, vs, e, _⟩ := h; subst e; rfl
  | tupX ds => obtain ⟨a, o, vs, e, _⟩ := h; subst e; rfl
  | inst C ns ds => obtain ⟨C2, a, dx, fs, c, e, _⟩ := h; subst e; rfl
  | obj a => have e : v = .ref a := h; subst e; rfl
  | ty n => have e : v = .ty n := h; subst e; rfl
  | exc a od ns xs => obtain ⟨e, _⟩ := h; subst e; rfl
  | fn x => obtain ⟨f, e, _⟩ := h; subst e; rfl
  | hob x => obtain ⟨f, e, _⟩ := h; subst e; rfl
  | dct ks xs => obtain ⟨f, g, e, _⟩ := h; subst e; rfl
section
variable {X : Cx}
theorem ordI {f : Value → Value → Sem Value} {g : Int → Int → Bool} {rd : RD2} (ho : OpR X f (rI0 fun i j => .bl (g i j))) (h : ∀ x y S Q, rd x y S Q → ∃ i j, x = .int i ∧ y = .int j ∧ Q (.bl (g i j)) S) : OpD X f rd :=
  ⟨_, ho, fun H S fr σd σ x y dx dy Qv Qd ok rx ry q k => by
    obtain ⟨i, j, rfl, rfl, q'⟩ := h dx dy S Qd q
    exact ⟨i, j, rx, ry, k _ (.bl (g i j)) H S ok rfl q'⟩⟩
theorem od_lt : OpD X (compareOp .Lt) rdLt := ordI op_lt fun x y S Q h => by
  cases x with
  | int i => cases y with
    | int j => exact ⟨i, j, rfl, rfl, h⟩
    | _ => exact (show False from h).elim
  | _ => cases y <;> exact (show False from h).elim
theorem od_le : OpD X (compareOp .LtE) rdLe := ordI op_le fun x y S Q h => by
  cases x with
  | int i => cases y with
    | int j => exact ⟨i, j, rfl, rfl, h⟩
    | _ => exact (show False from h).elim
  | _ => cases y <;> exact (show False from h).elim
theorem od_gt : OpD X (compareOp .Gt) rdGt := ordI op_gt fun x y S Q h => by
  cases x with
  | int i => cases y with
    | int j => exact ⟨i, j, rfl, rfl, h⟩
    | _ => exact (show False from h).elim
  | _ => cases y <;> exact (show False from h).elim
theorem eq_lift {K : PySem.W.Frag} : Lift2 K (fun x y H Q => rEq x y H Q ∨ rEqD K x y H Q) rdEq := fun H S fr σd σ x y dx dy Qv Qd ok rx ry h k => by
  have gen : (eqOk dx = true ∧ eqOk dy = true) ∧ Qd (.bl (deq dx dy)) S → rEqD K x y H Qv := fun ⟨⟨h1, h2⟩, q⟩ => by
    have a1 := Bool.and_eq_true_iff.mp h1
    have a2 := Bool.and_eq_true_iff.mp h2
    refine ⟨pd dx, pd dy, dp_of ok.rel dx x a1.1 rx, dp_of ok.rel dy y a2.1 ry, a1.2, a2.2, ?_⟩
    rw [eqv_pd dx dy a1.1 a2.1]
    exact k _ (.bl (deq dx dy)) H S ok rfl q
  cases dx with
  | int i => cases dy with
    | int j =>
      have e1 : x = .int i := rx
      have e2 : y = .int j := ry
      subst e1 e2
      refine .inl ⟨rfl, ?_⟩
      refine k _ (.bl (decide (i = j))) H S ok ?_ h
      show V.bl _ = V.bl _
      congr 1
      simp
    | _ => exact .inr (gen h)
  | str i => cases dy with
    | str j =>
      have e1 : x = .str i := rx
      have e2 : y = .str j := ry
      subst e1 e2
      refine .inl ⟨rfl, ?_⟩
      refine k _ (.bl (decide (i = j))) H S ok ?_ h
      show V.bl _ = V.bl _
      congr 1
      simp
    | _ => exact .inr (gen h)
  | bl i => cases dy with
    | bl j =>
      have e1 : x = .bl i := rx
      have e2 : y = .bl j := ry
      subst e1 e2
      refine .inl ⟨rfl, ?_⟩
      refine k _ (.bl (decide (i = j))) H S ok ?_ h
      show V.bl _ = V.bl _
      congr 1
      simp
    | _ => exact .inr (gen h)
  | _ => exact .inr (gen (by cases dy <;> exact h))
theorem ne_lift {K : PySem.W.Frag} : Lift2 K (fun x y H Q => rNe x y H Q ∨ rNeD K x y H Q) rdNe := fun H S fr σd σ x y dx dy Qv Qd ok rx ry h k => by
  have gen : (eqOk dx = true ∧ eqOk dy = true) ∧ Qd (.bl (!deq dx dy)) S → rNeD K x y H Qv := fun ⟨⟨h1, h2⟩, q⟩ => by
    have a1 := Bool.and_eq_true_iff.mp h1
    have a2 := Bool.and_eq_true_iff.mp h2
    refine ⟨pd dx, pd dy, dp_of ok.rel dx x a1.1 rx, dp_of ok.rel dy y a2.1 ry, a1.2, a2.2, ?_⟩
    rw [eqv_pd dx dy a1.1 a2.1]
    exact k _ (.bl (!deq dx dy)) H S ok rfl q
  cases dx with
  | int i => cases dy with
    | int j =>
      have e1 : x = .int i := rx
      have e2 : y = .int j := ry
      subst e1 e2
      refine .inl ⟨rfl, ?_⟩
      refine k _ (.bl (!decide (i = j))) H S ok ?_ h
      show V.bl _ = V.bl _
      congr 1
      simp
    | _ => exact .inr (gen h)
  | str i => cases dy with
    | str j =>
      have e1 : x = .str i := rx
      have e2 : y = .str j := ry
      subst e1 e2
      refine .inl ⟨rfl, ?_⟩
      refine k _ (.bl (!decide (i = j))) H S ok ?_ h
      show V.bl _ = V.bl _
      congr 1
      simp
    | _ => exact .inr (gen h)
  | bl i => cases dy with
    | bl j =>
      have e1 : x = .bl i := rx
      have e2 : y = .bl j := ry
      subst e1 e2
      refine .inl ⟨rfl, ?_⟩
      refine k _ (.bl (!decide (i = j))) H S ok ?_ h
      show V.bl _ = V.bl _
      congr 1
      simp
    | _ => exact .inr (gen h)
  | _ => exact .inr (gen (by cases dy <;> exact h))
theorem od_eq (hu : X.A.units + 64 < cLine) : OpD X (compareOp .Eq) rdEq := ⟨_, op_eq.or (op_eqD hu), eq_lift⟩
theorem od_ne (hu : X.A.units + 64 < cLine) : OpD X (compareOp .NotEq) rdNe := ⟨_, op_ne.or (op_neD hu), ne_lift⟩
theorem od_isN : OpD X (compareOp .Is) rdIsN := ⟨_, op_isN, fun H S fr σd σ x y dx dy Qv Qd ok rx ry h k => by
  cases dy with
  | non =>
    refine ⟨ry, ?_⟩
    rw [rp_non rx]
    cases dx <;> exact k _ (.bl _) H S ok rfl h
  | _ => cases dx <;> exact (show False from h).elim⟩
theorem od_notN : OpD X (compareOp .IsNot) rdNotN := ⟨_, op_notN, fun H S fr σd σ x y dx dy Qv Qd ok rx ry h k => by
  cases dy with
  | non =>
    refine ⟨ry, ?_⟩
    rw [rp_non rx]
    cases dx <;> exact k _ (.bl _) H S ok rfl h
  | _ => cases dx <;> exact (show False from h).elim⟩
end

/-! ### chains of comparisons -/
section
variable {X : Cx} {W : Wi} {a b c d e : Expr} {ta tb tc td : TED} {pos : Pos}
def dChain (r r' : RD2) (ta tb tc : TED) : TED := fun σ S Q => ta σ S fun x S1 => tb σ S1 fun y S2 => r x y S2 fun z S3 => match z with
  | .bl k => if k = true then tc σ S3 fun w S4 => r' y w S4 Q else Q (.bl false) S3
  | _ => False
theorem chain_lift {r r' : R2} {rd rd' : RD2} (l : Lift2 X.K r rd) (l' : Lift2 X.K r' rd') (σ : L2.St) (H : Hp) (Q : VK) (h : upE X.K W (dChain rd rd' ta tb tc) σ H Q) : tChain r r' (upE X.K W ta) (upE X.K W tb) (upE X.K W tc) σ H Q := by
  obtain ⟨σd, S, fr, Qd, ok, cl, h, k⟩ := h
  refine ⟨σd, S, fr, _, ok, cl, h, fun x dx H1 S1 ok1 r1 h1 => ?_⟩
  refine ⟨σd, S1, (x, dx) :: fr, _, ok1.cons r1, cl.tail, h1, fun y dy H2 S2 ok2 r2 h2 => ?_⟩
  refine l H2 S2 ((y, dy) :: fr) σd σ x y dx dy _ _ (ok2.tail.cons r2) ok2.head r2 h2 fun z dz H3 S3 ok3 r3 h3 => ?_
  cases dz with
  | bl k0 =>
    refine ⟨k0, r3, ?_⟩
    cases k0 with
    | true =>
      exact (show upE X.K W tc σ H3 (fun w' H4 => r' y w' H4 Q) from ⟨σd, S3, (y, dy) :: fr, _, ok3, cl.tail, (show tc σd S3 _ from by simpa using h3), fun w dw H4 S4 ok4 r4 h4 =>
        l' H4 S4 fr σd σ y w dy dw Q Qd ok4.tail ok4.head r4 h4 k⟩)
    | false => exact (show Q (.bl false) H3 from k _ (.bl false) H3 S3 ok3.tail rfl (by simpa using h3))
  | _ => exact (show False from h3).elim
theorem de_chain {op op' : CmpOp} {rd rd' : RD2} (ho : OpD X (compareOp op) rd) (ho' : OpD X (compareOp op') rd') (ha : DE X W a ta) (hb : DE X W b tb) (hc : DE X W c tc)
    (hm : lastMarks [op, op'] [b, c] = false := by with_unfolding_all rfl) : DE X W (.Compare a [op, op'] [b, c] pos) (dChain rd rd' ta tb tc) := by
  obtain ⟨r, ho, l⟩ := ho
  obtain ⟨r', ho', l'⟩ := ho'
  exact ⟨PE.imp (pe_chain ho ho' ha.p hb.p hc.p hm) (chain_lift l l')⟩
theorem dt_chain {op op' : CmpOp} {rd rd' : RD2} (ho : OpD X (compareOp op) rd) (ho' : OpD X (compareOp op') rd') (ha : DE X W a ta) (hb : DE X W b tb) (hc : DE X W c tc)
    (hm : lastMarks [op, op'] [b, c] = false := by with_unfolding_all rfl) : DT X W (.Compare a [op, op'] [b, c] pos) (dTest (dChain rd rd' ta tb tc)) := by
  obtain ⟨r, ho, l⟩ := ho
  obtain ⟨r', ho', l'⟩ := ho'
  exact ⟨PT.imp (pt_chain ho ho' ha.p hb.p hc.p hm) fun σ H Q h => tTest_mono (chain_lift l l') σ H Q (test_lift σ H Q h)⟩
def dChain3 (r r' r2 : RD2) (ta tb tc td : TED) : TED := fun σ S Q => ta σ S fun x S1 => tb σ S1 fun y S2 => r x y S2 fun z S3 => match z with
  | .bl k => if k = true then tc σ S3 fun w S4 => r' y w S4 fun z2 S5 => match z2 with
      | .bl k2 => if k2 = true then td σ S5 fun w2 S6 => r2 w w2 S6 Q else Q (.bl false) S5
      | _ => False
    else Q (.bl false) S3
  | _ => False
end

/-! ### subscripts, slices -/
def ixQ (S : Sd) (Q : DK) : Option D → Prop
  | some d => Q d S
  | none => False
def ixS (S : Sd) (Q : DK) : Option Nat → Prop
  | some c => Q (.str ⟨#[c]⟩) S
  | none => False
def rdIx : RD2
  | .tup ds, .int i, S, Q => ixQ S Q (atI ds i)
  | .lst ds, .int i, S, Q => ixQ S Q (atI ds i)
  | .obj a, .int i, S, Q => match S a with
    | some (.lst ds) => ixQ S Q (atI ds i)
    | _ => False
  | .str z, .int i, S, Q => z.length ≤ 16777216 ∧ ixS S Q (atI z.cps.toList i)
  | _, _, _, _ => False
theorem ixQ_inv {S : Sd} {Q : DK} {o : Option D} (h : ixQ S Q o) : ∃ d, o = some d ∧ Q d S := by
  cases o with
  | none => exact h.elim
  | some d => exact ⟨d, rfl, h⟩
theorem atI_rp {K : PySem.W.Frag} {H : Hp} {S : Sd} {ds : List D} {vs : List V} {i : Int} {d : D} (r : RpL K H S ds vs) (h : atI ds i = some d) : ∃ v, atI vs i = some v ∧ Rp K H S d v := by
  unfold atI at h ⊢
  rw [← rpL_len r]
  cases e : ixN ds.length i with
  | none => rw [e] at h; cases h
  | some j =>
    rw [e] at h
    exact rpL_get r h
section
variable {X : Cx} {W : Wi} {a b e : Expr} {ta tb te : TED} {pos p2 : Pos}
theorem ix_lift {K : PySem.W.Frag} : Lift2 K (rIx K) rdIx := fun H S fr σd σ x y dx dy Qv Qd ok rx ry h k => by
  cases dy with
  | int i =>
    cases dx with
    | tup ds =>
      obtain ⟨d, e, q⟩ := ixQ_inv h
      obtain ⟨p, vs, e1, q1, r1⟩ := rx
      obtain ⟨v, e2, r2⟩ := atI_rp r1 e
      exact .inr (.inl ⟨p, vs, i, v, e1, ry, q1, e2, k v d H S ok r2 q⟩)
    | lst ds =>
      obtain ⟨d, e, q⟩ := ixQ_inv h
      obtain ⟨p, vs, e1, q1, r1⟩ := rp_list ok.rel rx
      obtain ⟨v, e2, r2⟩ := atI_rp r1 e
      exact .inl ⟨p, vs, i, v, e1, ry, q1, e2, k v d H S ok r2 q⟩
    | obj p =>
      have h' : (match S p with | some (.lst ds) => ixQ S Qd (atI ds i) | _ => False) := h
      split at h'
      · rename_i ds q0
        obtain ⟨d, e, q⟩ := ixQ_inv h'
        obtain ⟨vs, q1, r1⟩ := rp_obj ok.rel q0
        obtain ⟨v, e2, r2⟩ := atI_rp r1 e
        exact .inl ⟨p, vs, i, v, rx, ry, SqL.of q1, e2, k v d H S ok r2 q⟩
      · exact h'.elim
    | str z =>
      have h' : z.length ≤ 16777216 ∧ ixS S Qd (atI z.cps.toList i) := h
      cases e : atI z.cps.toList i with
      | none => rw [e] at h'; exact h'.2.elim
      | some c =>
        rw [e] at h'
        exact .inr (.inr ⟨z, i, c, rx, ry, sz_le h'.1, e, k _ (.str ⟨#[c]⟩) H S ok rfl h'.2⟩)
    | _ => exact (show False from h).elim
  | _ => cases dx <;> exact (show False from h).elim
theorem de_ix (ha : DE X W a ta) (hb : DE X W b tb) (hs : PlainIx b) : DE X W (.Subscript a b pos) (dOp rdIx ta tb) := ⟨PE.imp (pe_ix ix_seq ha.p hb.p hs) (op2_lift ix_lift)⟩
abbrev TOD := Si → Sd → (Option Int → Sd → Prop) → Prop
def upO (K : PySem.W.Frag) (W : Wi) (t : TOD) : TO := fun σ H Qv => ∃ σd S fr Qd, Ok K H S fr σd σ ∧ Cl K W fr ∧ t σd S Qd ∧ ∀ o H' S', Ok K H' S' fr σd σ → Qd o S' → Qv o H'
structure DO (X : Cx) (W : Wi) (e : Option Expr) (t : TOD) : Prop where
  p : PO X e (upO X.K W t)
def dNoPart : TOD := fun _ S Q => Q none S
def dPart (t : TED) : TOD := fun σ S Q => t σ S fun x S1 => match x with
  | .int i => Q (some i) S1
  | _ => False
theorem PO.imp {e : Option Expr} {t t' : TO} (h : PO X e t) (k : ∀ σ H Q, t' σ H Q → t σ H Q) : PO X e t' := ⟨fun pins s σ H Q I q => h.run pins s σ H Q I (k _ _ _ q)⟩
theorem do_none : DO X W none dNoPart := ⟨PO.imp po_none fun σ H Q ⟨σd, S, fr, Qd, ok, cl, h, k⟩ => k none H S ok h⟩
theorem do_some (h : DE X W e te) : DO X W (some e) (dPart te) := ⟨PO.imp (po_some h.p) fun σ H Q ⟨σd, S, fr, Qd, ok, cl, h, k⟩ => ⟨σd, S, fr, _, ok, cl, h, fun x dx H1 S1 ok1 r1 h1 => by
  cases dx with
  | int i => exact ⟨i, r1, k (some i) H1 S1 ok1 h1⟩
  | _ => exact (show False from h1).elim⟩⟩
def cutD (xs : List D) (lo hi : Option Int) : List D := (xs.drop (HT.sIx xs.length 0 lo)).take (HT.sIx xs.length xs.length hi - HT.sIx xs.length 0 lo)
def rdSl : D → Option Int → Option Int → Sd → DK → Prop
  | .tup ds, lo, hi, S, Q => Q (.tup (cutD ds lo hi)) S
  | .lst ds, lo, hi, S, Q => Q (.lst (cutD ds lo hi)) S
  | .obj a, lo, hi, S, Q => match S a with
    | some (.lst ds) => Q (.lst (cutD ds lo hi)) S
    | _ => False
  | .str z, lo, hi, S, Q => z.length ≤ 16777216 ∧ Q (.str (cutS z lo hi)) S
  | _, _, _, _, _ => False
def dSl (te : TED) (tl th : TOD) : TED := fun σ S Q => te σ S fun x S1 => tl σ S1 fun l S2 => th σ S2 fun u S3 => rdSl x l u S3 Q
theorem cut_rp {K : PySem.W.Frag} {H : Hp} {S : Sd} {ds : List D} {vs : List V} {lo hi : Option Int} (r : RpL K H S ds vs) : RpL K H S (cutD ds lo hi) (cutV vs lo hi) := by
  unfold cutD cutV
  rw [← rpL_len r]
  exact rpL_take _ (rpL_drop _ r)
theorem de_slice {lo hi : Option Expr} {tl th : TOD} (he : DE X W e te) (hl : DO X W lo tl) (hu : DO X W hi th) : DE X W (.Subscript e (.Slice lo hi none p2) pos) (dSl te tl th) :=
  ⟨PE.imp (pe_slice (sl_list.or (sl_tupA.or sl_str)) he.p hl.p hu.p) fun σ H Q ⟨σd, S, fr, Qd, ok, cl, h, k⟩ => ⟨σd, S, fr, _, ok, cl, h, fun x dx H1 S1 ok1 r1 h1 =>
    ⟨σd, S1, (x, dx) :: fr, _, ok1.cons r1, cl.tail, h1, fun l H2 S2 ok2 h2 => ⟨σd, S2, (x, dx) :: fr, _, ok2, cl.tail, h2, fun u H3 S3 ok3 h3 => by
      have rx := ok3.head
      have ok4 := ok3.tail
      cases dx with
      | lst ds =>
        obtain ⟨p, vs, e1, q1, r1⟩ := rp_list ok4.rel rx
        exact .inl ⟨p, vs, e1, q1, fun p hp => k _ (.lst (cutD ds l u)) _ S3 (ok4.new hp) (rp_lstNew ok4.rel hp (cut_rp r1)) h3⟩
      | obj p =>
        have h' : (match S3 p with | some (.lst ds) => Qd (.lst (cutD ds l u)) S3 | _ => False) := h3
        split at h'
        · rename_i ds q0
          obtain ⟨vs, q1, r1⟩ := rp_obj ok4.rel q0
          exact .inl ⟨p, vs, rx, SqL.of q1, fun p hp => k _ (.lst (cutD ds l u)) _ S3 (ok4.new hp) (rp_lstNew ok4.rel hp (cut_rp r1)) h'⟩
        · exact h'.elim
      | tup ds =>
        obtain ⟨p, vs, e1, q1, r1⟩ := rx
        refine .inr (.inl ⟨p, vs, e1, q1, fun hw => ?_, fun _ p hp => k _ (.tup (cutD ds l u)) _ S3 (ok4.new hp) (rp_tupNew ok4.rel hp (cut_rp r1)) h3⟩)
        have e2 : cutD ds l u = ds := by
          unfold cutD
          rw [rpL_len r1, hw.1, hw.2, List.drop_zero, Nat.sub_zero, ← rpL_len r1, List.take_length]
        have h' : Qd (.tup (cutD ds l u)) S3 := h3
        rw [e2] at h'
        exact k _ (.tup ds) H3 S3 ok4 ⟨p, vs, rfl, q1, r1⟩ h'
      | str z =>
        have h' : z.length ≤ 16777216 ∧ Qd (.str (cutS z l u)) S3 := h3
        exact .inr (.inr ⟨z, rx, sz_le h'.1, k _ (.str (cutS z l u)) H3 S3 ok4 rfl h'.2⟩)
      | _ => exact (show False from h3).elim⟩⟩⟩⟩
end
end Dv

/-! Readings by value, 3: calls, built-ins, statements, loops, comprehensions, defs. -/
namespace Dv
open PySem L2 PyProof.Rows

/-! ### the promise of a def, lifted -/
abbrev SpD := List D → Sd → DK → XKD → Prop
def FrOk (K : PySem.W.Frag) (H : Hp) (S : Sd) (fr : List (V × D)) : Prop := ∀ p ∈ fr, Rp K H S p.2 p.1
def upF (K : PySem.W.Frag) (sp : SpD) : Sp := fun vs H Qv E => ∃ ds S fr Qd Ed, RelS K H S ∧ FrOk K H S fr ∧ RpL K H S ds vs ∧ sp ds S Qd Ed ∧
  (∀ v d H' S', RelS K H' S' → FrOk K H' S' fr → Rp K H' S' d v → Qd d S' → Qv v H') ∧
  ∀ cls od x H' S', RelS K H' S' → FrOk K H' S' fr → RpX K H' S' x cls od → Ed x S' → E cls od H'
/-- the known slots, as pairs -/
def prs (σd : Si) (σ : L2.St) : List (V × D) := (σ.zip σd).filterMap fun p => match p with
  | (some v, some d) => some (v, d)
  | _ => none
theorem prs_mem {σd : Si} {σ : L2.St} {i : Nat} {v : V} {d : D} (h1 : σ[i]? = some (some v)) (h2 : σd[i]? = some (some d)) : (v, d) ∈ prs σd σ := by
  unfold prs
  refine List.mem_filterMap.mpr ⟨(some v, some d), ?_, rfl⟩
  refine List.mem_iff_getElem?.mpr ⟨i, ?_⟩
  rw [List.getElem?_zip_eq_some]
  exact ⟨h1, h2⟩
theorem prs_of {σd : Si} {σ : L2.St} {p : V × D} (h : p ∈ prs σd σ) : ∃ i : Nat, σ[i]? = some (some p.1) ∧ σd[i]? = some (some p.2) := by
  unfold prs at h
  obtain ⟨q, hq, e⟩ := List.mem_filterMap.mp h
  obtain ⟨i, hi⟩ := List.mem_iff_getElem?.mp hq
  rw [List.getElem?_zip_eq_some] at hi
  obtain ⟨q1, q2⟩ := q
  cases q1 with
  | none => cases e
  | some v => cases q2 with
    | none => cases e
    | some d =>
      cases e
      exact ⟨i, hi.1, hi.2⟩
section
variable {K : PySem.W.Frag} {H : Hp} {S : Sd} {fr : List (V × D)} {σd : Si} {σ : L2.St}
theorem Ok.out (ok : Ok K H S fr σd σ) : FrOk K H S (fr ++ prs σd σ) := fun p hp => by
  rcases List.mem_append.mp hp with h | h
  · exact ok.fr p h
  · obtain ⟨i, h1, h2⟩ := prs_of h
    obtain ⟨v, h3, r⟩ := ok.si i _ h2
    rw [h1] at h3
    cases h3
    exact r
theorem Ok.back {H' : Hp} {S' : Sd} (ok : Ok K H S fr σd σ) (R : RelS K H' S') (f : FrOk K H' S' (fr ++ prs σd σ)) : Ok K H' S' fr σd σ :=
  ⟨R, fun p hp => f p (List.mem_append_left _ hp), ok.len, fun i d e => by
    obtain ⟨v, h1, _⟩ := ok.si i d e
    exact ⟨v, h1, f (v, d) (List.mem_append_right _ (prs_mem h1 e))⟩⟩
end

section
variable {X : Cx} {W : Wi} {k : Nat} {f : Addr} {fd : FuncData} {ps : List Str} {sp : SpD} {ds : List Value} {dvs : List V} {dds : List D} {x : Str} {p pos : Pos} {e : Expr} {es : List Expr} {t : TAD}
def dCall (sp : SpD) (dds : List D) (WD : WXD) (t : TAD) : TED := fun σ S Q => t σ S fun xs S1 => sp (xs ++ dds) S1 Q fun y S2 => WD y σ S2
theorem call_lift (hdd : ∀ H S, RpL X.K H S dds dvs) (σ : L2.St) (H : Hp) (Q : VK) (h : upE X.K W (dCall sp dds W.D t) σ H Q) : tCallSD (upF X.K sp) dvs (WE W.V) (upA X.K W t) σ H Q := by
  obtain ⟨σd, S, fr, Qd, ok, cl, h, k⟩ := h
  refine ⟨σd, S, fr, _, ok, cl, h, fun vs ds H1 S1 ok1 r1 h1 => ?_⟩
  refine ⟨ds ++ dds, S1, fr ++ prs σd σ, Qd, _, ok1.rel, ok1.out, rpL_app r1 (hdd H1 S1), h1, fun v d H2 S2 R2 f2 r2 q2 => ?_, fun cls od x H2 S2 R2 f2 rx q2 => ?_⟩
  · exact k v d H2 S2 (ok1.back R2 f2) r2 q2
  · exact cl σd σ H2 S2 cls od x (ok1.back R2 f2) rx q2
theorem de_call (F : Hx.FnG X.prog X.w X.K X.mg X.base (L2N.CX X.prog X.w) k f fd ps (upF X.K sp)) (hr : Hx.RoomG k X.A) (hg : Gl X x) (hm : X.mg x = some (.ref f)) (hk : PySem.W.keepIn X.K (.ref f) = true) (hb : Binds X.K fd ps ds) (hd : Vals dvs ds)
    (hdd : ∀ H S, RpL X.K H S dds dvs) (tk : L2N.Takes X W.V) (ha : DA X W (e :: es) t) (hdb : (x == ("__debug__" : Str)) = false := by decide) (he : starEach (e :: es) X.env = (false, eval e X.env) :: starEach es X.env := by rfl)
    (hpl : (backTo pos (starEach es X.env)).any (·.1) = false := by rfl) : DE X W (.Call (.Name x p) (e :: es) [] pos) (dCall sp dds W.D t) :=
  ⟨PE.imp (Hx.pe_callG F hr hg hm hk hb hd (fun σ => L2N.passAt tk σ) ha.p hdb he hpl) (call_lift hdd)⟩

/-! ### built-ins -/
abbrev RDC := List D → Sd → DK → Prop
def LiftC (K : PySem.W.Frag) (r : List V → Hp → VK → Prop) (rd : RDC) : Prop := ∀ H S fr σd σ xs ds Qv Qd, Ok K H S fr σd σ → RpL K H S ds xs → rd ds S Qd →
  (∀ v d H' S', Ok K H' S' fr σd σ → Rp K H' S' d v → Qd d S' → Qv v H') → r xs H Qv
def CallD (X : Cx) (f : Value) (rd : RDC) : Prop := ∃ r, CallR X f r ∧ LiftC X.K r rd
def dCB (rd : RDC) (t : TAD) : TED := fun σ S Q => t σ S fun xs S1 => rd xs S1 Q
theorem cb_lift {r : List V → Hp → VK → Prop} {rd : RDC} (l : LiftC X.K r rd) (σ : L2.St) (H : Hp) (Q : VK) (h : upE X.K W (dCB rd t) σ H Q) : tCB r (upA X.K W t) σ H Q := by
  obtain ⟨σd, S, fr, Qd, ok, cl, h, k⟩ := h
  exact ⟨σd, S, fr, _, ok, cl, h, fun vs ds H1 S1 ok1 r1 h1 => l H1 S1 fr σd σ vs ds Q Qd ok1 r1 h1 k⟩
theorem de_callB {id : String} {rd : RDC} (hc : CallD X (.builtin id) rd) (hg : Gl X x) (hm : X.mg x = none) (hv : bootBuiltins x = some (.builtin id)) (ha : DA X W (e :: es) t) (hn : x ≠ "__name__" := by decide) (hdb : (x == ("__debug__" : Str)) = false := by decide)
    (he : starEach (e :: es) X.env = (false, eval e X.env) :: starEach es X.env := by rfl) (hpl : (backTo pos (starEach es X.env)).any (·.1) = false := by rfl) : DE X W (.Call (.Name x p) (e :: es) [] pos) (dCB rd t) := by
  obtain ⟨r, hc, l⟩ := hc
  exact ⟨PE.imp (pe_callB hc hg hm hv ha.p hn hdb he hpl) (cb_lift l)⟩
theorem de_callTy {T : String} {rd : RDC} (hc : CallD X (.type T) rd) (hg : Gl X x) (hm : X.mg x = none) (hv : bootBuiltins x = some (.type T)) (ha : DA X W (e :: es) t) (hn : x ≠ "__name__" := by decide) (hdb : (x == ("__debug__" : Str)) = false := by decide)
    (he : starEach (e :: es) X.env = (false, eval e X.env) :: starEach es X.env := by rfl) (hpl : (backTo pos (starEach es X.env)).any (·.1) = false := by rfl) : DE X W (.Call (.Name x p) (e :: es) [] pos) (dCB rd t) := by
  obtain ⟨r, hc, l⟩ := hc
  exact ⟨PE.imp (pe_callTy hc hg hm hv ha.p hn hdb he hpl) (cb_lift l)⟩
end
section
variable {K : PySem.W.Frag} {H : Hp} {S : Sd}
theorem rpL1 {d : D} {vs : List V} (h : RpL K H S [d] vs) : ∃ v, vs = [v] ∧ Rp K H S d v := by
  obtain ⟨v, r, e, h1, h2⟩ := h
  have e2 : r = [] := h2
  subst e2
  exact ⟨v, e, h1⟩
theorem rpL2 {c d : D} {vs : List V} (h : RpL K H S [c, d] vs) : ∃ v w, vs = [v, w] ∧ Rp K H S c v ∧ Rp K H S d w := by
  obtain ⟨v, r, e, h1, h2⟩ := h
  obtain ⟨w, e2, h3⟩ := rpL1 h2
  subst e2
  exact ⟨v, w, e, h1, h3⟩
theorem rpL_ints {ns : List Int} : ∀ {vs : List V}, RpL K H S (ns.map D.int) vs → vs = ns.map V.int := by
  induction ns with
  | nil => intro vs h; exact h
  | cons n r ih =>
    intro vs h
    obtain ⟨v, s, e, h1, h2⟩ := h
    have e1 : v = .int n := h1
    rw [e, e1, ih h2]
    rfl
theorem rpL_of_ints {ns : List Int} : RpL K H S (ns.map D.int) (ns.map V.int) := by
  induction ns with
  | nil => exact rfl
  | cons n r ih => exact ⟨_, _, rfl, rfl, ih⟩
theorem rpL_bls {ns : List Bool} : ∀ {vs : List V}, RpL K H S (ns.map D.bl) vs → vs = ns.map V.bl := by
  induction ns with
  | nil => intro vs h; exact h
  | cons n r ih =>
    intro vs h
    obtain ⟨v, s, e, h1, h2⟩ := h
    have e1 : v = .bl n := h1
    rw [e, e1, ih h2]
    rfl
theorem rpL_strs {ns : List Str} : ∀ {vs : List V}, RpL K H S (ns.map D.str) vs → vs = ns.map V.str := by
  induction ns with
  | nil => intro vs h; exact h
  | cons n r ih =>
    intro vs h
    obtain ⟨v, s, e, h1, h2⟩ := h
    have e1 : v = .str n := h1
    rw [e, e1, ih h2]
    rfl
end
def rdLen : RDC
  | [.str z], S, Q => z.length ≤ 16777216 ∧ Q (.int z.length) S
  | [d], S, Q => match itemsD S d with
    | some ds => Q (.int ds.length) S
    | none => False
  | _, _, _ => False
def rdAbs : RDC
  | [.int i], S, Q => Q (.int (if i < 0 then -i else i)) S
  | _, _, _ => False
def rdMax2 : RDC
  | [.int i, .int j], S, Q => Q (.int (if j > i then j else i)) S
  | _, _, _ => False
def rdMin2 : RDC
  | [.int i, .int j], S, Q => Q (.int (if j < i then j else i)) S
  | _, _, _ => False
def rdInt : RDC
  | [.int i], S, Q => Q (.int i) S
  | [.bl b], S, Q => Q (.int (if b then 1 else 0)) S
  | _, _, _ => False
def rdAll : RDC
  | [d], S, Q => ∃ bs : List Bool, lstD S d = some (bs.map D.bl) ∧ Q (.bl (bs.all id)) S
  | _, _, _ => False
def rdTupC : RDC
  | [d], S, Q => match itemsD S d with
    | some ds => Q (.tup ds) S
    | none => False
  | _, _, _ => False
def rdListC : RDC
  | [d], S, Q => match itemsD S d with
    | some ds => Q (.lst ds) S
    | none => False
  | _, _, _ => False
def rdSorted : RDC
  | [d], S, Q => ∃ ns : List Int, itemsD S d = some (ns.map D.int) ∧ ns.length < 64 ∧ ∀ ns' : List Int, ns'.Perm ns → ns'.Pairwise (· ≤ ·) → Q (.lst (ns'.map D.int)) S
  | _, _, _ => False
/-- a value's built-in type -/
def tyD : D → Option String
  | .non => some "NoneType" | .bl _ => some "bool" | .int _ => some "int" | .str _ => some "str" | .tup _ => some "tuple" | .lst _ => some "list" | _ => none
def isiD (d : D) (n : String) : Option Bool := match tyD d with
  | some t => kitB t n
  | none => none
def rdIsi : RDC
  | [d, .ty n], S, Q => match isiD d n with
    | some b => Q (.bl b) S
    | none => False
  | _, _, _ => False
section
variable {X : Cx}
theorem cd_len : CallD X (.builtin "len") rdLen := ⟨_, call_len, fun H S fr σd σ xs ds Qv Qd ok r h k => by
  match ds, r, h with
  | [d], r, h =>
    obtain ⟨v, rfl, r0⟩ := rpL1 r
    have r := r0
    have gen : (match itemsD S d with | some ds => Qd (.int ds.length) S | none => False) → ∃ x n, [v] = [x] ∧ LenV X.K x H n ∧ Qv (.int n) H := fun h => by
      cases e : itemsD S d with
      | none => rw [e] at h; exact h.elim
      | some ds =>
        rw [e] at h
        obtain ⟨a, vs, rfl, q, r2⟩ := rp_items ok.rel r e
        refine ⟨_, vs.length, rfl, ?_, k _ (.int ds.length) H S ok (by rw [rpL_len r2]; rfl) h⟩
        rcases q with q | q
        · exact .inl ⟨vs, q, rfl⟩
        · exact .inr ⟨vs, q, rfl⟩
    cases d with
    | str z =>
      have e : v = .str z := r
      subst e
      have h' : z.length ≤ 16777216 ∧ Qd (.int z.length) S := h
      exact ⟨_, z.length, rfl, ⟨sz_le h'.1, rfl⟩, k _ (.int z.length) H S ok rfl h'.2⟩
    | _ => exact gen h
  | [], _, h => exact (show False from h).elim
  | a :: _ :: _, _, h => exact (by cases a <;> exact h : False).elim⟩
theorem int1_lift {K : PySem.W.Frag} {g : Int → D} {gv : Int → V} {rd : RDC} (hg : ∀ i H S, Rp K H S (g i) (gv i)) (h1 : ∀ ds S Q, rd ds S Q → ∃ i, ds = [.int i] ∧ Q (g i) S) :
    LiftC K (fun xs H Q => ∃ i, xs = [.int i] ∧ Q (gv i) H) rd := fun H S fr σd σ xs ds Qv Qd ok r h k => by
  obtain ⟨i, rfl, q⟩ := h1 ds S Qd h
  obtain ⟨v, rfl, r0⟩ := rpL1 r
  have r := r0
  have e : v = .int i := r
  subst e
  exact ⟨i, rfl, k _ (g i) H S ok (hg i H S) q⟩
theorem inv_abs {ds : List D} {S : Sd} {Q : DK} (h : rdAbs ds S Q) : ∃ i, ds = [.int i] ∧ Q (.int (if i < 0 then -i else i)) S := by
  cases ds with
  | nil => exact h.elim
  | cons d t => cases t with
    | nil => cases d <;> first | exact ⟨_, rfl, h⟩ | exact (show False from h).elim
    | cons e r => cases d <;> exact (show False from h).elim
theorem inv_int {ds : List D} {S : Sd} {Q : DK} (h : rdInt ds S Q) : (∃ i, ds = [.int i] ∧ Q (.int i) S) ∨ ∃ b, ds = [.bl b] ∧ Q (.int (if b then 1 else 0)) S := by
  cases ds with
  | nil => exact h.elim
  | cons d t => cases t with
    | nil => cases d <;> first | exact .inl ⟨_, rfl, h⟩ | exact .inr ⟨_, rfl, h⟩ | exact (show False from h).elim
    | cons e r => cases d <;> exact (show False from h).elim
theorem inv_max2 {ds : List D} {S : Sd} {Q : DK} (h : rdMax2 ds S Q) : ∃ i j, ds = [.int i, .int j] ∧ Q (.int (if j > i then j else i)) S := by
  cases ds with
  | nil => exact h.elim
  | cons d t => cases t with
    | nil => cases d <;> exact (show False from h).elim
    | cons e r => cases r with
      | nil => cases d <;> cases e <;> first | exact ⟨_, _, rfl, h⟩ | exact (show False from h).elim
      | cons f r => cases d <;> cases e <;> exact (show False from h).elim
theorem inv_min2 {ds : List D} {S : Sd} {Q : DK} (h : rdMin2 ds S Q) : ∃ i j, ds = [.int i, .int j] ∧ Q (.int (if j < i then j else i)) S := by
  cases ds with
  | nil => exact h.elim
  | cons d t => cases t with
    | nil => cases d <;> exact (show False from h).elim
    | cons e r => cases r with
      | nil => cases d <;> cases e <;> first | exact ⟨_, _, rfl, h⟩ | exact (show False from h).elim
      | cons f r => cases d <;> cases e <;> exact (show False from h).elim
theorem inv_isi {ds : List D} {S : Sd} {Q : DK} (h : rdIsi ds S Q) : ∃ d n b, ds = [d, .ty n] ∧ isiD d n = some b ∧ Q (.bl b) S := by
  cases ds with
  | nil => exact h.elim
  | cons d t => cases t with
    | nil => exact (show False from h).elim
    | cons e r => cases r with
      | cons f r => cases e <;> exact (show False from h).elim
      | nil =>
        cases e with
        | ty n =>
          have h' : (match isiD d n with | some b => Q (.bl b) S | none => False) := h
          cases q : isiD d n with
          | none => rw [q] at h'; exact h'.elim
          | some b => rw [q] at h'; exact ⟨d, n, b, rfl, q, h'⟩
        | _ => exact (show False from h).elim
theorem cd_abs : CallD X (.builtin "abs") rdAbs := ⟨_, call_abs, int1_lift (g := fun i => .int (if i < 0 then -i else i)) (fun _ _ _ => rfl) fun ds S Q h => inv_abs h⟩
theorem int2_lift {K : PySem.W.Frag} {g : Int → Int → D} {gv : Int → Int → V} {rd : RDC} (hg : ∀ i j H S, Rp K H S (g i j) (gv i j)) (h1 : ∀ ds S Q, rd ds S Q → ∃ i j, ds = [.int i, .int j] ∧ Q (g i j) S) :
    LiftC K (fun xs H Q => ∃ i j, xs = [.int i, .int j] ∧ Q (gv i j) H) rd := fun H S fr σd σ xs ds Qv Qd ok r h k => by
  obtain ⟨i, j, rfl, q⟩ := h1 ds S Qd h
  obtain ⟨v, w, rfl, r1, r2⟩ := rpL2 r
  have e : v = .int i := r1
  have e2 : w = .int j := r2
  subst e e2
  exact ⟨i, j, rfl, k _ (g i j) H S ok (hg i j H S) q⟩
theorem cd_max2 (hc : X.calm = true) : CallD X (.builtin "max") rdMax2 := ⟨_, call_max2 hc, int2_lift (g := fun i j => .int (if j > i then j else i)) (fun _ _ _ _ => rfl) fun ds S Q h => inv_max2 h⟩
theorem cd_min2 (hc : X.calm = true) : CallD X (.builtin "min") rdMin2 := ⟨_, call_min2 hc, int2_lift (g := fun i j => .int (if j < i then j else i)) (fun _ _ _ _ => rfl) fun ds S Q h => inv_min2 h⟩
theorem cd_int : CallD X (.type "int") rdInt := ⟨_, call_int1, fun H S fr σd σ xs ds Qv Qd ok r h k => by
  rcases inv_int h with ⟨i, rfl, q⟩ | ⟨b, rfl, q⟩
  · obtain ⟨v, rfl, r0⟩ := rpL1 r
    have r := r0
    have e : v = .int i := r
    subst e
    exact .inl ⟨i, rfl, k _ (.int i) H S ok rfl q⟩
  · obtain ⟨v, rfl, r0⟩ := rpL1 r
    have r := r0
    have e : v = .bl b := r
    subst e
    exact .inr ⟨b, rfl, k _ (.int (if b then 1 else 0)) H S ok rfl q⟩⟩
theorem cd_all (hc : X.calm = true) : CallD X (.builtin "all") rdAll := ⟨_, cr_all hc, fun H S fr σd σ xs ds Qv Qd ok r h k => by
  match ds, r, h with
  | [], _, h => exact (show False from h).elim
  | _ :: _ :: _, _, h => exact (show False from h).elim
  | [d], r, h =>
    obtain ⟨v, rfl, r0⟩ := rpL1 r
    have r := r0
    obtain ⟨bs, e, q⟩ := h
    obtain ⟨a, vs, rfl, q1, r1⟩ := rp_lstD ok.rel r e
    rw [rpL_bls r1] at q1
    exact ⟨a, bs, rfl, q1, k _ (.bl (bs.all id)) H S ok rfl q⟩⟩
theorem isi_ty {K : PySem.W.Frag} {H : Hp} {S : Sd} {d : D} {v : V} {t : String} (R : RelS K H S) (r : Rp K H S d v) (e : tyD d = some t) : TyX K H v (.type t) := by
  cases d with
  | non => cases e; have e : v = .non := r; subst e; exact .base .non
  | bl b => cases e; have e : v = .bl b := r; subst e; exact .base (.bl b)
  | int i => cases e; have e : v = .int i := r; subst e; exact .base (.int i)
  | str x => cases e; have e : v = .str x := r; subst e; exact .base (.str x)
  | tup ds =>
    cases e
    obtain ⟨a, vs, rfl, q, _⟩ := r
    rcases q with (q | ⟨o, q⟩) | ⟨o, its, n, h1, h2, _⟩
    · exact .base (.tup q)
    · exact .fTuple q
    · exact .kTuple h1 h2
  | lst ds =>
    cases e
    obtain ⟨a, vs, rfl, q, _⟩ := r
    rcases q with ⟨q | ⟨o, q⟩, _⟩ | ⟨o, its, n, h1, h2, _⟩
    · exact .base (.lst q)
    · exact .base (.frz q)
    · exact .kList h1 h2
  | _ => cases e
theorem cd_isi : CallD X (.builtin "isinstance") rdIsi := ⟨_, call_isi, fun H S fr σd σ xs ds Qv Qd ok r h k => by
  obtain ⟨d, n, b, rfl, e, q⟩ := inv_isi h
  obtain ⟨v, w, rfl, r1, r2⟩ := rpL2 r
  have e0 : w = .ty n := r2
  subst e0
  unfold isiD at e
  cases e2 : tyD d with
  | none => rw [e2] at e; cases e
  | some t =>
    rw [e2] at e
    exact ⟨v, .ty n, .type t, .type n, b, rfl, .ty n, isi_ty ok.rel r1 e2, kit_ty e, k _ (.bl b) H S ok rfl q⟩⟩
end
end Dv

/-! Readings by value, 4: statements, targets, loops, comprehensions, defs. -/
namespace Dv
open PySem L2 PyProof.Rows

section
variable {K : PySem.W.Frag} {H : Hp} {S : Sd} {fr : List (V × D)} {Dd : EndsD} {D0 : Ends} {σd : Si} {σ : L2.St} {W : Wi}
theorem Ok.pre {fr2 : List (V × D)} (o : Ok K H S (fr2 ++ fr) σd σ) : Ok K H S fr σd σ := ⟨o.rel, fun p hp => o.fr p (List.mem_append_right _ hp), o.len, o.si⟩
theorem Cl.pre {fr2 : List (V × D)} (c : Cl K W fr) : Cl K W (fr2 ++ fr) := fun σd σ H S cls od x o => c σd σ H S cls od x o.pre
end

section
variable {X : Cx} {W : Wi} {st : Stmt} {rest : List Stmt} {t u : TSD} {e c : Expr} {te : TED} {tc : TTD} {pos : Pos}
def dNext : TSD := fun D σ S => D.nx σ S
def dSeq (t u : TSD) : TSD := fun D σ S => t { D with nx := u D } σ S
theorem db_nil : DB X W [] dNext := ⟨PSs.imp pss_nil fun D σ H ⟨σd, S, fr, Dd, ok, cl, h, k⟩ => k.nx σd σ H S ok h⟩
theorem db_cons (h1 : DS X W st t) (h2 : DB X W rest u) : DB X W (st :: rest) (dSeq t u) :=
  ⟨PSs.imp (pss_cons h1.p h2.p) fun D σ H ⟨σd, S, fr, Dd, ok, cl, h, k⟩ => ⟨σd, S, fr, { Dd with nx := u Dd }, ok, cl, h,
    ⟨fun σd' σ' H' S' ok' q => ⟨σd', S', fr, Dd, ok', cl, q, k⟩, k.rt, k.bk, k.ct⟩⟩⟩
theorem db_one (h1 : DS X W st t) : DB X W [st] t := ⟨pss_one h1.p⟩
def dDrop (te : TED) : TSD := fun D σ S => te σ S fun _ S1 => D.nx σ S1
theorem ds_expr (he : DE X W e te) (hs : swapsWith e none pos.line X.env = pure false := by rfl) : DS X W (.Expr e pos) (dDrop te) :=
  ⟨PS.imp (ps_expr he.p hs) fun D σ H ⟨σd, S, fr, Dd, ok, cl, h, k⟩ => ⟨σd, S, fr, _, ok, cl, h, fun v d H' S' ok' r q => k.nx σd σ H' S' ok' q⟩⟩
def dRet (te : TED) : TSD := fun D σ S => te σ S D.rt
theorem ds_ret (he : DE X W e te) : DS X W (.Return (some e) pos) (dRet te) :=
  ⟨PS.imp (ps_ret he.p) fun D σ H ⟨σd, S, fr, Dd, ok, cl, h, k⟩ => ⟨σd, S, fr, _, ok, cl, h, fun v d H' S' ok' r q => k.rt v d σd σ H' S' ok' r q⟩⟩
def dIfS (c : TTD) (t u : TSD) : TSD := fun D σ S => c σ S fun b S1 => if b = true then t D σ S1 else u D σ S1
theorem ds_if {a b : List Stmt} (hc : DT X W c tc) (ha : DB X W a t) (hb : DB X W b u) : DS X W (.If c a b pos) (dIfS tc t u) :=
  ⟨PS.imp (ps_if hc.p ha.p hb.p) fun D σ H ⟨σd, S, fr, Dd, ok, cl, h, k⟩ => ⟨σd, S, fr, _, ok, cl, h, fun b H1 S1 ok1 h1 => by
    cases b with
    | true => exact (show upSt X.K W t D σ H1 from ⟨σd, S1, fr, Dd, ok1, cl, (show t Dd σd S1 from by simpa using h1), k⟩)
    | false => exact (show upSt X.K W u D σ H1 from ⟨σd, S1, fr, Dd, ok1, cl, (show u Dd σd S1 from by simpa using h1), k⟩)⟩⟩

/-! ### targets -/
abbrev TGD := D → Si → Sd → (Si → Sd → Prop) → Prop
abbrev TGsD := List D → Si → Sd → (Si → Sd → Prop) → Prop
/-- vs: slots that may change -/
def upG (K : PySem.W.Frag) (W : Wi) (vs : List Nat) (t : TGD) : TG := fun v σ H Q => ∃ σd S fr Qd d, Ok K H S fr σd σ ∧ Cl K W fr ∧ Rp K H S d v ∧ t d σd S Qd ∧
  ∀ σ' σd' H' S', Ok K H' S' fr σd' σ' → wipe σ' vs = wipe σ vs → Qd σd' S' → Q σ' H'
def upGs (K : PySem.W.Frag) (W : Wi) (vs : List Nat) (t : TGsD) : TGs := fun us σ H Q => ∃ σd S fr Qd ds, Ok K H S fr σd σ ∧ Cl K W fr ∧ RpL K H S ds us ∧ t ds σd S Qd ∧
  ∀ σ' σd' H' S', Ok K H' S' fr σd' σ' → wipe σ' vs = wipe σ vs → Qd σd' S' → Q σ' H'
structure DG (X : Cx) (W : Wi) (vs : List Nat) (e : Expr) (t : TGD) : Prop where
  p : PG X e (upG X.K W vs t)
structure DGs (X : Cx) (W : Wi) (vs : List Nat) (es : List Expr) (t : TGsD) : Prop where
  p : PGs X es (upGs X.K W vs t)
theorem PG.imp {e : Expr} {t t' : TG} (h : PG X e t) (k : ∀ v σ H Q, t' v σ H Q → t v σ H Q) : PG X e t' := ⟨fun pins s σ H v u Q I r q => h.run pins s σ H v u Q I r (k _ _ _ _ q)⟩
theorem PGs.imp {e : List Expr} {t t' : TGs} (h : PGs X e t) (k : ∀ v σ H Q, t' v σ H Q → t v σ H Q) : PGs X e t' := ⟨fun pins s σ H v u Q I r q => h.run pins s σ H v u Q I r (k _ _ _ _ q)⟩
theorem wipe_set {σ : L2.St} {i : Nat} {x : Option V} : ∀ {vs : List Nat}, i ∈ vs → wipe (σ.set i x) vs = wipe σ vs
  | v :: vs, h => by
    unfold wipe
    by_cases hv : i ∈ vs
    · rw [wipe_set hv]
    · have e : i = v := by
        rcases List.mem_cons.mp h with e | e
        · exact e
        · exact absurd e hv
      subst e
      have gen : ∀ (ws : List Nat), i ∉ ws → wipe (σ.set i x) ws = (wipe σ ws).set i x := by
        intro ws
        induction ws with
        | nil => intro _; rfl
        | cons w ws ih =>
          intro hm
          have h1 : i ≠ w := fun e => hm (by rw [e]; exact List.mem_cons_self)
          have h2 : i ∉ ws := fun e => hm (List.mem_cons_of_mem _ e)
          show (wipe (σ.set i x) ws).set w none = ((wipe σ ws).set w none).set i x
          rw [ih h2, List.set_comm _ _ h1]
      rw [gen vs hv, List.set_set]
def dName (i : Nat) : TGD := fun d σ S Q => Q (σ.set i (some d)) S
theorem dg_name {vs : List Nat} {i : Nat} {x : Str} (hN : X.N.Nodup) (hi : X.N[i]? = some x) (hx : Loc X.env.scope x) (hv : i ∈ vs) (hf : X.fn x = true ∨ X.env.scope.names.lookup x = some .local := by first | exact .inl rfl | exact .inr rfl | assumption) :
    DG X W vs (.Name x pos) (dName i) := ⟨PG.imp (pg_name hN hi hx hf) fun v σ H Q ⟨σd, S, fr, Qd, d, ok, cl, r, h, k⟩ => k _ _ H S (ok.set r i) (wipe_set hv) h⟩
def dGNil : TGsD := fun ds σ S Q => match ds with
  | [] => Q σ S
  | _ => False
def dGCons (t : TGD) (u : TGsD) : TGsD := fun ds σ S Q => match ds with
  | d :: r => t d σ S fun σ' S' => u r σ' S' Q
  | [] => False
theorem dgs_nil {vs : List Nat} : DGs X W vs [] dGNil := ⟨PGs.imp pgs_nil fun v σ H Q ⟨σd, S, fr, Qd, ds, ok, cl, r, h, k⟩ => by
  cases ds with
  | nil => exact ⟨r, k σ σd H S ok rfl h⟩
  | cons d s => exact (show False from h).elim⟩
theorem dgs_cons {vs : List Nat} {es : List Expr} {t : TGD} {u : TGsD} (h1 : DG X W vs e t) (h2 : DGs X W vs es u) (hs : (assignEach (e :: es) X.env).map (·.2) = assign e X.env :: (assignEach es X.env).map (·.2) := by rfl) : DGs X W vs (e :: es) (dGCons t u) :=
  ⟨PGs.imp (pgs_cons h1.p h2.p hs) fun us σ H Q ⟨σd, S, fr, Qd, ds, ok, cl, r, h, k⟩ => by
    cases ds with
    | nil => exact (show False from h).elim
    | cons d s =>
      obtain ⟨v, ur, e1, r1, r2⟩ := r
      refine ⟨v, ur, e1, σd, S, (ur.zip s) ++ fr, fun σ' S' => u s σ' S' Qd, d, ?_, cl.pre, r1, h, fun σ' σd' H' S' ok' hw q => ?_⟩
      · refine ⟨ok.rel, fun p hp => ?_, ok.len, ok.si⟩
        rcases List.mem_append.mp hp with hp | hp
        · obtain ⟨i, hi⟩ := List.mem_iff_getElem?.mp hp
          rw [List.getElem?_zip_eq_some] at hi
          obtain ⟨w, q1, q2⟩ := rpL_get r2 hi.2
          rw [hi.1] at q1
          cases q1
          exact q2
        · exact ok.fr p hp
      · refine ⟨σd', S', fr, Qd, s, ok'.pre, cl, ?_, q, fun σ2 σd2 H2 S2 ok2 hw2 q2 => k σ2 σd2 H2 S2 ok2 (hw2.trans hw) q2⟩
        have hl := rpL_len r2
        have gen : ∀ (s : List D) (ur : List V), s.length = ur.length → (∀ p ∈ ur.zip s, Rp X.K H' S' p.2 p.1) → RpL X.K H' S' s ur := by
          intro s
          induction s with
          | nil => intro ur hl _; exact List.length_eq_zero_iff.mp hl.symm
          | cons d s ih =>
            intro ur hl hz
            cases ur with
            | nil => cases hl
            | cons w ur =>
              refine ⟨w, ur, rfl, hz (w, d) (by simp), ih ur (by simpa using hl) fun p hp => hz p ?_⟩
              rw [List.zip_cons_cons]
              exact List.mem_cons_of_mem _ hp
        exact gen s ur hl fun p hp => ok'.fr p (List.mem_append_left _ hp)⟩
/-- (a, b, ..) = a tuple or a list of that length -/
def dTupG (n : Nat) (t : TGsD) : TGD := fun d σ S Q => match d with
  | .tup ds => ds.length = n ∧ t ds σ S Q
  | _ => False
theorem dg_tup {vs : List Nat} {es : List Expr} {k : Nat} {t : TGsD} {n : Nat} (hc : X.calm = true) (h : DGs X W vs es t) (hn : (assignEach es X.env).length = n := by rfl) (hst : (assignEach es X.env).findIdx? (·.1) = none := by rfl) :
    DG X W vs (.Tuple es k pos) (dTupG n t) := ⟨PG.imp (pg_tup hc h.p hn hst) fun v σ H Q ⟨σd, S, fr, Qd, d, ok, cl, r, q, k⟩ => by
  cases d with
  | tup ds =>
    obtain ⟨a, vs, e, q1, r1⟩ := r
    exact ⟨a, vs, e, q1, (rpL_len r1).symm.trans q.1, σd, S, fr, Qd, ds, ok, cl, r1, q.2, k⟩
  | _ => exact (show False from q).elim⟩
def dAsg (te : TED) (g : TGD) : TSD := fun D σ S => te σ S fun x S1 => g x σ S1 D.nx
theorem ds_asg {vs : List Nat} {tg : Expr} {g : TGD} (he : DE X W e te) (hg : DG X W vs tg g) (hs : swapsWithSole [tg] e pos.line X.env = pure false := by rfl) (hw : swappedStores [tg] e X.env = pure none := by rfl)
    (h1 : (assignEach [tg] X.env).map (·.2) = [assign tg X.env] := by rfl) : DS X W (.Assign [tg] e pos) (dAsg te g) :=
  ⟨PS.imp (ps_asg he.p hg.p hs hw h1) fun D σ H ⟨σd, S, fr, Dd, ok, cl, h, k⟩ => ⟨σd, S, fr, _, ok, cl, h, fun v d H1 S1 ok1 r1 q => ⟨σd, S1, fr, Dd.nx, d, ok1, cl, r1, q, fun σ' σd' H' S' ok' _ q' => k.nx σd' σ' H' S' ok' q'⟩⟩⟩
def dSet (i : Nat) (te : TED) : TSD := fun D σ S => te σ S fun x S1 => D.nx (σ.set i (some x)) S1
theorem ds_set (i : Nat) {x : Str} {pos' : Pos} (hN : X.N.Nodup) (hi : X.N[i]? = some x) (hx : Loc X.env.scope x) (he : DE X W e te) (hs : swapsWith e (some (.Name x pos')) pos.line X.env = pure false := by rfl)
    (hf : X.fn x = true ∨ X.env.scope.names.lookup x = some .local := by first | exact .inl rfl | exact .inr rfl | assumption) : DS X W (.Assign [.Name x pos'] e pos) (dSet i te) :=
  ⟨PS.imp (ps_set hN hi hx he.p hs hf) fun D σ H ⟨σd, S, fr, Dd, ok, cl, h, k⟩ => ⟨σd, S, fr, _, ok, cl, h, fun v d H1 S1 ok1 r1 q => k.nx _ _ H1 S1 (ok1.set r1 i) q⟩⟩
/-- a, b = x, y -/
def dPar (i j : Nat) (ta : TAD) : TSD := fun D σ S => ta σ S fun vs S1 => match vs with
  | [v, w] => D.nx ((σ.set i (some v)).set j (some w)) S1
  | _ => False
theorem ds_par (i j : Nat) {x y : Str} {a b : Expr} {ta : TAD} {px py pt : Pos} {kt k2 pt2} (hc : X.calm = true) (hN : X.N.Nodup) (hi : X.N[i]? = some x) (hj : X.N[j]? = some y) (hij : i ≠ j)
    (hx : X.env.scope.names.lookup x = some .local) (hy : X.env.scope.names.lookup y = some .local) (ha : DA X W [a, b] ta) (hw : swappedStores [.Tuple [.Name x px, .Name y py] kt pt] (.Tuple [a, b] k2 pt2) X.env = pure (some [x, y]))
    (hs : swapsWithSole [.Tuple [.Name x px, .Name y py] kt pt] (.Tuple [a, b] k2 pt2) pos.line X.env = pure false := by rfl) :
    DS X W (.Assign [.Tuple [.Name x px, .Name y py] kt pt] (.Tuple [a, b] k2 pt2) pos) (dPar i j ta) :=
  ⟨PS.imp (ps_par hc hN hi hj hij hx hy ha.p hw hs) fun D σ H ⟨σd, S, fr, Dd, ok, cl, h, k⟩ => ⟨σd, S, fr, _, ok, cl, h, fun vs ds H1 S1 ok1 r1 q => by
    cases ds with
    | nil => exact (show False from q).elim
    | cons d r => cases r with
      | nil => exact (show False from q).elim
      | cons d2 r => cases r with
        | cons _ _ => exact (show False from q).elim
        | nil =>
          obtain ⟨v, w, rfl, h1, h2⟩ := rpL2 r1
          exact ⟨v, w, rfl, k.nx _ _ H1 S1 ((ok1.set h1 i).set h2 j) q⟩⟩⟩
/-- x op= e -/
def dAug (i : Nat) (te : TED) (rd : RD2) : TSD := fun D σ S => match σ[i]? with
  | some (some x) => te σ S fun y S1 => rd x y S1 fun z S2 => D.nx (σ.set i (some z)) S2
  | _ => False
theorem ds_aug (i : Nat) {x : Str} {op : Operator} {rd : RD2} {pos' : Pos} (hN : X.N.Nodup) (hi : X.N[i]? = some x) (hx : Loc X.env.scope x) (he : DE X W e te) (ho : OpD X (inplaceOp op) rd)
    (hf : X.fn x = true ∨ X.env.scope.names.lookup x = some .local := by first | exact .inl rfl | exact .inr rfl | assumption) : DS X W (.AugAssign (.Name x pos') op e pos) (dAug i te rd) := by
  obtain ⟨r, ho, l⟩ := ho
  refine ⟨PS.imp (ps_aug hN hi hx he.p (ti := r) ho hf) fun D σ H ⟨σd, S, fr, Dd, ok, cl, h, k⟩ => ?_⟩
  have h' : (match σd[i]? with | some (some x) => te σd S fun y S1 => rd x y S1 fun z S2 => Dd.nx (σd.set i (some z)) S2 | _ => False) := h
  split at h'
  · rename_i dx e0
    obtain ⟨v, e1, r1⟩ := ok.si i dx e0
    refine ⟨v, e1, σd, S, (v, dx) :: fr, _, ok.cons r1, cl.tail, h', fun y dy H1 S1 ok1 ry q => ?_⟩
    exact l H1 S1 fr σd σ v y dx dy _ _ ok1.tail ok1.head ry q fun z dz H2 S2 ok2 rz q2 => k.nx _ _ H2 S2 (ok2.set rz i) q2
  · exact h'.elim
/-- l[k] = e, l an owned list -/
def setQ (S : Sd) (k : D) (v : D) (Q : Sd → Prop) : D → Prop
  | .obj a => match S a, k with
    | some (.lst ds), .int i => match ixN ds.length i with
      | some j => Q (upS S a (.lst (ds.set j v)))
      | none => False
    | _, _ => False
  | _ => False
theorem setQ_inv {S : Sd} {k v o : D} {Q : Sd → Prop} (h : setQ S k v Q o) : ∃ a ds i j, o = .obj a ∧ S a = some (.lst ds) ∧ k = .int i ∧ ixN ds.length i = some j ∧ Q (upS S a (.lst (ds.set j v))) := by
  cases o with
  | obj a =>
    unfold setQ at h
    dsimp only at h
    split at h
    · rename_i x y ds i e
      split at h
      · rename_i j ej
        exact ⟨a, ds, i, j, rfl, e, rfl, ej, h⟩
      · exact h.elim
    · exact h.elim
  | _ => exact (show False from h).elim
def dStore (to ti te : TED) : TSD := fun D σ S => te σ S fun v S1 => to σ S1 fun o S2 => ti σ S2 fun k S3 => setQ S3 k v (D.nx σ) o
theorem ds_store {o i : Expr} {to ti : TED} {spos : Pos} (ho : DE X W o to) (hi : DE X W i ti) (he : DE X W e te) (ha : ∀ v, assign (.Subscript o i spos) X.env v = (do
      let ov ← holding [v] (eval o X.env)
      let iv ← holding [v, ov] (eval i X.env)
      standAt spos
      holding [v, ov, iv] (setItem ov iv v)
      release [v, ov, iv] []) := by intro _; rfl) (hs : swapsWithSole [.Subscript o i spos] e pos.line X.env = pure false := by rfl) (hw : swappedStores [.Subscript o i spos] e X.env = pure none := by rfl)
    (h1 : (assignEach [.Subscript o i spos] X.env).map (·.2) = [assign (.Subscript o i spos) X.env] := by rfl) : DS X W (.Assign [.Subscript o i spos] e pos) (dStore to ti te) :=
  ⟨PS.imp (ps_asg he.p (pg_sub ho.p hi.p set_list ha) hs hw h1) fun D σ H ⟨σd, S, fr, Dd, ok, cl, h, k⟩ => ⟨σd, S, fr, _, ok, cl, h, fun v d H1 S1 ok1 r1 q =>
    ⟨σd, S1, (v, d) :: fr, _, ok1.cons r1, cl.tail, q, fun ov od H2 S2 ok2 r2 q => ⟨σd, S2, (ov, od) :: (v, d) :: fr, _, ok2.cons r2, cl.tail.tail, q, fun kv kd H3 S3 ok3 r3 q => by
      obtain ⟨a, ds, n, j, e1, e2, e3, e4, q5⟩ := setQ_inv q
      have ro := ok3.head
      have rv := ok3.tail.head
      have ok4 := ok3.tail.tail
      subst e1 e3
      obtain ⟨vs, hv, rl⟩ := rp_obj ok4.rel e2
      refine ⟨a, vs, n, j, ro, r3, hv, by rw [← rpL_len rl]; exact e4, ?_⟩
      have st : Step H3 S3 (upd H3 a (.lst (vs.set j v))) (upS S3 a (.lst (ds.set j d))) := step_set e2
      exact k.nx σd σ _ _ (ok4.step st (rel_set ok4.rel e2 ⟨_, upd_same, rpL_step ok4.rel st _ _ (rpL_set j rl rv)⟩)) q5⟩⟩⟩⟩
/-! ### methods of built-in types -/
def tyM (T : String) (d : D) (S : Sd) : Prop := match d with
  | .str _ => T = "str"
  | .int _ => T = "int"
  | .lst ds => T = "list"
  | .obj a => T = "list" ∧ ∃ ds, S a = some (.lst ds)
  | _ => False
theorem tyM_V {K : PySem.W.Frag} {H : Hp} {S : Sd} {d : D} {v : V} {T : String} (R : RelS K H S) (r : Rp K H S d v) (t : tyM T d S) : tyV K T v H := by
  cases d with
  | str x => have e : v = .str x := r; subst e; exact t
  | int x => have e : v = .int x := r; subst e; exact t
  | lst ds =>
    obtain ⟨a, vs, rfl, q, _⟩ := rp_list R r
    exact .inl ⟨t, vs, q⟩
  | obj a =>
    obtain ⟨t, ds, e⟩ := t
    obtain ⟨vs, q, _⟩ := rp_obj R e
    have e : v = .ref a := r
    subst e
    exact .inl ⟨t, vs, SqL.of q⟩
  | _ => exact (show False from t).elim
abbrev RDM := D → List D → Sd → DK → Prop
def LiftM (K : PySem.W.Frag) (r : V → List V → Hp → VK → Prop) (rd : RDM) : Prop := ∀ H S fr σd σ x dx xs ds Qv Qd, Ok K H S fr σd σ → Rp K H S dx x → RpL K H S ds xs → rd dx ds S Qd →
  (∀ v d H' S', Ok K H' S' fr σd σ → Rp K H' S' d v → Qd d S' → Qv v H') → r x xs H Qv
def dBM (T : String) (rd : RDM) (to : TED) (t : TAD) : TED := fun σ S Q => to σ S fun o S1 => tyM T o S1 ∧ t σ S1 fun vs S2 => rd o vs S2 Q
def dBM0 (T : String) (rd : RDM) (to : TED) : TED := fun σ S Q => to σ S fun o S1 => tyM T o S1 ∧ rd o [] S1 Q
theorem de_bm {o : Expr} {to : TED} {es : List Expr} {t : TAD} {T id : String} {name : Str} {apos cpos : Pos} {r : V → List V → Hp → VK → Prop} {rd : RDM} (pa : PlainAttrs T) (slot : Slot T name id) (hty : typeOf (.builtin id) = pure (.type "method_descriptor")) (hm : MtR X id r) (l : LiftM X.K r rd)
    (ho : DE X W o to) (ha : DA X W (e :: es) t) (hbase : attributeBase o name X.env (eval o X.env) = eval o X.env := by rfl)
    (hfew : ((backTo cpos (starEach (e :: es) X.env)).all (fun x => !x.1) && (backToKw cpos (keywordEach [] X.env)).all (fun x => x.1.isSome)
      && decide ((e :: es).length + ([] : List Keyword).length + (if ([] : List Keyword).isEmpty then 0 else 1) < 30)) = true := by rfl)
    (hline : (apos.endLine == cpos.line) = true := by rfl) (hs : starEach (e :: es) X.env = (false, eval e X.env) :: starEach es X.env := by rfl) (hplain : (backTo cpos (starEach es X.env)).any (·.1) = false := by rfl) :
    DE X W (.Call (.Attribute o name apos) (e :: es) [] cpos) (dBM T rd to t) :=
  ⟨PE.imp (pe_bm pa slot hty hm ho.p ha.p hbase hfew hline hs hplain) fun σ H Q ⟨σd, S, fr, Qd, ok, cl, h, k⟩ =>
    ⟨σd, S, fr, _, ok, cl, h, fun x dx H1 S1 ok1 r1 q => ⟨tyM_V ok1.rel r1 q.1, σd, S1, (x, dx) :: fr, _, ok1.cons r1, cl.tail, q.2, fun vs ds H2 S2 ok2 r2 q2 =>
      l H2 S2 fr σd σ x dx vs ds Q Qd ok2.tail ok2.head r2 q2 k⟩⟩⟩
/-! ### what a loop walks -/
structure ItD (K : PySem.W.Frag) (J : It) (xs : List D) (fr : List (V × D)) : Prop where
  go : ∀ (i : Nat) (d : D), xs[i]? = some d → ∀ H S σd σ, Ok K H S fr σd σ → J.go i H ∧ ∀ x H', J.yld i H x H' → Ok K H' S fr σd σ ∧ Rp K H' S d x
  stop : ∀ H S σd σ, Ok K H S fr σd σ → J.stop xs.length H
abbrev TID := Si → Sd → (List D → Sd → Prop) → Prop
def upI (K : PySem.W.Frag) (W : Wi) (t : TID) : TI := fun σ H R => ∃ σd S fr Rd, Ok K H S fr σd σ ∧ Cl K W fr ∧ t σd S Rd ∧ ∀ J xs H' S' fr', Ok K H' S' (fr' ++ fr) σd σ → ItD K J xs (fr' ++ fr) → Rd xs S' → R J H'
structure DI (X : Cx) (W : Wi) (tg iter : Expr) (t : TID) : Prop where
  p : PI X tg iter (upI X.K W t)
theorem PI.imp {tg iter : Expr} {t t' : TI} (h : PI X tg iter t) (k : ∀ σ H Q, t' σ H Q → t σ H Q) : PI X tg iter t' := ⟨fun pins s σ H Q I q => h.run pins s σ H Q I (k _ _ _ q)⟩
theorem itd_list {K : PySem.W.Frag} {a : Addr} {ds : List D} {fr : List (V × D)} : ItD K (Itl K a) ds ((.ref a, .lst ds) :: fr) where
  go := fun i d e H S σd σ ok => by
    obtain ⟨a', vs, e1, q, r⟩ := rp_list ok.rel ok.head
    have e1' : V.ref a = .ref a' := e1
    cases e1'
    obtain ⟨v, h1, h2⟩ := rpL_get r e
    refine ⟨⟨vs, v, q, h1⟩, fun x H' y => ?_⟩
    obtain ⟨e2, y⟩ := y
    subst e2
    have h3 := y vs q
    rw [h1] at h3
    cases h3
    exact ⟨ok, h2⟩
  stop := fun H S σd σ ok => by
    obtain ⟨a', vs, e1, q, r⟩ := rp_list ok.rel ok.head
    have e1' : V.ref a = .ref a' := e1
    cases e1'
    exact ⟨vs, q, by rw [rpL_len r]; exact Nat.le_refl _⟩
theorem itd_tup {K : PySem.W.Frag} {a : Addr} {ds : List D} {fr : List (V × D)} : ItD K (Itt K a) ds ((.ref a, .tup ds) :: fr) where
  go := fun i d e H S σd σ ok => by
    obtain ⟨a', vs, e1, q, r⟩ := ok.head
    have e1' : V.ref a = .ref a' := e1
    cases e1'
    obtain ⟨v, h1, h2⟩ := rpL_get r e
    refine ⟨⟨vs, v, q, h1⟩, fun x H' y => ?_⟩
    obtain ⟨e2, y⟩ := y
    subst e2
    have h3 := y vs q
    rw [h1] at h3
    cases h3
    exact ⟨ok, h2⟩
  stop := fun H S σd σ ok => by
    obtain ⟨a', vs, e1, q, r⟩ := ok.head
    have e1' : V.ref a = .ref a' := e1
    cases e1'
    exact ⟨vs, q, by rw [rpL_len r]; exact Nat.le_refl _⟩
def rgD (lo : Int) (n : Nat) : List D := (List.range n).map fun (i : Nat) => D.int (lo + i)
theorem itd_rng {K : PySem.W.Frag} {lo : Int} {n : Nat} {fr : List (V × D)} : ItD K (Itr lo n) (rgD lo n) fr where
  go := fun i d e H S σd σ ok => by
    unfold rgD at e
    rw [List.getElem?_map] at e
    cases q : (List.range n)[i]? with
    | none => rw [q] at e; cases e
    | some j =>
      rw [q] at e
      cases e
      obtain ⟨h1, h2⟩ := List.getElem?_eq_some_iff.mp q
      rw [List.getElem_range] at h2
      subst h2
      refine ⟨show i < n by simpa using h1, fun x H' y => ?_⟩
      obtain ⟨e2, y⟩ := y
      subst e2
      subst y
      exact ⟨ok, rfl⟩
  stop := fun H S σd σ ok => by
    unfold rgD
    rw [List.length_map, List.length_range]
    exact Nat.le_refl n
def dRng1 (ta : TAD) : TID := fun σ S R => ta σ S fun xs S1 => match xs with
  | [.int j] => (-(2 ^ 62) ≤ j ∧ j < 2 ^ 62) ∧ R (rgD 0 j.toNat) S1
  | _ => False
def dRng2 (ta : TAD) : TID := fun σ S R => ta σ S fun xs S1 => match xs with
  | [.int i, .int j] => (-(2 ^ 62) ≤ i ∧ i < 2 ^ 62 ∧ -(2 ^ 62) ≤ j ∧ j < 2 ^ 62) ∧ R (rgD i (j - i).toNat) S1
  | _ => False
theorem di_rng1 {a tg : Expr} {ta : TAD} {p pos : Pos} (hg : Gl X "range") (hm : X.mg "range" = none) (ha : DA X W [a] ta) (hs : starEach [a] X.env = [(false, eval a X.env)] := by rfl) : DI X W tg (.Call (.Name "range" p) [a] [] pos) (dRng1 ta) :=
  ⟨PI.imp (pi_range1 hg hm ha.p hs) fun σ H R ⟨σd, S, fr, Rd, ok, cl, h, k⟩ => ⟨σd, S, fr, _, ok, cl, h, fun vs ds H1 S1 ok1 r1 q => by
    cases ds with
    | nil => exact (show False from q).elim
    | cons d r => cases r with
      | cons _ _ => cases d <;> exact (show False from q).elim
      | nil => cases d with
        | int j =>
          obtain ⟨v, rfl, r2⟩ := rpL1 r1
          have e : v = .int j := r2
          subst e
          exact ⟨j, rfl, q.1.1, q.1.2, k _ _ H1 S1 [] ok1 itd_rng q.2⟩
        | _ => exact (show False from q).elim⟩⟩
theorem di_rng2 {a b tg : Expr} {ta : TAD} {p pos : Pos} (hg : Gl X "range") (hm : X.mg "range" = none) (ha : DA X W [a, b] ta) (hs : starEach [a, b] X.env = [(false, eval a X.env), (false, eval b X.env)] := by rfl) (hs2 : starEach [b] X.env = [(false, eval b X.env)] := by rfl) : DI X W tg (.Call (.Name "range" p) [a, b] [] pos) (dRng2 ta) :=
  ⟨PI.imp (pi_range2 hg hm ha.p hs hs2) fun σ H R ⟨σd, S, fr, Rd, ok, cl, h, k⟩ => ⟨σd, S, fr, _, ok, cl, h, fun vs ds H1 S1 ok1 r1 q => by
    cases ds with
    | nil => exact (show False from q).elim
    | cons d r => cases r with
      | nil => cases d <;> exact (show False from q).elim
      | cons d2 r => cases r with
        | cons _ _ => cases d <;> cases d2 <;> exact (show False from q).elim
        | nil => cases d with
          | int i => cases d2 with
            | int j =>
              obtain ⟨v, w, rfl, r2, r3⟩ := rpL2 r1
              have e : v = .int i := r2
              have e2 : w = .int j := r3
              subst e e2
              exact ⟨i, j, rfl, q.1, k _ _ H1 S1 [] ok1 itd_rng q.2⟩
            | _ => exact (show False from q).elim
          | _ => cases d2 <;> exact (show False from q).elim⟩⟩

/-! ### for -/
def dLoop (g : TGD) (tb : TSD) (D : EndsD) : List Dv.D → Si → Sd → Prop
  | [], σ, S => D.nx σ S
  | x :: r, σ, S => g x σ S fun σ2 S2 => tb { D with nx := dLoop g tb D r, ct := dLoop g tb D r, bk := D.nx } σ2 S2
def dFor (ti : TID) (g : TGD) (tb : TSD) : TSD := fun D σ S => ti σ S fun xs S1 => dLoop g tb D xs σ S1
theorem ds_for {vs : List Nat} {tg iter : Expr} {body : List Stmt} {ti : TID} {g : TGD} {tb : TSD} (hp : PassesOwn (model X.prog X.w) X.A X.env X.xe) (hc : X.calm = true) (hi : DI X W tg iter ti) (hg : DG X W vs tg g) (hb : DB X W body tb)
    (hs : ∀ x, foldedSetIterable iter X.env x = pure x := by intro _; rfl) : DS X W (.For tg iter body [] pos) (dFor ti g tb) :=
  ⟨PS.imp (ps_for hp hc hi.p hg.p hb.p hs) fun D σ H ⟨σd, S, fr, Dd, ok, cl, h, k⟩ => ⟨σd, S, fr, _, ok, cl, h, fun J xs H1 S1 fr' ok1 it q => by
    refine ⟨fun i m σ' H' => m = xs.length - i ∧ i ≤ xs.length ∧ ∃ σd' S', Ok X.K H' S' (fr' ++ fr) σd' σ' ∧ dLoop g tb Dd (xs.drop i) σd' S', ⟨_, rfl, Nat.zero_le _, σd, S1, ok1, by simpa using q⟩, ?_⟩
    rintro i m σ' H' ⟨rfl, hi, σd', S', ok', q'⟩
    by_cases hlt : i < xs.length
    · have ex : xs[i]? = some xs[i] := List.getElem?_eq_getElem hlt
      have dr : xs.drop i = xs[i] :: xs.drop (i + 1) := List.drop_eq_getElem_cons hlt
      rw [dr] at q'
      obtain ⟨g1, g2⟩ := it.go i _ ex H' S' σd' σ' ok'
      refine .inr ⟨g1, fun σ2 H2 => ∃ σd2 S2, Ok X.K H2 S2 (fr' ++ fr) σd2 σ2 ∧ dLoop g tb Dd (xs.drop (i + 1)) σd2 S2, fun σ2 H2 ⟨σd2, S2, h1, h2⟩ => ⟨_, by omega, rfl, hlt, σd2, S2, h1, h2⟩, fun x H2 y => ?_⟩
      obtain ⟨ok2, r2⟩ := g2 x H2 y
      refine ⟨σd', S', fr' ++ fr, _, xs[i], ok2, cl.pre, r2, q', fun σ3 σd3 H3 S3 ok3 _ q3 => ⟨σd3, S3, fr' ++ fr, _, ok3, cl.pre, q3, ?_⟩⟩
      exact ⟨fun σd4 σ4 H4 S4 ok4 q4 => ⟨σd4, S4, ok4, q4⟩, fun v d σd4 σ4 H4 S4 ok4 r4 q4 => k.rt v d σd4 σ4 H4 S4 ok4.pre r4 q4, fun σd4 σ4 H4 S4 ok4 q4 => k.nx σd4 σ4 H4 S4 ok4.pre q4, fun σd4 σ4 H4 S4 ok4 q4 => ⟨σd4, S4, ok4, q4⟩⟩
    · have e : i = xs.length := by omega
      subst e
      rw [List.drop_length] at q'
      exact .inl ⟨it.stop H' S' σd' σ' ok', k.nx σd' σ' H' S' ok'.pre q'⟩⟩⟩

/-! ### while -/
def dWhile (c : TTD) (tb : TSD) : TSD := fun D σ S => ∃ Wd : Nat → Si → Sd → Prop, (∃ m, Wd m σ S) ∧ ∀ m σ S, Wd m σ S →
  c σ S fun b S1 => if b = true then tb { D with nx := fun σ' S' => ∃ m', m' < m ∧ Wd m' σ' S', ct := fun σ' S' => ∃ m', m' < m ∧ Wd m' σ' S', bk := D.nx } σ S1 else D.nx σ S1
theorem ds_while {body : List Stmt} {tb : TSD} (hp : PassesOwn (model X.prog X.w) X.A X.env X.xe) (hc : DT X W c tc) (hb : DB X W body tb) : DS X W (.While c body [] pos) (dWhile tc tb) :=
  ⟨PS.imp (ps_while hp hc.p hb.p) fun D σ H ⟨σd, S, fr, Dd, ok, cl, ⟨Wd, ⟨m, w⟩, hw⟩, k⟩ =>
    ⟨fun m σ' H' => ∃ σd' S', Ok X.K H' S' fr σd' σ' ∧ Wd m σd' S', ⟨m, σd, S, ok, w⟩, fun m σ' H' ⟨σd', S', ok', w'⟩ => ⟨σd', S', fr, _, ok', cl, hw m σd' S' w', fun b H1 S1 ok1 q => by
      cases b with
      | true =>
        refine (show ∃ N : L2.St → Hp → Prop, _ from ⟨fun σ2 H2 => ∃ m' σd2 S2, m' < m ∧ Ok X.K H2 S2 fr σd2 σ2 ∧ Wd m' σd2 S2, fun σ2 H2 ⟨m', σd2, S2, h1, h2, h3⟩ => ⟨m', h1, σd2, S2, h2, h3⟩, σd', S1, fr, _, ok1, cl, (if_pos rfl : _ = _) ▸ q, ?_⟩)
        exact ⟨fun σd4 σ4 H4 S4 ok4 ⟨m', h1, h2⟩ => ⟨m', σd4, S4, h1, ok4, h2⟩, k.rt, k.nx, fun σd4 σ4 H4 S4 ok4 ⟨m', h1, h2⟩ => ⟨m', σd4, S4, h1, ok4, h2⟩⟩
      | false => exact (show D.nx σ' H1 from k.nx σd' σ' H1 S1 ok1 (by simpa using q))⟩⟩⟩
end
end Dv

/-! Readings by value, 5: comprehensions, defs, the law's end. -/
namespace Dv
open PySem L2 PyProof.Rows

def wipeD (σ : Si) : List Nat → Si
  | [] => σ
  | v :: vs => (wipeD σ vs).set v none
section
variable {K : PySem.W.Frag} {H : Hp} {S : Sd} {fr : List (V × D)} {σd : Si} {σ : L2.St}
theorem Ok.wipe (o : Ok K H S fr σd σ) : ∀ vs : List Nat, Ok K H S fr (wipeD σd vs) (L2.wipe σ vs)
  | [] => o
  | v :: vs => (Ok.wipe o vs).gone v none
theorem wipe_wipe (σ : L2.St) (vs : List Nat) : L2.wipe (L2.wipe σ vs) vs = L2.wipe σ vs := by
  have gen : ∀ (ws : List Nat), (∀ w ∈ ws, w ∈ vs) → L2.wipe (L2.wipe σ ws) vs = L2.wipe σ vs := by
    intro ws
    induction ws with
    | nil => intro _; rfl
    | cons w ws ih =>
      intro h
      show L2.wipe ((L2.wipe σ ws).set w none) vs = L2.wipe σ vs
      rw [wipe_set (h w List.mem_cons_self)]
      exact ih fun x hx => h x (List.mem_cons_of_mem _ hx)
  exact gen vs fun _ h => h
end

section
variable {X : Cx} {W : Wi} {pos : Pos}
structure DTs (X : Cx) (W : Wi) (ifs : List Expr) (t : TTD) : Prop where
  p : PTs X ifs (upT X.K W t)
theorem PTs.imp {ifs : List Expr} {t t' : TT} (h : PTs X ifs t) (k : ∀ σ H Q, t' σ H Q → t σ H Q) : PTs X ifs t' := ⟨fun pins s σ H Q I q => h.run pins s σ H Q I (k _ _ _ q)⟩
def dYes : TTD := fun _ S Q => Q true S
theorem dts_nil : DTs X W [] dYes := ⟨PTs.imp pts_nil fun σ H Q ⟨σd, S, fr, Qd, ok, cl, h, k⟩ => k true H S ok h⟩
theorem dts_one {c : Expr} {t : TTD} (h : DT X W c t) : DTs X W [c] t := ⟨pts_one h.p⟩
def dLcL (g : TGD) (tt : TTD) (te : TED) (p : Addr) (σw : Si) : List D → List D → Sd → (List D → Sd → Prop) → Prop
  | [], acc, S, Q => Q acc S
  | x :: r, acc, S, Q => g x σw S fun σ2 S2 => tt σ2 S2 fun b S3 => if b = true then te σ2 S3 fun y S4 => S4 p = some (.lst acc) ∧ acc.length < 16777216 ∧ dLcL g tt te p σw r (acc ++ [y]) (upS S4 p (.lst (acc ++ [y]))) Q
    else dLcL g tt te p σw r acc S3 Q
def dComp (ti : TID) (g : TGD) (tt : TTD) (te : TED) (vs : List Nat) : TED := fun σ S Q => ti σ S fun xs S1 => ∀ p, S1 p = none → dLcL g tt te p (wipeD σ vs) xs [] (upS S1 p (.lst [])) fun acc S2 => S2 p = some (.lst acc) ∧ Q (.lst acc) (del S2 p)
theorem lc_lift {K : PySem.W.Frag} {ti : TID} {g : TGD} {tt : TTD} {te : TED} {vs : List Nat} (σ : L2.St) (H : Hp) (Q : VK) (h : upE K W (dComp ti g tt te vs) σ H Q) :
    tLc (upI K W ti) (upG K W0 vs g) (upT K W0 tt) (upE K W0 te) vs σ H Q := by
  obtain ⟨σd, S, fr, Qd, ok, cl, h, k⟩ := h
  refine ⟨σd, S, fr, _, ok, cl, h, fun J xs H1 S1 fr' ok1 it q => ?_⟩
  intro Dl hD
  have q0 := q Dl (ok1.rel.free hD)
  have ok2 : Ok K (upd H1 Dl (.lst [])) (upS S1 Dl (.lst [])) (fr' ++ fr) σd σ := ok1.own hD rpL_nil
  have Fin : (List D → Sd → Prop) := fun acc S2 => S2 Dl = some (.lst acc) ∧ Qd (.lst acc) (del S2 Dl)
  refine ⟨fun i m H' => m = xs.length - i ∧ i ≤ xs.length ∧ ∃ S' acc, RelS K H' S' ∧ FrOk K H' S' ((fr' ++ fr) ++ prs σd σ) ∧ dLcL g tt te Dl (wipeD σd vs) (xs.drop i) acc S' (fun acc S2 => S2 Dl = some (.lst acc) ∧ Qd (.lst acc) (del S2 Dl)),
    ⟨_, rfl, Nat.zero_le _, _, [], ok2.rel, ok2.out, by simpa using q0⟩, ?_⟩
  rintro i m H' ⟨rfl, hi, S', acc, R', F', q'⟩
  have okp : Ok K H' S' ((fr' ++ fr) ++ prs σd σ) σd σ := ⟨R', F', ok.len, fun i d e => by
    obtain ⟨v, h1, _⟩ := ok.si i d e
    exact ⟨v, h1, F' (v, d) (List.mem_append_right _ (prs_mem h1 e))⟩⟩
  have ok' : Ok K H' S' (fr' ++ fr) σd σ := ⟨R', fun p hp => F' p (List.mem_append_left _ hp), okp.len, okp.si⟩
  by_cases hlt : i < xs.length
  · have ex : xs[i]? = some xs[i] := List.getElem?_eq_getElem hlt
    have dr : xs.drop i = xs[i] :: xs.drop (i + 1) := List.drop_eq_getElem_cons hlt
    rw [dr] at q'
    obtain ⟨g1, g2⟩ := it.go i _ ex H' S' σd σ ok'
    refine .inr ⟨g1, fun H2 => ∃ S2 acc2, RelS K H2 S2 ∧ FrOk K H2 S2 ((fr' ++ fr) ++ prs σd σ) ∧ dLcL g tt te Dl (wipeD σd vs) (xs.drop (i + 1)) acc2 S2 (fun acc S2 => S2 Dl = some (.lst acc) ∧ Qd (.lst acc) (del S2 Dl)), fun H2 ⟨S2, acc2, h1, h2, h3⟩ => ⟨_, by omega, rfl, hlt, S2, acc2, h1, h2, h3⟩, fun x H2 y => ?_⟩
    obtain ⟨ok3, _⟩ := g2 x H2 y
    obtain ⟨_, r2⟩ := (it.go i _ ex H' S' σd σ ok').2 x H2 y
    have okp3 : Ok K H2 S' ((fr' ++ fr) ++ prs σd σ) σd σ := ⟨ok3.rel, ok3.out, ok3.len, ok3.si⟩
    refine ⟨wipeD σd vs, S', (fr' ++ fr) ++ prs σd σ, _, xs[i], okp3.wipe vs, Cl.zero, r2, q', fun σ3 σd3 H3 S3 ok4 hw q3 => ⟨hw.trans (wipe_wipe σ vs), σd3, S3, (fr' ++ fr) ++ prs σd σ, _, ok4, Cl.zero, q3, fun b H4 S4 ok5 q4 => ?_⟩⟩
    cases b with
    | true =>
      refine (show upE K W0 te σ3 H4 _ from ⟨σd3, S4, (fr' ++ fr) ++ prs σd σ, _, ok5, Cl.zero, (by simpa using q4), fun y dy H5 S5 ok6 r6 q5 => ?_⟩)
      obtain ⟨p1, p2, p3⟩ := q5
      obtain ⟨ws, hv, rl⟩ := rp_obj ok6.rel p1
      have st : Step H5 S5 (upd H5 Dl (.lst (ws ++ [y]))) (upS S5 Dl (.lst (acc ++ [dy]))) := step_set p1
      have okf := ok6.step st (rel_set ok6.rel p1 ⟨_, upd_same, rpL_step ok6.rel st _ _ (rpL_app rl (rpL_cons r6 rpL_nil))⟩)
      exact ⟨ws, hv, by rw [← rpL_len rl]; exact sz_lt' p2, _, _, okf.rel, okf.fr, p3⟩
    | false => exact ⟨S4, acc, ok5.rel, ok5.fr, by simpa using q4⟩
  · have e : i = xs.length := by omega
    subst e
    rw [List.drop_length] at q'
    obtain ⟨p1, p2⟩ := q'
    exact .inl ⟨it.stop H' S' σd σ ok', k _ (.lst acc) H' _ (ok'.pre.step step_del (rel_del ok'.rel)) (rp_frozen ok'.rel p1) p2⟩
theorem de_lc {elt tg iter : Expr} {ifs : List Expr} {scope : Scope} {own : List (Str × Nat)} {ti : TID} {g : TGD} {tt : TTD} {te : TED} (hc : X.calm = true) (hN : X.N.Nodup) (hi : DI X W tg iter ti) (ok : BlkOk X.N X.env.scope scope own)
    (hg : ∀ (s : Shared) (H : Hp) (C : Addr) (cl : List (Str × Addr)) (fp : List Addr), DG (X.blk s H scope (compEnvC scope cl C X.env) fp) W0 (own.map (·.2)) tg g) (ht : ∀ (s : Shared) (H : Hp) (C : Addr) (cl : List (Str × Addr)) (fp : List Addr), DTs (X.blk s H scope (compEnvC scope cl C X.env) fp) W0 ifs tt)
    (he : ∀ (s : Shared) (H : Hp) (C : Addr) (cl : List (Str × Addr)) (fp : List Addr), DE (X.blk s H scope (compEnvC scope cl C X.env) fp) W0 elt te) (hs : ∀ x, foldedSetIterable iter X.env x = pure x := by intro _; rfl) :
    DE X W (.ListComp elt [⟨tg, iter, ifs, 0⟩] scope pos) (dComp ti g tt te (own.map (·.2))) :=
  ⟨PE.imp (pe_lc hc hN hi.p ok (fun s H C cl fp => (hg s H C cl fp).p) (fun s H C cl fp => (ht s H C cl fp).p) (fun s H C cl fp => (he s H C cl fp).p) hs) fun σ H Q h => lc_lift σ H Q h⟩
theorem ds_setLc (i : Nat) {y : Str} {py : Pos} {elt tg iter : Expr} {ifs : List Expr} {scope : Scope} {own : List (Str × Nat)} {spos : Pos} {ti : TID} {g : TGD} {tt : TTD} {te : TED} (hc : X.calm = true) (hN : X.N.Nodup) (hy : X.N[i]? = some y) (hyl : X.env.scope.names.lookup y = some .local)
    (hsw : swapsWith (.ListComp elt [⟨tg, iter, ifs, 0⟩] scope pos) (some (.Name y py)) spos.line X.env = pure true) (hi : DI X W tg iter ti) (ok : BlkOk X.N X.env.scope scope own)
    (hg : ∀ (s : Shared) (H : Hp) (C : Addr) (cl : List (Str × Addr)) (fp : List Addr), DG (X.blk s H scope (compEnvC scope cl C X.env) fp) W0 (own.map (·.2)) tg g) (ht : ∀ (s : Shared) (H : Hp) (C : Addr) (cl : List (Str × Addr)) (fp : List Addr), DTs (X.blk s H scope (compEnvC scope cl C X.env) fp) W0 ifs tt)
    (he : ∀ (s : Shared) (H : Hp) (C : Addr) (cl : List (Str × Addr)) (fp : List Addr), DE (X.blk s H scope (compEnvC scope cl C X.env) fp) W0 elt te) (hs : ∀ x, foldedSetIterable iter X.env x = pure x := by intro _; rfl) :
    DS X W (.Assign [.Name y py] (.ListComp elt [⟨tg, iter, ifs, 0⟩] scope pos) spos) (dSet i (dComp ti g tt te (own.map (·.2)))) :=
  ⟨PS.imp (ps_setLc hc hN hy hyl hsw hi.p ok (fun s H C cl fp => (hg s H C cl fp).p) (fun s H C cl fp => (ht s H C cl fp).p) (fun s H C cl fp => (he s H C cl fp).p) hs) fun D σ H ⟨σd, S, fr, Dd, ok, cl, h, k⟩ =>
    lc_lift (W := W) σ H _ ⟨σd, S, fr, _, ok, cl, h, fun v d H1 S1 ok1 r1 q => k.nx _ _ H1 S1 (ok1.set r1 i) q⟩⟩
end

/-! ### defs -/
def startD (N : List Str) (ds : List D) : Si := ds.map some ++ List.replicate (N.length - ds.length) none
theorem start_ok {K : PySem.W.Frag} {H : Hp} {S : Sd} {fr : List (V × D)} {N : List Str} {ds : List D} {vs : List V} (R : RelS K H S) (F : FrOk K H S fr) (r : RpL K H S ds vs) : Ok K H S fr (startD N ds) (L2.start N vs) := by
  have hl := rpL_len r
  refine ⟨R, F, by unfold startD L2.start; simp [hl], fun i d e => ?_⟩
  unfold startD at e
  unfold L2.start
  rcases Nat.lt_or_ge i ds.length with z | z
  · rw [List.getElem?_append_left (by simpa using z), List.getElem?_map] at e
    cases q : ds[i]? with
    | none => rw [q] at e; cases e
    | some d' =>
      rw [q] at e
      cases e
      obtain ⟨v, h1, h2⟩ := rpL_get r q
      exact ⟨v, by rw [List.getElem?_append_left (by simpa [← hl] using z), List.getElem?_map, h1]; rfl, h2⟩
  · rw [List.getElem?_append_right (by simpa using z), List.getElem?_replicate] at e
    split at e <;> cases e
/-- what a body is run in -/
abbrev bodyCx (P : Program) (w : World) (K : PySem.W.Frag) (mg : Str → Option Value) (base : Heap) (N : List Str) (qual : Str) (st : Stmt) (f : Addr) (cdv : Value) (A : Around) (outer : List Env) (s : Shared) (H : Hp) (E : XK) : Cx :=
  cxOf (L2N.CX P w) P w K mg base N qual (defScope st) f cdv A outer s H E
abbrev wiOf (E : XK) (Ed : XKD) : Wi := ⟨fun cls d _ H => E cls d H, fun x _ S => Ed x S⟩
theorem takesB {P : Program} {w : World} {K : PySem.W.Frag} {mg : Str → Option Value} {base : Heap} {N : List Str} {qual : Str} {st : Stmt} {f : Addr} {cdv : Value} {A : Around} {outer : List Env} {s : Shared} {H : Hp} {E : XK} {Ed : XKD} :
    L2N.Takes (bodyCx P w K mg base N qual st f cdv A outer s H E) (wiOf E Ed).V := L2N.takes_of rfl rfl rfl rfl
theorem passB {P : Program} {w : World} {K : PySem.W.Frag} {mg : Str → Option Value} {base : Heap} {N : List Str} {qual : Str} {st : Stmt} {f : Addr} {cdv : Value} {A : Around} {outer : List Env} {s : Shared} {H : Hp} {E : XK} :
    PassesOwn (model P w) (bodyCx P w K mg base N qual st f cdv A outer s H E).A (bodyCx P w K mg base N qual st f cdv A outer s H E).env (bodyCx P w K mg base N qual st f cdv A outer s H E).xe :=
  passes_of (X := bodyCx P w K mg base N qual st f cdv A outer s H E) rfl
section
variable {P : Program} {w : World} {K : PySem.W.Frag} {mg : Str → Option Value} {base : Heap}
/-- THE RULE for a def -/
theorem okD {x qual : Str} {st : Stmt} {f : Addr} {fd : FuncData} {N ps : List Str} {k : Nat} {sp : SpD} {t : XKD → TSD} (F : Fun K x qual st f fd) (Sc : FnScope N ps (defScope st)) (len : ∀ ds S Q E, sp ds S Q E → ds.length = ps.length)
    (hb : ∀ (cdv : Value) (A : Around) (outer : List Env) (s : Shared) (H : Hp) (E : XK) (Ed : XKD), Hx.RoomG k (A.deeper (envOfC qual (defScope st) s.heap.objs.size f cdv)) → DB (bodyCx P w K mg base N qual st f cdv A outer s H E) (wiOf E Ed) (defBody st) (t Ed))
    (hp : ∀ ds S Q Ed, sp ds S Q Ed → t Ed { nx := fun _ S' => Q .non S', rt := Q } (startD N ds) S) : Hx.FnG P w K mg base (L2N.CX P w) (k + 1) f fd ps (upF K sp) := by
  refine Hx.fnG_of F Sc (fun vs H Q E h => ?_) (fun cdv _ A outer s H vs Q E hr h => ?_)
  · obtain ⟨ds, S, fr, Qd, Ed, R, f, r, h, _⟩ := h
    rw [← rpL_len r]
    exact len ds S Qd Ed h
  · obtain ⟨ds, S, fr, Qd, Ed, R, f, r, h, hq, hx⟩ := h
    refine ⟨_, (hb cdv A outer s H E Ed hr).p, startD N ds, S, fr, { nx := fun _ S' => Qd .non S', rt := Qd }, start_ok R f r, fun σd σ H' S' cls od y o rx q => hx cls od y H' S' o.rel o.fr rx q, hp ds S Qd Ed h, ?_⟩
    exact ⟨fun σd σ H' S' o q => hq .non .non H' S' o.rel o.fr rfl q, fun v d σd σ H' S' o rv q => hq v d H' S' o.rel o.fr rv q, fun _ _ _ _ _ q => q.elim, fun _ _ _ _ _ q => q.elim⟩
end
/-- law's promise -/
def spLawD : SpD := fun ds S Q _ => ∃ ns : List Int, ds = [.lst (ns.map D.int)] ∧ ns.length ≤ 63 ∧ (∀ S', Q (.bl true) S')
theorem law_start {K : PySem.W.Frag} {H : Hp} {a : Addr} {ns : List Int} (h : SqL K H a (ns.map V.int)) (hl : ns.length ≤ 63) : upF K spLawD [.ref a] H (fun v _ => v = .bl true) fun _ _ _ => False := by
  refine ⟨[.lst (ns.map D.int)], fun _ => none, [], fun d _ => d = .bl true, fun _ _ => False, fun a o e => (by cases e), fun p hp => (by cases hp), ?_, ⟨ns, rfl, hl, fun _ => rfl⟩, fun v d H' S' _ _ r e => ?_, fun _ _ _ _ _ _ _ _ q => q⟩
  · refine rpL_cons ⟨a, ns.map V.int, rfl, ?_, rpL_of_ints⟩ rpL_nil
    rcases h with h | h
    · exact .inl ⟨h, rfl⟩
    · exact .inr h
  · subst e
    exact r
theorem CX_no {P : Program} {w : World} {outer : List Env} {H : Hp} {s : Shared} {e : Value} {s' : Shared} (h : L2N.CX P w outer H s (fun _ _ _ => False) e s') : False := by
  obtain ⟨_, _, _, _, _, _, _, _, _, _, _, _, z⟩ := h
  exact z.elim
end Dv

/-! Readings by value, 6: more of the built-ins. -/
namespace PyProof.Rows
open PySem
section
variable {prog : Program} {w : World} {A : Around} {E : Value → Shared → Prop} {s : Shared}
theorem collect_tup {l : Addr} {vs : List Value} {Q : List Value → Shared → Prop} (hl : IsTup s.heap l vs.toArray)
    (h : Q vs { s with heap := (s.heap.push (seqObj "list" #[] 0)).update s.heap.objs.size (Obj.mapSeq (· ++ vs.toArray)) }) (hsz : vs.length ≤ sizeLine) :
    wpAny (model prog w) A (collect (.ref l)) Q E s := by
  obtain ⟨o, ho, hc, n, hd⟩ := id hl
  unfold collect
  refine wpAny_bind (wpAny_runValue (codeAny_builtin entry_proto_collect' ?_))
  show wpAny _ _ (do again (.builtin "list.__iadd__" ⟨[← newList [], .ref l], []⟩)) _ _ s
  refine wpAny_bind (wpAny_newList (wpAny_pure ⟨Code.quiet_builtin _ (by decide +kernel), codeAny_builtin entry_list_iadd' ?_⟩))
  show wpAny _ _ (Builtin.List.listExtendWith (.ref s.heap.objs.size) (.ref l) (.ref s.heap.objs.size)) _ _ { s with heap := s.heap.push (seqObj "list" #[] 0) }
  unfold Builtin.List.listExtendWith
  have ho' : (s.heap.push (seqObj "list" #[] 0)).get? l = some o := Heap.get?_push_of_some _ ho
  refine wpAny_bind (wpAny_typeOf (T := "tuple") ⟨o, ho', hc⟩ ?_)
  have ht : (Value.type "tuple" == Value.type "tuple") = true := by rfl
  rw [if_pos (by rw [ht]; simp)]
  refine wpAny_bind (listItems_at ho' hd ?_)
  refine wpAny_bind (listItems_at (xs := #[]) (n := 0) (Heap.get?_push_size _ rfl) rfl ?_)
  rw [if_neg (by simp)]
  refine wpAny_bind (listUpdate_at (xs := #[]) (n := 0) (Heap.get?_push_size _ rfl) rfl ?_ (Nat.zero_le _) (by show (#[] ++ vs.toArray).size ≤ sizeLine + 1; simp only [Array.size_append, List.size_toArray, List.length_nil]; omega))
  refine wpAny_pure ?_
  show wpAny (model prog w) A (do
      let o ← load s.heap.objs.size
      match o.data with
      | .seq xs _ => pure xs.toList
      | _ => unsupported "internal:collect") Q E { s with heap := (s.heap.push (seqObj "list" #[] 0)).update s.heap.objs.size (Obj.mapSeq (· ++ vs.toArray)) }
  refine wpAny_bind (wpAny_load (get?_update_seq (Heap.get?_push_size _ rfl) _) ?_)
  show wpAny _ _ (pure ((#[] : Array Value) ++ vs.toArray).toList) Q E _
  rw [show ((#[] : Array Value) ++ vs.toArray).toList = vs by simp]
  exact wpAny_pure h
theorem sorted_tupInts {l : Addr} {vs : List Value} {ns : List Int} {Q : Value → Shared → Prop} (hl : IsTup s.heap l vs.toArray) (hI : IntsAre vs ns) (h64 : vs.length < 64)
    (h : ∀ (out : Array Value) (ns' : List Int), IntsAre out.toList ns' → ns'.Perm ns → ns'.Pairwise (· ≤ ·) → Q (.ref (s.heap.objs.size + 1)) { s with heap := sortedAll s.heap vs out }) :
    wpAny (model prog w) A (call (.builtin "sorted") [.ref l]) Q E s := by
  refine Calls.call_function_entry kind_sorted plain_sorted entry_sorted (args_sorted1 _) ?_
  unfold Builtin.«sorted»
  refine wpAny_bind (m := checkCount "sorted" 1 1 _) (wpAny_pure ?_)
  refine wpAny_bind (collect_tup hl ?_ (by rw [sizeLine_eq]; omega))
  refine wpAny_bind (wpAny_newList ?_)
  have hsz : ((s.heap.push (seqObj "list" #[] 0)).update s.heap.objs.size (Obj.mapSeq (· ++ vs.toArray))).objs.size = s.heap.objs.size + 1 := by
    rw [Heap.size_update, size_push']
  have hoL : (((s.heap.push (seqObj "list" #[] 0)).update s.heap.objs.size (Obj.mapSeq (· ++ vs.toArray))).push (seqObj "list" vs.toArray 0)).get? (s.heap.objs.size + 1) = some (seqObj "list" vs.toArray 0) := by
    rw [← hsz]; exact Heap.get?_push_size _ rfl
  show wpAny _ _ _ _ _ { s with heap := ((s.heap.push (seqObj "list" #[] 0)).update s.heap.objs.size (Obj.mapSeq (· ++ vs.toArray))).push (seqObj "list" vs.toArray 0) }
  rw [hsz]
  refine wpAny_bind (wpAny_holding (wpAny_call_entry slot_list_sort ⟨_, hoL, rfl⟩ entry_list_sort (list_sort_tree hoL hI h64 fun out ns' a1 a2 a3 => ⟨_, rfl, ?_⟩) (args_list_sort _)))
  exact wpAny_pure ⟨_, rfl, h out ns' a1 a2 a3⟩
end
end PyProof.Rows

namespace HT
open PySem PyProof.Rows
section
variable {prog : Program} {w : World} {A : Around} {E : Value → Shared → Prop} {s : Shared}
end
end HT

namespace Dv
open PySem L2 PyProof.Rows
section
variable {X : Cx}
def rSortedT (K : PySem.W.Frag) : List V → Hp → VK → Prop := fun vs H Q => ∃ (a : Addr) (ns : List Int), vs = [V.ref a] ∧ SqT K H a (ns.map V.int) ∧ ns.length < 64 ∧
  ∀ (ns' : List Int) (p : Addr), ns'.Perm ns → ns'.Pairwise (· ≤ ·) → H p = none → Q (.ref p) (upd H p (.lst (ns'.map V.int)))
theorem cr_sortedT : CallR X (.builtin "sorted") (rSortedT X.K) := by
  intro pins s σ H vs us Q I r h
  obtain ⟨a, ns, rfl, hs, h64, q⟩ := h
  obtain ⟨its, rv, hl, _⟩ := I.tuple hs
  rw [Vals.ref1 r]
  have hi := rv.ints
  refine PyProof.Rows.sorted_tupInts hl hi (by rw [hi.length]; exact h64) fun out ns' h1 h2 h3 => ?_
  obtain ⟨ep, he'⟩ := PyProof.Rows.sortedAll_at s.heap its out
  have hlen : (ns'.map V.int).length ≤ sizeLine := by rw [List.length_map, h2.length_eq]; exact small64 h64
  exact ⟨.ref _, upd H (s.heap.objs.size + 1) (.lst (ns'.map V.int)), I.laid (t' := s.toks) (fun _ _ => PyProof.Rows.sortedAll_old) (Nat.le_succ _) ⟨hlen, out.toList, ep, vals_of_ints h1, he'⟩, rfl, q ns' _ h2 h3 (I.hok.fresh (Nat.le_succ _))⟩
theorem cd_sorted : CallD X (.builtin "sorted") rdSorted := ⟨_, cr_sorted.or cr_sortedT, fun H S fr σd σ xs ds Qv Qd ok r h k => by
  match ds, r, h with
  | [], _, h => exact (show False from h).elim
  | _ :: _ :: _, _, h => exact (show False from h).elim
  | [d], r, h =>
    obtain ⟨v, rfl, r0⟩ := rpL1 r
    obtain ⟨ns, e, h64, q⟩ := h
    obtain ⟨a, vs, rfl, q1, r1⟩ := rp_items ok.rel r0 e
    have e2 := rpL_ints r1
    subst e2
    rcases q1 with q1 | q1
    · exact .inl ⟨a, ns, rfl, q1, h64, fun ns' p h1 h2 hp => k _ (.lst (ns'.map D.int)) _ S (ok.new hp) (rp_lstNew ok.rel hp rpL_of_ints) (q ns' h1 h2)⟩
    · exact .inr ⟨a, ns, rfl, q1, h64, fun ns' p h1 h2 hp => k _ (.lst (ns'.map D.int)) _ S (ok.new hp) (rp_lstNew ok.rel hp rpL_of_ints) (q ns' h1 h2)⟩⟩

/-! ### a text times an int -/
def repS (x : Str) (n : Nat) : Str := ⟨(List.replicate n x.cps).foldl (· ++ ·) #[]⟩
def rRepS : R2 := fun x y H Q => ∃ z k, x = .str z ∧ y = .int k ∧ 0 ≤ k ∧ (z.length : Int) * k ≤ 16777216 ∧ k ≤ 16777216 ∧ Q (.str (repS z k.toNat)) H
theorem fold_rep (x : Array Nat) : ∀ (n : Nat) (acc : Array Nat), ((List.replicate n x).foldl (· ++ ·) acc).toList = acc.toList ++ (List.replicate n x.toList).flatten
  | 0, acc => by simp
  | n + 1, acc => by
    rw [List.replicate_succ, List.foldl_cons, fold_rep x n (acc ++ x)]
    simp [List.replicate_succ]
theorem repS_list (x : Str) (n : Nat) : (repS x n).cps.toList = (List.replicate n x.cps.toList).flatten := by
  unfold repS
  rw [fold_rep]
  rfl
theorem str_ext {x y : Str} (h : x.cps.toList = y.cps.toList) : x = y := by
  cases x; cases y
  congr 1
  exact Array.toList_inj.mp h
theorem op_mulS : OpR X (binaryOp .Mult) rRepS := by
  intro pins s σ H x y v u Q I rx ry h
  obtain ⟨z, k, rfl, rfl, h0, hz, hk, q⟩ := h
  obtain ⟨t, rfl⟩ := rx
  obtain ⟨t', rfl⟩ := ry
  refine PySem.P.mul_str ?_ ?_ ?_ ?_
  · have h1 : ¬ k < -(2 ^ 63 : Int) := by omega
    have h2 : ¬ k ≥ 2 ^ 63 := by omega
    rw [decide_eq_false h1, decide_eq_false h2]; rfl
  · intro h1 h2 h3
    have p1 : (0 : Int) < k := by omega
    have e2 : ((2 ^ 63 - 1 : Int) / k + 1) * k > 2 ^ 63 - 1 := by
      have := Int.lt_ediv_add_one_mul_self (2 ^ 63 - 1 : Int) p1
      omega
    have e3 : (2 ^ 63 - 1 : Int) / k + 1 ≤ z.length := by omega
    have e4 : ((2 ^ 63 - 1 : Int) / k + 1) * k ≤ z.length * k := Int.mul_le_mul_of_nonneg_right e3 (by omega)
    omega
  · intro h1 h2
    have e : ((z.length * k.toNat : Nat) : Int) = z.length * k := by
      rw [Int.natCast_mul, Int.toNat_of_nonneg h0]
    refine decide_eq_false ?_
    rw [sl_eq]
    omega
  · by_cases h1 : k < 1
    · rw [if_pos h1]
      have e : k = 0 := by omega
      subst e
      exact ⟨by decide, ⟨.str (repS z 0), H, I.tok _, ⟨_, rfl⟩, q⟩⟩
    · rw [if_neg h1]
      by_cases h2 : (k == 1 || z.length == 0) = true
      · rw [if_pos h2]
        have e : repS z k.toNat = z := by
          refine str_ext ?_
          rw [repS_list]
          rcases Bool.or_eq_true_iff.mp h2 with e | e
          · have e1 : k = 1 := eq_of_beq e
            subst e1
            simp
          · have e1 : z.length = 0 := eq_of_beq e
            have e2 : z.cps.toList = [] := List.length_eq_zero_iff.mp (by simpa [Str.length] using e1)
            rw [e2]
            simp
        rw [e] at q
        exact ⟨.str z, H, I, ⟨_, rfl⟩, q⟩
      · rw [if_neg h2]
        have hl : (repS z k.toNat).length ≤ sizeLine := by
          have e : (repS z k.toNat).length = k.toNat * z.length := by
            have := congrArg List.length (repS_list z k.toNat)
            simpa [Str.length] using this
          have e2 : ((k.toNat * z.length : Nat) : Int) = k * z.length := by
            rw [Int.natCast_mul, Int.toNat_of_nonneg h0]
          have e3 : k * (z.length : Int) = z.length * k := Int.mul_comm _ _
          rw [e, sl_eq]
          omega
        exact ⟨hl, ⟨.str (repS z k.toNat), H, I.tok _, ⟨_, rfl⟩, q⟩⟩
def rdMul : RD2
  | .int i, .int j, S, Q => i.natAbs.log2 + j.natAbs.log2 < 1000000 ∧ Q (.int (i * j)) S
  | .str z, .int k, S, Q => (0 ≤ k ∧ (z.length : Int) * k ≤ 16777216 ∧ k ≤ 16777216) ∧ Q (.str (repS z k.toNat)) S
  | _, _, _, _ => False
end

/-! ### xs[::-1] -/
section
variable {X : Cx} {W : Wi} {e : Expr} {te : TED} {pos : Pos}
def revS (z : Str) : Str := ⟨z.cps.toList.reverse.toArray⟩
def dRev (te : TED) : TED := fun σ S Q => te σ S fun x S1 => match x with
  | .tup ds => Q (.tup ds.reverse) S1
  | .lst ds => Q (.lst ds.reverse) S1
  | .str z => z.length ≤ 16777216 ∧ Q (.str (revS z)) S1
  | .obj a => match S1 a with
    | some (.lst ds) => Q (.lst ds.reverse) S1
    | _ => False
  | _ => False
/-! ### for over a list, a tuple, a text -/
def iAny (K : PySem.W.Frag) (tl : TE) : TI := fun σ H R => tl σ H fun x H1 => (∃ a, x = .ref a ∧ (∃ xs, SqL K H1 a xs) ∧ R (Itl K a) H1) ∨ (∃ a, x = .ref a ∧ (∃ xs, SqT K H1 a xs) ∧ R (Itt K a) H1) ∨ (∃ z, x = .str z ∧ R (Its z) H1)
theorem pi_any {tg : Expr} {tl : TE} (hl : PE X e tl) : PI X tg e (iAny X.K tl) := by
  refine ⟨fun pins s σ H R I h => ?_⟩
  refine thn (hl.run pins s σ H _ I h) fun v s1 ⟨x, H1, I1, r1, q1⟩ => ?_
  rcases q1 with ⟨a, ex, ⟨xs, hq⟩, q⟩ | ⟨a, ex, ⟨xs, hq⟩, q⟩ | ⟨z, ex, q⟩
  · subst ex
    cases r1
    obtain ⟨its, rv, p, hz⟩ := I1.list hq
    refine wpAny_pyIter_list p.isList ?_
    refine ⟨s1.heap.objs.size, [s1.heap.objs.size], _, _, H1, rfl, I1.kept (t' := s1.toks) fun b o e => Heap.get?_push_of_some _ e, turn_list a _, ⟨_, Heap.get?_push_size _ rfl, rfl, rfl⟩, fun b hb => ?_, q⟩
    have e : b = s1.heap.objs.size := by simpa using hb
    subst e
    exact I1.fpOk (Nat.le_refl _) (I1.hok.fresh (Nat.le_refl _))
  · subst ex
    cases r1
    obtain ⟨its, rv, p, hz⟩ := I1.tuple hq
    refine wpAny_pyIter_tuple (show s1.heap.IsTuple a its.toArray from p) ?_
    refine ⟨s1.heap.objs.size, [s1.heap.objs.size], _, _, H1, rfl, I1.kept (t' := s1.toks) fun b o e => Heap.get?_push_of_some _ e, turn_tuple a _, ⟨_, Heap.get?_push_size _ rfl, rfl, rfl⟩, fun b hb => ?_, q⟩
    have e : b = s1.heap.objs.size := by simpa using hb
    subst e
    exact I1.fpOk (Nat.le_refl _) (I1.hok.fresh (Nat.le_refl _))
  · subst ex
    obtain ⟨t, rfl⟩ := r1
    cases ha : z.cps.all (· < 128)
    · exact wpAny_pyIter_wide ha (pi_one (tk := s1.toks) I1 _ (turn_str _ z t "str_iterator" (.inr rfl)) ⟨_, Heap.get?_push_size _ rfl, rfl, rfl⟩ q)
    · exact wpAny_pyIter_ascii ha (pi_one (tk := s1.toks) I1 _ (turn_str _ z t "str_ascii_iterator" (.inl rfl)) ⟨_, Heap.get?_push_size _ rfl, rfl, rfl⟩ q)
def sgD (z : Str) : List D := z.cps.toList.map fun c => D.str ⟨#[c]⟩
theorem itd_str {K : PySem.W.Frag} {z : Str} {fr : List (V × D)} : ItD K (Its z) (sgD z) fr where
  go := fun i d e H S σd σ ok => by
    unfold sgD at e
    rw [List.getElem?_map] at e
    cases q : z.cps.toList[i]? with
    | none => rw [q] at e; cases e
    | some c =>
      rw [q] at e
      cases e
      have q2 : z.cps[i]? = some c := by simpa using q
      refine ⟨(Array.getElem?_eq_some_iff.mp q2).1, fun x H' y => ?_⟩
      obtain ⟨e2, c', e3, y⟩ := y
      subst e2
      rw [q2] at e3
      cases e3
      subst y
      exact ⟨ok, rfl⟩
  stop := fun H S σd σ ok => by
    show z.cps.size ≤ (sgD z).length
    unfold sgD
    simp
def dItr (te : TED) : TID := fun σ S R => te σ S fun x S1 => match x with
  | .lst ds => R ds S1
  | .tup ds => R ds S1
  | .str z => R (sgD z) S1
  | _ => False
theorem di_any {tg : Expr} (hl : DE X W e te) : DI X W tg e (dItr te) := ⟨PI.imp (pi_any hl.p) fun σ H R ⟨σd, S, fr, Rd, ok, cl, h, k⟩ => ⟨σd, S, fr, _, ok, cl, h, fun x dx H1 S1 ok1 r1 q => by
  cases dx with
  | lst ds =>
    obtain ⟨a, vs, e, q1, r2⟩ := rp_list ok1.rel r1
    subst e
    exact .inl ⟨a, rfl, ⟨vs, q1⟩, k _ ds H1 S1 [(.ref a, .lst ds)] (ok1.cons r1) itd_list q⟩
  | tup ds =>
    obtain ⟨a, vs, e, q1, r2⟩ := id r1
    subst e
    exact .inr (.inl ⟨a, rfl, ⟨vs, q1⟩, k _ ds H1 S1 [(.ref a, .tup ds)] (ok1.cons r1) itd_tup q⟩)
  | str z => exact .inr (.inr ⟨z, r1, k _ (sgD z) H1 S1 [] ok1 itd_str q⟩)
  | _ => exact (show False from q).elim⟩⟩

/-! ### a, b, c = x, y, z -/
def dPar3 (i j l : Nat) (ta : TAD) : TSD := fun D σ S => ta σ S fun vs S1 => match vs with
  | [v, w, u] => D.nx (((σ.set i (some v)).set j (some w)).set l (some u)) S1
  | _ => False
end
end Dv

/-! Readings by value, x: the rows by which a reading is run. -/
namespace Dv
open PySem L2 PyProof.Rows
theorem isi_non_int  : isiD (.non) "int" = some false := by
  show kitB "NoneType" "int" = some false
  decide +kernel
theorem isi_non_bool  : isiD (.non) "bool" = some false := by
  show kitB "NoneType" "bool" = some false
  decide +kernel
theorem isi_non_str  : isiD (.non) "str" = some false := by
  show kitB "NoneType" "str" = some false
  decide +kernel
theorem isi_non_tuple  : isiD (.non) "tuple" = some false := by
  show kitB "NoneType" "tuple" = some false
  decide +kernel
theorem isi_non_list  : isiD (.non) "list" = some false := by
  show kitB "NoneType" "list" = some false
  decide +kernel
theorem isi_bl_int (b : Bool) : isiD (.bl b) "int" = some true := by
  show kitB "bool" "int" = some true
  decide +kernel
theorem isi_bl_bool (b : Bool) : isiD (.bl b) "bool" = some true := by
  show kitB "bool" "bool" = some true
  decide +kernel
theorem isi_bl_str (b : Bool) : isiD (.bl b) "str" = some false := by
  show kitB "bool" "str" = some false
  decide +kernel
theorem isi_bl_tuple (b : Bool) : isiD (.bl b) "tuple" = some false := by
  show kitB "bool" "tuple" = some false
  decide +kernel
theorem isi_bl_list (b : Bool) : isiD (.bl b) "list" = some false := by
  show kitB "bool" "list" = some false
  decide +kernel
theorem isi_int_int (i : Int) : isiD (.int i) "int" = some true := by
  show kitB "int" "int" = some true
  decide +kernel
theorem isi_int_bool (i : Int) : isiD (.int i) "bool" = some false := by
  show kitB "int" "bool" = some false
  decide +kernel
theorem isi_int_str (i : Int) : isiD (.int i) "str" = some false := by
  show kitB "int" "str" = some false
  decide +kernel
theorem isi_int_tuple (i : Int) : isiD (.int i) "tuple" = some false := by
  show kitB "int" "tuple" = some false
  decide +kernel
theorem isi_int_list (i : Int) : isiD (.int i) "list" = some false := by
  show kitB "int" "list" = some false
  decide +kernel
theorem isi_str_int (x : Str) : isiD (.str x) "int" = some false := by
  show kitB "str" "int" = some false
  decide +kernel
theorem isi_str_bool (x : Str) : isiD (.str x) "bool" = some false := by
  show kitB "str" "bool" = some false
  decide +kernel
theorem isi_str_str (x : Str) : isiD (.str x) "str" = some true := by
  show kitB "str" "str" = some true
  decide +kernel
theorem isi_str_tuple (x : Str) : isiD (.str x) "tuple" = some false := by
  show kitB "str" "tuple" = some false
  decide +kernel
theorem isi_str_list (x : Str) : isiD (.str x) "list" = some false := by
  show kitB "str" "list" = some false
  decide +kernel
theorem isi_tup_int (xs : List D) : isiD (.tup xs) "int" = some false := by
  show kitB "tuple" "int" = some false
  decide +kernel
theorem isi_tup_bool (xs : List D) : isiD (.tup xs) "bool" = some false := by
  show kitB "tuple" "bool" = some false
  decide +kernel
theorem isi_tup_str (xs : List D) : isiD (.tup xs) "str" = some false := by
  show kitB "tuple" "str" = some false
  decide +kernel
theorem isi_tup_tuple (xs : List D) : isiD (.tup xs) "tuple" = some true := by
  show kitB "tuple" "tuple" = some true
  decide +kernel
theorem isi_tup_list (xs : List D) : isiD (.tup xs) "list" = some false := by
  show kitB "tuple" "list" = some false
  decide +kernel
theorem isi_lst_int (xs : List D) : isiD (.lst xs) "int" = some false := by
  show kitB "list" "int" = some false
  decide +kernel
theorem isi_lst_bool (xs : List D) : isiD (.lst xs) "bool" = some false := by
  show kitB "list" "bool" = some false
  decide +kernel
theorem isi_lst_str (xs : List D) : isiD (.lst xs) "str" = some false := by
  show kitB "list" "str" = some false
  decide +kernel
theorem isi_lst_tuple (xs : List D) : isiD (.lst xs) "tuple" = some false := by
  show kitB "list" "tuple" = some false
  decide +kernel
theorem isi_lst_list (xs : List D) : isiD (.lst xs) "list" = some true := by
  show kitB "list" "list" = some true
  decide +kernel
section
variable {S : Sd} {Q : DK} {R : List D → Sd → Prop} {σ : Si}
theorem x_var0 {d : D} {r : Si} : dVar 0 (some d :: r) S Q = Q d S := rfl
theorem x_varS {o : Option D} {r : Si} {i : Nat} : dVar (i + 1) (o :: r) S Q = dVar i r S Q := rfl
theorem ite_tt {P R : Prop} : (if true = true then P else R) = P := if_pos rfl
theorem ite_ff {P R : Prop} : (if false = true then P else R) = R := if_neg Bool.false_ne_true
theorem x_len_tup {ds : List D} : rdLen [.tup ds] S Q = Q (.int ds.length) S := rfl
theorem x_len_lst {ds : List D} : rdLen [.lst ds] S Q = Q (.int ds.length) S := rfl
theorem x_len_str {z : Str} : rdLen [.str z] S Q = (z.length ≤ 16777216 ∧ Q (.int z.length) S) := rfl
theorem x_isi {d : D} {n : String} : rdIsi [d, .ty n] S Q = match isiD d n with | some b => Q (.bl b) S | none => False := rfl
theorem x_ixt {ds : List D} {i : Int} : rdIx (.tup ds) (.int i) S Q = ixQ S Q (atI ds i) := rfl
theorem x_ixl {ds : List D} {i : Int} : rdIx (.lst ds) (.int i) S Q = ixQ S Q (atI ds i) := rfl
theorem x_ixo {a : Addr} {ds : List D} {i : Int} (h : S a = some (.lst ds)) : rdIx (.obj a) (.int i) S Q = ixQ S Q (atI ds i) := by
  show (match S a with | some (.lst ds) => ixQ S Q (atI ds i) | _ => False) = _
  rw [h]
theorem x_set {a : Addr} {ds : List D} {i : Int} {j : Nat} {v : D} {Q : Sd → Prop} (h : S a = some (.lst ds)) (hj : ixN ds.length i = some j) : setQ S (.int i) v Q (.obj a) = Q (upS S a (.lst (ds.set j v))) := by
  show (match S a, (D.int i) with | some (.lst ds), .int i => (match ixN ds.length i with | some j => Q (upS S a (.lst (ds.set j v))) | none => False) | _, _ => False) = _
  rw [h]
  dsimp only
  rw [hj]
end
theorem ixN_nat {n : Nat} {j : Nat} (h : j < n) : ixN n (j : Int) = some j := by
  unfold ixN
  rw [if_pos (Int.natCast_nonneg j), if_pos (by omega)]
  simp
theorem atI_lt {ds : List D} {i : Int} (h0 : 0 ≤ i) (h1 : i < ds.length) : atI ds i = ds[i.toNat]? := by
  unfold atI ixN
  rw [if_pos h0, if_pos h1]
  rfl
section
variable {S : Sd} {Q : DK} {i j : Int} {k l : Bool} {x y : Str} {xs ys : List D}
theorem x_add_ii : rdAdd (.int i) (.int j) S Q = Q (.int (i + j)) S := rfl
theorem x_add_ib : rdAdd (.int i) (.bl k) S Q = Q (.int (i + b2i k)) S := rfl
theorem x_add_ss : rdAdd (.str x) (.str y) S Q = (x.length + y.length ≤ 16777216 ∧ Q (.str (x ++ y)) S) := rfl
theorem x_add_tt : rdAdd (.tup xs) (.tup ys) S Q = (xs.length + ys.length ≤ 16777216 ∧ Q (.tup (xs ++ ys)) S) := rfl
theorem x_add_ll : rdAdd (.lst xs) (.lst ys) S Q = (xs.length + ys.length ≤ 16777216 ∧ Q (.lst (xs ++ ys)) S) := rfl
theorem x_sub : rdSub (.int i) (.int j) S Q = Q (.int (i - j)) S := rfl
theorem x_mul : rdMul (.int i) (.int j) S Q = (i.natAbs.log2 + j.natAbs.log2 < 1000000 ∧ Q (.int (i * j)) S) := rfl
theorem x_mul_s : rdMul (.str x) (.int j) S Q = ((0 ≤ j ∧ (x.length : Int) * j ≤ 16777216 ∧ j ≤ 16777216) ∧ Q (.str (repS x j.toNat)) S) := rfl
theorem x_fdiv : rdFdiv (.int i) (.int j) S Q = ((j ≠ 0 ∧ j.natAbs.log2 < 9000) ∧ Q (.int (i.fdiv j)) S) := rfl
theorem x_mod : rdMod (.int i) (.int j) S Q = (j ≠ 0 ∧ Q (.int (i.fmod j)) S) := rfl
theorem x_pow : rdPow (.int i) (.int j) S Q = ((0 ≤ j ∧ ((i.natAbs.log2 : Int) + 1) * j ≤ 134217728) ∧ Q (.int (i ^ j.toNat)) S) := rfl
theorem x_neg : rdNeg (.int i) S Q = Q (.int (-i)) S := rfl
theorem x_lt : rdLt (.int i) (.int j) S Q = Q (.bl (decide (i < j))) S := rfl
theorem x_le : rdLe (.int i) (.int j) S Q = Q (.bl (decide (i ≤ j))) S := rfl
theorem x_gt : rdGt (.int i) (.int j) S Q = Q (.bl (decide (j < i))) S := rfl
theorem x_ge : rdGe (.int i) (.int j) S Q = Q (.bl (decide (j ≤ i))) S := rfl
theorem x_eq_ii : rdEq (.int i) (.int j) S Q = Q (.bl (decide (i = j))) S := rfl
theorem x_eq_ss : rdEq (.str x) (.str y) S Q = Q (.bl (decide (x = y))) S := rfl
theorem x_eq_bb : rdEq (.bl k) (.bl l) S Q = Q (.bl (decide (k = l))) S := rfl
theorem x_ne_ii : rdNe (.int i) (.int j) S Q = Q (.bl (!decide (i = j))) S := rfl
theorem x_ne_ss : rdNe (.str x) (.str y) S Q = Q (.bl (!decide (x = y))) S := rfl
theorem x_ne_bb : rdNe (.bl k) (.bl l) S Q = Q (.bl (!decide (k = l))) S := rfl
theorem x_abs : rdAbs [.int i] S Q = Q (.int (if i < 0 then -i else i)) S := rfl
theorem x_max2 : rdMax2 [.int i, .int j] S Q = Q (.int (if j > i then j else i)) S := rfl
theorem x_min2 : rdMin2 [.int i, .int j] S Q = Q (.int (if j < i then j else i)) S := rfl
theorem x_int_i : rdInt [.int i] S Q = Q (.int i) S := rfl
theorem x_int_b : rdInt [.bl k] S Q = Q (.int (if k then 1 else 0)) S := rfl
theorem x_sl_t {lo hi : Option Int} : rdSl (.tup xs) lo hi S Q = Q (.tup (cutD xs lo hi)) S := rfl
theorem x_sl_l {lo hi : Option Int} : rdSl (.lst xs) lo hi S Q = Q (.lst (cutD xs lo hi)) S := rfl
theorem x_sl_s {lo hi : Option Int} : rdSl (.str x) lo hi S Q = (x.length ≤ 16777216 ∧ Q (.str (cutS x lo hi)) S) := rfl
theorem x_ixs : rdIx (.str x) (.int i) S Q = (x.length ≤ 16777216 ∧ ixS S Q (atI x.cps.toList i)) := rfl
theorem x_allb {bs : List Bool} (e : xs = bs.map D.bl) (h : Q (.bl (bs.all id)) S) : rdAll [.lst xs] S Q := ⟨bs, by rw [e]; rfl, h⟩
end
theorem atI_0 {α : Type} {a : α} {r : List α} : atI (a :: r) 0 = some a := atI_nat (j := 0) rfl
theorem atI_1 {α : Type} {a b : α} {r : List α} : atI (a :: b :: r) 1 = some b := atI_nat (j := 1) rfl
theorem atI_2 {α : Type} {a b c : α} {r : List α} : atI (a :: b :: c :: r) 2 = some c := atI_nat (j := 2) rfl
theorem atI_3 {α : Type} {a b c d : α} {r : List α} : atI (a :: b :: c :: d :: r) 3 = some d := atI_nat (j := 3) rfl
theorem x_ixQ {S : Sd} {Q : DK} {d : D} : ixQ S Q (some d) = Q d S := rfl
theorem x_ixS {S : Sd} {Q : DK} {c : Nat} : ixS S Q (some c) = Q (.str ⟨#[c]⟩) S := rfl
theorem log2_lt {a : Int} {n : Nat} (h : a.natAbs < 2 ^ n) (h0 : 0 < n) : a.natAbs.log2 < n := PySem.Flt.log2_lt_of h0 h
/-! ### joints, loops -/
theorem seq_cut {t v : TSD} {E : EndsD} {σ : Si} {S : Sd} (Mid : Si → Sd → Prop) (h1 : ∀ N : Si → Sd → Prop, (∀ σ' S', Mid σ' S' → N σ' S') → t { E with nx := N } σ S) (h2 : ∀ σ' S', Mid σ' S' → v E σ' S') : dSeq t v E σ S := h1 (v E) h2
section
variable {g : TGD} {tb : TSD} {E : EndsD} {xs : List D}
theorem loop_pre (I : List D → Si → Sd → Prop) (hs : ∀ (p : List D) (x : D) (r : List D) (σ : Si) (S : Sd) (N : Si → Sd → Prop), xs = p ++ x :: r → I p σ S → (∀ σ' S', I (p ++ [x]) σ' S' → N σ' S') → g x σ S fun σ2 S2 => tb { E with nx := N, ct := N, bk := E.nx } σ2 S2)
    (hd : ∀ σ S, I xs σ S → E.nx σ S) : ∀ (r p : List D) (σ : Si) (S : Sd), xs = p ++ r → I p σ S → dLoop g tb E r σ S
  | [], p, σ, S, e, h => by
    rw [List.append_nil] at e
    rw [← e] at h
    exact hd σ S h
  | x :: r, p, σ, S, e, h => hs p x r σ S _ e h fun σ' S' h' => loop_pre I hs hd r (p ++ [x]) σ' S' (by rw [e]; simp) h'
theorem loop_all (I : List D → Si → Sd → Prop) {σ : Si} {S : Sd} (h0 : I [] σ S) (hs : ∀ (p : List D) (x : D) (r : List D) (σ : Si) (S : Sd) (N : Si → Sd → Prop), xs = p ++ x :: r → I p σ S → (∀ σ' S', I (p ++ [x]) σ' S' → N σ' S') → g x σ S fun σ2 S2 => tb { E with nx := N, ct := N, bk := E.nx } σ2 S2)
    (hd : ∀ σ S, I xs σ S → E.nx σ S) : dLoop g tb E xs σ S := loop_pre I hs hd xs [] σ S rfl h0
theorem rgD_len (lo : Int) (n : Nat) : (rgD lo n).length = n := by unfold rgD; rw [List.length_map, List.length_range]
theorem rgD_at {lo : Int} {n : Nat} {p r : List D} {x : D} (e : rgD lo n = p ++ x :: r) : x = .int (lo + p.length) ∧ p.length < n := by
  have h1 : (rgD lo n)[p.length]? = some x := by rw [e]; simp
  unfold rgD at h1
  rw [List.getElem?_map] at h1
  cases q : (List.range n)[p.length]? with
  | none => rw [q] at h1; cases h1
  | some j =>
    rw [q] at h1
    obtain ⟨h2, h3⟩ := List.getElem?_eq_some_iff.mp q
    rw [List.getElem_range] at h3
    subst h3
    exact ⟨(Option.some.inj h1).symm, by simpa using h2⟩
theorem loop_rng {lo : Int} {n : Nat} (I : Nat → Si → Sd → Prop) {σ : Si} {S : Sd} (h0 : I 0 σ S) (hs : ∀ (i : Nat) (σ : Si) (S : Sd) (N : Si → Sd → Prop), i < n → I i σ S → (∀ σ' S', I (i + 1) σ' S' → N σ' S') → g (.int (lo + i)) σ S fun σ2 S2 => tb { E with nx := N, ct := N, bk := E.nx } σ2 S2)
    (hd : ∀ σ S, I n σ S → E.nx σ S) : dLoop g tb E (rgD lo n) σ S :=
  loop_all (fun p σ S => I p.length σ S) h0 (fun p x r σ S N e h k => by
    obtain ⟨rfl, h1⟩ := rgD_at e
    exact hs p.length σ S N h1 h fun σ' S' h' => k σ' S' (by rw [List.length_append]; exact h')) fun σ S h => hd σ S (by rw [rgD_len] at h; exact h)
theorem sgD_at {z : Str} {p r : List D} {x : D} (e : sgD z = p ++ x :: r) : ∃ (q : List Nat) (c : Nat) (s : List Nat), z.cps.toList = q ++ c :: s ∧ x = .str ⟨#[c]⟩ ∧ p = q.map (fun c => D.str ⟨#[c]⟩) := by
  unfold sgD at e
  obtain ⟨q, t, e1, e2, e3⟩ := List.map_eq_append_iff.mp e
  obtain ⟨c, s, e4, e5, e6⟩ := List.map_eq_cons_iff.mp e3
  exact ⟨q, c, s, by rw [e1, e4], e5.symm, e2.symm⟩
theorem map_str_inj : ∀ {a b : List Nat}, a.map (fun c => D.str ⟨#[c]⟩) = b.map (fun c => D.str ⟨#[c]⟩) → a = b
  | [], [], _ => rfl
  | [], _ :: _, h => by cases h
  | _ :: _, [], h => by cases h
  | x :: a, y :: b, h => by
    rw [List.map_cons, List.map_cons] at h
    injection h with h1 h2
    injection h1 with h3
    injection h3 with h4
    have h5 : x = y := by simpa using h4
    rw [h5, map_str_inj h2]
theorem loop_str {z : Str} (I : List Nat → Si → Sd → Prop) {σ : Si} {S : Sd} (h0 : I [] σ S) (hs : ∀ (p : List Nat) (c : Nat) (r : List Nat) (σ : Si) (S : Sd) (N : Si → Sd → Prop), z.cps.toList = p ++ c :: r → I p σ S → (∀ σ' S', I (p ++ [c]) σ' S' → N σ' S') → g (.str ⟨#[c]⟩) σ S fun σ2 S2 => tb { E with nx := N, ct := N, bk := E.nx } σ2 S2)
    (hd : ∀ σ S, I z.cps.toList σ S → E.nx σ S) : dLoop g tb E (sgD z) σ S :=
  loop_all (fun p σ S => ∃ q : List Nat, p = q.map (fun c => D.str ⟨#[c]⟩) ∧ I q σ S) ⟨[], rfl, h0⟩ (fun p x r σ S N e ⟨q, eq, h⟩ k => by
    obtain ⟨q2, c, s, e1, rfl, e3⟩ := sgD_at e
    have e4 : q = q2 := map_str_inj (eq.symm.trans e3)
    subst e4
    exact hs q c s σ S N e1 h fun σ' S' h' => k σ' S' ⟨q ++ [c], by rw [List.map_append, eq]; rfl, h'⟩) fun σ S ⟨q, eq, h⟩ => hd σ S (by
      have e : z.cps.toList = q := map_str_inj eq
      rw [e]; exact h)
end
/-! ### comprehensions without a trace -/
theorem lcL_pure {te : TED} {p : Addr} {σw : Si} {i : Nat} {S : Sd} (f : D → D) : ∀ (xs acc : List D) (Q : List D → Sd → Prop), (∀ x ∈ xs, ∀ S' (Q' : DK), Q' (f x) S' → te (σw.set i (some x)) S' Q') → acc.length + xs.length ≤ 16777216 →
    Q (acc ++ xs.map f) (upS S p (.lst (acc ++ xs.map f))) → dLcL (dName i) dYes te p σw xs acc (upS S p (.lst acc)) Q
  | [], acc, Q, _, _, q => by
    rw [List.map_nil, List.append_nil] at q
    exact q
  | x :: r, acc, Q, h, hl, q => by
    rw [List.length_cons] at hl
    show (if true = true then te (σw.set i (some x)) (upS S p (.lst acc)) fun y S4 => S4 p = some (.lst acc) ∧ acc.length < 16777216 ∧ dLcL (dName i) dYes te p σw r (acc ++ [y]) (upS S4 p (.lst (acc ++ [y]))) Q else dLcL (dName i) dYes te p σw r acc (upS S p (.lst acc)) Q)
    rw [if_pos rfl]
    refine h x List.mem_cons_self _ _ ⟨upS_same, by omega, ?_⟩
    rw [upS_upS]
    refine lcL_pure f r (acc ++ [f x]) Q (fun y hy => h y (List.mem_cons_of_mem _ hy)) (by rw [List.length_append, List.length_singleton]; omega) ?_
    rw [List.append_assoc]
    exact q
theorem comp_pure {ti : TID} {te : TED} {i : Nat} {vs : List Nat} {σ : Si} {S : Sd} {Q : DK} (f : D → D) (xs : List D) (S1 : Sd) (hti : ∀ R : List D → Sd → Prop, R xs S1 → ti σ S R) (h : ∀ x ∈ xs, ∀ S' (Q' : DK), Q' (f x) S' → te ((wipeD σ vs).set i (some x)) S' Q') (hl : xs.length ≤ 16777216)
    (q : Q (.lst (xs.map f)) S1) : dComp ti (dName i) dYes te vs σ S Q := hti _ fun p hp => by
  refine lcL_pure f xs [] _ h (by simpa using hl) ⟨upS_same, ?_⟩
  rw [del_upS hp]
  exact q
end Dv

/-! Readings by value, y: texts, is, draws in a comprehension, loops with a measure. -/
namespace Dv
open PySem L2 PyProof.Rows
section
variable {X : Cx} {W : Wi}
/-! ### is -/
def rdIs : RD2 := fun x y S Q => match y with
  | .non => rdIsN x .non S Q
  | .bl b => (match x with | .bl a => Q (.bl (decide (a = b))) S | _ => False)
  | _ => False
def rdIsNot : RD2 := fun x y S Q => match y with
  | .non => rdNotN x .non S Q
  | .bl b => (match x with | .bl a => Q (.bl (!decide (a = b))) S | _ => False)
  | _ => False
theorem od_is : OpD X (compareOp .Is) rdIs := by
  obtain ⟨r, h, l⟩ := od_isN (X := X)
  refine ⟨_, h.or op_isBl, fun H S fr σd σ x y dx dy Qv Qd ok rx ry q k => ?_⟩
  cases dy with
  | non => exact .inl (l H S fr σd σ x y dx .non Qv Qd ok rx ry q k)
  | bl b =>
    cases dx with
    | bl a =>
      refine .inr ⟨a, b, rx, ry, k _ (.bl _) H S ok rfl q⟩
    | _ => exact (show False from q).elim
  | _ => exact (show False from q).elim
theorem od_isNot : OpD X (compareOp .IsNot) rdIsNot := by
  obtain ⟨r, h, l⟩ := od_notN (X := X)
  refine ⟨_, h.or op_notBl, fun H S fr σd σ x y dx dy Qv Qd ok rx ry q k => ?_⟩
  cases dy with
  | non => exact .inl (l H S fr σd σ x y dx .non Qv Qd ok rx ry q k)
  | bl b =>
    cases dx with
    | bl a =>
      refine .inr ⟨a, b, rx, ry, k _ (.bl _) H S ok rfl q⟩
    | _ => exact (show False from q).elim
  | _ => exact (show False from q).elim
/-! ### one sign in a text -/
def rdInS : RD2 := fun x y S Q => match x, y with
  | .str a, .str z => ∃ c, a = ⟨#[c]⟩ ∧ Q (.bl (decide (c ∈ z.cps.toList))) S
  | _, _ => False
theorem od_inS : OpD X (compareOp .In) rdInS := ⟨_, op_in_sign, fun H S fr σd σ x y dx dy Qv Qd ok rx ry q k => by
  cases dx with
  | str a => cases dy with
    | str z =>
      obtain ⟨c, rfl, q2⟩ := (show ∃ c, a = ⟨#[c]⟩ ∧ _ from q)
      exact ⟨c, z, rx, ry, k _ (.bl _) H S ok rfl q2⟩
    | _ => exact (show False from q).elim
  | _ => exact (show False from q).elim⟩
/-! ### methods of texts -/
def rdJoin : RDM := fun o vs S Q => match o, vs with
  | .str a, [d] => ∃ ys : List Str, itemsD S d = some (ys.map D.str) ∧ (ys.map (·.length)).sum + ys.length * a.length ≤ 16777216 ∧ Q (.str (Txt.join a ys)) S
  | _, _ => False
theorem join_lift : LiftM X.K (fun x xs H Q => ∃ a p, ∃ ys : List Str, x = .str a ∧ xs = [.ref p] ∧ (SqL X.K H p (ys.map V.str) ∨ SqT X.K H p (ys.map V.str)) ∧
    (ys.map (·.length)).sum + ys.length * a.length ≤ 16777216 ∧ Q (.str (Txt.join a ys)) H) rdJoin := fun H S fr σd σ x dx xs ds Qv Qd ok rx rs h k => by
  match dx, ds, h with
  | .str a, [d], h =>
    obtain ⟨ys, e, hl, q⟩ := (show ∃ ys : List Str, itemsD S d = some (ys.map D.str) ∧ _ from h)
    obtain ⟨v, rfl, r1⟩ := rpL1 rs
    obtain ⟨p, vs, rfl, hq, r2⟩ := rp_items ok.rel r1 e
    cases rpL_strs r2
    exact ⟨a, p, ys, rx, rfl, hq, hl, k _ (.str _) H S ok rfl q⟩
def rdCount : RDM := fun o vs S Q => match o, vs with
  | .str a, [.str b] => Q (.int (Txt.count a b)) S
  | _, _ => False
theorem count_lift {K : PySem.W.Frag} : LiftM K (fun x xs H Q => ∃ a b, x = .str a ∧ xs = [.str b] ∧ Q (.int (Txt.count a b)) H) rdCount := fun H S fr σd σ x dx xs ds Qv Qd ok rx rs h k => by
  match dx, ds, h with
  | .str a, [.str b], h =>
    obtain ⟨v, rfl, r1⟩ := rpL1 rs
    have e : v = .str b := r1
    subst e
    exact ⟨a, b, rx, rfl, k _ (.int _) H S ok rfl h⟩
theorem de_join {o : Expr} {to : TED} {es : List Expr} {e : Expr} {t : TAD} {apos cpos : Pos} (ho : DE X W o to) (ha : DA X W (e :: es) t) (hbase : attributeBase o "join" X.env (eval o X.env) = eval o X.env := by rfl)
    (hfew : ((backTo cpos (starEach (e :: es) X.env)).all (fun x => !x.1) && (backToKw cpos (keywordEach [] X.env)).all (fun x => x.1.isSome)
      && decide ((e :: es).length + ([] : List Keyword).length + (if ([] : List Keyword).isEmpty then 0 else 1) < 30)) = true := by rfl)
    (hline : (apos.endLine == cpos.line) = true := by rfl) (hs : starEach (e :: es) X.env = (false, eval e X.env) :: starEach es X.env := by rfl) (hplain : (backTo cpos (starEach es X.env)).any (·.1) = false := by rfl) :
    DE X W (.Call (.Attribute o "join" apos) (e :: es) [] cpos) (dBM "str" rdJoin to t) :=
  de_bm PySem.F.plainAttrs_str PySem.F.slot_str_join PySem.F.type_str_join mt_join join_lift ho ha hbase hfew hline hs hplain
theorem de_count {o : Expr} {to : TED} {es : List Expr} {e : Expr} {t : TAD} {apos cpos : Pos} (ho : DE X W o to) (ha : DA X W (e :: es) t) (hbase : attributeBase o "count" X.env (eval o X.env) = eval o X.env := by rfl)
    (hfew : ((backTo cpos (starEach (e :: es) X.env)).all (fun x => !x.1) && (backToKw cpos (keywordEach [] X.env)).all (fun x => x.1.isSome)
      && decide ((e :: es).length + ([] : List Keyword).length + (if ([] : List Keyword).isEmpty then 0 else 1) < 30)) = true := by rfl)
    (hline : (apos.endLine == cpos.line) = true := by rfl) (hs : starEach (e :: es) X.env = (false, eval e X.env) :: starEach es X.env := by rfl) (hplain : (backTo cpos (starEach es X.env)).any (·.1) = false := by rfl) :
    DE X W (.Call (.Attribute o "count" apos) (e :: es) [] cpos) (dBM "str" rdCount to t) :=
  de_bm PySem.F.plainAttrs_str PySem.F.slot_str_count PySem.F.type_str_count mt_count count_lift ho ha hbase hfew hline hs hplain
/-! ### list(text), tuple(text) -/
def rdListA : RDC := fun ds S Q => match ds with
  | [.str z] => z.length ≤ 16777216 ∧ Q (.lst (sgD z)) S
  | _ => rdListC ds S Q
def rdTupA : RDC := fun ds S Q => match ds with
  | [.str z] => z.length ≤ 16777216 ∧ Q (.tup (sgD z)) S
  | _ => rdTupC ds S Q
end
/-! ### rows -/
section
variable {S : Sd} {Q : DK} {x y z : Str} {k l : Bool} {ds : List D} {d : D}
theorem x_is_bb : rdIs (.bl k) (.bl l) S Q = Q (.bl (decide (k = l))) S := rfl
theorem x_isNot_bb : rdIsNot (.bl k) (.bl l) S Q = Q (.bl (!decide (k = l))) S := rfl
theorem x_is_n : rdIs d .non S Q = rdIsN d .non S Q := rfl
theorem x_isNot_n : rdIsNot d .non S Q = rdNotN d .non S Q := rfl
theorem x_inS {c : Nat} : rdInS (.str ⟨#[c]⟩) (.str z) S Q = Q (.bl (decide (c ∈ z.cps.toList))) S := by
  refine propext ⟨fun ⟨c', e, q⟩ => ?_, fun q => ⟨c, rfl, q⟩⟩
  injection e with e
  have e2 : c = c' := by simpa using e
  rw [e2]; exact q
theorem x_listA_s : rdListA [.str z] S Q = (z.length ≤ 16777216 ∧ Q (.lst (sgD z)) S) := rfl
theorem x_listA_t : rdListA [.tup ds] S Q = Q (.lst ds) S := rfl
theorem x_listA_l : rdListA [.lst ds] S Q = Q (.lst ds) S := rfl
theorem x_tupA_s : rdTupA [.str z] S Q = (z.length ≤ 16777216 ∧ Q (.tup (sgD z)) S) := rfl
theorem x_tupA_t : rdTupA [.tup ds] S Q = Q (.tup ds) S := rfl
theorem x_tupA_l : rdTupA [.lst ds] S Q = Q (.tup ds) S := rfl
theorem x_count : rdCount (.str x) [.str y] S Q = Q (.int (Txt.count x y)) S := rfl
theorem x_len_strL : z.length = z.cps.toList.length := by show z.cps.size = _; simp
end
/-- joined by nothing -/
theorem join_e (ys : List Str) : (Txt.join "" ys).cps.toList = (ys.map fun y => y.cps.toList).flatten := by
  rw [TL.join_eq]
  induction ys with
  | nil => rfl
  | cons y r ih =>
    cases r with
    | nil => show y.cps.toList = _; simp
    | cons z r =>
      show (y ++ ("" : Str) ++ Str.join "" (z :: r)).cps.toList = _
      have e : ∀ a b : Str, (a ++ b).cps.toList = a.cps.toList ++ b.cps.toList := fun a b => by
        show (a.cps ++ b.cps).toList = _
        simp
      rw [e, e, ih]
      have e0 : ("" : Str).cps.toList = [] := by decide +kernel
      rw [e0, List.append_nil]
      rfl
theorem x_join {S : Sd} {Q : DK} {d : D} {a : Str} (ys : List Str) (e : itemsD S d = some (ys.map D.str)) (h : (ys.map (·.length)).sum + ys.length * a.length ≤ 16777216) (q : Q (.str (Txt.join a ys)) S) : rdJoin (.str a) [d] S Q := ⟨ys, e, h, q⟩
/-- a text of signs -/
def ofL (l : List Nat) : Str := ⟨l.toArray⟩
theorem ofL_cps (l : List Nat) : (ofL l).cps.toList = l := rfl
theorem ofL_len (l : List Nat) : (ofL l).length = l.length := by show l.toArray.size = _; simp
theorem ofL_of (z : Str) : z = ofL z.cps.toList := str_ext rfl
theorem ofL_app (a b : List Nat) : ofL a ++ ofL b = ofL (a ++ b) := str_ext (by show (a.toArray ++ b.toArray).toList = _; simp [ofL])
theorem ofL_inj {a b : List Nat} : ofL a = ofL b ↔ a = b := ⟨fun h => by have := congrArg (fun z : Str => z.cps.toList) h; simpa [ofL] using this, fun h => by rw [h]⟩
theorem join_ones (l : List Nat) : Txt.join "" (l.map fun c => (⟨#[c]⟩ : Str)) = ofL l := str_ext (by
  rw [join_e, List.map_map]
  show ((l.map fun c => [c]).flatten) = l
  induction l with
  | nil => rfl
  | cons c r ih => rw [List.map_cons, List.flatten_cons, ih]; rfl)
/-! ### comprehensions that draw -/
/-! ### while -/
theorem while_inv {c : TTD} {tb : TSD} {E : EndsD} {σ : Si} {S : Sd} (I : Nat → Si → Sd → Prop) (m : Nat) (h0 : I m σ S)
    (hs : ∀ (m : Nat) (σ : Si) (S : Sd) (N : Si → Sd → Prop), I m σ S → (∀ m' σ' S', m' < m → I m' σ' S' → N σ' S') → c σ S fun b S1 => if b = true then tb { E with nx := N, ct := N, bk := E.nx } σ S1 else E.nx σ S1) : dWhile c tb E σ S :=
  ⟨I, ⟨m, h0⟩, fun m σ S h => hs m σ S _ h fun m' σ' S' hm h' => ⟨m', hm, h'⟩⟩
end Dv

/-! Readings by value, u: statements that are never reached, +=, a written dict read by a text. -/
namespace Dv
open PySem L2 PyProof.Rows
section
variable {X : Cx} {W : Wi} {pos : Pos}
def dNever : TSD := fun _ _ _ => False
theorem ds_never {s : Stmt} : DS X W s dNever := ⟨⟨fun pins sh σ H D I ⟨_, _, _, _, _, _, h, _⟩ => (show False from h).elim⟩⟩
def rdIadd : RD2 := fun x y S Q => match x, y with
  | .int i, .int j => Q (.int (i + j)) S
  | .str i, .str j => i.length + j.length ≤ 16777216 ∧ Q (.str (i ++ j)) S
  | _, _ => False
theorem iod_add : OpD X (inplaceOp .Add) rdIadd := ⟨_, iop_add.or iop_add_str, fun H S fr σd σ x y dx dy Qv Qd ok rx ry q k => by
  cases dx with
  | int i => cases dy with
    | int j => exact .inl ⟨i, j, rx, ry, k _ (.int _) H S ok rfl q⟩
    | _ => exact (show False from q).elim
  | str i => cases dy with
    | str j =>
      obtain ⟨q1, q2⟩ := (show i.length + j.length ≤ 16777216 ∧ Qd (.str (i ++ j)) S from q)
      exact .inr ⟨i, j, rx, ry, sz_le q1, k _ (.str _) H S ok rfl q2⟩
    | _ => exact (show False from q).elim
  | _ => exact (show False from q).elim⟩
/-! ### a written dict read by a text -/
def dKix (tab : Str → Option D) (tb : TED) : TED := fun σ S Q => tb σ S fun y S1 => match y with
  | .str z => (match tab z with | some d => Q d S1 | none => False)
  | _ => False
theorem de_kix {x : Str} {a : Addr} {b : Expr} {tb : TED} {p : Pos} {tab : Str → Option D} (hg : Gl X x) (hm : X.mg x = some (.ref a)) (ht : ∀ z d, tab z = some d → ∃ v, KDct X.K X.w a z v ∧ ∀ H S, Rp X.K H S d v) (hb : DE X W b tb) (hs : PlainIx b)
    (hd : (x == ("__debug__" : Str)) = false := by decide) : DE X W (.Subscript (.Name x p) b pos) (dKix tab tb) :=
  ⟨PE.imp (pe_ix ix_kdict (pe_glob (v := .ref a) hg hm rfl hd) hb.p hs) fun σ H Q ⟨σd, S, fr, Qd, ok, cl, h, k⟩ =>
    ⟨σd, S, fr, _, ok, cl, h, fun y dy H1 S1 ok1 ry q => by
      cases dy with
      | str z =>
        have q' : (match tab z with | some d => Qd d S1 | none => False) := q
        cases e : tab z with
        | none => rw [e] at q'; exact q'.elim
        | some d =>
          rw [e] at q'
          obtain ⟨v, h1, h2⟩ := ht z d e
          exact ⟨a, z, v, rfl, ry, h1, k v d H1 S1 ok1 (h2 _ _) q'⟩
      | _ => exact (show False from q).elim⟩⟩
theorem rp_ktup {K : PySem.W.Frag} {H : Hp} {S : Sd} {a : Addr} {its : Array Value} {n : Nat} {od : Option Addr} {sl : Array (Option Value)} {vs : List V} {ds : List D} (hl : K.lookup a = some ⟨.type "tuple", od, .seq its n, sl⟩) (hz : its.size ≤ 1000) (hv : Vals vs its.toList) (r : RpL K H S ds vs) : Rp K H S (.tup ds) (.ref a) :=
  ⟨a, vs, rfl, .inr ⟨_, its, n, hl, rfl, rfl, sz_le (Nat.le_trans hz (by decide)), hv⟩, r⟩
end
end Dv

/-! Readings by value: own errors raised, caught, asked. -/
namespace Dv
open PySem L2 PyProof.Rows Hx
/-! ### the module's own classes of errors -/
def ownBase : List (Str × List Str) := [("NoNumber", ["ArithmeticError"]), ("NoForm", ["ArithmeticError"]), ("OverNought", ["ZeroDivisionError", "ArithmeticError"]), ("TooMany", ["OverflowError", "ArithmeticError"]), ("NoKin", ["TypeError"]), ("NoPlace", ["IndexError", "LookupError"]), ("NoRing", ["ValueError"]), ("NoWord", ["ValueError"]), ("NoStep", ["ValueError"]), ("Uneven", ["ValueError"]), ("NoWay", ["ValueError"]), ("NoTable", ["ValueError"]), ("NoTriple", ["ValueError"])]
def ownCls : List Str := ownBase.map (·.1)
def bltCls : List Str := ["ArithmeticError", "ZeroDivisionError", "OverflowError", "TypeError", "IndexError", "KeyError", "LookupError", "RuntimeError", "ValueError"]
def excIs (n c : Str) : Bool := n == c || match ownBase.lookup n with
  | some bs => bs.contains c
  | none => false
def clsV (K : PySem.W.Frag) (x : Str) : Value := match PySem.W.nsIn K mainGlobals x with
  | some (some v) => v
  | _ => (bootBuiltins x).getD .none
/-- what is known of an own class of errors that is raised -/
structure WhF (K : PySem.W.Frag) (n : Str) (D : Addr) : Prop where
  at_ : PySem.W.nsIn K mainGlobals n = some (some (.ref D))
  exc : ExcC K D
  kit : ∀ c ∈ ownCls ++ bltCls, PySem.W.kitOne K (.ref D) (clsV K c) = some (excIs n c)
  exm : ∀ c ∈ ownCls, PySem.W.exmOne K (.ref D) (clsV K c) = some (excIs n c)
def excCB (K : PySem.W.Frag) (D : Addr) : Bool := decide (PySem.W.findIn K (.ref D) "__getattribute__" = some (some (.builtin "BaseException.__getattribute__"))) && (decide (PySem.W.findIn K (.ref D) "__getattr__" = some none) && (decide (PySem.W.subIn K (.ref D) (.type "BaseException") = some true) && (PySem.W.hasDictIn K D &&
  (decide (PySem.W.findIn K (.ref D) "__class__" = some (some (.builtin "object.__class__"))) && (decide (PySem.W.specialIn K (.builtin "object.__class__") "__get__" = some (some (.builtin "getset_descriptor.__get__"))) && (decide (PySem.W.takesIn K (.builtin "object.__class__") = some true) && decide (PySem.W.mroIn K D (.type "object") = some true)))))))
theorem and_b {a b : Bool} (h : (a && b) = true) : a = true ∧ b = true := Bool.and_eq_true_iff.mp h
theorem excCB_ok {K : PySem.W.Frag} {D : Addr} (h : excCB K D = true) : ExcC K D := by
  obtain ⟨h1, h⟩ := and_b h
  obtain ⟨h2, h⟩ := and_b h
  obtain ⟨h3, h⟩ := and_b h
  obtain ⟨h4, h⟩ := and_b h
  obtain ⟨h5, h⟩ := and_b h
  obtain ⟨h6, h⟩ := and_b h
  obtain ⟨h7, h8⟩ := and_b h
  exact ⟨of_decide_eq_true h1, of_decide_eq_true h2, of_decide_eq_true h3, h4, of_decide_eq_true h5, of_decide_eq_true h6, of_decide_eq_true h7, of_decide_eq_true h8⟩
def whB (K : PySem.W.Frag) (rs : List Str) : Bool := rs.all fun n => match PySem.W.nsIn K mainGlobals n with
  | some (some (.ref D)) => excCB K D && (((ownCls ++ bltCls).all fun c => decide (PySem.W.kitOne K (.ref D) (clsV K c) = some (excIs n c))) && ownCls.all fun c => decide (PySem.W.exmOne K (.ref D) (clsV K c) = some (excIs n c)))
  | _ => false
theorem whB_ok {K : PySem.W.Frag} {rs : List Str} (h : whB K rs = true) {n : Str} (hn : n ∈ rs) : ∃ D, WhF K n D := by
  have h1 := List.all_eq_true.mp h n hn
  split at h1
  · rename_i D e
    obtain ⟨a, b⟩ := and_b h1
    obtain ⟨b, c⟩ := and_b b
    exact ⟨D, e, excCB_ok a, fun c' hc => of_decide_eq_true (List.all_eq_true.mp b c' hc), fun c' hc => of_decide_eq_true (List.all_eq_true.mp c c' hc)⟩
  · cases h1
/-- the own classes stand as globals -/
def glB (K : PySem.W.Frag) : Bool := ownCls.all fun c => match PySem.W.nsIn K mainGlobals c with
  | some (some (.ref _)) => true
  | _ => false
theorem glB_ok {K : PySem.W.Frag} (h : glB K = true) {c : Str} (hc : c ∈ ownCls) : ∃ D, PySem.W.nsIn K mainGlobals c = some (some (.ref D)) ∧ clsV K c = .ref D := by
  have h1 := List.all_eq_true.mp h c hc
  unfold clsV
  split at h1
  · rename_i D e
    rw [e]
    exact ⟨D, rfl, rfl⟩
  · cases h1
/-- a simple own class: raised with a text -/
structure RsF (K : PySem.W.Frag) (n : Str) (bm : List Value) (newId : String) (C : Addr) : Prop where
  at_ : PySem.W.nsIn K mainGlobals n = some (some (.ref C))
  exc : PySem.W.excIn K C bm newId = true
  kp : PySem.W.keepIn K (.ref C) = true
  sub : PySem.W.subIn K (.ref C) (.type "BaseException") = some true
  ty : PySem.W.typeIn K (.ref C) = some (.type "type")
def rsB (K : PySem.W.Frag) (n : Str) (bm : List Value) (newId : String) : Bool := match PySem.W.nsIn K mainGlobals n with
  | some (some (.ref C)) => PySem.W.excIn K C bm newId && (PySem.W.keepIn K (.ref C) && (decide (PySem.W.subIn K (.ref C) (.type "BaseException") = some true) && decide (PySem.W.typeIn K (.ref C) = some (.type "type"))))
  | _ => false
theorem rsB_ok {K : PySem.W.Frag} {n : Str} {bm : List Value} {newId : String} (h : rsB K n bm newId = true) : ∃ C, RsF K n bm newId C := by
  unfold rsB at h
  split at h
  · rename_i C e
    obtain ⟨a, h⟩ := and_b h
    obtain ⟨b, h⟩ := and_b h
    obtain ⟨c, d⟩ := and_b h
    exact ⟨C, e, a, b, of_decide_eq_true c, of_decide_eq_true d⟩
  · cases h
/-! ### raise -/
section
variable {X : Cx} {W : Wi} {pos : Pos}
def dRaise (WD : WXD) (x : Xd) : TSD := fun _ σ S => WD x σ S
theorem ds_raiseC {n m : Str} {j : Nat} {p p2 pos' : Pos} {bm : List Value} {B newId initId : String} {C : Addr} (hc : X.calm = true) (tk : L2N.Takes X W.V) (F : ExcBaseFacts B newId initId bm) (R : RsF X.K n bm newId C) (gC : X.mg n = some (.ref C)) (hg : Gl X n) (hdb : (n == ("__debug__" : Str)) = false := by decide) :
    DS X W (.Raise (some (.Call (.Name n p) [.Constant (.str m) j p2] [] pos)) none pos') (dRaise W.D ⟨n, [], []⟩) :=
  ⟨PS.imp (L2N.ps_raise hc tk (L2N.pmk_own F R.exc gC R.kp (raises_own R.sub R.ty) hg hdb)) fun D σ H ⟨σd, S, fr, Dd, ok, cl, h, k⟩ => cl σd σ H S (.ref C) none _ ok ⟨R.at_, fun _ => rfl, fun _ z => nomatch z⟩ h⟩
end
/-! ### except suites -/
/-- what a suite knows of the exception that it holds -/
structure SuF (K : PySem.W.Frag) (oe : Obj) (od : Option Addr) (n : Str) : Prop where
  cls : ∃ D, WhF K n D ∧ oe.cls = .ref D
  dct : oe.dict = od
  dat : ∃ vs : Array Value, oe.data = .fields vs ∧ vs[2]? = some .none
structure DCl where
  cs : List Str
  n : Option Nat
  ts : Addr → Option Addr → Xd → TSD
def goneD (n : Option Nat) (D : EndsD) : EndsD := match n with
  | none => D
  | some i => { nx := fun σ S => D.nx (σ.set i none) S, rt := D.rt, bk := fun σ S => D.bk (σ.set i none) S, ct := fun σ S => D.ct (σ.set i none) S }
def bindD (n : Option Nat) (a : Addr) (od : Option Addr) (x : Xd) (σ : Si) : Si := match n with
  | none => σ
  | some i => σ.set i (some (.exc a od x.ns x.xs))
/-- what the clauses wish of an exception; rs: the own classes that may come -/
def wDCl (rs : List Str) (Wout : WXD) (D : EndsD) : List DCl → WXD
  | [] => Wout
  | c :: r => fun x σ S => x.cls ∈ rs ∧ if c.cs.any (excIs x.cls) = true then ∀ a od, S a = none → c.ts a od x (goneD c.n D) (bindD c.n a od x σ) S else wDCl rs Wout D r x σ S
def dTry (rs : List Str) (tb : WXD → TSD) (l : List DCl) (WD : WXD) : TSD := fun D σ S => tb (wDCl rs WD D l) D σ S
section
variable {X : Cx} {W : Wi} {pos : Pos}
def nmOf (X : Cx) (n : Option Nat) (m : Option (Str × Nat)) : Prop := m.map (·.2) = n ∧ NmOk X m
inductive DHds (X : Cx) : List ExceptHandler → List DCl → Prop
  | nil : DHds X [] []
  | cons {c : DCl} {m : Option (Str × Nat)} {e : Expr} {b₀ : Stmt} {suite : List Stmt} {pos : Pos} {hds : List ExceptHandler} {l : List DCl} (hn : nmOf X c.n m) (ht : Tst X e (c.cs.map (clsV X.K))) (ho : ∀ z ∈ c.cs, z ∈ ownCls)
      (hsu : ∀ (a : Addr) (oe : Obj) (od : Option Addr) (x : Xd) (pn : List (Addr × Obj)), SuF X.K oe od x.cls → DB (X.suite a ((a, oe) :: pn)) W0 (b₀ :: suite) (c.ts a od x)) (r : DHds X hds l) :
      DHds X (.ExceptHandler (some e) (m.map (·.1)) (b₀ :: suite) pos :: hds) (c :: l)
theorem exm_any {K : PySem.W.Frag} {n : Str} {D : Addr} (w : WhF K n D) : ∀ cs : List Str, (∀ z ∈ cs, z ∈ ownCls) → PySem.W.exmAny K (.ref D) (cs.map (clsV K)) = some (cs.any (excIs n))
  | [], _ => rfl
  | c :: r, h => by
    show PySem.W.exmAny K (.ref D) (clsV K c :: r.map (clsV K)) = some (excIs n c || r.any (excIs n))
    unfold PySem.W.exmAny
    rw [w.exm c (h c (.head _)), exm_any w r fun z hz => h z (.tail _ hz)]
def liftTs (K : PySem.W.Frag) (ts : Addr → Option Addr → Xd → TSD) : Addr → Value → Option Addr → TS := fun a cls od D σ H => ∃ x, (∃ Dx, WhF K x.cls Dx ∧ cls = .ref Dx) ∧ upSt K W0 (ts a od x) D σ H
def liftCl (K : PySem.W.Frag) : DCl → Option (Str × Nat) → Hx.Cl := fun c m => ⟨c.cs.map (clsV K), m, liftTs K c.ts⟩
theorem hds_lift {hds : List ExceptHandler} {l : List DCl} (h : DHds X hds l) : ∃ l' : List Hx.Cl, Hds X hds l' ∧ ∀ (rs : List Str), (∀ n ∈ rs, ∃ D, WhF X.K n D) → ∀ (fr : List (V × D)) (Dd : EndsD) (D : Ends), EndOk X.K fr Dd D → Cl X.K W fr →
    Dv.Cl X.K ⟨wCls X.K W.V D l', wDCl rs W.D Dd l⟩ fr := by
  induction h with
  | nil => exact ⟨[], .nil, fun rs _ fr Dd D _ cl => cl⟩
  | @cons c m e b₀ suite pos hds l hn ht ho hsu r ih =>
    obtain ⟨l', h1, h2⟩ := ih
    refine ⟨liftCl X.K c m :: l', ?_, ?_⟩
    · refine Hds.cons (c := liftCl X.K c m) hn.2 ht (fun a oe cls d pn hz hd => ⟨fun pins s σ H D I ⟨x, ⟨Dx, hw, ec⟩, h⟩ => ?_⟩) h1
      obtain ⟨vs, hd⟩ := hd
      exact ((hsu a oe d x pn ⟨⟨Dx, hw, hz.1.trans ec⟩, hz.2.1, vs, hd, hz.2.2 vs hd⟩).p).run pins s σ H D I h
    · intro rs hrs fr Dd D eo cl σd σ H S cls od x ok rx h
      obtain ⟨hn1, h⟩ := h
      obtain ⟨Dx, hw⟩ := hrs _ hn1
      have ec : cls = .ref Dx := by
        have z := rx.1
        rw [hw.at_] at z
        exact (Option.some.inj (Option.some.inj z)).symm
      refine ⟨_, by rw [ec]; exact exm_any hw c.cs ho, fun hb a na => ?_, fun hb => ?_⟩
      · rw [if_pos hb] at h
        refine ⟨x, ⟨Dx, hw, ec⟩, bindD c.n a od x σd, S, fr, goneD c.n Dd, ?_, Cl.zero, h a od (ok.rel.free na), ?_⟩
        · have rexc : Rp X.K H S (.exc a od x.ns x.xs) (.ref a) := ⟨rfl, rx.2.1, rx.2.2⟩
          have e1 := hn.1
          cases m with
          | none =>
            have e2 : c.n = none := e1.symm
            show Ok X.K H S fr (bindD c.n a od x σd) (bindN none a σ)
            rw [e2]
            exact ok
          | some mi =>
            have e2 : c.n = some mi.2 := e1.symm
            show Ok X.K H S fr (bindD c.n a od x σd) (bindN (some mi) a σ)
            rw [e2]
            exact ok.set rexc mi.2
        · have e1 := hn.1
          cases m with
          | none =>
            have e2 : c.n = none := e1.symm
            show EndOk X.K fr (goneD c.n Dd) (goneN none D)
            rw [e2]
            exact eo
          | some mi =>
            have e2 : c.n = some mi.2 := e1.symm
            show EndOk X.K fr (goneD c.n Dd) (goneN (some mi) D)
            rw [e2]
            exact ⟨fun σd σ H S o q => eo.nx _ _ H S (o.gone mi.2 none) q, eo.rt, fun σd σ H S o q => eo.bk _ _ H S (o.gone mi.2 none) q, fun σd σ H S o q => eo.ct _ _ H S (o.gone mi.2 none) q⟩
      · rw [if_neg (by rw [hb]; exact Bool.false_ne_true)] at h
        exact h2 rs hrs fr Dd D eo cl σd σ H S cls od x ok rx h
theorem ds_try {body : List Stmt} {h₀ : ExceptHandler} {hds : List ExceptHandler} {l : List DCl} {rs : List Str} {tb : WXD → TSD} (hs : X.stack = X.env :: X.outer) (hf : X.env.frame = some X.env.locals) (tk : L2N.Takes X W.V) (hrs : ∀ n ∈ rs, ∃ D, WhF X.K n D)
    (hb : ∀ (W' : Wi) (pn : List (Addr × Obj)) (xe : Value → Shared → Prop), L2N.Takes (X.tr pn xe) W'.V → PassesOwn (model X.prog X.w) X.A X.env xe → DB (X.tr pn xe) W' body (tb W'.D)) (hh : DHds X (h₀ :: hds) l) :
    DS X W (.Try body (h₀ :: hds) [] [] pos) (dTry rs tb l W.D) := by
  obtain ⟨l', h1, h2⟩ := hds_lift (W := W) hh
  refine ⟨PS.imp (ps_tryN (tb := fun WV D σ H => ∃ WD, upSt X.K ⟨WV, WD⟩ (tb WD) D σ H) hs hf tk (fun WV pn xe tk' pass => ⟨fun pins s σ H D I ⟨WD, h⟩ => ?_⟩) h1) fun D σ H ⟨σd, S, fr, Dd, ok, cl, h, k⟩ => ?_⟩
  · exact ((hb ⟨WV, WD⟩ pn xe tk' pass).p).run pins s σ H D I h
  · exact ⟨_, σd, S, fr, Dd, ok, h2 rs hrs fr Dd D k cl, h, k⟩
end
end Dv

/-! Readings by value: a def that names an error's class; a refusal named. -/
namespace Dv
open PySem L2 PyProof.Rows Hx
section
variable {X : Cx} {W : Wi} {pos : Pos}
/-! ### while an exception is handled -/
end
/-! ### a def that names an error's class -/
section
variable {P : Program} {w : World} {K : PySem.W.Frag} {mg : Str → Option Value} {base : Heap}
end
section
variable {X : Cx} {pos : Pos}
/-! ### a refusal, named -/
end
end Dv

/-! Readings by value: what the printed derivations lean on for errors and lambdas. -/
namespace Dv
open PySem L2 PyProof.Rows Hx
section
variable {X : Cx} {W : Wi} {pos : Pos}
theorem takes0N : L2N.Takes X W0.V := fun _ _ ⟨_, _, _, _, _, _, _, _, _, _, _, _, _, _, _, _, z⟩ => z.elim
theorem nmsO {x : Str} {p : Pos} {es : List Expr} {cs : List Value} (own : ∃ Dn, X.mg x = some (.ref Dn) ∧ clsV X.K x = .ref Dn) (hg : Gl X x) (r : Nms X es cs) (hd : (x == ("__debug__" : Str)) = false := by decide) : Nms X (.Name x p :: es) (clsV X.K x :: cs) := by
  obtain ⟨Dn, h1, h2⟩ := own
  exact .cons ⟨hg, hd, .inl (by rw [h2]; exact h1)⟩ r
end
section
variable {P : Program} {w : World} {K : PySem.W.Frag} {mg : Str → Option Value} {base : Heap}
end
/-- one statement at a time: the rest stands still -/
theorem seq_step {t v : TSD} {E : EndsD} {σ : Si} {S : Sd} (h : ∀ r : TSD, r = v → dSeq t r E σ S) : dSeq t v E σ S := h v rfl
/-- one assignment, by instances alone: the kernel has nothing to unfold -/
theorem seq_set {i : Nat} {t : TED} {v : TSD} {E : EndsD} {σ : Si} {S : Sd} (h : t σ S fun x S1 => v E (σ.set i (some x)) S1) : dSeq (dSet i t) v E σ S := h
/-! ### divmod -/
def rdDivmod : RDC := fun ds S Q => match ds with
  | [.int i, .int j] => (0 < j ∧ j.natAbs.log2 < 9000) ∧ Q (.tup [.int (i / j), .int (i % j)]) S
  | _ => False
theorem x_divmod {i j : Int} {S : Sd} {Q : DK} : rdDivmod [.int i, .int j] S Q = ((0 < j ∧ j.natAbs.log2 < 9000) ∧ Q (.tup [.int (i / j), .int (i % j)]) S) := rfl
/-! ### law with tables -/
end Dv

/-! Readings by value: calls with keywords. -/
namespace Dv
open PySem L2 PyProof.Rows Hx
theorem okL {K : PySem.W.Frag} {H : Hp} {S : Sd} {fr : List (V × D)} {σd : Si} {σ : L2.St} : ∀ {ds : List D} {vs : List V}, Ok K H S fr σd σ → RpL K H S ds vs → Ok K H S (vs.zip ds ++ fr) σd σ
  | [], vs, o, r => by
    have e : vs = [] := r
    subst e
    exact o
  | d :: ds, vs, o, r => by
    obtain ⟨v, w, rfl, r1, r2⟩ := r
    exact (okL o r2).cons r1
section
variable {X : Cx} {W : Wi} {k n m : Nat} {f : Addr} {fd : FuncData} {ps ks : List Str} {sp : SpD} {idx : List Nat} {dvs : List V} {dds : List D} {x : Str} {p pos kpos : Pos} {a e : Expr} {es : List Expr} {kws : List Keyword} {ta : TED} {t tk : TAD} {nm : Option Str}
/-- f(.., k = ..): what the places idx of all that is handed in hold, by the parameters -/
def dCallK (sp : SpD) (n m : Nat) (idx : List Nat) (dds : List D) (WD : WXD) (t tk : TAD) : TED := fun σ S Q => t σ S fun xs S1 => tk σ S1 fun zs S2 => (xs.length = n ∧ zs.length = m) ∧ sp (sel idx (xs ++ zs ++ dds)) S2 Q fun y S3 => WD y σ S3
end
/-! ### for x, y in zip(xs, ys) -/
def zipD (ds es : List D) : List D := (ds.zip es).map fun p => .tup [p.1, p.2]
def zipR (R : List D → Sd → Prop) (S : Sd) : List D → Prop
  | [.lst ds, .lst es] => R (zipD ds es) S
  | _ => False
def dZip (ta : TAD) : TID := fun σ S R => ta σ S fun xs S1 => zipR R S1 xs
/-! ### * of tuples too -/
def rdMulA : RD2
  | .int i, .int j, S, Q => i.natAbs.log2 + j.natAbs.log2 < 1000000 ∧ Q (.int (i * j)) S
  | .str z, .int k, S, Q => (0 ≤ k ∧ (z.length : Int) * k ≤ 16777216 ∧ k ≤ 16777216) ∧ Q (.str (repS z k.toNat)) S
  | .tup ds, .int k, S, Q => (ds ≠ [] ∧ 1 ≤ k ∧ k ≤ 1000 ∧ ds.length ≤ 1000) ∧ Q (.tup (List.replicate k.toNat ds).flatten) S
  | _, _, _, _ => False
theorem rpL_flat {K : PySem.W.Frag} {H : Hp} {S : Sd} {ds : List D} {vs : List V} (r : RpL K H S ds vs) : ∀ n : Nat, RpL K H S (List.replicate n ds).flatten (List.replicate n vs).flatten
  | 0 => rpL_nil
  | n + 1 => by
    rw [List.replicate_succ, List.replicate_succ, List.flatten_cons, List.flatten_cons]
    exact rpL_app r (rpL_flat r n)
theorem od_mulA {X : Cx} : OpD X (binaryOp .Mult) rdMulA := ⟨_, (op_mulW.or op_mulS).or (op_repT.or op_once), fun H S fr σd σ x y dx dy Qv Qd ok rx ry h k => by
  cases dx with
  | int i =>
    cases dy with
    | int j => exact .inl (.inl ⟨i, j, rx, ry, h.1, k _ (.int (i * j)) H S ok rfl h.2⟩)
    | _ => exact (show False from h).elim
  | str z =>
    cases dy with
    | int j => exact .inl (.inr ⟨z, j, rx, ry, h.1.1, h.1.2.1, h.1.2.2, k _ (.str (repS z j.toNat)) H S ok rfl h.2⟩)
    | _ => exact (show False from h).elim
  | tup ds =>
    cases dy with
    | int j =>
      obtain ⟨⟨h0, h1, h2, h3⟩, q⟩ := h
      obtain ⟨a, vs, rfl, q1, r⟩ := rx
      have hl := rpL_len r
      by_cases c : j = 1
      · subst c
        have e : (List.replicate (Int.toNat 1) ds).flatten = ds := by show (List.replicate 1 ds).flatten = ds; simp
        rw [e] at q
        exact .inr (.inr ⟨a, vs, rfl, ry, q1, k _ (.tup ds) H S ok ⟨a, vs, rfl, q1, r⟩ q⟩)
      · exact .inr (.inl ⟨a, j, vs, rfl, ry, q1, fun e => h0 (by rw [e] at hl; exact List.eq_nil_of_length_eq_zero hl), by omega, h2, by omega, fun p hp => k _ (.tup (List.replicate j.toNat ds).flatten) _ S (ok.new hp) (rp_tupNew ok.rel hp (rpL_flat r j.toNat)) q⟩)
    | _ => exact (show False from h).elim
  | _ => cases dy <;> exact (show False from h).elim⟩
section
variable {i j : Int} {x : Str} {ds : List D} {S : Sd} {Q : DK}
theorem x_mulA : rdMulA (.int i) (.int j) S Q = (i.natAbs.log2 + j.natAbs.log2 < 1000000 ∧ Q (.int (i * j)) S) := rfl
theorem x_mulA_s : rdMulA (.str x) (.int j) S Q = ((0 ≤ j ∧ (x.length : Int) * j ≤ 16777216 ∧ j ≤ 16777216) ∧ Q (.str (repS x j.toNat)) S) := rfl
theorem x_mulA_t : rdMulA (.tup ds) (.int j) S Q = ((ds ≠ [] ∧ 1 ≤ j ∧ j ≤ 1000 ∧ ds.length ≤ 1000) ∧ Q (.tup (List.replicate j.toNat ds).flatten) S) := rfl
end
theorem sel_n1 {a : D} : sel [0] ([] ++ [a]) = [a] := rfl
theorem sel_n2 {a b : D} : sel [0, 1] ([] ++ [a, b]) = [a, b] := rfl
theorem sel_x2 {a b : D} : sel [1, 0] ([] ++ [a, b]) = [b, a] := rfl
theorem sel_12 {a b : D} : sel [0, 1] ([a] ++ [b]) = [a, b] := rfl
end Dv

/-! Readings by value: max and min of a list, by a def's ints too. -/
namespace Dv
open PySem L2 PyProof.Rows Hx
/-- the place of the best of so many -/
def bestBy (up : Bool) (kf : Nat → Int) (n : Nat) : Nat := argBest (fun i j => if up then decide (kf i > kf j) else decide (kf i < kf j)) (n - 1)
def kfL (kf : Str → Int) (zs : List Str) (i : Nat) : Int := match zs[i]? with
  | some z => kf z
  | none => 0
def keyR (sp : SpD) (up : Bool) (S : Sd) (Q : DK) : D → Prop
  | .lst ds => ∃ (zs : List Str) (kf : Str → Int), ds = zs.map D.str ∧ 0 < zs.length ∧ (∀ z ∈ zs, ∀ Q' : DK, Q' (.int (kf z)) S → sp [.str z] S Q' fun _ _ => False) ∧ ∀ z, zs[bestBy up (kfL kf zs) zs.length]? = some z → Q (.str z) S
  | _ => False
def dKeyed (sp : SpD) (up : Bool) (t : TED) : TED := fun σ S Q => t σ S fun d S1 => keyR sp up S1 Q d
section
variable {X : Cx} {W : Wi} {k : Nat} {f : Addr} {fd : FuncData} {p fn : Str} {sp : SpD} {e : Expr} {t : TED} {p1 p2 p3 pos : Pos}
theorem key_lift {up : Bool} (σ : L2.St) (H : Hp) (Q : VK) (h : upE X.K W (dKeyed sp up t) σ H Q) : tCKw (rKey X.K f (upF X.K sp) up) (upA X.K W (dCons t dNil)) (tCons (tC (.ref f)) tNil) σ H Q := by
  obtain ⟨σd, S, fr, Qd, ok, cl, h, kq⟩ := h
  refine ⟨σd, S, fr, fun ds S' => match ds with | [d] => keyR sp up S' Qd d | _ => False, ok, cl, h, fun vs ds H1 S1 ok1 r1 h1 => ?_⟩
  cases ds with
  | nil => exact h1.elim
  | cons d r => cases r with
    | cons _ _ => exact h1.elim
    | nil =>
      cases d with
      | lst ds =>
        obtain ⟨v, rfl, r2⟩ := rpL1 r1
        obtain ⟨zs, kf, rfl, hn, hsp, q⟩ := h1
        obtain ⟨l, us, rfl, q1, r3⟩ := rp_list ok1.rel r2
        have eu := rpL_strs r3
        subst eu
        show rKey X.K f (upF X.K sp) up [.ref l] [.ref f] H1 Q
        refine ⟨l, zs.map V.str, kfL kf zs, fun H' => Ok X.K H' S1 ((.ref l, .lst (zs.map D.str)) :: fr) σd σ, rfl, rfl, by rw [List.length_map]; exact hn, ok1.cons r2, fun H' ok' => ?_, fun i x H' hx ok' => ?_, fun x H' ok' hx => ?_⟩
        · obtain ⟨l', us, e1, q2, r4⟩ := rp_list ok'.rel ok'.head
          cases (show V.ref l = .ref l' from e1)
          rw [rpL_strs r4] at q2
          exact q2
        · rw [List.getElem?_map] at hx
          obtain ⟨z, hz, rfl⟩ := Option.map_eq_some_iff.mp hx
          have ek : kfL kf zs i = kf z := by unfold kfL; rw [hz]
          rw [ek]
          refine ⟨[.str z], S1, ((.ref l, .lst (zs.map D.str)) :: fr) ++ prs σd σ, fun d S' => d = .int (kf z) ∧ S' = S1, fun _ _ => False, ok'.rel, ok'.out, rpL_cons rfl rpL_nil, hsp z (List.mem_of_getElem? hz) _ ⟨rfl, rfl⟩, fun v d H2 S2 R2 f2 r5 q5 => ?_, fun _ _ _ _ _ _ _ _ z => z.elim⟩
          obtain ⟨e5, e6⟩ := q5
          subst e5 e6
          exact ⟨r5, ok'.back R2 f2⟩
        · rw [List.getElem?_map, List.length_map] at hx
          obtain ⟨z, hz, rfl⟩ := Option.map_eq_some_iff.mp hx
          exact kq _ (.str z) H' S1 ok'.tail rfl (q z hz)
      | _ => exact (show False from h1).elim
theorem de_maxKey (hc : X.calm = true) (F : FnG X.prog X.w X.K X.mg X.base (L2N.CX X.prog X.w) k f fd [p] (upF X.K sp)) (hr : RoomG (k + 1) X.A) (hb : L2.Binds X.K fd [p] []) (hgf : Gl X fn) (hmf : X.mg fn = some (.ref f)) (hg : Gl X "max") (hm : X.mg "max" = none) (hv : bootBuiltins "max" = some (.builtin "max")) (he : DE X W e t)
    (hfd : (fn == ("__debug__" : Str)) = false := by decide) (hs : starEach [e] X.env = (false, eval e X.env) :: starEach [] X.env := by rfl)
    (hs2 : backTo pos (starEach [e] X.env) = (false, eval e X.env) :: backTo pos (starEach [] X.env) := by rfl) (hpl : (backTo pos (starEach [e] X.env)).any (·.1) = false := by rfl) : DE X W (.Call (.Name "max" p1) [e] [⟨some "key", .Name fn p2, p3⟩] pos) (dKeyed sp true t) :=
  ⟨PE.imp (pe_callBK (cr_maxKey hc F hr hb) hg hm hv (da_cons he da_nil hs).p (pk_cons (pe_glob (v := .ref f) hgf hmf rfl hfd) pk_nil) (he := hs2) (hpl := hpl)) key_lift⟩
theorem de_minKey (hc : X.calm = true) (F : FnG X.prog X.w X.K X.mg X.base (L2N.CX X.prog X.w) k f fd [p] (upF X.K sp)) (hr : RoomG (k + 1) X.A) (hb : L2.Binds X.K fd [p] []) (hgf : Gl X fn) (hmf : X.mg fn = some (.ref f)) (hg : Gl X "min") (hm : X.mg "min" = none) (hv : bootBuiltins "min" = some (.builtin "min")) (he : DE X W e t)
    (hfd : (fn == ("__debug__" : Str)) = false := by decide) (hs : starEach [e] X.env = (false, eval e X.env) :: starEach [] X.env := by rfl)
    (hs2 : backTo pos (starEach [e] X.env) = (false, eval e X.env) :: backTo pos (starEach [] X.env) := by rfl) (hpl : (backTo pos (starEach [e] X.env)).any (·.1) = false := by rfl) : DE X W (.Call (.Name "min" p1) [e] [⟨some "key", .Name fn p2, p3⟩] pos) (dKeyed sp false t) :=
  ⟨PE.imp (pe_callBK (cr_minKey hc F hr hb) hg hm hv (da_cons he da_nil hs).p (pk_cons (pe_glob (v := .ref f) hgf hmf rfl hfd) pk_nil) (he := hs2) (hpl := hpl)) key_lift⟩
end
/-! ### a text within a text -/
def hasS (z a : Str) : Bool := !(Builtin.Str.occurrences z a 0 z.length 1).isEmpty
def rdInT : RD2 := fun x y S Q => match x, y with
  | .str a, .str z => Q (.bl (hasS z a)) S
  | _, _ => False
theorem od_inT {X : Cx} : OpD X (compareOp .In) rdInT := ⟨_, op_in_str, fun H S fr σd σ x y dx dy Qv Qd ok rx ry q k => by
  cases dx with
  | str a => cases dy with
    | str z => exact ⟨a, z, rx, ry, k _ (.bl _) H S ok rfl q⟩
    | _ => exact (show False from q).elim
  | _ => exact (show False from q).elim⟩
theorem x_inT {a z : Str} {S : Sd} {Q : DK} : rdInT (.str a) (.str z) S Q = Q (.bl (hasS z a)) S := rfl
/-! ### xs = [.. for ..], the list is kept for changes -/
section
variable {X : Cx} {W : Wi} {pos : Pos}
end
end Dv

/-! Readings by value: sum of tuples. -/
namespace Dv
open PySem L2 PyProof.Rows Hx
section
variable {K : PySem.W.Frag} {H H' : Hp} {S : Sd}
end
def sumR (S : Sd) (Q : DK) : List D → List D → Prop
  | [.lst ds], [.tup []] => ∃ dss : List (List D), ds = dss.map D.tup ∧ (∀ n, (dss.take n).flatten.length ≤ 1000) ∧ Q (.tup dss.flatten) S
  | _, _ => False
def dSumT (t tk : TAD) : TED := fun σ S Q => t σ S fun xs S1 => tk σ S1 fun zs S2 => sumR S2 Q xs zs
section
variable {X : Cx} {W : Wi} {e : Expr} {t tk : TAD} {kws : List Keyword} {p pos : Pos}
end
end Dv

/-! Readings by value: a written dict of lists, subscripted at once; extend. -/
namespace Dv
open PySem L2 PyProof.Rows Hx
section
variable {X : Cx} {W : Wi} {k1 k2 x y : Str} {a b c d : Int} {i j : Nat} {m1 m2 m3 m4 m5 m6 : Nat} {q1 q2 q3 q4 q5 q6 u1 u2 dpos np yp pos apos cpos : Pos}
end
end Dv

/-! Readings by value: repr of data, == of tracked lists. -/
namespace Dv
open PySem L2 PyProof.Rows Hx
/-- a tracked list stands for its items -/
def valD (S : Sd) (d : D) : D := match d with
  | .obj a => match S a with
    | some (.lst ds) => .lst ds
    | _ => d
  | d => d
mutual
/-- what can be shown: ints below 2 ^ 1920, texts of code points -/
def shOk : D → Bool
  | .non => true | .bl _ => true
  | .int i => decide (i.natAbs.log2 < 1920)
  | .str z => PyData.strOk z
  | .tup ds => shOkL ds
  | .lst ds => shOkL ds
  | _ => false
def shOkL : List D → Bool
  | [] => true
  | d :: ds => shOk d && shOkL ds
end
mutual
/-- a bound of how long the text is -/
def shL : D → Nat
  | .int _ => 1921
  | .str z => 10 * z.length + 2
  | .tup ds => shLL ds + 3
  | .lst ds => shLL ds + 2
  | _ => 5
def shLL : List D → Nat
  | [] => 0
  | d :: ds => shL d + 2 + shLL ds
end
/-! ### repr -/
/-- may be shown -/
def shD (d : D) : Prop := shOk d = true ∧ shL d ≤ 16777216 ∧ (pd d).depth ≤ 60
/-! ### == where a tracked list may stand -/
def eqV_ (x y : D) (S : Sd) (Q : DK) : Prop := (eqOk (valD S x) = true ∧ eqOk (valD S y) = true) ∧ Q (.bl (deq (valD S x) (valD S y))) S
def neV_ (x y : D) (S : Sd) (Q : DK) : Prop := (eqOk (valD S x) = true ∧ eqOk (valD S y) = true) ∧ Q (.bl (!deq (valD S x) (valD S y))) S
def rdEqO : RD2 := fun x y S Q => match x, y with
  | .obj a, y => eqV_ (.obj a) y S Q
  | x, .obj b => eqV_ x (.obj b) S Q
  | x, y => rdEq x y S Q
def rdNeO : RD2 := fun x y S Q => match x, y with
  | .obj a, y => neV_ (.obj a) y S Q
  | x, .obj b => neV_ x (.obj b) S Q
  | x, y => rdNe x y S Q
section
variable {S : Sd} {Q : DK}
theorem x_eqO_ss {x y : Str} : rdEqO (.str x) (.str y) S Q = Q (.bl (decide (x = y))) S := rfl
theorem x_neO_ss {x y : Str} : rdNeO (.str x) (.str y) S Q = Q (.bl (!decide (x = y))) S := rfl
end
/-! ### a list unpacked into names -/
def dTupL (n : Nat) (t : TGsD) : TGD := fun d σ S Q => match lstD S d with
  | some ds => ds.length = n ∧ t ds σ S Q
  | none => False
theorem x_tupL {n : Nat} {t : TGsD} {ds : List D} {σ : Si} {S : Sd} {Q : Si → Sd → Prop} : dTupL n t (.lst ds) σ S Q = (ds.length = n ∧ t ds σ S Q) := rfl
/-! ### a tracked list walked by a comprehension -/
section
variable {X : Cx} {W : Wi} {pos : Pos}
end
/-! ### isinstance, reverse of tracked lists -/
end Dv

/-! An own exception whose __init__ stores its arguments, over any built-in class of errors. -/
namespace Hx
open PySem PySem.Spec PyProof.Rows L2
/-- what the written part says of such a class; bm: its built-in class's mro -/
structure OexG (K : PySem.W.Frag) (C : Addr) (bm : List Value) (newId : String) : Prop where
  cls : ∃ nm q N bs sn sub ab col dd k0 k1 k2 k3 k5, K.lookup C = some (excClassObj nm q C N bs bm true sn sub ab col dd k0 k1 k2 k3 k5 newId)
  pass : ∀ self : Value, refuseLoop self "__setattr__" bm = pure ()
  top : bm.contains (.type "object") = true
  sa : PySem.W.findIn K (.ref C) "__setattr__" = some (some (.builtin "object.__setattr__"))
  exC : PySem.W.subIn K (.ref C) (.type "BaseException") = some true
  tyC : PySem.W.typeIn K (.ref C) = some (.type "type")
  kC : PySem.W.keepIn K (.ref C) = true
section
open Builtin Builtin.ObjectAttr PySem.Calls
variable {prog : Program} {w : World} {A : Around} {R : Result → Shared → Prop} {hp : Heap} {g : Array GenState} {d : Drawn} {t : Nat} {os : OsState} {K : PySem.W.Frag} {name : Str} {tk : Tok} {v : Value} {x C dx : Addr} {fv : Array Value} {cd : ClassData} {bm : List Value} {m0 : Str → Option Value} {nl : List Str}
theorem look_sub {o : Obj} {od : Option Obj} (X : K.In hp) (I : PySem.W.InstAt hp x o C od) (hcd : PySem.W.clsIn K C = some cd) (hm : cd.mro = .ref C :: bm) (top : bm.contains (.type "object") = true) : PySem.W.Looks (model prog w) hp (isInstance (.ref x) (.type "object")) true :=
  I.type.andThen (PySem.W.looks_mroIn X (by
    have e : cd.mro.contains (.type "object") = true := by rw [hm, List.contains_cons, top, Bool.or_true]
    unfold PySem.W.mroIn
    rw [hcd, Option.bind_some, if_neg (by rw [hm]; exact Bool.false_ne_true), e]))
/-- the first field: a dict is made -/
theorem put_first (X : K.In hp) (hx : hp.get? x = some { cls := .ref C, data := .fields fv }) (hcd : PySem.W.clsIn K C = some cd) (hm : cd.mro = .ref C :: bm) (pass : ∀ self : Value, refuseLoop self "__setattr__" bm = pure ()) (top : bm.contains (.type "object") = true) (hh : cd.hasDict = true) (free : PySem.W.findIn K (.ref C) name = some none)
    (fin : ∀ h' tk' dx, (∀ b o, b ≠ x → hp.get? b = some o → h'.get? b = some o) → hp.objs.size ≤ dx → dx ≠ x → h'.get? x = some { cls := .ref C, dict := some dx, data := .fields fv } → h'.Ns1 dx (fun y => if y = name then some v else none) → R (.ok (.ret .none)) ⟨h', g, d, tk', os⟩) :
    codeAny (model prog w) A (.call (.builtin "object.__setattr__") ⟨[.ref x, .str name tk, v], []⟩) R ⟨hp, g, d, t, os⟩ := by
  have SF := F.store_object
  have I : PySem.W.InstAt hp x { cls := .ref C, data := .fields fv } C none := ⟨hx, rfl, rfl, trivial⟩
  have apart : x ≠ hp.objs.size := Nat.ne_of_lt (Heap.lt_size hx)
  have seeC : PySem.W.Looks (model prog w) hp (classData C) cd := PySem.W.looks_clsIn X hcd
  have seeM : PySem.W.Looks (model prog w) hp (mroOf (.ref C)) cd.mro := seeC.andThen .now
  have seeT : PySem.W.Looks (model prog w) hp (storeTaker? none) none := .now
  refine codeAny_call_builtin SF.slot.plain SF.entry (@PySem.W.check_slot (model prog w) _ _ ⟨hp, g, d, t, os⟩ "object.__setattr__" "object" "__setattr__" (.ref x) [.str name tk, v] [] _ SF.kind SF.split (look_sub X I hcd hm top) (SF.args (.ref x) (.str name tk) v) ?_)
  rw [PySem.W.osa_eq, refuse_eq]
  refine wpAny_bind (wpAny_bind (I.type.at (wpAny_bind (seeM.at ?_))))
  rw [hm, refuseLoop_ref, pass]
  refine wpAny_pure (wpAny_bind (I.type.at (wpAny_bind ((PySem.W.looks_findIn X free).at (wpAny_bind (seeT.at (show wpAny _ _ (storeInOwnDict (.ref x) (.ref C) (.str name tk) name v false) _ _ _ from ?_)))))))
  cases cd
  dsimp only at hh
  subst hh
  unfold storeInOwnDict ownDictForStores
  repeat (first | with_reducible refine HandSPX.store_in_new ?_ ?_ | with_reducible refine wpAny_loadPart_at hx ?_ | with_reducible refine seeC.at ?_ | wp_step)
  · exact ⟨_, #[], _, (Heap.get?_update_ne _ _ _ _ apart.symm).trans (Heap.get?_push_at rfl rfl), rfl, fun e he => absurd he (by simp), fun _ => rfl⟩
  · intro h' tk' hn' hs
    refine fin h' tk' hp.objs.size (fun b o hb ho => ?_) (Nat.le_refl _) apart.symm ?_ hn'
    · exact (hs.2 b (Nat.ne_of_lt (Heap.lt_size ho))).trans ((Heap.get?_update_ne _ _ _ _ hb).trans (Heap.get?_push_of_some _ ho))
    · exact (hs.2 x apart).trans (Heap.get?_update_self _ (Heap.get?_push_of_some _ hx) rfl)
/-- a further field -/
theorem put_more (X : K.In hp) (hx : hp.get? x = some { cls := .ref C, dict := some dx, data := .fields fv }) (hns : hp.Ns1 dx m0) (hw : Within m0 nl) (hz : nl.length ≤ 1000) (hcd : PySem.W.clsIn K C = some cd) (hm : cd.mro = .ref C :: bm) (pass : ∀ self : Value, refuseLoop self "__setattr__" bm = pure ()) (top : bm.contains (.type "object") = true) (hh : cd.hasDict = true)
    (free : PySem.W.findIn K (.ref C) name = some none) (fin : ∀ h' tk', (∀ b o, b ≠ dx → hp.get? b = some o → h'.get? b = some o) → h'.Ns1 dx (fun y => if y = name then some v else m0 y) → R (.ok (.ret .none)) ⟨h', g, d, tk', os⟩) :
    codeAny (model prog w) A (.call (.builtin "object.__setattr__") ⟨[.ref x, .str name tk, v], []⟩) R ⟨hp, g, d, t, os⟩ := by
  have SF := F.store_object
  obtain ⟨oD, esD, epD, hoD, hdD, _⟩ := hns.count hw
  have I : PySem.W.InstAt hp x { cls := .ref C, dict := some dx, data := .fields fv } C (some oD) := ⟨hx, rfl, rfl, hoD⟩
  have seeC : PySem.W.Looks (model prog w) hp (classData C) cd := PySem.W.looks_clsIn X hcd
  have seeM : PySem.W.Looks (model prog w) hp (mroOf (.ref C)) cd.mro := seeC.andThen .now
  have seeT : PySem.W.Looks (model prog w) hp (storeTaker? none) none := .now
  refine codeAny_call_builtin SF.slot.plain SF.entry (@PySem.W.check_slot (model prog w) _ _ ⟨hp, g, d, t, os⟩ "object.__setattr__" "object" "__setattr__" (.ref x) [.str name tk, v] [] _ SF.kind SF.split (look_sub X I hcd hm top) (SF.args (.ref x) (.str name tk) v) ?_)
  rw [PySem.W.osa_eq, refuse_eq]
  refine wpAny_bind (wpAny_bind (I.type.at (wpAny_bind (seeM.at ?_))))
  rw [hm, refuseLoop_ref, pass]
  refine wpAny_pure (wpAny_bind (I.type.at (wpAny_bind ((PySem.W.looks_findIn X free).at (wpAny_bind (seeT.at (show wpAny _ _ (storeInOwnDict (.ref x) (.ref C) (.str name tk) name v false) _ _ _ from ?_)))))))
  cases cd
  dsimp only at hh
  subst hh
  unfold storeInOwnDict ownDictForStores
  repeat (first | with_reducible refine OEX.store_in_old hns hw hz ?_ | with_reducible refine wpAny_loadPart_at hx ?_ | with_reducible refine seeC.at ?_ | wp_step)
  exact fun h' tk' hn' hs => fin h' tk' (fun b o hb ho => (hs.2 b hb).trans ho) hn'
end
section
variable {X : Cx} {pins : List (Addr × Obj)} {σ : L2.St} {H : Hp} {s : Shared} {a C dx : Addr} {f : Str} {y : V} {u : Value} {fs : List (Str × V)} {Q : Unit → Shared → Prop} {E : Value → Shared → Prop} {A : Around} {bm : List Value} {newId : String}
theorem OexG.cd {K : PySem.W.Frag} (T : OexG K C bm newId) : ∃ cd, PySem.W.clsIn K C = some cd ∧ cd.mro = .ref C :: bm ∧ cd.hasDict = true := by
  obtain ⟨nm, q, N, bs, sn, sub, ab, col, dd, k0, k1, k2, k3, k5, hC⟩ := T.cls
  exact ⟨{ name := nm, bases := bs, mro := .ref C :: bm, ns := N, qualname := q, hasDict := true, slotNames := sn, subclasses := sub, abstract := ab, collection := col, hasDel := false }, by unfold PySem.W.clsIn; rw [hC] <;> rfl, rfl, rfl⟩
theorem set_first (T : OexG X.K C bm newId) (I : Inv X pins σ H s) (e : H a = some (exo a C none)) (free : PySem.W.findIn X.K (.ref C) f = some none) (ry : RelV y u)
    (fin : ∀ dx s', H dx = none → dx ≠ a → Inv X pins σ (upd (upd H dx (exd dx [(f, y)])) a (exo a C (some dx))) s' → Q () s') : wpAny (model X.prog X.w) A (setAttr (.ref a) f u) Q E s := by
  obtain ⟨cd, hcd, hm, hh⟩ := T.cd
  obtain ⟨t1, ho⟩ := exo_at I.hok e
  obtain ⟨hp, g, d, t, os⟩ := s
  refine PySem.W.set_plain I.kIn (ox := { cls := .ref C, dict := none, data := .fields #[.ref t1, .none, .none, .none, .bool false, .none] }) (od := none) ⟨ho, rfl, rfl, trivial⟩ T.sa ?_
  refine put_first I.kIn ho hcd hm T.pass T.top hh free fun h' tk' dx k dn dne hx hn => ?_
  have new : H dx = none := I.hok.fresh dn
  have old : ∀ {b : Addr} {o : Obj}, hp.get? b = some o → b ≠ dx := fun q => Nat.ne_of_lt (Nat.lt_of_lt_of_le (Heap.lt_size q) dn)
  have other : ∀ {b : Addr}, H b = none → b ≠ a := fun n z => by
    rw [z, e] at n
    cases n
  have still : ∀ {b : Addr} {o : HO}, H b = some o → b ≠ a → upd (upd H dx (exd dx [(f, y)])) a (exo a C (some dx)) b = some o := fun q h => by rw [upd_ne h, upd_ne (ne_of_none q new)]; exact q
  have un : Un X.fs [] H (upd (upd H dx (exd dx [(f, y)])) a (exo a C (some dx))) hp h' := {
    keep := fun b o q n _ _ => k b o (other n) q
    slot := fun b o q n _ _ => ⟨o.slots, k b o (other n) q⟩
    free := fun b o q n _ => by rw [upd_ne (other n), upd_ne (old q)]; exact n
    there := fun b o q _ => by
      by_cases hb : b = a
      · rw [hb]; exact ⟨_, hx⟩
      · exact ⟨o, k b o hb q⟩
    tups := fun b xs q => still q (at_ne e q exo_tup)
    frzs := fun b o v q => still q (at_ne e q exo_frz)
    tbls := fun b ps q => ⟨#[], by rw [still q (at_ne e q exo_tbl)]; simp⟩ }
  refine fin dx _ new dne (I.un (t' := tk') un fun b o q => ?_)
  by_cases hb : b = a
  · subst hb
    rw [upd_same] at q
    cases q
    exact exo_ok hx
  rw [upd_ne hb] at q
  by_cases hd : b = dx
  · subst hd
    rw [upd_same] at q
    cases q
    exact exd_ok hn (relO_put (fs := []) ry fun g => True.intro)
  rw [upd_ne hd] at q
  exact (I.hok b o q).stay (fun c v hc z => k c v (hc.elim (fun h => h ▸ hb) fun h => at_ne e h exo_own) z) (fun c hc => still hc (at_ne e hc exo_own)) fun c xs hc => still hc (at_ne e hc exo_tup)
theorem set_more (T : OexG X.K C bm newId) (I : Inv X pins σ H s) (e : H a = some (exo a C (some dx))) (ed : H dx = some (exd dx fs)) (hl : fs.length ≤ 900) (free : PySem.W.findIn X.K (.ref C) f = some none) (ry : RelV y u) (fin : ∀ s', Inv X pins σ (upd H dx (exd dx ((f, y) :: fs))) s' → Q () s') :
    wpAny (model X.prog X.w) A (setAttr (.ref a) f u) Q E s := by
  obtain ⟨cd, hcd, hm, hh⟩ := T.cd
  obtain ⟨t1, ho⟩ := exo_at I.hok e
  obtain ⟨mA, hns, rel⟩ := exd_at I.hok ed
  have hw := within_of rel
  obtain ⟨hp, g, d, t, os⟩ := s
  obtain ⟨oD, _, _, hoD, _, _⟩ := hns.count hw
  refine PySem.W.set_plain I.kIn (ox := { cls := .ref C, dict := some dx, data := .fields #[.ref t1, .none, .none, .none, .bool false, .none] }) (od := some oD) ⟨ho, rfl, rfl, hoD⟩ T.sa ?_
  refine put_more I.kIn ho hns hw (by rw [List.length_map]; omega) hcd hm T.pass T.top hh free fun h' tk' k hn => ?_
  obtain ⟨o, es, ep, ho', rest⟩ := id hn
  exact fin _ (I.write (t' := tk') (x := dx) (e := dx) (o := exd dx ((f, y) :: fs)) (by rw [ed]; exact True.intro) (.inl rfl) k ⟨o, ho'⟩ (exd_ok hn (relO_put ry rel)))
end
/-- self.f = e -/
def tPut (K : PySem.W.Frag) (bm : List Value) (newId : String) (f : Str) (to te : TE) : TS := fun D σ H => te σ H fun y H1 => to σ H1 fun x H2 => ∃ a C : Addr, x = .ref a ∧ OexG K C bm newId ∧ PySem.W.findIn K (.ref C) f = some none ∧
  ((H2 a = some (exo a C none) ∧ ∀ dx, H2 dx = none → dx ≠ a → D.nx σ (upd (upd H2 dx (exd dx [(f, y)])) a (exo a C (some dx)))) ∨ ∃ (dx : Addr) (fs : List (Str × V)), H2 a = some (exo a C (some dx)) ∧ H2 dx = some (exd dx fs) ∧ fs.length ≤ 900 ∧ D.nx σ (upd H2 dx (exd dx ((f, y) :: fs))))
section
variable {X : Cx} {o e : Expr} {es : List Expr} {to te : TE} {ta : TA} {f : Str} {p p' p1 p2 pos : Pos} {bm : List Value} {newId : String}
theorem ps_put (ho : PE X o to) (he : PE X e te) (hs : swapsWith e (some (.Attribute o f p')) pos.line X.env = pure false := by rfl) : PS X (.Assign [.Attribute o f p'] e pos) (tPut X.K bm newId f to te) :=
  ⟨fun pins s σ H D I h => plainObj_wpAny_Assign_Attribute (thn (he.run pins s σ H _ I h) fun v s1 ⟨y, H1, I1, r1, q1⟩ => thn (ho.run pins s1 σ H1 _ I1 q1) fun u s2 ⟨x, H2, I2, r2, a, C, ex, T, free, q⟩ => by
    subst ex
    obtain rfl : u = Value.ref a := r2
    rcases q with ⟨ea, q⟩ | ⟨dx, fs, ea, ed, hl, q⟩
    · exact set_first T I2 ea free r1 fun dx s' n ne J => ⟨σ, _, J, q dx n ne⟩
    · exact set_more T I2 ea ed hl free r1 fun s' J => ⟨σ, _, J, q⟩) hs⟩
/-- C(e, ..), its fields ready -/
def tMkG (C : Addr) (sp : Sp) (ta : TA) : L2.St → Hp → XK → Prop := fun σ H Q => ta σ H fun vs H1 => vs.length ≤ 1000 ∧ ∀ a, H1 a = none → sp (.ref a :: vs) (upd H1 a (exo a C none))
  (fun v H2 => v = .non ∧ ∃ (d : Addr) (fs : List (Str × V)), H2 a = some (exo a C (some d)) ∧ H2 d = some (exd d fs) ∧ H1 d = none ∧ Q (.ref C) (some d) (upd (L2.del H2 a) d (.xd fs))) (fun _ _ _ => False)
theorem noGuard {args : Args} : (Code.builtin "type.__call__" args).guards = [] := if_neg (by show ¬ (guardIds.contains "type.__call__" = true); decide)
theorem ctx_none {C : Addr} {d : Option Addr} {t0 : Addr} : L2N.Zn (.ref C) d ({ cls := .ref C, dict := d, data := .fields #[.ref t0, .none, .none, .none, .bool false, .none] } : Obj) := ⟨rfl, rfl, fun vs e => by cases e; rfl⟩
theorem pmk_G {B initId : String} {x : Str} {C fI : Addr} {k : Nat} {fd : FuncData} {ps : List Str} {sp : Sp} (FB : ExcBaseFacts B newId initId bm) (T : OexG X.K C bm newId) (iC : PySem.W.findIn X.K (.ref C) "__init__" = some (some (.ref fI))) (tI : PySem.W.typeIn X.K (.ref fI) = some (.type "function"))
    (F1 : FnG X.prog X.w X.K X.mg X.base (L2N.CX X.prog X.w) k fI fd ps sp) (hr : RoomG (k + 1) X.A) (hb : Binds X.K fd ps []) (hg : Gl X x) (hm : X.mg x = some (.ref C)) (ha : PA X (e :: es) ta)
    (hdb : (x == ("__debug__" : Str)) = false := by decide) (he : starEach (e :: es) X.env = (false, eval e X.env) :: starEach es X.env := by rfl) (hpl : (backTo pos (starEach es X.env)).any (·.1) = false := by rfl) :
    L2N.PMk X (.Call (.Name x p) (e :: es) [] pos) (tMkG C sp ta) := by
  intro pins s σ H Q I h
  obtain ⟨nm, q, N, bs, sn, sub, ab, col, dd, k0, k1, k2, k3, k5, hC⟩ := T.cls
  refine wpAny_Call_Name_kw (ld_glob I hg hm (PySem.W.callWith_K (h₀ := X.base) I.ok.mod.kin T.kC (thn (ha.run pos pins s σ H _ I h) fun us s1 ⟨vs, H1, I1, r1, hz, q1⟩ => ⟨I1.kIn, show wpAny _ _ (call (.ref C) us) _ _ _ from ?_⟩) he hpl) hdb)
  obtain ⟨hp, g, dr, tk, os⟩ := s1
  have above : hp.objs.size ≤ hp.objs.size + 1 := Nat.le_succ _
  have q2 := q1 (hp.objs.size + 1) (I1.hok.fresh above)
  have kept : ∀ b o, hp.get? b = some o → ((hp.push (PySem.W.kdv_tup us)).push (PySem.HandSPX.excO C hp.objs.size)).get? b = some o := fun b o z => Heap.get?_push_of_some _ (Heap.get?_push_of_some _ z)
  have I2 : Inv X pins σ (upd H1 (hp.objs.size + 1) (exo (hp.objs.size + 1) C none)) ⟨(hp.push (PySem.W.kdv_tup us)).push (PySem.HandSPX.excO C hp.objs.size), g, dr, tk, os⟩ :=
    I1.laid (t' := tk) (a := hp.objs.size + 1) (o := exo (hp.objs.size + 1) C none) (h' := (hp.push (PySem.W.kdv_tup us)).push (PySem.HandSPX.excO C hp.objs.size)) kept above (exo_ok (by heap_get))
  have r2 : Vals (V.ref (hp.objs.size + 1) :: vs) (Value.ref (hp.objs.size + 1) :: us) := .cons rfl r1
  have hl : (Value.ref (hp.objs.size + 1) :: us).length = ps.length := r2.length.symm.trans (F1.len _ _ _ _ q2)
  have few : us.length ≤ sizeLine := by rw [← Paired.length r1, sizeLine_eq]; omega
  have bind := hb _ (Value.ref (hp.objs.size + 1) :: us) I2.kIn (by rw [List.append_nil]; exact hl)
  rw [List.append_nil] at bind
  have room : RoomG k (X.A.under (.builtin "type.__call__" ⟨Value.ref C :: us, []⟩)) := ⟨hr.rm.make C us [], by
    unfold Around.under
    dsimp only
    rw [hr.gd, noGuard]
    rfl⟩
  refine wpAny_call (PySem.HandSPX.call_own FB (fun _ => rfl) (I1.kIn _ _ hC) (PySem.W.looks_findIn I1.kIn iC) (fun self => PySem.W.bind_fn I1.kIn self tI) few (codeAny_mono (F1.run _ X.stack _ _ ⟨Value.ref (hp.objs.size + 1) :: us, []⟩ _ _ _ (fun _ _ _ => False) room (I2.env0.make C us []) bind r2 q2) fun r s' got => ?_))
  match r, got with
  | .error er, got =>
    obtain ⟨_, _, _, _, _, _, _, _, _, _, _, _, z⟩ := (show L2N.CX X.prog X.w X.stack _ _ (fun _ _ _ => False) er s' from got)
    exact z.elim
  | .ok (.ret u), ⟨v, H2, os2, bare2, un2, hok2, rv, ev, d, fs, ea, ed, hd1, q3⟩ =>
    subst ev
    obtain ⟨h2, g2, d2, t2, os'⟩ := s'
    obtain ⟨t0, G, J, kG, ge, hoe, na⟩ := mk_end0 (d2 := d2) (t2 := t2) I1 above kept un2 hok2 os2 bare2 ea ed hd1
    exact ⟨rv, _, _, _, ⟨G, g2, d2, t2, os'⟩, _, .ref C, some d, rfl, J, kG, ge, hoe, ctx_none, rfl, rfl, na, rfl, bare2, raises_own T.exC T.tyC, q3⟩
end
/-! ### __init__ with one field, with two -/
def spI1 (C : Addr) (f : Str) : Sp := fun vs H Q _ => ∃ (a : Addr) (v : V), vs = [.ref a, v] ∧ H a = some (exo a C none) ∧ ∀ d, H d = none → d ≠ a → Q .non (upd (upd H d (exd d [(f, v)])) a (exo a C (some d)))
def spI2 (C : Addr) (f g : Str) : Sp := fun vs H Q _ => ∃ (a : Addr) (v w : V), vs = [.ref a, v, w] ∧ H a = some (exo a C none) ∧ ∀ d, H d = none → d ≠ a → Q .non (upd (upd (upd H d (exd d [(f, v)])) a (exo a C (some d))) d (exd d [(g, w), (f, v)]))
section
variable {P : Program} {w : World} {K : PySem.W.Frag} {mg : Str → Option Value} {base : Heap} {x qual : Str} {st : Stmt} {fI C : Addr} {fd : FuncData} {bm : List Value} {newId : String} {s f g : Str} {p1 p2 p3 p4 q1 q2 q3 q4 : Pos}
theorem init1_ok (F : L2.Fun K x qual st fI fd) (Sc : FnScope [s, f] [s, f] (defScope st)) (T : OexG K C bm newId) (free : PySem.W.findIn K (.ref C) f = some none) (hb : defBody st = [.Assign [.Attribute (.Name s p1) f p2] (.Name f p3) p4])
    (hs : ∀ env : Env, swapsWith (.Name f p3) (some (.Attribute (.Name s p1) f p2)) p4.line env = pure false := by intro _; rfl)
    (v1 : Vis (defScope st) s := by first | exact .inl rfl | exact .inr (.inl rfl)) (v2 : Vis (defScope st) f := by first | exact .inl rfl | exact .inr (.inl rfl)) (d1 : (s == ("__debug__" : Str)) = false := by decide) (c1 : (s == ("__classdict__" : Str)) = false := by decide) (d2 : (f == ("__debug__" : Str)) = false := by decide) (c2 : (f == ("__classdict__" : Str)) = false := by decide) :
    FnG P w K mg base (L2N.CX P w) 1 fI fd [s, f] (spI1 C f) := by
  refine fnG_of (k := 0) (N := [s, f]) F Sc (fun vs H Q E ⟨_, _, e, _⟩ => by rw [e]; rfl) fun cdv _ A outer sh H vs Q E hr ⟨a, v, e, ha, q⟩ => ?_
  subst e
  rw [hb]
  refine ⟨_, pss_one (ps_put (bm := bm) (newId := newId) (pe_var (i := 0) rfl v1 d1 c1) (pe_var (i := 1) rfl v2 d2 c2) (hs _)), ?_⟩
  exact ⟨v, rfl, .ref a, rfl, a, C, rfl, T, free, .inl ⟨ha, q⟩⟩
theorem init2_ok (F : L2.Fun K x qual st fI fd) (Sc : FnScope [s, f, g] [s, f, g] (defScope st)) (T : OexG K C bm newId) (freeF : PySem.W.findIn K (.ref C) f = some none) (freeG : PySem.W.findIn K (.ref C) g = some none)
    (hb : defBody st = [.Assign [.Attribute (.Name s p1) f p2] (.Name f p3) p4, .Assign [.Attribute (.Name s q1) g q2] (.Name g q3) q4])
    (hs : ∀ env : Env, swapsWith (.Name f p3) (some (.Attribute (.Name s p1) f p2)) p4.line env = pure false := by intro _; rfl) (hs2 : ∀ env : Env, swapsWith (.Name g q3) (some (.Attribute (.Name s q1) g q2)) q4.line env = pure false := by intro _; rfl)
    (v1 : Vis (defScope st) s := by first | exact .inl rfl | exact .inr (.inl rfl)) (v2 : Vis (defScope st) f := by first | exact .inl rfl | exact .inr (.inl rfl)) (v3 : Vis (defScope st) g := by first | exact .inl rfl | exact .inr (.inl rfl)) (d1 : (s == ("__debug__" : Str)) = false := by decide) (c1 : (s == ("__classdict__" : Str)) = false := by decide)
    (d2 : (f == ("__debug__" : Str)) = false := by decide) (c2 : (f == ("__classdict__" : Str)) = false := by decide) (d3 : (g == ("__debug__" : Str)) = false := by decide) (c3 : (g == ("__classdict__" : Str)) = false := by decide) : FnG P w K mg base (L2N.CX P w) 1 fI fd [s, f, g] (spI2 C f g) := by
  refine fnG_of (k := 0) (N := [s, f, g]) F Sc (fun vs H Q E ⟨_, _, _, e, _⟩ => by rw [e]; rfl) fun cdv _ A outer sh H vs Q E hr ⟨a, v, w, e, ha, q⟩ => ?_
  subst e
  rw [hb]
  refine ⟨_, pss_cons (ps_put (bm := bm) (newId := newId) (pe_var (i := 0) rfl v1 d1 c1) (pe_var (i := 1) rfl v2 d2 c2) (hs _)) (pss_one (ps_put (bm := bm) (newId := newId) (pe_var (i := 0) rfl v1 d1 c1) (pe_var (i := 2) rfl v3 d3 c3) (hs2 _))), ?_⟩
  refine ⟨v, rfl, .ref a, rfl, a, C, rfl, T, freeF, .inl ⟨ha, fun d nd ne => ?_⟩⟩
  exact ⟨w, rfl, .ref a, rfl, a, C, rfl, T, freeG, .inr ⟨d, [(f, v)], upd_same, by rw [upd_ne ne, upd_same], by show 1 ≤ 900; decide, q d nd ne⟩⟩
end
end Hx

/-! Readings by value: own errors with fields raised, their fields read in a suite. -/
namespace Dv
open PySem L2 PyProof.Rows Hx
/-- such a class: its built-in class's mro bm, its fields fs, its __init__ at fI -/
structure FxF (K : PySem.W.Frag) (n : Str) (bm : List Value) (newId : String) (C fI : Addr) (fs : List Str) : Prop where
  at_ : PySem.W.nsIn K mainGlobals n = some (some (.ref C))
  ox : OexG K C bm newId
  free : ∀ f ∈ fs, PySem.W.findIn K (.ref C) f = some none
  ini : PySem.W.findIn K (.ref C) "__init__" = some (some (.ref fI))
  fn : PySem.W.typeIn K (.ref fI) = some (.type "function")
def oexB (K : PySem.W.Frag) (C : Addr) (bm : List Value) (newId : String) : Bool := match K.lookup C with
  | some ⟨.type "type", _, .cls cd, sl⟩ => (match cd.mro, sl.toList with
    | .ref C' :: bm', [_, _, _, _, some (.builtin n), _] => C' == C && (n == newId && (cd.hasDict && (!cd.hasDel && bm' == bm)))
    | _, _ => false)
  | _ => false
theorem oexB_ok {K : PySem.W.Frag} {C : Addr} {bm : List Value} {newId : String} (h : oexB K C bm newId = true) : ∃ nm q N bs sn sub ab col dd k0 k1 k2 k3 k5, K.lookup C = some (excClassObj nm q C N bs bm true sn sub ab col dd k0 k1 k2 k3 k5 newId) := by
  unfold oexB at h
  split at h
  · rename_i dd cd sl ho
    split at h
    · rename_i C' bm' k0 k1 k2 k3 n k5 hm hs
      simp only [Bool.and_eq_true, beq_iff_eq, Bool.not_eq_true'] at h
      obtain ⟨rfl, rfl, hdct, hdel, rfl⟩ := h
      obtain ⟨nm, bs, mro, ns, qn, hd, sn, sub, ab, col, del⟩ := cd
      dsimp only at hm hdel hdct
      subst hm hdel hdct
      have hsl : sl = #[k0, k1, k2, k3, some (.builtin n), k5] := by
        obtain ⟨l⟩ := sl
        simp only at hs
        rw [hs]
      subst hsl
      exact ⟨_, _, _, _, _, _, _, _, _, _, _, _, _, _, ho⟩
    · cases h
  · cases h
def fxB (K : PySem.W.Frag) (n : Str) (bm : List Value) (newId : String) (C fI : Addr) (fs : List Str) : Bool := decide (PySem.W.nsIn K mainGlobals n = some (some (.ref C))) && (oexB K C bm newId && (decide (PySem.W.findIn K (.ref C) "__setattr__" = some (some (.builtin "object.__setattr__"))) && (decide (PySem.W.subIn K (.ref C) (.type "BaseException") = some true) &&
  (decide (PySem.W.typeIn K (.ref C) = some (.type "type")) && (PySem.W.keepIn K (.ref C) && (fs.all (fun f => decide (PySem.W.findIn K (.ref C) f = some none)) && (decide (PySem.W.findIn K (.ref C) "__init__" = some (some (.ref fI))) && decide (PySem.W.typeIn K (.ref fI) = some (.type "function")))))))))
theorem fxB_ok {K : PySem.W.Frag} {n : Str} {bm : List Value} {newId : String} {C fI : Addr} {fs : List Str} (pass : ∀ self : Value, refuseLoop self "__setattr__" bm = pure ()) (top : bm.contains (.type "object") = true) (h : fxB K n bm newId C fI fs = true) : FxF K n bm newId C fI fs := by
  obtain ⟨h1, h⟩ := and_b h
  obtain ⟨h2, h⟩ := and_b h
  obtain ⟨h3, h⟩ := and_b h
  obtain ⟨h4, h⟩ := and_b h
  obtain ⟨h5, h⟩ := and_b h
  obtain ⟨h6, h⟩ := and_b h
  obtain ⟨h7, h⟩ := and_b h
  obtain ⟨h8, h9⟩ := and_b h
  exact ⟨of_decide_eq_true h1, ⟨oexB_ok h2, pass, top, of_decide_eq_true h3, of_decide_eq_true h4, of_decide_eq_true h5, h6⟩, fun f hf => of_decide_eq_true (List.all_eq_true.mp h7 f hf), of_decide_eq_true h8, of_decide_eq_true h9⟩
/-! ### raise C(e), raise C(e, e') -/
def dRaiseF1 (WD : WXD) (n f : Str) (t : TAD) : TSD := fun _ σ S => t σ S fun ds S1 => match ds with
  | [a] => WD ⟨n, [f], [a]⟩ σ S1
  | _ => False
def dRaiseF2 (WD : WXD) (n f g : Str) (t : TAD) : TSD := fun _ σ S => t σ S fun ds S1 => match ds with
  | [a, b] => WD ⟨n, [g, f], [b, a]⟩ σ S1
  | _ => False
section
variable {X : Cx} {W : Wi} {pos pos' p : Pos} {n s f g : Str} {bm : List Value} {B newId initId : String} {C fI : Addr} {fs : List Str} {fd : FuncData} {e : Expr} {es : List Expr} {t : TAD}
theorem made_eq {H1 H2 : Hp} {a d : Addr} {v : List (Str × V)} (ha : H1 a = none) (hd : d ≠ a) (h : ∀ b, b ≠ a → b ≠ d → H2 b = H1 b) : upd (L2.del H2 a) d (.xd v) = upd H1 d (.xd v) := by
  funext b
  by_cases hb : b = d
  · rw [hb, upd_same, upd_same]
  · rw [upd_ne hb, upd_ne hb]
    by_cases hc : b = a
    · rw [hc, L2.del_same, ha]
    · rw [L2.del_ne hc, h b hc hb]
theorem ds_raiseF1 (hc : X.calm = true) (tk : L2N.Takes X W.V) (FB : ExcBaseFacts B newId initId bm) (Fx : FxF X.K n bm newId C fI fs) (F1 : FnG X.prog X.w X.K X.mg X.base (L2N.CX X.prog X.w) 1 fI fd [s, f] (spI1 C f)) (hr : RoomG 2 X.A) (hb : Binds X.K fd [s, f] []) (gC : X.mg n = some (.ref C)) (hg : Gl X n) (ha : DA X W (e :: es) t)
    (hdb : (n == ("__debug__" : Str)) = false := by decide) (he : starEach (e :: es) X.env = (false, eval e X.env) :: starEach es X.env := by rfl) (hpl : (backTo pos (starEach es X.env)).any (·.1) = false := by rfl) :
    DS X W (.Raise (some (.Call (.Name n p) (e :: es) [] pos)) none pos') (dRaiseF1 W.D n f t) :=
  ⟨PS.imp (L2N.ps_raise hc tk (pmk_G FB Fx.ox Fx.ini Fx.fn F1 hr hb hg gC ha.p hdb he hpl)) fun D σ H ⟨σd, S, fr, Dd, ok, cl, h, k⟩ => ⟨σd, S, fr, _, ok, cl, h, fun vs ds H1 S1 ok1 r1 q => by
    match ds, q with
    | [da], q =>
      obtain ⟨v, rfl, rv⟩ := rpL1 r1
      refine ⟨by show 1 ≤ 1000; decide, fun a na => ⟨a, v, rfl, upd_same, fun d nd ne => ⟨rfl, d, _, upd_same, by rw [upd_ne ne, upd_same], by rw [upd_ne ne] at nd; exact nd, ?_⟩⟩⟩
      rw [upd_ne ne] at nd
      rw [made_eq na ne fun b hba hbd => by rw [upd_ne hba, upd_ne hbd, upd_ne hba]]
      refine cl σd σ _ S1 (.ref C) (some d) ⟨n, [f], [da]⟩ (ok1.new nd) ⟨Fx.at_, (fun z => by cases z), fun dx ed => ?_⟩ q
      cases ed
      exact ⟨_, upd_same, ok1.rel.free nd, .inr ⟨rfl, rpL_step ok1.rel (step_new nd) [da] [v] (rpL_cons rv rpL_nil)⟩⟩⟩⟩
theorem ds_raiseF2 (hc : X.calm = true) (tk : L2N.Takes X W.V) (FB : ExcBaseFacts B newId initId bm) (Fx : FxF X.K n bm newId C fI fs) (F1 : FnG X.prog X.w X.K X.mg X.base (L2N.CX X.prog X.w) 1 fI fd [s, f, g] (spI2 C f g)) (hr : RoomG 2 X.A) (hb : Binds X.K fd [s, f, g] []) (gC : X.mg n = some (.ref C)) (hg : Gl X n) (ha : DA X W (e :: es) t)
    (hdb : (n == ("__debug__" : Str)) = false := by decide) (he : starEach (e :: es) X.env = (false, eval e X.env) :: starEach es X.env := by rfl) (hpl : (backTo pos (starEach es X.env)).any (·.1) = false := by rfl) :
    DS X W (.Raise (some (.Call (.Name n p) (e :: es) [] pos)) none pos') (dRaiseF2 W.D n f g t) :=
  ⟨PS.imp (L2N.ps_raise hc tk (pmk_G FB Fx.ox Fx.ini Fx.fn F1 hr hb hg gC ha.p hdb he hpl)) fun D σ H ⟨σd, S, fr, Dd, ok, cl, h, k⟩ => ⟨σd, S, fr, _, ok, cl, h, fun vs ds H1 S1 ok1 r1 q => by
    match ds, q with
    | [da, db], q =>
      obtain ⟨v, w, rfl, rv, rw'⟩ := rpL2 r1
      refine ⟨by show 2 ≤ 1000; decide, fun a na => ⟨a, v, w, rfl, upd_same, fun d nd ne => ⟨rfl, d, _, by rw [upd_ne (Ne.symm ne), upd_same], upd_same, by rw [upd_ne ne] at nd; exact nd, ?_⟩⟩⟩
      rw [upd_ne ne] at nd
      rw [made_eq na ne fun b hba hbd => by rw [upd_ne hbd, upd_ne hba, upd_ne hbd, upd_ne hba]]
      refine cl σd σ _ S1 (.ref C) (some d) ⟨n, [g, f], [db, da]⟩ (ok1.new nd) ⟨Fx.at_, (fun z => by cases z), fun dx ed => ?_⟩ q
      cases ed
      exact ⟨_, upd_same, ok1.rel.free nd, .inr ⟨rfl, rpL_step ok1.rel (step_new nd) [db, da] [w, v] (rpL_cons rw' (rpL_cons rv rpL_nil))⟩⟩⟩⟩
/-! ### e.f in a suite -/
def fldOf (ns : List Str) (xs : List D) (f : Str) : Option D := (ns.zip xs).lookup f
theorem rpL_lookup {K : PySem.W.Frag} {H : Hp} {S : Sd} : ∀ {xs : List D} {fs : List (Str × V)} {f : Str} {d : D}, RpL K H S xs (fs.map Prod.snd) → ((fs.map Prod.fst).zip xs).lookup f = some d → ∃ v, fs.lookup f = some v ∧ Rp K H S d v
  | [], fs, f, d, h, e => by simp at e
  | x :: xs, [], f, d, h, e => by simp at e
  | x :: xs, (g, v) :: fs, f, d, h, e => by
    obtain ⟨v', r, e1, h1, h2⟩ := h
    simp only [List.map_cons, List.cons.injEq] at e1
    obtain ⟨rfl, rfl⟩ := e1
    simp only [List.map_cons, List.zip_cons_cons, List.lookup_cons] at e
    rw [List.lookup_cons]
    cases c : f == g with
    | true =>
      rw [c] at e
      cases e
      exact ⟨v, rfl, h1⟩
    | false =>
      rw [c] at e
      exact rpL_lookup h2 e
end
theorem pass_ValueError (self : Value) : refuseLoop self "__setattr__" [.type "ValueError", .type "Exception", .type "BaseException", .type "object"] = pure () := by kernel_rfl
theorem pass_OverflowError (self : Value) : refuseLoop self "__setattr__" [.type "OverflowError", .type "ArithmeticError", .type "Exception", .type "BaseException", .type "object"] = pure () := by kernel_rfl
end Dv

/-! The place of a whole number in a tuple of whole numbers. -/
namespace Dv
open PySem L2 PyProof.Rows Hx
end Dv

/-! Instances of own classes by value: made, their fields, their methods. -/
namespace Dv
open PySem L2 PyProof.Rows Hx
/-- an own class with a plain __init__ -/
structure ClF (K : PySem.W.Frag) (n : Str) (C fI : Addr) : Prop where
  at_ : ClsAt K n C
  cls : Cls K C
  new : Mk K C fI
def clB (K : PySem.W.Frag) (n : Str) (C fI : Addr) : Bool := decide (PySem.W.nsIn K mainGlobals n = some (some (.ref C))) && (PySem.W.plainGet K C Str.empty && (PySem.W.hasDictIn K C && (PySem.W.plainOver K C && (decide (PySem.W.findIn K (.ref C) "__setattr__" = some (some (.builtin "object.__setattr__"))) &&
  (PySem.W.makesIn K C && (decide (PySem.W.findIn K (.ref C) "__init__" = some (some (.ref fI))) && (PySem.W.isFn K (.ref fI) && PySem.W.keepIn K (.ref C))))))))
theorem clB_ok {K : PySem.W.Frag} {n : Str} {C fI : Addr} (h : clB K n C fI = true) : ClF K n C fI := by
  unfold clB at h
  obtain ⟨a, h⟩ := and_b h
  obtain ⟨b, h⟩ := and_b h
  obtain ⟨c, h⟩ := and_b h
  obtain ⟨d, h⟩ := and_b h
  obtain ⟨e, h⟩ := and_b h
  obtain ⟨f, h⟩ := and_b h
  obtain ⟨g, h⟩ := and_b h
  obtain ⟨i, j⟩ := and_b h
  exact ⟨of_decide_eq_true (p := PySem.W.nsIn K mainGlobals n = some (some (.ref C))) a, ⟨b, c, d, of_decide_eq_true e⟩, ⟨f, of_decide_eq_true g, i, j⟩⟩
def noAttrB (K : PySem.W.Frag) (C : Addr) (fs : List Str) : Bool := fs.all fun f => decide (PySem.W.findIn K (.ref C) f = some none)
theorem noAttrB_ok {K : PySem.W.Frag} {C : Addr} {fs : List Str} (h : noAttrB K C fs = true) {f : Str} (hf : f ∈ fs) : NoAttr K C f := of_decide_eq_true (p := PySem.W.findIn K (.ref C) f = some none) (List.all_eq_true.mp h f hf)
def methB (K : PySem.W.Frag) (C : Addr) (m : Str) (f : Addr) : Bool := decide (PySem.W.findIn K (.ref C) m = some (some (.ref f))) && (PySem.W.isFn K (.ref f) && PySem.W.keepIn K (.ref f))
theorem methB_ok {K : PySem.W.Frag} {C : Addr} {m : Str} {f : Addr} (h : methB K C m f = true) : Meth K C m f := by
  unfold methB at h
  obtain ⟨a, h⟩ := and_b h
  obtain ⟨b, c⟩ := and_b h
  exact ⟨of_decide_eq_true a, b, c⟩
/-- C(..), then it is never stored into again -/
def dMake (n : Str) (sp : SpD) (dds : List D) (WD : WXD) (t : TAD) : TED := fun σ S Q => t σ S fun xs S1 => ∀ a, S1 a = none → sp (.obj a :: (xs ++ dds)) (upS S1 a (.ins n [] [])) (fun v S2 => v = .non ∧ ∃ ns ys, S2 a = some (.ins n ns ys) ∧ Q (.inst n ns ys) (del S2 a)) fun y S2 => WD y σ S2
/-- o.m(..) -/
def dMeth (n m : Str) (sp : SpD) (dds : List D) (WD : WXD) (to : TED) (t : TAD) : TED := fun σ S Q => to σ S fun o S1 => (∃ ns ys, o = .inst n ns ys ∧ m ∉ ns) ∧ t σ S1 fun xs S2 => sp (o :: (xs ++ dds)) S2 Q fun y S3 => WD y σ S3
/-- o.f, of what is stored into no more -/
def dFld (n f : Str) (to : TED) : TED := fun σ S Q => to σ S fun o S1 => ∃ ns ys d, o = .inst n ns ys ∧ fldOf ns ys f = some d ∧ Q d S1
/-- self.f = e, the first time -/
def dPut (n f : Str) (to tv : TED) : TSD := fun D σ S => tv σ S fun y S1 => to σ S1 fun o S2 => ∃ a ns ys, o = .obj a ∧ S2 a = some (.ins n ns ys) ∧ f ∉ ns ∧ ns.length < 1000 ∧ D.nx σ (upS S2 a (.ins n (ns ++ [f]) (ys ++ [y])))
theorem putF_new {f : Str} {v : V} : ∀ {fs : List (Str × V)}, f ∉ fs.map Prod.fst → putF f v fs = fs ++ [(f, v)]
  | [], _ => rfl
  | (g, x) :: r, h => by
    have h1 : g ≠ f := fun e => h (by rw [e]; simp)
    show (if g = f then (g, v) :: r else (g, x) :: putF f v r) = _
    rw [if_neg h1, putF_new fun z => h (List.mem_cons_of_mem _ z)]
    rfl
theorem lookup_not {f : Str} : ∀ {fs : List (Str × V)}, f ∉ fs.map Prod.fst → fs.lookup f = none
  | [], _ => rfl
  | (g, x) :: r, h => by
    have h1 : (f == g) = false := beq_false_of_ne fun e => h (by rw [e]; simp)
    rw [List.lookup_cons, h1]
    exact lookup_not fun z => h (List.mem_cons_of_mem _ z)
section
variable {X : Cx} {W : Wi} {k : Nat} {f C fI : Addr} {fd : FuncData} {ps : List Str} {sp : SpD} {ds : List Value} {dvs : List V} {dds : List D} {x n m g : Str} {p pos apos pos' : Pos} {o e : Expr} {es : List Expr} {to tv : TED} {t : TAD}
theorem step_made {H : Hp} {S : Sd} {x d : Addr} {u : HO} {w : HO} {o : SO} (hx : H x = none) (hd : H d = none) : Step H S (upd (upd H d w) x u) (upS S x o) := fun b z h1 h2 => by
  have b1 : b ≠ x := ne_of_none h1 hx
  have b2 : b ≠ d := ne_of_none h1 hd
  exact ⟨by rw [upd_ne b1, upd_ne b2]; exact h1, by rw [upS_ne b1]; exact h2⟩
theorem make_lift (c : ClsAt X.K n C) (hdd : ∀ H S, RpL X.K H S dds dvs) (σ : L2.St) (H : Hp) (Q : VK) (h : upE X.K W (dMake n sp dds W.D t) σ H Q) : tMakeS C (upF X.K sp) dvs (WE W.V) (upA X.K W t) σ H Q := by
  obtain ⟨σd, S, fr, Qd, ok, cl, h, k⟩ := h
  refine ⟨σd, S, fr, _, ok, cl, h, fun vs ds H1 S1 ok1 r1 h1 x dx hx hd hne => ?_⟩
  have st : Step H1 S1 (upd (upd H1 dx (.own x)) x (.ins C dx [])) (upS S1 x (.ins n [] [])) := step_made hx hd
  have sx : S1 x = none := ok1.rel.free hx
  have R2 : RelS X.K (upd (upd H1 dx (.own x)) x (.ins C dx [])) (upS S1 x (.ins n [] [])) := fun b w e => by
    by_cases hb : b = x
    · subst hb
      rw [upS_same] at e
      cases e
      exact ⟨C, dx, [], c, upd_same, rfl, rfl⟩
    · rw [upS_ne hb] at e
      exact soOk_step ok1.rel st (ok1.rel b w e) fun u hu => by rw [upd_ne hb, upd_ne (ne_of_none hu hd)]; exact hu
  have ok2 := ok1.step st R2
  refine ⟨.obj x :: (ds ++ dds), _, fr ++ prs σd σ, _, _, R2, ok2.out, rpL_cons rfl (rpL_app (rpL_step ok1.rel st _ _ r1) (hdd _ _)), h1 x sx, fun v d H3 S3 R3 f3 r3 q3 => ?_, fun cls od y H3 S3 R3 f3 ry q3 => ?_⟩
  · obtain ⟨e1, ns, ys, e2, q⟩ := q3
    subst e1
    refine ⟨r3, k (.ref x) _ H3 _ ((ok2.back R3 f3).step step_del (rel_del R3)) (rp_frozenI R3 e2) q⟩
  · exact cl σd σ H3 S3 cls od y (ok2.back R3 f3) ry q3
theorem de_make (Cf : ClF X.K n C fI) (F : FnG X.prog X.w X.K X.mg X.base (L2N.CX X.prog X.w) k fI fd ps (upF X.K sp)) (hr : RoomG (k + 1) X.A) (hg : Gl X n) (hm : X.mg n = some (.ref C)) (hb : Binds X.K fd ps ds) (hd : Vals dvs ds) (hdd : ∀ H S, RpL X.K H S dds dvs) (tk : L2N.Takes X W.V)
    (ha : DA X W (e :: es) t) (hdb : (n == ("__debug__" : Str)) = false := by decide) (he : starEach (e :: es) X.env = (false, eval e X.env) :: starEach es X.env := by rfl) (hpl : (backTo pos (starEach es X.env)).any (·.1) = false := by rfl) :
    DE X W (.Call (.Name n p) (e :: es) [] pos) (dMake n sp dds W.D t) :=
  ⟨PE.imp (pe_makeG Cf.new F hr hg hm hb hd (fun σ => L2N.passAt tk σ) ha.p hdb he hpl) (make_lift Cf.at_ hdd)⟩
theorem meth_lift (c : ClsAt X.K n C) (hdd : ∀ H S, RpL X.K H S dds dvs) (σ : L2.St) (H : Hp) (Q : VK) (h : upE X.K W (dMeth n m sp dds W.D to t) σ H Q) : tMethS C m (upF X.K sp) dvs (WE W.V) (upE X.K W to) (upA X.K W t) σ H Q := by
  obtain ⟨σd, S, fr, Qd, ok, cl, h, k⟩ := h
  refine ⟨σd, S, fr, _, ok, cl, h, fun x dx H1 S1 ok1 r1 ⟨⟨ns, ys, eo, hm⟩, h1⟩ => ?_⟩
  subst eo
  obtain ⟨C', a, d', fs, c', rfl, ha, sa, en, r⟩ := r1
  obtain rfl := c'.one c
  have r1 : Rp X.K H1 S1 (.inst n ns ys) (.ref a) := ⟨C', a, d', fs, c', rfl, ha, sa, en, r⟩
  refine ⟨a, d', fs, rfl, ha, lookup_not (by rw [en]; exact hm), σd, S1, (.ref a, .inst n ns ys) :: fr, _, ok1.cons r1, cl.tail, h1, fun vs ds H2 S2 ok2 r2 h2 => ?_⟩
  refine ⟨.inst n ns ys :: (ds ++ dds), S2, fr ++ prs σd σ, Qd, _, ok2.tail.rel, ok2.tail.out, rpL_cons ok2.head (rpL_app r2 (hdd H2 S2)), h2, fun v d H3 S3 R3 f3 r3 q3 => ?_, fun cls od y H3 S3 R3 f3 ry q3 => ?_⟩
  · exact k v d H3 S3 (ok2.tail.back R3 f3) r3 q3
  · exact cl σd σ H3 S3 cls od y (ok2.tail.back R3 f3) ry q3
theorem de_meth {pl : Sem Bool} (Cf : ClF X.K n C fI) (hM : Meth X.K C m f) (ho : DE X W o to) (F : FnG X.prog X.w X.K X.mg X.base (L2N.CX X.prog X.w) k f fd ps (upF X.K sp)) (hr : RoomG k X.A) (hb : Binds X.K fd ps ds) (hd : Vals dvs ds) (hdd : ∀ H S, RpL X.K H S dds dvs) (tk : L2N.Takes X W.V)
    (ha : DA X W (e :: es) t) (hst : starEach (e :: es) X.env = (false, eval e X.env) :: starEach es X.env := by rfl) (hpl : (backTo pos (starEach es X.env)).any (·.1) = false := by rfl)
    (ht : eval (.Call (.Attribute o m apos) (e :: es) [] pos) X.env = (do
      let ov ← eval o X.env
      standAt apos.atName
      let (f, first) ← holding [ov] (getMethod ov m pl)
      callWith pos f first (backTo pos (starEach (e :: es) X.env)) (backToKw pos (keywordEach [] X.env))) := by rfl) :
    DE X W (.Call (.Attribute o m apos) (e :: es) [] pos) (dMeth n m sp dds W.D to t) :=
  ⟨PE.imp (pe_methG (pl := pl) ho.p Cf.cls hM F hr hb hd (fun σ => L2N.passAt tk σ) ha.p hst hpl ht) (meth_lift Cf.at_ hdd)⟩
theorem de_meth0 {pl : Sem Bool} (Cf : ClF X.K n C fI) (hM : Meth X.K C m f) (ho : DE X W o to) (F : FnG X.prog X.w X.K X.mg X.base (L2N.CX X.prog X.w) k f fd ps (upF X.K sp)) (hr : RoomG k X.A) (hb : Binds X.K fd ps ds) (hd : Vals dvs ds) (hdd : ∀ H S, RpL X.K H S dds dvs) (tk : L2N.Takes X W.V)
    (ht : eval (.Call (.Attribute o m apos) [] [] pos) X.env = (do
      let ov ← eval o X.env
      standAt apos.atName
      let (f, first) ← holding [ov] (getMethod ov m pl)
      callWith pos f first (backTo pos (starEach [] X.env)) (backToKw pos (keywordEach [] X.env))) := by rfl) :
    DE X W (.Call (.Attribute o m apos) [] [] pos) (dMeth n m sp dds W.D to dNil) :=
  ⟨PE.imp (pe_methG0 (pl := pl) ho.p Cf.cls hM F hr hb hd (fun σ => L2N.passAt tk σ) ht) fun σ H Q h => by
    obtain ⟨σd, S, fr, Qd, ok, cl, h, k⟩ := meth_lift (t := dNil) Cf.at_ hdd σ H Q h
    refine ⟨σd, S, fr, _, ok, cl, h, fun x dx H1 S1 ok1 r1 q => ?_⟩
    obtain ⟨a, d', fs, e1, e2, e3, σd', S', fr', Qd', ok', cl', h', k'⟩ := k x dx H1 S1 ok1 r1 q
    exact ⟨a, d', fs, e1, e2, e3, k' [] [] H1 S' ok' rfl h'⟩⟩
theorem de_fld (Cf : ClF X.K n C fI) (hn : NoAttr X.K C g) (ho : DE X W o to) (hb : attributeBase o g X.env (eval o X.env) = eval o X.env := by rfl) : DE X W (.Attribute o g pos) (dFld n g to) :=
  ⟨PE.imp (pe_fld ho.p hb) fun σ H Q ⟨σd, S, fr, Qd, ok, cl, h, k⟩ => ⟨σd, S, fr, _, ok, cl, h, fun x dx H1 S1 ok1 r1 ⟨ns, ys, d, eo, el, q⟩ => by
    subst eo
    obtain ⟨C', a, d', fs, c', rfl, ha, sa, en, r⟩ := r1
    obtain rfl := c'.one Cf.at_
    subst en
    obtain ⟨v, e1, e2⟩ := rpL_lookup r el
    exact ⟨a, C', d', fs, v, rfl, ha, Cf.cls, hn, e1, k v d H1 S1 ok1 e2 q⟩⟩⟩
theorem ds_put (Cf : ClF X.K n C fI) (hn : NoAttr X.K C g) (ho : DE X W o to) (hv : DE X W e tv) (hs : swapsWith e (some (.Attribute o g pos')) pos.line X.env = pure false) : DS X W (.Assign [.Attribute o g pos'] e pos) (dPut n g to tv) :=
  ⟨PS.imp (ps_fld ho.p hv.p hs) fun D σ H ⟨σd, S, fr, Dd, ok, cl, h, k⟩ => ⟨σd, S, fr, _, ok, cl, h, fun y dy H1 S1 ok1 ry h1 => ⟨σd, S1, (y, dy) :: fr, _, ok1.cons ry, cl.tail, h1, fun x dx H2 S2 ok2 rx ⟨a, ns, ys, eo, es, hg, hl, q⟩ => by
    subst eo
    cases (show x = .ref a from rx)
    obtain ⟨C', dd, fs, c', ha, en, r⟩ := ok2.rel a _ es
    obtain rfl := c'.one Cf.at_
    have lf : fs.length = ns.length := by rw [← en, List.length_map]
    have st : Step H2 S2 (upd H2 a (.ins C' dd (fs ++ [(g, y)]))) (upS S2 a (.ins n (ns ++ [g]) (ys ++ [dy]))) := step_set es
    refine ⟨a, C', dd, fs, rfl, ha, Cf.cls, hn, by omega, ?_⟩
    rw [putF_new (by rw [en]; exact hg)]
    refine k.nx σd σ _ _ (ok2.tail.step st (rel_set ok2.rel es ⟨C', dd, _, c', upd_same, by rw [List.map_append, en]; rfl, ?_⟩)) q
    rw [List.map_append]
    exact rpL_step ok2.rel st _ _ (rpL_app r (rpL_cons ok2.head rpL_nil))⟩⟩⟩
end
end Dv

/-! A list times a whole number; whether data stands in a list of data. -/
namespace Dv
open PySem L2 PyProof.Rows Hx
open AutoSeq1 (wpAny_loadPart')
def rdMulL : RD2 := fun x y S Q => match x, y with
  | .lst ds, .int k => (0 ≤ k ∧ k < 2 ^ 62 ∧ ds.length * k.toNat ≤ 16777216) ∧ Q (.lst (List.replicate k.toNat ds).flatten) S
  | _, _ => False
theorem x_mulL {ds : List D} {k : Int} {S : Sd} {Q : DK} : rdMulL (.lst ds) (.int k) S Q = ((0 ≤ k ∧ k < 2 ^ 62 ∧ ds.length * k.toNat ≤ 16777216) ∧ Q (.lst (List.replicate k.toNat ds).flatten) S) := rfl
/-! ### data in a list of data -/
def rdInD (neg : Bool) : RD2 := fun x y S Q => match y with
  | .lst ds => (isData x = true ∧ isDataL ds = true ∧ SeqAt.shaped (pd x) = true ∧ SeqAt.shaped (.list (pdL ds)) = true) ∧ Q (.bl (ds.any (fun z => deq z x) != neg)) S
  | _ => False
theorem any_deq {x : D} (hx : isData x = true) : ∀ {ds : List D}, isDataL ds = true → (pdL ds).any (fun z => PyData.eqv z (pd x)) = ds.any fun z => deq z x
  | [], _ => rfl
  | d :: ds, h => by
    have h2 := Bool.and_eq_true_iff.mp (show (isData d && isDataL ds) = true from h)
    show (PyData.eqv (pd d) (pd x) || (pdL ds).any _) = (deq d x || ds.any _)
    rw [eqv_pd d x h2.1 hx, any_deq hx h2.2]
theorem od_inD {X : Cx} (hu' : X.A.units + 65 < cLine) : OpD X (compareOp .In) (rdInD false) := ⟨_, op_inD hu', fun H S fr σd σ x y dx dy Qv Qd ok rx ry h k => by
  cases dy with
  | lst ds =>
    obtain ⟨⟨h1, h2, h3, h4⟩, q⟩ := h
    refine ⟨_, _, dp_of ok.rel dx x h1 rx, dp_of ok.rel (.lst ds) y h2 ry, h3, h4, ?_⟩
    rw [any_deq h1 h2]
    refine k _ (.bl _) H S ok rfl ?_
    simpa using q
  | _ => exact (show False from h).elim⟩
theorem od_notInD {X : Cx} (hu' : X.A.units + 65 < cLine) : OpD X (compareOp .NotIn) (rdInD true) := ⟨_, op_notInD hu', fun H S fr σd σ x y dx dy Qv Qd ok rx ry h k => by
  cases dy with
  | lst ds =>
    obtain ⟨⟨h1, h2, h3, h4⟩, q⟩ := h
    refine ⟨_, _, dp_of ok.rel dx x h1 rx, dp_of ok.rel (.lst ds) y h2 ry, h3, h4, ?_⟩
    rw [any_deq h1 h2]
    refine k _ (.bl _) H S ok rfl ?_
    simpa using q
  | _ => exact (show False from h).elim⟩
theorem units65 {k : Nat} {A : Around} (r : RoomG k A) : A.units + 65 < cLine := by have := r.rm.un; omega
end Dv

/-! Readings by value: defs with defaults; len of an instance. -/
namespace Dv
open PySem L2 PyProof.Rows Hx
section
variable {P : Program} {w : World} {K : PySem.W.Frag} {mg : Str → Option Value} {base : Heap}
/-- THE RULE for a def with defaults -/
theorem okDv {x qual : Str} {st : Stmt} {f T : Addr} {its : Array Value} {fd : FuncData} {N ps : List Str} {k : Nat} {sp : SpD} {t : XKD → TSD} (F : FunV K x qual st f fd T its) (Sc : FnScope N ps (defScope st)) (len : ∀ ds S Q E, sp ds S Q E → ds.length = ps.length)
    (hb : ∀ (cdv : Value) (A : Around) (outer : List Env) (s : Shared) (H : Hp) (E : XK) (Ed : XKD), Hx.RoomG k (A.deeper (envOfC qual (defScope st) s.heap.objs.size f cdv)) → DB (bodyCx P w K mg base N qual st f cdv A outer s H E) (wiOf E Ed) (defBody st) (t Ed))
    (hp : ∀ ds S Q Ed, sp ds S Q Ed → t Ed { nx := fun _ S' => Q .non S', rt := Q } (startD N ds) S) : Hx.FnG P w K mg base (L2N.CX P w) (k + 1) f fd ps (upF K sp) := by
  refine Hx.fnG_ofV F Sc (fun vs H Q E h => ?_) (fun cdv _ A outer s H vs Q E hr h => ?_)
  · obtain ⟨ds, S, fr, Qd, Ed, R, f, r, h, _⟩ := h
    rw [← rpL_len r]
    exact len ds S Qd Ed h
  · obtain ⟨ds, S, fr, Qd, Ed, R, f, r, h, hq, hx⟩ := h
    refine ⟨_, (hb cdv A outer s H E Ed hr).p, startD N ds, S, fr, { nx := fun _ S' => Qd .non S', rt := Qd }, start_ok R f r, fun σd σ H' S' cls od y o rx q => hx cls od y H' S' o.rel o.fr rx q, hp ds S Qd Ed h, ?_⟩
    exact ⟨fun σd σ H' S' o q => hq .non .non H' S' o.rel o.fr rfl q, fun v d σd σ H' S' o rv q => hq v d H' S' o.rel o.fr rv q, fun _ _ _ _ _ q => q.elim, fun _ _ _ _ _ q => q.elim⟩
end
end Dv
namespace Dv
open PySem L2 PyProof.Rows Hx
end Dv

/-! A tuple told at run time of which it is known that it has no dict: its method index. -/
namespace Dv
open PySem L2 PyProof.Rows Hx
def rdTupX : RDC := fun ds S Q => match ds with
  | [.lst ys] => Q (.tupX ys) S
  | _ => False
theorem x_tupX {ys : List D} {S : Sd} {Q : DK} : rdTupX [.lst ys] S Q = Q (.tupX ys) S := rfl
/-- the same as any tuple -/
def dPlain (t : TED) : TED := fun σ S Q => t σ S fun d S1 => match d with
  | .tupX ds => Q (.tup ds) S1
  | _ => False
section
variable {X : Cx} {W : Wi} {o e : Expr} {es : List Expr} {to : TED} {t : TAD} {apos cpos : Pos}
end
end Dv

/-! Readings by value: defs called while an exception is handled. -/
namespace Dv
open PySem PySem.Spec L2 PyProof.Rows Hx
section
variable {P : Program} {w : World} {K : PySem.W.Frag} {mg : Str → Option Value} {base : Heap}
end
section
variable {X : Cx} {k : Nat} {f : Addr} {fd : FuncData} {ps : List Str} {sp : SpD} {x : Str} {p pos : Pos} {e : Expr} {es : List Expr} {t : TAD}
end
end Dv

/-! Readings by value: sep.join(reversed(xs)). -/
namespace Dv
open PySem PySem.Spec L2 PyProof.Rows Hx
section
variable {X : Cx} {W : Wi}
end
end Dv
namespace Dv
open PySem PySem.Spec L2 PyProof.Rows Hx
/-- a promise that is never asked -/
theorem fnG_none {P : Program} {w : World} {K : PySem.W.Frag} {mg : Str → Option Value} {base : Heap} {CX : CXT} {k : Nat} {f : Addr} {fd : FuncData} {ps : List Str} {sp : SpD} (len : ∀ ds S Q E, sp ds S Q E → ds.length = ps.length) (no : ∀ ds S Q E, ¬ sp ds S Q E) : FnG P w K mg base CX k f fd ps (upF K sp) :=
  ⟨fun vs H Q E ⟨ds, S, _, Qd, Ed, _, _, _, h, _⟩ => absurd h (no ds S Qd Ed), fun A outer s H args us vs Q E _ _ _ _ ⟨ds, S, _, Qd, Ed, _, _, _, h, _⟩ => absurd h (no ds S Qd Ed)⟩
end Dv

/-! Readings by value: data in a tuple of data. -/
namespace Dv
open PySem PySem.Spec L2 PyProof.Rows Hx
section
variable {X : Cx}
/-! ### steps by instances alone -/
theorem var_go {i : Nat} {d : D} {σ : Si} {S : Sd} {Q : DK} (e : σ[i]? = some (some d)) (h : Q d S) : dVar i σ S Q := by rw [dVar_of e]; exact h
end
end Dv

/-! Readings by value: a written dict whose keys are tuples of whole numbers. -/
namespace Dv
open PySem PySem.Spec L2 PyProof.Rows Hx
abbrev TkE := List Int × Addr × Value
section
variable {X : Cx}
end
/-! ### by value -/
/-- the dict's entries as data -/
inductive TkV (K : PySem.W.Frag) : List TkE → List (List Int × D) → Prop
  | nil : TkV K [] []
  | cons {k : List Int} {b : Addr} {u : Value} {d : D} {v : V} {xs : List TkE} {tab : List (List Int × D)} : RelV v u → (∀ H S, Rp K H S d v) → TkV K xs tab → TkV K ((k, b, u) :: xs) ((k, d) :: tab)
def tkAt (tab : List (List Int × D)) (ks : List Int) : Option D := (tab.find? fun t => decide (t.1 = ks)).map (·.2)
theorem TkV.at {K : PySem.W.Frag} {ks : List Int} : ∀ {xs : List TkE} {tab : List (List Int × D)}, TkV K xs tab →
    (atKey xs ks).isSome = (tkAt tab ks).isSome ∧ ∀ d, tkAt tab ks = some d → ∃ b u v, atKey xs ks = some (b, u) ∧ RelV v u ∧ ∀ H S, Rp K H S d v
  | _, _, .nil => ⟨rfl, fun d h => by simp [tkAt] at h⟩
  | _, _, .cons (k := k) (b := b) (u := u) (d := d') (v := v) (xs := xs) (tab := tab) r p t => by
    by_cases c : k = ks
    · have e1 : atKey ((k, b, u) :: xs) ks = some (b, u) := by simp [atKey, c]
      have e2 : tkAt ((k, d') :: tab) ks = some d' := by simp [tkAt, c]
      rw [e1, e2]
      exact ⟨rfl, fun d h => by cases h; exact ⟨b, u, v, rfl, r, p⟩⟩
    · have e1 : atKey ((k, b, u) :: xs) ks = atKey xs ks := by simp [atKey, c]
      have e2 : tkAt ((k, d') :: tab) ks = tkAt tab ks := by simp [tkAt, c]
      rw [e1, e2]
      exact t.at
section
variable {X : Cx} {W : Wi} {pos : Pos}
end
end Dv

/-! Readings by value: a written dict of two tuples of whole numbers, asked at once; min of four ints; min with default. -/
namespace Dv
open PySem L2 PyProof.Rows Hx
/-! ### {"k1": (..), "k2": (..)}[x], {"k1": (..), "k2": (..)}.get(x), x a slot -/
section
variable {K : PySem.W.Frag} {W : Wi} {k1 k2 : Str} {ns ms : List Int} {i : Nat}
end
section
variable {X : Cx} {W : Wi} {k1 k2 x : Str} {ns ms : List Int} {i : Nat} {m1 m2 : Nat} {e1 e2 : Expr} {q1 q2 dpos np pos apos : Pos}
end
/-! ### min of four ints, min with default -/
section
variable {X : Cx} {W : Wi} {e : Expr} {t : TED} {d : Int} {j : Nat} {p1 p2 p3 pos : Pos}
end
end Dv

/-! Readings by value: a lambda handed to a def that calls it within a try with one clause; the suite and what stands behind are told by values. -/
namespace Dv
open PySem L2 PyProof.Rows Hx
section
variable {X : Cx} {pos : Pos}
/-- what is wished where the error leaves the lambda -/
def EG (K : PySem.W.Frag) (c : Str) (u : Addr → Option Addr → TSD) (Q : VK) : XK := fun cls od H' => ∃ Dn, cls = .ref Dn ∧ WhF K c Dn ∧ ∃ (S : Sd) (fr : List (V × D)) (Qd : DK) (ns : List Str) (xs : List D), RelS K H' S ∧ FrOk K H' S fr ∧ (∀ a, Rp K H' S (.exc a od ns xs) (.ref a)) ∧
  (∀ a, u a od { nx := fun _ _ => False, rt := Qd } [none, some (.exc a od ns xs)] S) ∧ ∀ w d H2 S2, RelS K H2 S2 → FrOk K H2 S2 fr → Rp K H2 S2 d w → Qd d S2 → Q w H2
/-- what is wished behind -/
def NG (K : PySem.W.Frag) (v : TSD) (Q : VK) (H' : Hp) : Prop := ∃ (S : Sd) (fr : List (V × D)) (Qd : DK), RelS K H' S ∧ FrOk K H' S fr ∧ v { nx := fun _ _ => False, rt := Qd } [none, none] S ∧ ∀ w d H2 S2, RelS K H2 S2 → FrOk K H2 S2 fr → Rp K H2 S2 d w → Qd d S2 → Q w H2
def TG (K : PySem.W.Frag) (c : Str) (u : Addr → Option Addr → TSD) (v : TSD) : (XK → Hp → VK → Prop) → Hp → VK → Prop := fun tl H Q => tl (EG K c u Q) H fun _ H' => NG K v Q H'
/-- g(lambda: body), g such a def -/
def dHT (P : Addr) (q c : Str) (u : Addr → Option Addr → TSD) (v : TSD) (te : XKD → TED) : TED := fun σ S Q => S P = some (.tab q) ∧ te (fun x S' => x.cls = c ∧ ∀ a od, u a od { nx := fun _ _ => False, rt := Q } [none, some (.exc a od x.ns x.xs)] S') σ S fun _ S' => v { nx := fun _ _ => False, rt := Q } [none, none] S'
end
end Dv

/-! Readings by value: a key in a dict of the module; a text not in a text. -/
namespace Dv
open PySem L2 PyProof.Rows Hx
def skey (e : DictEntry) : Option Str := match e.key with
  | .str x _ => some x
  | _ => none
theorem isStr_key {e : DictEntry} {z x : Str} (h : skey e = some x) : e.key.isStr z = decide (x = z) := by
  unfold skey at h
  cases q : e.key with
  | str y t =>
    rw [q] at h
    have e1 : y = x := by injection h
    subst e1
    show (y == z) = _
    by_cases c : y = z
    · subst c; simp
    · rw [decide_eq_false c]; exact beq_false_of_ne c
  | _ => rw [q] at h; cases h
theorem noRef_key {e : DictEntry} {x : Str} (h : skey e = some x) : e.refKey = false := by
  unfold skey at h
  unfold DictEntry.refKey
  cases q : e.key with
  | str y t => rfl
  | _ => first | rfl | (rw [q] at h; cases h)
theorem ns_str {K : PySem.W.Frag} {a : Addr} {c : Value} {d : Option Addr} {es : Array DictEntry} {n : Nat} {sl : Array (Option Value)} (hl : K.lookup a = some ⟨c, d, .dict es n, sl⟩) {ks : List Str} (hk : es.toList.map skey = ks.map some) (z : Str) : ∃ r, PySem.W.nsIn K a z = some r ∧ r.isSome = decide (z ∈ ks) := by
  have all : ∀ e ∈ es.toList, ∃ x, skey e = some x ∧ x ∈ ks := fun e he => by
    have h : skey e ∈ ks.map some := by rw [← hk]; exact List.mem_map_of_mem he
    obtain ⟨x, hx, e2⟩ := List.mem_map.mp h
    exact ⟨x, e2.symm, hx⟩
  have none_ : es.toList.any (·.refKey) = false := List.any_eq_false.mpr fun e he => by
    obtain ⟨x, hx, _⟩ := all e he
    rw [noRef_key hx]
    exact Bool.false_ne_true
  unfold PySem.W.nsIn
  rw [hl]
  dsimp only
  cases q : es.toList.find? (·.key.isStr z) with
  | some e =>
    refine ⟨some e.val, rfl, ?_⟩
    obtain ⟨x, hx, hm⟩ := all e (List.mem_of_find?_eq_some q)
    have hi := List.find?_some q
    rw [isStr_key hx] at hi
    have : x = z := of_decide_eq_true hi
    rw [← this, decide_eq_true hm]
    rfl
  | none =>
    dsimp only
    rw [none_]
    refine ⟨none, rfl, ?_⟩
    have hn := List.find?_eq_none.mp q
    have : ¬ z ∈ ks := fun h => by
      have h2 : some z ∈ es.toList.map skey := by rw [hk]; exact List.mem_map_of_mem h
      obtain ⟨e, he, e2⟩ := List.mem_map.mp h2
      refine hn e he ?_
      rw [isStr_key e2]
      exact decide_eq_true rfl
    rw [decide_eq_false this]
    rfl
/-- a dict of the module with these keys -/
def KdK (K : PySem.W.Frag) (w : World) (a : Addr) (ks : List Str) : Prop := ∃ es n, KDict K w a es n ∧ es.toList.map skey = ks.map some
def dKin (ks : List Str) (ta : TED) : TED := fun σ S Q => ta σ S fun x S1 => match x with
  | .str z => Q (.bl (decide (z ∈ ks))) S1
  | _ => False
section
variable {X : Cx} {W : Wi} {pos : Pos}
theorem kin_lift {a : Addr} {ta : TED} {ks : List Str} (ht : KdK X.K X.w a ks) (σ : L2.St) (H : Hp) (Q : VK) (h0 : upE X.K W (dKin ks ta) σ H Q) : tOp (fun x y H Q => ∃ (z : Str) (r : Option Value), x = .str z ∧ y = .ref a ∧ PySem.W.nsIn X.K a z = some r ∧ Q (.bl r.isSome) H) (upE X.K W ta) (tC (.ref a)) σ H Q := by
  obtain ⟨σd, S, fr, Qd, ok, cl, h, k⟩ := h0
  exact ⟨σd, S, fr, _, ok, cl, h, fun y dy H1 S1 ok1 ry q => by
    cases dy with
    | str z =>
      obtain ⟨es, n, D, hk⟩ := ht
      obtain ⟨r, e1, e2⟩ := ns_str D.at_ hk z
      refine ⟨z, r, ry, rfl, e1, ?_⟩
      rw [e2]
      exact k _ (.bl _) H1 S1 ok1 rfl q
    | _ => exact (show False from q).elim⟩
theorem dt_kin {x : Str} {a : Addr} {ea : Expr} {ta : TED} {p : Pos} {ks : List Str} (hg : Gl X x) (hm : X.mg x = some (.ref a)) (ht : KdK X.K X.w a ks) (ha : DE X W ea ta) (hb : behindInMarks .In (.Name x p) = false)
    (hd : (x == ("__debug__" : Str)) = false := by decide) : DT X W (.Compare ea [.In] [.Name x p] pos) (dTest (dKin ks ta)) := by
  obtain ⟨es, n, D, hk⟩ := ht
  exact ⟨PT.imp (pt_cmpR (op_in_kd D) ha.p (pe_glob (v := .ref a) hg hm rfl hd) hb) fun σ H Q h => tTest_mono (kin_lift ⟨es, n, D, hk⟩) σ H Q (test_lift σ H Q h)⟩
end
/-! ### a text not in a text -/
def rdNotInT : RD2 := fun x y S Q => match x, y with
  | .str a, .str z => Q (.bl (!hasS z a)) S
  | _, _ => False
theorem x_notInT {a z : Str} {S : Sd} {Q : DK} : rdNotInT (.str a) (.str z) S Q = Q (.bl (!hasS z a)) S := rfl
end Dv

/-! Readings by value: sorted and min of a list of data; range downward. -/
namespace Dv
open PySem L2 PyProof.Rows Hx
/-- a is below b -/
def ltD (a b : D) : Bool := PySem.W.dataLt (pd a) (pd b)
/-! ### range(a, b, -1) -/
end Dv

/-! Tuples made by +, a slice or *, of which it is known that they have no dict. -/
namespace Hx
open PySem PySem.Spec PyProof.Rows L2
section
variable {X : Cx}
end
end Hx
namespace Dv
open PySem L2 PyProof.Rows Hx
section
variable {X : Cx} {W : Wi} {o e : Expr} {es : List Expr} {to : TED} {t : TAD} {apos cpos : Pos}
end
end Dv
namespace Dv
open PySem L2 PyProof.Rows Hx
end Dv

/-! Methods of an instance that is still stored into. -/
namespace Dv
open PySem L2 PyProof.Rows Hx
section
variable {X : Cx} {W : Wi} {k : Nat} {f C fI : Addr} {fd : FuncData} {ps : List Str} {sp : SpD} {ds : List Value} {dvs : List V} {dds : List D} {x n m g : Str} {p pos apos pos' : Pos} {o e : Expr} {es : List Expr} {to tv : TED} {t : TAD}
end
end Dv

/-! Texts with fields; repr of instances by a __repr__ of their own. -/
namespace Hx
open PySem PySem.Spec PyProof.Rows L2
/-! ### repr of an instance -/
end Hx
namespace Dv
open PySem L2 PyProof.Rows Hx
section
variable {X : Cx} {W : Wi} {e : Expr} {te : TED} {pos : Pos}
end
end Dv

/-! Own classes called by names. -/
namespace Hx
open PySem PySem.Spec PyProof.Rows L2
section
variable {X : Cx} {CX : CXT} {k n : Nat} {f C : Addr} {fd : FuncData} {ps ks : List Str} {sp : Sp} {idx : List Nat} {dvs : List V} {E : L2.St → XK} {x : Str} {p pos : Pos} {e : Expr} {es : List Expr} {kws : List Keyword} {t tk : TA}
end
end Hx
namespace Dv
open PySem L2 PyProof.Rows Hx
section
variable {X : Cx} {W : Wi} {k np : Nat} {f C fI : Addr} {fd : FuncData} {ps ks : List Str} {sp : SpD} {idx : List Nat} {dvs : List V} {dds : List D} {n : Str} {p pos : Pos} {e : Expr} {es : List Expr} {kws : List Keyword} {t tk : TAD}
end
end Dv

/-! min of a range by a bound method whose answers are data. -/
namespace Hx
open PySem PySem.Spec PyProof.Rows L2
/-- what stays while the best is sought: J j b k: of the first j things the one at b is the least so far, its key is k -/
structure MinRun (prog : Program) (w : World) (A : Around) (q T : Addr) (wr : List Addr) (G : Array GenState → Array GenState → Prop) (n : Nat) (P : Nat → Value → Prop) (St : Nat → Shared → Prop) (J0 : Shared → Prop) (J : Nat → Nat → Value → Shared → Prop) : Prop where
  keep0 : ∀ s s', J0 s → Moved (T :: wr) G s s' → J0 s'
  keep : ∀ j b k s s', J j b k s → Moved (T :: wr) G s s' → J j b k s'
  first : ∀ v (s : Shared) (o : Obj) (Q : Value → Shared → Prop) (E : Value → Shared → Prop), P 0 v → J0 s → St 1 s → s.heap.get? T = some o → (∀ k s', J 1 0 k s' → St 1 s' → s'.heap.get? T = some o → Q k s') → wpAny (model prog w) A (call (.ref q) [v]) Q E s
  turn : ∀ j b kb v (s : Shared) (o : Obj) (Q : Value → Shared → Prop) (E : Value → Shared → Prop), 1 ≤ j → j < n → P j v → J j b kb s → St (j + 1) s → s.heap.get? T = some o →
    (∀ k s', St (j + 1) s' → s'.heap.get? T = some o → (∀ (Q2 : Value → Shared → Prop) (E2 : Value → Shared → Prop), (J (j + 1) j k s' → Q2 (.bool true) s') → (J (j + 1) b kb s' → Q2 (.bool false) s') → wpAny (model prog w) A (richCompare .Lt k kb) Q2 E2 s') → Q k s') → wpAny (model prog w) A (call (.ref q) [v]) Q E s
section
variable {prog : Program} {w : World} {A : Around} {R : Result → Shared → Prop} {I q T : Addr} {fp wr : List Addr} {G : Array GenState → Array GenState → Prop} {n : Nat} {P : Nat → Value → Prop} {St : Nat → Shared → Prop} {J0 : Shared → Prop} {J : Nat → Nat → Value → Shared → Prop}
theorem min2_on (W : WalksS prog w A.in1 I fp wr G n P St) (hT : T ∉ fp) (M : MinRun prog w A.in1 q T wr G n P St J0 J) (kw : List (Str × Value)) : ∀ (m j b : Nat) (s : Shared) (best key : Value) (c : Nat), n - j = m → 1 ≤ j → j ≤ n → J j b key s → St j s → P b best →
    s.heap.get? T = some { cls := .type "list", dict := none, data := .seq #[best, key] c, slots := #[] } → (∀ v b k s', P b v → J n b k s' → R (.ok (.ret v)) s') → codeAny (model prog w) A (.builtin "min.loop" ⟨[.ref I, .ref q, .ref T], kw⟩) R s := by
  have apart : T ∉ wr := fun h => hT (W.sub T h)
  have within : ∀ b ∈ wr, b ∈ T :: wr := fun b hb => List.mem_cons_of_mem T hb
  have named : (toString "min" ++ toString ".loop" : String) = "min.loop" := by decide
  have other : ∀ {b : Addr}, b ∉ T :: wr → T ≠ b := fun hb h => hb (by rw [h]; exact List.mem_cons_self)
  intro m
  induction m with
  | zero =>
    intro j b s best key c hm j1 jn jj st hb eT fin
    obtain rfl : j = n := by omega
    refine codeAny_builtin F.entry_min_loop ?_
    rw [Around.under_plainId F.plain_min_loop ⟨[.ref I, .ref q, .ref T], kw⟩]
    refine wpAny_bind (m := seqItems? (.ref T)) (wpAny_seqItems eT rfl ?_)
    refine wpAny_bind (m := tryCatch (pyNext (.ref I)) _) (wpAny_tryCatch (W.done s _ _ st fun s1 mv => ?_))
    refine wpAny_bind (m := updateSeq T (fun _ => #[])) (wpAny_updateSeq (mv.heap T _ apart eT) rfl (wpAny_bind (wpAny_letGo (wpAny_pure ?_))))
    exact fin best b key _ hb (M.keep _ _ _ _ _ jj ((mv.mono within).then_heap (tk := s1.toks) (Nat.le_refl _) fun b o hb e => (Heap.get?_update_other _ _ (other hb)).trans e))
  | succ m ih =>
    intro j b s best key c hm j1 jn jj st hb eT fin
    have less : j < n := by omega
    refine codeAny_builtin F.entry_min_loop ?_
    rw [Around.under_plainId F.plain_min_loop ⟨[.ref I, .ref q, .ref T], kw⟩]
    refine wpAny_bind (m := seqItems? (.ref T)) (wpAny_seqItems eT rfl ?_)
    refine wpAny_bind (m := tryCatch (pyNext (.ref I)) _) (wpAny_tryCatch (W.item j s _ _ less st fun v s1 hv st1 mv => ?_))
    have eT1 := mv.heap T _ apart eT
    have jj1 := M.keep _ _ _ _ _ jj (mv.mono within)
    refine wpAny_bind (m := tryCatch (holding [v] (call (.ref q) [v])) _) (wpAny_tryCatch (wpAny_holding (M.turn j b key v s1 _ _ _ j1 less hv jj1 st1 eT1 fun kx s2 st2 eT2 cmp => ?_)))
    refine wpAny_bind (m := tryCatch (holding [v, kx] (richCompare .Lt kx key >>= _)) _) (wpAny_tryCatch (wpAny_holding (wpAny_bind (cmp _ _ (fun j2 => ?_) fun j2 => ?_))))
    · refine wpAny_bind (wpAny_holding (wpAny_truthy_bool (wpAny_bind (wpAny_letGo (wpAny_pure ?_)))))
      simp only [if_true]
      refine wpAny_bind (m := updateSeq T (fun _ => #[v, kx])) (wpAny_updateSeq eT2 rfl (wpAny_bind (wpAny_letGo ?_)))
      rw [named]
      have mv2 : Moved (T :: wr) G s2 { s2 with heap := s2.heap.update T (Obj.mapSeq fun _ => #[v, kx]), toks := s2.toks } := (Moved.refl W.grefl).then_heap (tk := s2.toks) (Nat.le_refl _) fun b o hb e => (Heap.get?_update_other _ _ (other hb)).trans e
      exact wpAny_pure ⟨plainId_quiet F.plain_min_loop _, ih (j + 1) j _ v kx _ (by omega) (by omega) less (M.keep _ _ _ _ _ j2 mv2) (W.frame _ s2 _ s2.toks st2 (Nat.le_refl _) fun b hbf o e => (Heap.get?_update_other _ _ (fun h : T = b => hT (by rw [h]; exact hbf))).trans e) hv (Heap.get?_update_self _ eT2 rfl) fin⟩
    · refine wpAny_bind (wpAny_holding (wpAny_truthy_bool (wpAny_bind (wpAny_letGo (wpAny_pure ?_)))))
      simp only [Bool.false_eq_true, if_false]
      refine wpAny_bind (wpAny_letGo ?_)
      rw [named]
      exact wpAny_pure ⟨plainId_quiet F.plain_min_loop _, ih (j + 1) b _ best key c (by omega) (by omega) less j2 st2 hb eT2 fin⟩
theorem min2_first (W : WalksS prog w A.in1 I fp wr G n P St) (hT : T ∉ fp) (M : MinRun prog w A.in1 q T wr G n P St J0 J) (kw : List (Str × Value)) (hn : 0 < n) {s : Shared} {c : Nat} (j0 : J0 s) (st : St 0 s)
    (eT : s.heap.get? T = some { cls := .type "list", dict := none, data := .seq #[] c, slots := #[] }) (fin : ∀ v b k s', P b v → J n b k s' → R (.ok (.ret v)) s') : codeAny (model prog w) A (.builtin "min.loop" ⟨[.ref I, .ref q, .ref T], kw⟩) R s := by
  have apart : T ∉ wr := fun h => hT (W.sub T h)
  have within : ∀ b ∈ wr, b ∈ T :: wr := fun b hb => List.mem_cons_of_mem T hb
  have named : (toString "min" ++ toString ".loop" : String) = "min.loop" := by decide
  have other : ∀ {b : Addr}, b ∉ T :: wr → T ≠ b := fun hb h => hb (by rw [h]; exact List.mem_cons_self)
  refine codeAny_builtin F.entry_min_loop ?_
  rw [Around.under_plainId F.plain_min_loop ⟨[.ref I, .ref q, .ref T], kw⟩]
  refine wpAny_bind (m := seqItems? (.ref T)) (wpAny_seqItems eT rfl ?_)
  refine wpAny_bind (m := tryCatch (pyNext (.ref I)) _) (wpAny_tryCatch (W.item 0 s _ _ hn st fun v s1 hv st1 mv => ?_))
  have eT1 := mv.heap T _ apart eT
  have j1 := M.keep0 _ _ j0 (mv.mono within)
  refine wpAny_bind (m := tryCatch (holding [v] (call (.ref q) [v])) _) (wpAny_tryCatch (wpAny_holding (M.first v s1 _ _ _ hv j1 st1 eT1 fun kx s2 j2 st2 eT2 => ?_)))
  refine wpAny_bind (m := updateSeq T (fun _ => #[v, kx])) (wpAny_updateSeq eT2 rfl ?_)
  rw [named]
  have mv2 : Moved (T :: wr) G s2 { s2 with heap := s2.heap.update T (Obj.mapSeq fun _ => #[v, kx]), toks := s2.toks } := (Moved.refl W.grefl).then_heap (tk := s2.toks) (Nat.le_refl _) fun b o hb e => (Heap.get?_update_other _ _ (other hb)).trans e
  exact wpAny_pure ⟨plainId_quiet F.plain_min_loop _, min2_on W hT M kw _ 1 0 _ v kx _ rfl (Nat.le_refl _) hn (M.keep _ _ _ _ _ j2 mv2) (W.frame _ s2 _ s2.toks st2 (Nat.le_refl _) fun b hbf o e => (Heap.get?_update_other _ _ (fun h : T = b => hT (by rw [h]; exact hbf))).trans e) hv (Heap.get?_update_self _ eT2 rfl) fin⟩
theorem call_min2 {E : Value → Shared → Prop} {s : Shared} {x : Value} {Q : Value → Shared → Prop}
    (h : wpAny (model prog w) A.in1 (pyIter x) (fun it s2 => ∃ I fp wr G n P St J0 J, it = .ref I ∧ WalksS prog w A.in1 I fp wr G n P St ∧ St 0 s2 ∧ (∀ b ∈ fp, b < s2.heap.objs.size) ∧ 0 < n ∧ MinRun prog w A.in1 q s2.heap.objs.size wr G n P St J0 J ∧ J0 s2 ∧ ∀ v b k s', P b v → J n b k s' → Q v s') E s) :
    wpAny (model prog w) A (call (.builtin "min") [x] [(Str.ofString "key", .ref q)]) Q E s := by
  have named : (toString "min" ++ toString ".loop" : String) = "min.loop" := by decide
  refine PyProof.Rows.kmk_tree F.kind_min F.plain_min F.entry_min (PyProof.Rows.kmk_min_key x (.ref q)) ?_
  refine wpAny_bind (m := Builtin.Builtins.bindParams "min" ["key", "default"] 0 ⟨[], [(Str.ofString "key", .ref q)]⟩) (wpAny_of_eq (show Builtin.Builtins.bindParams "min" ["key", "default"] 0 ⟨[], [(Str.ofString "key", .ref q)]⟩ = pure [some (.ref q), none] from rfl) (wpAny_bind (wpAny_pure ?_)))
  refine wpAny_bind (wpAny_mono h (fun it s2 got => ?_) fun _ _ e => e)
  obtain ⟨I, fp, wr, G, n, P, Z, J0, J, e, W, st, hfp, hn, M, j0, fin⟩ := got
  subst e
  refine wpAny_bind (wpAny_newObj_type ?_)
  rw [named]
  have hT : s2.heap.objs.size ∉ fp := fun hm => Nat.lt_irrefl _ (hfp _ hm)
  have mv : Moved (s2.heap.objs.size :: wr) G s2 { s2 with heap := s2.heap.push { cls := .type "list", data := .seq #[] 0 }, toks := s2.toks } := (Moved.refl W.grefl).then_heap (tk := s2.toks) (Nat.le_refl _) fun b o _ e => Heap.get?_push_of_some _ e
  exact wpAny_pure ⟨plainId_quiet F.plain_min_loop _, min2_first W hT M _ hn (M.keep0 _ _ j0 mv) (W.frame 0 s2 (s2.heap.push { cls := .type "list", data := .seq #[] 0 }) s2.toks st (Nat.le_refl _) fun b _ o e => Heap.get?_push_of_some _ e) (Heap.get?_push_size _ rfl) fin⟩
end
section
variable {X : Cx} {k : Nat} {f C : Addr} {fd : FuncData} {p1 p2 m : Str} {sp : Sp} {pins : List (Addr × Obj)} {σ : L2.St}
/-- what stays: the bound method, the walk's two objects, what is wished of the heap -/
structure JM (X : Cx) (pins : List (Addr × Obj)) (σ : L2.St) (T I b f a : Addr) (H : Hp) (s : Shared) : Prop where
  inv : Inv X pins σ H s
  ft : FpOk X pins H T
  fi : FpOk X pins H I
  fb : FpOk X pins H b
  at_ : s.heap.get? b = some (PySem.W.methodObj (.ref f) (.ref a))
theorem JM.keep {T I b f a : Addr} {H : Hp} {s s' : Shared} (h : JM X pins σ T I b f a H s) (hT : b ≠ T) (hI : b ≠ I) (mv : Moved [T, I] (fun a b => b = a) s s') : JM X pins σ T I b f a H s' := by
  obtain ⟨h1, g1, d1, t1, o1⟩ := s
  obtain ⟨h2, g2, d2, t2, o2⟩ := s'
  have e1 : g2 = g1 := mv.gens
  have e2 : d2 = d1 := mv.drawn
  have e3 : o2 = o1 := mv.os
  subst e1 e2 e3
  refine ⟨h.inv.turnedL (t' := t2) (ch := [T, I]) (fun c o hc e => mv.heap c o hc e) (fun c hc => ?_), h.ft, h.fi, h.fb, mv.heap b _ (by simp [hT, hI]) h.at_⟩
  simp only [List.mem_cons, List.not_mem_nil, or_false] at hc
  rcases hc with rfl | rfl
  · exact h.ft
  · exact h.fi
/-- one answer of the bound method -/
theorem JM.call {T I b a : Addr} {H : Hp} {s : Shared} {v : Value} {x : V} {R : V → Hp → Prop} (h : JM X pins σ T I b f a H s) (F : FnG X.prog X.w X.K X.mg X.base (L2N.CX X.prog X.w) k f fd [p1, p2] sp) (hr : RoomG (k + 1) X.A) (hb : Binds X.K fd [p1, p2] [])
    (rx : RelV x v) (hs : sp [.ref a, x] H R fun _ _ _ => False) {oT oI : Obj} (eT : s.heap.get? T = some oT) (eI : s.heap.get? I = some oI) {Q : Value → Shared → Prop} {E : Value → Shared → Prop}
    (hq : ∀ u y H' s', RelV y u → R y H' → JM X pins σ T I b f a H' s' → s'.heap.get? T = some oT → s'.heap.get? I = some oI → Q u s') : wpAny (model X.prog X.w) X.A.in1 (call (.ref b) [v]) Q E s := by
  have J := h.inv
  refine wpAny_call (PySem.W.method_call h.at_ (codeAny_mono (F.run X.A.in1 X.stack s H ⟨[.ref a, v], []⟩ [.ref a, v] [.ref a, x] R (fun _ _ _ => False) hr.in1 J.env0.in1 (hb s [.ref a, v] J.kIn rfl) (.cons rfl (.cons rx .nil)) hs) fun out s' got => ?_))
  match out, got with
  | .error e, got =>
    obtain ⟨_, _, _, _, _, _, _, _, _, _, _, _, z⟩ := (show L2N.CX X.prog X.w X.stack H s (fun _ _ _ => False) e s' from got)
    exact z.elim
  | .ok (.ret u), ⟨y, H', os, bare, un, hok, ry, q⟩ =>
    have J' := J.call' os un hok bare (ch := []) (fun b z => absurd z (by simp))
    have far : ∀ {c : Addr}, FpOk X pins H c → c ∉ frs X.stack := fun {c} hf hc' => by
      rcases List.mem_cons.mp (J.stkSub c hc') with e | e
      · exact hf.2.1 e
      · exact hf.2.2.1 e
    have stay : ∀ {c : Addr} {o : Obj}, FpOk X pins H c → s.heap.get? c = some o → s'.heap.get? c = some o ∧ FpOk X pins H' c := fun {c o} hf e =>
      ⟨un.keep c o e hf.1 (far hf) (by simp), ⟨un.free c o e hf.1 (by simp), hf.2⟩⟩
    exact hq u y H' s' ry q ⟨J', (stay h.ft eT).2, (stay h.fi eI).2, (stay h.fb h.at_).2, (stay h.fb h.at_).1⟩ (stay h.ft eT).1 (stay h.fi eI).1
/-- min(range(e), key=x.m), x a local that stands for an instance -/
def tMinB (K : PySem.W.Frag) (C : Addr) (m : Str) (sp : Sp) (i : Nat) (ta : TE) : TE := fun σ H Q => ta σ H fun x H1 => ∃ (n : Nat) (a dx : Addr) (fs : List (Str × V)) (Jp : Nat → Nat → V → Hp → Prop), x = .int n ∧ 0 < n ∧ n < 1000000 ∧ σ[i]? = some (some (.ref a)) ∧ H1 a = some (.ins C dx fs) ∧ fs.lookup m = none ∧
  sp [.ref a, .int (0 : Nat)] H1 (fun k H2 => Jp 1 0 k H2) (fun _ _ _ => False) ∧
  (∀ j b kb H2, 1 ≤ j → j < n → Jp j b kb H2 → sp [.ref a, .int (j : Nat)] H2 (fun k H3 => ∃ p q, Dp K H3 k p ∧ Dp K H3 kb q ∧ PySem.W.alike p q = true ∧ p ≠ .none ∧ p.depth ≤ 50 ∧ (PySem.W.dataLt p q = true → Jp (j + 1) j k H3) ∧ (PySem.W.dataLt p q = false → Jp (j + 1) b kb H3)) (fun _ _ _ => False)) ∧
  ∀ (b : Nat) kb H2, Jp n b kb H2 → Q (.int b) H2
/-- x.m as a value; the object is told by the heap -/
theorem bound_raw {b : Bool} {H : Hp} {s : Shared} {a dx g : Addr} {fs : List (Str × V)} {A : Around} {E : Value → Shared → Prop} {Q : Value → Shared → Prop} (I : Inv X pins σ H s) (e : H a = some (.ins C dx fs)) (c : Cls X.K C) (k : BMeth X.K C m g) (l : fs.lookup m = none)
    (h : ∀ p s', FpOk X pins H p → Inv X pins σ H s' → s'.heap.get? p = some (PySem.W.methodObj (.ref g) (.ref a)) → p < s'.heap.objs.size → Q (.ref p) s') : wpAny (model X.prog X.w) A (getAttr (.ref a) m b) Q E s := by
  obtain ⟨mA, O, r, _, _, _⟩ := ins_get I.hok e
  have hn : mA m = none := RelO.none_of (by rw [← l]; exact r m)
  obtain ⟨od, J, hl⟩ := O.look
  refine PySem.W.get_bind I.kIn J (PySem.W.plainGet_of (c.get m)).1 (PySem.W.findObj_fn c.hd k.mt.at_ k.gf k.tk k.cp (show PySem.W.lookIn m od = some none by rw [hl, hn])) (PySem.W.plainGet_of (c.get m)).2 ?_
  refine wpAny_call (PySem.W.fn_get (s := { s with toks := s.toks + 1 }) I.kIn (beq_iff_eq.mp k.mt.fn) (PySem.W.handed_on rfl ?_))
  refine h s.heap.objs.size _ (I.fpOk (Nat.le_refl _) (I.hok.fresh (Nat.le_refl _))) (I.kept (t' := s.toks + 1) fun b u z => Heap.get?_push_of_some _ z) (Heap.get?_push_size s.heap rfl) ?_
  show s.heap.objs.size < (s.heap.push _).objs.size
  rw [Heap.size_push]
  exact Nat.lt_succ_self _
/-- the bound method is taken, the range is walked -/
theorem minB_tail {x : Str} {i n : Nat} {q4 q5 q6 q7 : Pos} {H2 : Hp} {s3 : Shared} {Q : VK} {r a dx : Addr} {fs : List (Str × V)} {t1 t2 t3 : Tok} {Jp : Nat → Nat → V → Hp → Prop} (hc : X.calm = true) (hu : X.A.units + 64 < cLine) (c : Cls X.K C) (km : BMeth X.K C m f)
    (F : FnG X.prog X.w X.K X.mg X.base (L2N.CX X.prog X.w) k f fd [p1, p2] sp) (hr : RoomG (k + 1) X.A) (hb : Binds X.K fd [p1, p2] []) (hN : X.N[i]? = some x) (hv : Vis X.env.scope x) (hd : (x == ("__debug__" : Str)) = false) (hcd : (x == ("__classdict__" : Str)) = false)
    (hba : attributeBase (.Name x q4) m X.env (eval (.Name x q4) X.env) = eval (.Name x q4) X.env) (I3 : Inv X pins σ H2 s3) (fr : FpOk X pins H2 r) (hrng : IsRange s3.heap r 0 n 1 t1 t2 t3) (n0 : 0 < n) (n1 : n < 1000000) (hσ : σ[i]? = some (some (.ref a))) (ea : H2 a = some (.ins C dx fs)) (lk : fs.lookup m = none)
    (start : sp [.ref a, .int (0 : Nat)] H2 (fun k H3 => Jp 1 0 k H3) (fun _ _ _ => False))
    (step : ∀ j b kb H3, 1 ≤ j → j < n → Jp j b kb H3 → sp [.ref a, .int (j : Nat)] H3 (fun k H4 => ∃ p q, Dp X.K H4 k p ∧ Dp X.K H4 kb q ∧ PySem.W.alike p q = true ∧ p ≠ .none ∧ p.depth ≤ 50 ∧ (PySem.W.dataLt p q = true → Jp (j + 1) j k H4) ∧ (PySem.W.dataLt p q = false → Jp (j + 1) b kb H4)) (fun _ _ _ => False))
    (fin : ∀ (b : Nat) kb H3, Jp n b kb H3 → Q (.int b) H3) :
    wpAny (model X.prog X.w) X.A (evalAll ((backToKw q7 (keywordEach [⟨some "key", .Attribute (.Name x q4) m q5, q6⟩] X.env)).map (·.2))) (fun kvs s5 => wpAny (model X.prog X.w) X.A (call (.builtin "min") [.ref r] (((backToKw q7 (keywordEach [⟨some "key", .Attribute (.Name x q4) m q5, q6⟩] X.env)).filterMap (·.1)).zip kvs)) (EP X pins σ Q) X.xe s5) X.xe s3 := by
  show wpAny _ _ (evalAll [do let v ← eval (.Attribute (.Name x q4) m q5) X.env; standAt q7; pure v]) _ _ s3
  have Ip : Inv X ((r, ({ cls := .type "range", dict := none, data := .fields #[.int 0 t1, .int n t2, .int 1 t3], slots := #[] } : Obj)) :: pins) σ H2 s3 := I3.pins_of fun p hp => by
    rcases List.mem_cons.mp hp with rfl | hp
    · exact ⟨hrng, fr.1, fr.2.1, fr.2.2.1, fun v => by simp⟩
    · exact I3.pin p (List.mem_append_right _ hp)
  refine wpAny_evalAll_cons (wpAny_bind (attr_of hba (thn ((pe_var (i := i) (pos := q4) hN hv hd hcd).run _ s3 σ H2 (fun y H4 => y = .ref a ∧ H4 = H2) Ip ⟨_, hσ, rfl, rfl⟩) fun u s4 got => ?_)))
  obtain ⟨y, H4, I4, ry, ey, eH⟩ := got
  subst ey eH
  obtain rfl : u = Value.ref a := ry
  refine bound_raw I4 ea c km lk fun p s5 fp I5 eb lp => wpAny_bind (wpAny_standAt (wpAny_pure (wpAny_evalAll_nil ?_)))
  show wpAny _ _ (call (.builtin "min") [.ref r] [(Str.ofString "key", .ref p)]) _ _ s5
  have er := (I5.pin (r, _) (List.mem_append_right _ List.mem_cons_self)).1
  have I6 : Inv X pins σ H4 s5 := I5.pins_of fun z hz => I5.pin z (List.mem_append_right _ (List.mem_cons_of_mem _ hz))
  have fb : FpOk X pins H4 p := ⟨fp.1, fp.2.1, fp.2.2.1, fp.2.2.2.1, fp.2.2.2.2.1, fun z hz => fp.2.2.2.2.2 z (by
    rcases List.mem_append.mp hz with h | h
    · exact List.mem_append_left _ h
    · exact List.mem_append_right _ (List.mem_cons_of_mem _ h))⟩
  refine call_min2 (wpAny_pyIter_range er (small_one (by decide) (by decide) (by omega) (by omega)) ?_)
  have kk : ∀ b o, s5.heap.get? b = some o → (s5.heap.push { cls := .type "range_iterator", data := .fields #[rawInt 0, rawInt (Builtin.Range.rangeSize 0 n 1), rawInt 1] }).get? b = some o := fun b o e => Heap.get?_push_of_some _ e
  have hsz : (s5.heap.push { cls := .type "range_iterator", data := .fields #[rawInt 0, rawInt (Builtin.Range.rangeSize 0 n 1), rawInt 1] }).objs.size = s5.heap.objs.size + 1 := Heap.size_push ..
  have I7 : Inv X pins σ H4 { s5 with heap := s5.heap.push { cls := .type "range_iterator", data := .fields #[rawInt 0, rawInt (Builtin.Range.rangeSize 0 n 1), rawInt 1] } } := I6.kept (t' := s5.toks) kk
  have nI : H4 s5.heap.objs.size = none := I6.hok.fresh (Nat.le_refl _)
  have fI : FpOk X pins H4 s5.heap.objs.size := I6.fpOk (Nat.le_refl _) nI
  have nT : H4 (s5.heap.objs.size + 1) = none := I6.hok.fresh (Nat.le_succ _)
  have fT : FpOk X pins H4 (s5.heap.objs.size + 1) := I6.fpOk (Nat.le_succ _) nT
  have pI : p ≠ s5.heap.objs.size := Nat.ne_of_lt lp
  have pT : p ≠ s5.heap.objs.size + 1 := Nat.ne_of_lt (Nat.lt_succ_of_lt lp)
  have e0 : Builtin.Range.rangeSize 0 (n : Int) 1 = n := by rw [rangeSize_one, if_pos (by omega)]; omega
  refine ⟨s5.heap.objs.size, _, _, _, n, _, _, fun s => JM X pins σ (s5.heap.objs.size + 1) s5.heap.objs.size p f a H4 s, fun j b k s => ∃ H5 kb, RelV kb k ∧ Jp j b kb H5 ∧ JM X pins σ (s5.heap.objs.size + 1) s5.heap.objs.size p f a H5 s, rfl, (Walks.range (prog := X.prog) (w := X.w) (A := X.A.in1) (I6.ok.hd hc) s5.heap.objs.size 0 1 n).toS, ?_, fun b hb => ?_, n0, ?_, ⟨I7, fT, fI, fb, kk _ _ eb⟩, fun v b k s6 hp got => ?_⟩
  · show IsRangeIter _ _ (0 + ((0 : Nat) : Int) * 1) ((n : Int) - ((0 : Nat) : Int)) 1
    rw [show (0 + ((0 : Nat) : Int) * 1) = 0 by simp, show ((n : Int) - ((0 : Nat) : Int)) = n by simp, e0]
    exact Heap.get?_push_size _ rfl
  · simp only [List.mem_cons, List.not_mem_nil, or_false] at hb
    subst hb
    show s5.heap.objs.size < (s5.heap.push _).objs.size
    rw [hsz]
    exact Nat.lt_succ_self _
  · show MinRun X.prog X.w X.A.in1 p (s5.heap.push _).objs.size _ _ n _ _ _ _
    rw [hsz]
    refine ⟨fun s s' h mv => h.keep pT pI mv, fun j b k s s' ⟨H5, kb, h1, h2, h3⟩ mv => ⟨H5, kb, h1, h2, h3.keep pT pI mv⟩, fun v s o Q E hv h st eT hq => ?_, fun j b kb v s o Q E j1 jn hv ⟨H5, kv, rk, hj, h⟩ st eT hq => ?_⟩
    · obtain ⟨t, rfl⟩ := hv
      refine h.call F hr hb (x := .int (0 : Nat)) ⟨t, by simp⟩ start eT st fun u y H5 s6 ry hy h6 e6 e7 => hq u s6 ⟨H5, y, ry, hy, h6⟩ e7 e6
    · obtain ⟨t, rfl⟩ := hv
      refine h.call F hr hb (x := .int (j : Nat)) ⟨t, by simp⟩ (step j b kv H5 j1 jn hj) eT st fun u y H6 s6 ry ⟨d, d', hd1, hd2, ha, hne, hdp, hlt, hge⟩ h6 e6 e7 => hq u s6 e7 e6 fun Q2 E2 g1 g2 => ?_
      obtain ⟨as, r1⟩ := Dp.reads h6.inv d y u hd1 ry
      obtain ⟨bs, r2⟩ := Dp.reads h6.inv d' kv kb hd2 rk
      refine PySem.W.rcLt_alike d d' X.A.in1 s6 u kb _ _ r1 r2 ha hne ?_ X.prog X.w E2 Q2 ?_
      · have := Nat.min_le_left d.depth d'.depth
        show X.A.units + 1 + min d.depth d'.depth < cLine
        omega
      · cases e : PySem.W.dataLt d d' with
        | true => exact g1 ⟨H6, y, ry, hlt e, h6⟩
        | false => exact g2 ⟨H6, kv, rk, hge e, h6⟩
  · obtain ⟨t, rfl⟩ := hp
    obtain ⟨H5, kb, _, hj, h⟩ := got
    exact ⟨.int b, H5, h.inv, ⟨t, by simp⟩, fin b kb H5 hj⟩
theorem pe_minB {x : Str} {i : Nat} {e : Expr} {ta : TE} {q1 q2 q3 q4 q5 q6 q7 : Pos} (hc : X.calm = true) (hu : X.A.units + 64 < cLine) (c : Cls X.K C) (km : BMeth X.K C m f) (F : FnG X.prog X.w X.K X.mg X.base (L2N.CX X.prog X.w) k f fd [p1, p2] sp) (hr : RoomG (k + 1) X.A) (hb : Binds X.K fd [p1, p2] [])
    (hgm : Gl X "min") (hmm : X.mg "min" = none) (hvm : bootBuiltins "min" = some (.builtin "min")) (hgr : Gl X "range") (hmr : X.mg "range" = none) (hN : X.N[i]? = some x) (hv : Vis X.env.scope x) (ha : PE X e ta) (hd : (x == ("__debug__" : Str)) = false := by decide) (hcd : (x == ("__classdict__" : Str)) = false := by decide)
    (na : starEach [e] X.env = (false, eval e X.env) :: starEach [] X.env := by rfl) (nr : starEach [Expr.Call (.Name "range" q2) [e] [] q3] X.env = (false, eval (.Call (.Name "range" q2) [e] [] q3) X.env) :: starEach [] X.env := by rfl)
    (he : backTo q7 (starEach [Expr.Call (.Name "range" q2) [e] [] q3] X.env) = (false, eval (.Call (.Name "range" q2) [e] [] q3) X.env) :: backTo q7 (starEach [] X.env) := by rfl) (hpl : (backTo q7 (starEach [Expr.Call (.Name "range" q2) [e] [] q3] X.env)).any (·.1) = false := by rfl)
    (hba : attributeBase (.Name x q4) m X.env (eval (.Name x q4) X.env) = eval (.Name x q4) X.env := by rfl) :
    PE X (.Call (.Name "min" q1) [.Call (.Name "range" q2) [e] [] q3] [⟨some "key", .Attribute (.Name x q4) m q5, q6⟩] q7) (tMinB X.K C m sp i ta) := by
  refine ⟨fun pins s σ H Q I h => wpAny_Call_Name_kw (ld_blt I hgm hmm hvm (PyProof.Rows.callWith_kw ?_ he hpl rfl rfl) (by decide) (by decide))⟩
  refine args_cons ?_ nr
  refine Call_ (ld_blt I hgr hmr boot_range (PyProof.Rows.callWith_type1 (one_arg ha I h (fun v s2 y H2 I2 r2 q => ?_) na) na))
  obtain ⟨n, a, dx, fs, Jp, rfl, n0, n1, hσ, ea, lk, start, step, fin⟩ := q
  obtain ⟨tn, rfl⟩ := r2
  refine call_range_1 (args_nil ?_)
  exact minB_tail hc hu c km F hr hb hN hv hd hcd hba (I2.kept fun b u z => Heap.get?_push_of_some _ z) (I2.fpOk (Nat.le_refl _) (I2.hok.fresh (Nat.le_refl _))) (IsRange.new s2.heap 0 n 1 s2.toks tn (s2.toks + 1)) n0 n1 hσ ea lk start step fin
end
end Hx

/-! Readings by value: min of a range by a bound method. -/
namespace Dv
open PySem L2 PyProof.Rows Hx
/-- the least of the first n things, the first one of these -/
def bestD (ks : Nat → D) (n : Nat) : Nat := argBest (fun i j => ltD (ks i) (ks j)) (n - 1)
def keyOk (d : D) : Bool := isData d && decide ((pd d).depth ≤ 50) && (match d with | .tup _ => true | .int _ => true | .str _ => true | _ => false)
theorem keyOk_ne {d : D} (h : keyOk d = true) : pd d ≠ .none := fun e => by
  unfold keyOk at h
  cases d with
  | tup xs => exact absurd e (by simp [pd])
  | int i => exact absurd e (by simp [pd])
  | str z => exact absurd e (by simp [pd])
  | _ => simp at h
/-- min(range(e), key=x.m), x a local -/
def dMinB (c m : Str) (sp : SpD) (i : Nat) (te : TED) : TED := fun σ S Q => te σ S fun d S1 => ∃ (n : Nat) (o : D) (ks : Nat → D), d = .int n ∧ 0 < n ∧ n < 1000000 ∧ σ[i]? = some (some o) ∧ (∃ ns ys, o = .inst c ns ys ∧ m ∉ ns) ∧ (∀ j, j < n → ∀ Q' : DK, Q' (ks j) S1 → sp [o, .int j] S1 Q' fun _ _ => False) ∧
  (∀ j, j < n → keyOk (ks j) = true) ∧ (∀ j l, j < n → l < n → PySem.W.alike (pd (ks j)) (pd (ks l)) = true) ∧ Q (.int (bestD ks n)) S1
section
variable {X : Cx} {W : Wi} {k i : Nat} {f C fI : Addr} {fd : FuncData} {p1 p2 x c m : Str} {sp : SpD} {e : Expr} {te : TED}
theorem bestD_lt {ks : Nat → D} {n : Nat} (h : 0 < n) : bestD ks n < n := by
  have go : ∀ j, argBest (fun i j => ltD (ks i) (ks j)) j ≤ j := fun j => by
    induction j with
    | zero => exact Nat.le_refl _
    | succ j ih =>
      show (if ltD (ks (j + 1)) (ks (argBest _ j)) = true then j + 1 else argBest _ j) ≤ j + 1
      split <;> omega
  have := go (n - 1)
  unfold bestD
  omega
theorem bestD_step {ks : Nat → D} {j : Nat} (h : 1 ≤ j) : bestD ks (j + 1) = if ltD (ks j) (ks (bestD ks j)) = true then j else bestD ks j := by
  obtain ⟨l, rfl⟩ : ∃ l, j = l + 1 := ⟨j - 1, by omega⟩
  rfl
theorem minB_lift (cl : ClsAt X.K c C) (σ : L2.St) (H : Hp) (Q : VK) (h : upE X.K W (dMinB c m sp i te) σ H Q) : tMinB X.K C m (upF X.K sp) i (upE X.K W te) σ H Q := by
  obtain ⟨s0, S, fr, Qd, ok, cw, h, kq⟩ := h
  refine ⟨s0, S, fr, _, ok, cw, h, fun v d H1 S1 ok1 r1 ⟨n, o, ks, ed, n0, n1, ho, ⟨ns, ys, eo, hm⟩, hsp, hk, hal, q⟩ => ?_⟩
  subst ed eo
  obtain rfl : v = .int n := r1
  obtain ⟨w, hw, rw'⟩ := ok1.si i _ ho
  obtain ⟨C', a, d', fs, c', rfl, ha, sa, en, r⟩ := rw'
  obtain rfl := c'.one cl
  have hd : ∀ {j : Nat}, j < n → isData (ks j) = true := fun {j} hj => by
    have := hk j hj
    unfold keyOk at this
    simp only [Bool.and_eq_true] at this
    exact this.1.1
  have hdp : ∀ {j : Nat}, j < n → (pd (ks j)).depth ≤ 50 := fun {j} hj => by
    have := hk j hj
    unfold keyOk at this
    simp only [Bool.and_eq_true, decide_eq_true_eq] at this
    exact this.1.2
  have args : ∀ {H2 : Hp} {fr2 : List (V × D)} (j : Nat), Ok X.K H2 S1 fr2 s0 σ → RpL X.K H2 S1 [.inst c ns ys, .int (j : Nat)] [.ref a, .int (j : Nat)] := fun {H2 fr2} j ok2 => by
    obtain ⟨w2, hw2, rw2⟩ := ok2.si i _ ho
    rw [hw] at hw2
    injection hw2 with hw2
    injection hw2 with hw2
    subst hw2
    exact rpL_cons rw2 (rpL_cons rfl rpL_nil)
  refine ⟨n, a, d', fs, fun j b kb H2 => 1 ≤ j ∧ b = bestD ks j ∧ Ok X.K H2 S1 ((kb, ks b) :: fr) s0 σ, rfl, n0, n1, hw, ha, lookup_not (by rw [en]; exact hm), ?_, fun j b kb H2 j1 jn ⟨_, eb, ok2⟩ => ?_, fun b kb H2 ⟨_, eb, ok2⟩ => ?_⟩
  · refine ⟨[.inst c ns ys, .int (0 : Nat)], S1, fr ++ prs s0 σ, fun d S' => d = ks 0 ∧ S' = S1, fun _ _ => False, ok1.rel, ok1.out, args 0 ok1, hsp 0 n0 _ ⟨rfl, rfl⟩, fun u d H2 S2 R2 f2 r5 q5 => ?_, fun _ _ _ _ _ _ _ _ z => z.elim⟩
    obtain ⟨e5, e6⟩ := q5
    subst e5 e6
    exact ⟨Nat.le_refl _, rfl, (ok1.back R2 f2).cons r5⟩
  · refine ⟨[.inst c ns ys, .int (j : Nat)], S1, ((kb, ks b) :: fr) ++ prs s0 σ, fun d S' => d = ks j ∧ S' = S1, fun _ _ => False, ok2.rel, ok2.out, args j ok2, hsp j jn _ ⟨rfl, rfl⟩, fun u d H3 S3 R3 f3 r5 q5 => ?_, fun _ _ _ _ _ _ _ _ z => z.elim⟩
    obtain ⟨e5, e6⟩ := q5
    subst e5 e6
    have ok3 := ok2.back R3 f3
    have bn : b < n := by
      have := bestD_lt (ks := ks) (n := j) (by omega)
      omega
    have st := bestD_step (ks := ks) j1
    refine ⟨pd (ks j), pd (ks b), dp_of R3 _ _ (hd jn) r5, dp_of R3 _ _ (hd bn) ok3.head, hal j b jn bn, keyOk_ne (hk j jn), hdp jn, fun hlt => ⟨by omega, ?_, ok3.tail.cons r5⟩, fun hge => ⟨by omega, ?_, ok3⟩⟩
    · rw [st, ← eb, if_pos (show ltD (ks j) (ks b) = true from hlt)]
    · rw [st, ← eb, if_neg (show ¬ ltD (ks j) (ks b) = true by show ¬ PySem.W.dataLt (pd (ks j)) (pd (ks b)) = true; rw [hge]; decide)]
  · subst eb
    exact kq _ (.int (bestD ks n)) H2 S1 ok2.tail rfl q
theorem de_minB {q1 q2 q3 q4 q5 q6 q7 : Pos} (hc : X.calm = true) (hu : X.A.units + 64 < cLine) (Cf : ClF X.K c C fI) (km : BMeth X.K C m f) (F : FnG X.prog X.w X.K X.mg X.base (L2N.CX X.prog X.w) k f fd [p1, p2] (upF X.K sp)) (hr : RoomG (k + 1) X.A) (hb : L2.Binds X.K fd [p1, p2] [])
    (hgm : Gl X "min") (hmm : X.mg "min" = none) (hvm : bootBuiltins "min" = some (.builtin "min")) (hgr : Gl X "range") (hmr : X.mg "range" = none) (hN : X.N[i]? = some x) (hv : Vis X.env.scope x) (he : DE X W e te) (hd : (x == ("__debug__" : Str)) = false := by decide) (hcd : (x == ("__classdict__" : Str)) = false := by decide)
    (na : starEach [e] X.env = (false, eval e X.env) :: starEach [] X.env := by rfl) (nr : starEach [Expr.Call (.Name "range" q2) [e] [] q3] X.env = (false, eval (.Call (.Name "range" q2) [e] [] q3) X.env) :: starEach [] X.env := by rfl)
    (hs : backTo q7 (starEach [Expr.Call (.Name "range" q2) [e] [] q3] X.env) = (false, eval (.Call (.Name "range" q2) [e] [] q3) X.env) :: backTo q7 (starEach [] X.env) := by rfl) (hpl : (backTo q7 (starEach [Expr.Call (.Name "range" q2) [e] [] q3] X.env)).any (·.1) = false := by rfl)
    (hba : attributeBase (.Name x q4) m X.env (eval (.Name x q4) X.env) = eval (.Name x q4) X.env := by rfl) :
    DE X W (.Call (.Name "min" q1) [.Call (.Name "range" q2) [e] [] q3] [⟨some "key", .Attribute (.Name x q4) m q5, q6⟩] q7) (dMinB c m sp i te) :=
  ⟨PE.imp (pe_minB hc hu Cf.cls km F hr hb hgm hmm hvm hgr hmr hN hv he.p hd hcd na nr hs hpl hba) (minB_lift Cf.at_)⟩
end
/-- a method that can be taken as a value -/
def bmB (K : PySem.W.Frag) (C : Addr) (m : Str) (f : Addr) : Bool := methB K C m f && (decide (PySem.W.specialIn K (.ref f) "__get__" = some (some (.builtin "function.__get__"))) && (decide (PySem.W.takesIn K (.ref f) = some false) && (!PySem.W.copiedNames.contains m && PySem.W.fnIn K f)))
theorem bmB_ok {K : PySem.W.Frag} {C : Addr} {m : Str} {f : Addr} (h : bmB K C m f = true) : BMeth K C m f := by
  unfold bmB at h
  obtain ⟨a, h⟩ := and_b h
  obtain ⟨b, h⟩ := and_b h
  obtain ⟨c, h⟩ := and_b h
  obtain ⟨d, e⟩ := and_b h
  exact ⟨methB_ok a, of_decide_eq_true (p := PySem.W.specialIn K (.ref f) "__get__" = some (some (.builtin "function.__get__"))) b, of_decide_eq_true (p := PySem.W.takesIn K (.ref f) = some false) c, by simpa using d, e⟩
end Dv

/-! "1" + e.replace(..).replace(..) and int(text, 2). -/
namespace Hx
open PySem PySem.Spec PyProof.Rows L2
section
variable {X : Cx}
end
section
open PySem.NumText PySem.Calls
end
section
open PySem.StrLaws
end
end Hx

/-! Readings by value: "1" + text.replace(..).replace(..), int(text, 2). -/
namespace Dv
open PySem PySem.Spec L2 PyProof.Rows Hx
section
variable {X : Cx} {W : Wi}
end
end Dv

/-! zip of two tuples of one length, strict=True. -/
namespace Hx
open PySem PySem.Spec PyProof.Rows L2 RZ
section
variable {prog : Program} {w : World} {A : Around} {E : Value → Shared → Prop} {s : Shared}
end
section
variable {prog : Program} {w : World} {A : Around} {E : Value → Shared → Prop} {s : Shared}
end
end Hx

/-! Readings by value: a local name that holds a def of the module; zip(.., .., strict=True) of two tuples; x.bit_length(). -/
namespace Dv
open PySem PySem.Spec L2 PyProof.Rows Hx
/-- the def of the module by this name keeps this promise -/
structure FnW (X : Cx) (k : Nat) (x : Str) (sp : SpD) : Prop where
  ex : ∃ (f : Addr) (fd : FuncData) (ps : List Str) (k' : Nat), PySem.W.nsIn X.K mainGlobals x = some (some (.ref f)) ∧ k' ≤ k ∧ Hx.FnG X.prog X.w X.K X.mg X.base (L2N.CX X.prog X.w) k' f fd ps (upF X.K sp) ∧ PySem.W.keepIn X.K (.ref f) = true ∧ Binds X.K fd ps []
def dCallV (i : Nat) (cs : List (Str × SpD)) (WD : WXD) (t : TAD) : TED := fun σ S Q => ∃ x sp, σ[i]? = some (some (.fn x)) ∧ (x, sp) ∈ cs ∧ dCall sp [] WD t σ S Q
section
variable {X : Cx} {W : Wi} {k i : Nat} {x : Str} {p pos : Pos} {e : Expr} {es : List Expr} {t : TAD} {cs : List (Str × SpD)}
theorem fnW_mk {f : Addr} {fd : FuncData} {ps : List Str} {k' : Nat} {sp : SpD} (F : Hx.FnG X.prog X.w X.K X.mg X.base (L2N.CX X.prog X.w) k' f fd ps (upF X.K sp)) (hn : PySem.W.nsIn X.K mainGlobals x = some (some (.ref f))) (hk : PySem.W.keepIn X.K (.ref f) = true) (hb : Binds X.K fd ps [])
    (hl : k' ≤ k := by decide) : FnW X k x sp := ⟨f, fd, ps, k', hn, hl, F, hk, hb⟩
theorem fnW_nil : ∀ q ∈ ([] : List (Str × SpD)), FnW X k q.1 q.2 := fun q h => by cases h
theorem fnW_cons {sp : SpD} (h : FnW X k x sp) (hr : ∀ q ∈ cs, FnW X k q.1 q.2) : ∀ q ∈ (x, sp) :: cs, FnW X k q.1 q.2 := fun q hq => by
  rcases List.mem_cons.mp hq with rfl | hq
  · exact h
  · exact hr q hq
theorem de_callV (A : ∀ q ∈ cs, FnW X k q.1 q.2) (hr : Hx.RoomG k X.A) (hN : X.N[i]? = some x) (hv : Vis X.env.scope x) (tk : L2N.Takes X W.V) (ha : DA X W (e :: es) t)
    (hdb : (x == ("__debug__" : Str)) = false := by decide) (hcd : (x == ("__classdict__" : Str)) = false := by decide)
    (he : starEach (e :: es) X.env = (false, eval e X.env) :: starEach es X.env := by rfl) (hpl : (backTo pos (starEach es X.env)).any (·.1) = false := by rfl) : DE X W (.Call (.Name x p) (e :: es) [] pos) (dCallV i cs W.D t) := by
  refine ⟨⟨fun pins s σ H Q I h => ?_⟩⟩
  obtain ⟨σd, S, fr, Qd, ok, cl, ⟨n, sp, hs, hm, ht⟩, kk⟩ := h
  obtain ⟨v, hv', f, rfl, hf⟩ := ok.si i _ hs
  obtain ⟨f', fd, ps, k', hf', hk', F, hkp, hb⟩ := (A _ hm).ex
  have ef : f' = f := by
    have e1 := hf.symm.trans hf'
    injection e1 with e1
    injection e1 with e1
    injection e1 with e1
    exact e1.symm
  subst ef
  have lift := call_lift (dvs := []) (fun _ _ => rpL_nil) σ H Q ⟨σd, S, fr, Qd, ok, cl, ht, kk⟩
  refine wpAny_Call_Name_kw (thn ((pe_var (pos := p) hN hv hdb hcd).run pins s σ H (fun v H1 => v = .ref f' ∧ H1 = H) I ⟨.ref f', hv', rfl, rfl⟩) fun u s1 ⟨v, H1, I1, r1, q1⟩ => ?_)
  obtain ⟨rfl, rfl⟩ := q1
  cases r1
  refine PySem.W.callWith_K (h₀ := X.base) I.ok.mod.kin hkp (thn (ha.p.run pos pins s1 σ _ _ I1 lift) fun us s2 ⟨vs, H2, I2, r, q⟩ => ⟨I2.kIn, ?_⟩) he hpl
  exact fnG_run F (hr.mono hk') hb .nil (L2N.passAt tk σ) I2 r q
/-! ### zip, strict -/
/-! ### bit_length -/
/-! ### list(x), stored into later -/
end
end Dv

/-! Readings by value: the truth of an instance whose class has neither __bool__ nor __len__. -/
namespace Dv
open PySem PySem.Spec L2 PyProof.Rows Hx
section
variable {X : Cx} {W : Wi} {a : Expr} {ta : TE} {C fI : Addr} {n : Str}
end
/-! ### a tracked list that is changed no more: from here on a plain one -/
def dFrzV (i : Nat) (t : TSD) : TSD := fun D σ S => ∃ a ds, σ[i]? = some (some (.obj a)) ∧ S a = some (.lst ds) ∧ t D (σ.set i (some (.lst ds))) (del S a)
theorem set_self {α : Type} : ∀ {l : List α} {i : Nat} {x : α}, l[i]? = some x → l.set i x = l
  | [], _, _, h => by simp at h
  | a :: l, 0, x, h => by simp at h; simp [h]
  | a :: l, i + 1, x, h => by
    rw [List.getElem?_cons_succ] at h
    rw [List.set_cons_succ, set_self h]
theorem ds_frzV {X : Cx} {W : Wi} {s : Stmt} {t : TSD} (i : Nat) (h : DS X W s t) : DS X W s (dFrzV i t) :=
  ⟨PS.imp h.p fun D σ H ⟨σd, S, fr, Dd, ok, cl, ⟨a, ds, e1, e2, ht⟩, k⟩ => by
    obtain ⟨v, ev, rv⟩ := ok.si i _ e1
    have ev2 : v = .ref a := rv
    subst ev2
    have ok2 := (ok.step step_del (rel_del ok.rel)).set (rp_frozen ok.rel e2) i
    rw [set_self ev] at ok2
    exact ⟨σd.set i (some (.lst ds)), del S a, fr, Dd, ok2, cl, ht, k⟩⟩
end Dv

/-! How often a truth stands in a list of truths. -/
namespace Dv
open PySem PySem.Spec L2 PyProof.Rows Hx
section
variable {X : Cx} {W : Wi} {o e : Expr} {es : List Expr} {to : TED} {t : TAD} {apos cpos : Pos}
end
end Dv

/-! == and != of an instance whose class has an __eq__ of its own and no __ne__. -/
namespace Hx
open PySem PySem.Spec PyProof.Rows L2
open Builtin
section
variable {prog : Program} {w : World} {A : Around} {E : Value → Shared → Prop} {s : Shared} {K : PySem.W.Frag} {x C f : Addr} {ox : Obj} {od : Option Obj} {b tb : Value}
end
end Hx

/-! ==, != and str of instances by value. -/
namespace Hx
open PySem PySem.Spec PyProof.Rows L2
end Hx
namespace Dv
open PySem L2 PyProof.Rows Hx
section
variable {X : Cx} {k : Nat} {n : Str} {ps : List Str} {C f fI : Addr} {fd : FuncData} {sp : SpD}
end
end Dv

/-! for i, x in enumerate(xs); isinstance by a class of the text. -/
namespace Dv
open PySem L2 PyProof.Rows Hx
/-! ### isinstance by a class of the text -/
end Dv

/-! str(whole number), str(text). -/
namespace Dv
open PySem L2 PyProof.Rows Hx
def rdStr : RDC := fun ds S Q => match ds with
  | [.int i] => i.natAbs.log2 < 1920 ∧ Q (.str (toString i)) S
  | [.str z] => Q (.str z) S
  | _ => False
theorem x_str_i {i : Int} {S : Sd} {Q : DK} : rdStr [.int i] S Q = (i.natAbs.log2 < 1920 ∧ Q (.str (toString i)) S) := rfl
theorem x_str_s {z : Str} {S : Sd} {Q : DK} : rdStr [.str z] S Q = Q (.str z) S := rfl
end Dv

/-! data == an instance: the data's own == declines, then the instance's __eq__ is asked. -/
namespace Hx
open PySem PySem.Spec PySem.SeqAt PyProof.Rows L2
open AutoSeq1 (wpAny_loadPart')
open Builtin
section
variable {prog : Program} {w : World} {A : Around} {E : Value → Shared → Prop} {s : Shared} {K : PySem.W.Frag} {y C f : Addr} {oy : Obj} {od : Option Obj} {a : Value} {Ta ida : String}
end
end Hx
namespace Dv
open PySem L2 PyProof.Rows Hx
section
variable {X : Cx} {k : Nat} {n : Str} {ps : List Str} {C f fI : Addr} {fd : FuncData} {sp : SpD}
end
end Dv

/-! an instance in [None, an instance]: by the class's own __eq__. -/
namespace Hx
open PySem PySem.Spec PySem.SeqAt PyProof.Rows L2
open AutoSeq1 (wpAny_loadPart')
open MeetsSeq MeetsSeq2 MeetsSeq3 SeqRoads2
open Builtin
section
variable {prog : Program} {w : World} {A : Around} {R : Result → Shared → Prop}
end
section
variable {X : Cx} {CX : CXT} {k : Nat} {C f : Addr} {fd : FuncData} {ps : List Str} {sp : Sp}
end
end Hx
namespace Dv
open PySem L2 PyProof.Rows Hx
end Dv

/-! "text" + x.replace(a, b). -/
namespace Dv
open PySem PySem.Spec L2 PyProof.Rows Hx
end Dv

/-! bool(x), x an instance whose class has a __len__ of its own and no __bool__. -/
namespace Hx
open PySem PySem.Spec PyProof.Rows L2
open Builtin
section
variable {prog : Program} {w : World} {A : Around} {E : Value → Shared → Prop} {s : Shared} {K : PySem.W.Frag} {a C f : Addr} {ox : Obj} {od : Option Obj}
end
end Hx

/-! Readings by value: bool of an instance by its own __len__; the place of data in a list of data. -/
namespace Dv
open PySem PySem.Spec L2 PyProof.Rows Hx
end Dv

/-! t[::-1] of a tuple, what is made being known whole. -/
namespace Dv
open PySem PySem.Spec PyProof.Rows L2 Hx
section
variable {X : Cx} {W : Wi} {e : Expr} {te : TED} {pos : Pos}
end
end Dv

/-! list(range(e)) by value; an expression that is never asked. -/
namespace Dv
open PySem PySem.Spec PyProof.Rows L2 Hx
section
variable {X : Cx} {W : Wi} {a e : Expr} {ta : TED}
end
end Dv

/-! A try whose body raises nothing. -/
namespace Hx
open PySem PySem.Spec PyProof.Rows L2
variable {X : Cx}
end Hx
namespace Dv
open PySem PySem.Spec PyProof.Rows L2 Hx
variable {X : Cx} {W : Wi} {pos : Pos}
end Dv

/-! An instance that is made and stored into again; a field that is stored anew; an instance handed out for good. -/
namespace Dv
open PySem PySem.Spec L2 PyProof.Rows Hx
section
variable {X : Cx} {W : Wi} {k : Nat} {f C fI : Addr} {fd : FuncData} {ps : List Str} {sp : SpD} {ds : List Value} {dvs : List V} {dds : List D} {x n m g : Str} {p pos apos pos' : Pos} {o e : Expr} {es : List Expr} {to tv : TED} {t : TAD}
end
end Dv

/-! A method without arguments, called while an exception is handled. -/
namespace Dv
open PySem PySem.Spec L2 PyProof.Rows Hx
section
variable {X : Cx} {k : Nat} {f C fI : Addr} {fd : FuncData} {ps : List Str} {sp : SpD} {n m : Str} {pos apos : Pos} {o : Expr} {to : TED} {ta : TE}
end
end Dv

namespace Hx
open PySem PySem.Spec PyProof.Rows L2 HotX
section
variable {prog : Program} {w : World} {A : Around} {E : Value → Shared → Prop} {s : Shared}
end
section
variable {X : Cx} {pos : Pos}
end
end Hx
namespace Dv
open PySem PySem.Spec L2 PyProof.Rows Hx
end Dv

/-! str of a tuple; a dict of two written keys asked with a default; ==, != and isinstance of instances of other classes; an instance in a list of two. -/
namespace Hx
open PySem PySem.Spec PyProof.Rows L2
end Hx
namespace Dv
open PySem PySem.Spec L2 PyProof.Rows Hx
section
variable {K : PySem.W.Frag} {W : Wi} {z1 z2 : Str} {i : Nat}
end
section
variable {X : Cx} {W : Wi} {z1 z2 x : Str} {i : Nat} {m1 m2 m3 m4 : Nat} {q1 q2 q3 q4 q5 q6 dpos np np2 sp2 pos apos : Pos}
end
/-! ### instances of other classes -/
section
variable {X : Cx} {k : Nat} {n : Str} {ms ps : List Str} {C f fI : Addr} {fd : FuncData} {sp : SpD}
end
end Dv

/-! an instance in a list of two instances: by the class's own __eq__. -/
namespace Hx
open PySem PySem.Spec PySem.SeqAt PyProof.Rows L2
open AutoSeq1 (wpAny_loadPart')
open MeetsSeq MeetsSeq2 MeetsSeq3 SeqRoads2
open Builtin
section
variable {prog : Program} {w : World} {A : Around} {R : Result → Shared → Prop}
end
section
variable {X : Cx} {CX : CXT} {k : Nat} {C f : Addr} {fd : FuncData} {ps : List Str} {sp : Sp}
end
end Hx
namespace Dv
open PySem L2 PyProof.Rows Hx
end Dv

/-! xs[-2::-1] of a tuple: all but the last one, from behind. -/
namespace HT
open PySem PyProof.Rows
section
variable {prog : Program} {w : World} {A : Around} {E : Value → Shared → Prop} {s : Shared}
end
end HT
namespace Dv
open PySem PySem.Spec L2 PyProof.Rows Hx HT
section
variable {X : Cx} {W : Wi} {e : Expr} {te : TED} {pos : Pos}
/-- xs[-2::-1] -/
def dBk (te : TED) : TED := fun σ S Q => te σ S fun x S1 => match x with
  | .tup ds => Q (.tup ds.dropLast.reverse) S1
  | _ => False
end
end Dv

/-! while an exception is handled: a comprehension within an expression, range in it, min of a list of data. -/
namespace Hx
open PySem PySem.Spec PyProof.Rows L2 HotX
section
variable {prog : Program} {w : World} {A : Around} {E : Value → Shared → Prop} {s : Shared}
end
section
variable {X : Cx}
end
section
variable {X : Cx} {pins : List (Addr × Obj)} {σ : L2.St} {H : Hp} {s : Shared}
end
end Hx
namespace Dv
open PySem PySem.Spec L2 PyProof.Rows Hx
section
variable {X : Cx} {W : Wi} {pos : Pos}
end
end Dv

/-! list.extend by a tuple or by a list that nobody changes; list.pop. -/
namespace Hx
open PySem PySem.Spec PySem.SeqAt PyProof.Rows L2
open AutoSeq1
open MeetsSeq MeetsSeq2 MeetsSeq3 SeqRoads2
theorem meets_extT (l : Addr) (xs : Array Value) (n : Nat) (b : Addr) (ys : Array Value) (n2 : Nat) (dd : Option Addr) (sl : Array (Option Value)) (h0 : ¬(!xs.isEmpty && Builtin.List.listTooLong (xs.size + ys.size)) = true) (h1 : xs.size ≤ sizeLine) (h2 : (xs ++ ys).size ≤ sizeLine + 1) :
    Meets (Builtin.«list.extend» ⟨[.ref l, .ref b], []⟩) (fun _ R s => s.heap.get? l = some { cls := .type "list", dict := none, data := .seq xs n, slots := #[] } ∧ s.heap.get? b = some { cls := .type "tuple", dict := dd, data := .seq ys n2, slots := sl } ∧ R (.ok (.ret Value.none)) { s with heap := s.heap.update l (Obj.mapSeq fun x => x ++ ys), toks := s.toks }) :=
  .of_wp fun prog w A R s h => by
    obtain ⟨hp, g, d, tk, os⟩ := s
    obtain ⟨hl, hb, q⟩ := h
    have g1 := idx_int
    have g2 := AutoSeq1.sub_tuple_tuple
    have g3 := AutoSeq1.sub_list_list
    have g4 := AutoSeq1.sub_tuple_list
    have g5 := AutoSeq1.sub_list_tuple
    wp_walk using (wpAny_updateSeq hl rfl (hz := h1) (_hz' := h2)), wpAny_loadPart' hl, wpAny_loadPart' hb
    exact ⟨_, rfl, q⟩
theorem meets_extL (l : Addr) (xs : Array Value) (n : Nat) (b : Addr) (ys : Array Value) (n2 : Nat) (sl : Array (Option Value)) (h0 : ¬(!xs.isEmpty && Builtin.List.listTooLong (xs.size + ys.size)) = true) (h1 : xs.size ≤ sizeLine) (h2 : (xs ++ ys).size ≤ sizeLine + 1) :
    Meets (Builtin.«list.extend» ⟨[.ref l, .ref b], []⟩) (fun _ R s => s.heap.get? l = some { cls := .type "list", dict := none, data := .seq xs n, slots := #[] } ∧ s.heap.get? b = some { cls := .type "list", dict := none, data := .seq ys n2, slots := sl } ∧ R (.ok (.ret Value.none)) { s with heap := s.heap.update l (Obj.mapSeq fun x => x ++ ys), toks := s.toks }) :=
  .of_wp fun prog w A R s h => by
    obtain ⟨hp, g, d, tk, os⟩ := s
    obtain ⟨hl, hb, q⟩ := h
    have g1 := idx_int
    have g2 := AutoSeq1.sub_tuple_tuple
    have g3 := AutoSeq1.sub_list_list
    have g4 := AutoSeq1.sub_tuple_list
    have g5 := AutoSeq1.sub_list_tuple
    wp_walk using (wpAny_updateSeq hl rfl (hz := h1) (_hz' := h2)), wpAny_loadPart' hl, wpAny_loadPart' hb
    exact ⟨_, rfl, q⟩
/-- l.extend(b) -/
def rExtA (K : PySem.W.Frag) : V → List V → Hp → VK → Prop := fun x vs H Q => ∃ l b xs zs, x = .ref l ∧ vs = [.ref b] ∧ H l = some (.lst xs) ∧ (SqT K H b zs ∨ SqL K H b zs) ∧ xs.length + zs.length ≤ sizeLine ∧ Q .non (upd H l (.lst (xs ++ zs)))
section
variable {X : Cx}
theorem mt_extendA : MtM X "list.extend" (rExtA X.K) := by
  intro pins s σ H x vs v us Q I rx rv h
  obtain ⟨l, b, xs, zs, rfl, rfl, hH, hB, hz, q⟩ := h
  cases rx
  obtain ⟨u, rfl, ru⟩ := rv.one
  cases ru
  obtain ⟨z, its, n, r, hl, e⟩ := I.lstM hH
  have fin : ∀ its2 : List Value, Vals zs its2 → zs.length = its2.length → ¬ (!its.toArray.isEmpty && Builtin.List.listTooLong (its.toArray.size + its2.toArray.size)) = true ∧ its.toArray.size ≤ sizeLine ∧ (its.toArray ++ its2.toArray).size ≤ sizeLine + 1 ∧
      EP X pins σ Q Value.none { s with heap := s.heap.update l (Obj.mapSeq fun x => x ++ its2.toArray), toks := s.toks } := fun its2 r2 h2 => by
    have hsz : its.toArray.size + its2.toArray.size ≤ sizeLine := by rw [List.size_toArray, List.size_toArray]; omega
    refine ⟨by rw [notLongL hsz, Bool.and_false]; exact Bool.false_ne_true, by rw [List.size_toArray]; omega, by rw [Array.size_append]; omega, .non, _, I.lset (its' := its ++ its2) hH e (by simp) (r.append r2) ?_, rfl, q⟩
    rw [List.length_append]
    omega
  rcases hB with hB | hB
  · obtain ⟨its2, r2, ⟨⟨cls, dd, data, sl⟩, e2, hc, n2, hd⟩, _⟩ := I.tuple hB
    simp only at hc hd
    subst hc hd
    obtain ⟨f0, f1, f2, f3⟩ := fin its2 r2 r2.length
    exact call_meets F.slot_list_extend ⟨_, e, rfl⟩ F.entry_list_extend (F.args_list_extend_2 _ _) (meets_extT l its.toArray n b its2.toArray n2 dd sl f0 f1 f2) ⟨e, e2, f3⟩
  · obtain ⟨its2, r2, ⟨⟨cls, dd, data, sl⟩, n2, e2, hc, hdn, hd⟩, _⟩ := I.list hB
    simp only at hc hd hdn
    subst hc hd hdn
    obtain ⟨f0, f1, f2, f3⟩ := fin its2 r2 r2.length
    exact call_meets F.slot_list_extend ⟨_, e, rfl⟩ F.entry_list_extend (F.args_list_extend_2 _ _) (meets_extL l its.toArray n b its2.toArray n2 sl f0 f1 f2) ⟨e, e2, f3⟩
end
end Hx
namespace Dv
open PySem PySem.Spec L2 PyProof.Rows Hx
def rdExt : RDM := fun o vs S Q => ∃ a ds es, o = .obj a ∧ S a = some (.lst ds) ∧ (vs = [.tup es] ∨ vs = [.lst es]) ∧ ds.length + es.length ≤ 16777216 ∧ Q .non (upS S a (.lst (ds ++ es)))
theorem ext_lift {K : PySem.W.Frag} : LiftM K (rExtA K) rdExt := fun H S fr σd σ x dx xs ds Qv Qd ok rx rs h k => by
  obtain ⟨a, d0, es, rfl, e2, hv, hl, q⟩ := h
  obtain ⟨vs, hv2, rl⟩ := rp_obj ok.rel e2
  have go : ∀ (p : Addr) (zs : List V), (SqT K H p zs ∨ SqL K H p zs) → RpL K H S es zs → xs = [.ref p] → rExtA K x xs H Qv := fun p zs hs rz ex => by
    have st : Step H S (upd H a (.lst (vs ++ zs))) (upS S a (.lst (d0 ++ es))) := step_set e2
    refine ⟨a, p, vs, zs, rx, ex, hv2, hs, ?_, k _ .non _ _ (ok.step st (rel_set ok.rel e2 ⟨_, upd_same, rpL_step ok.rel st _ _ (rpL_app rl rz)⟩)) rfl q⟩
    rw [← rpL_len rl, ← rpL_len rz, sl_eq]
    exact hl
  rcases hv with rfl | rfl
  · obtain ⟨v, rfl, r1⟩ := rpL1 rs
    obtain ⟨p, zs, rfl, q1, r2⟩ := r1
    exact go p zs (.inl q1) r2 rfl
  · obtain ⟨v, rfl, r1⟩ := rpL1 rs
    obtain ⟨p, zs, rfl, q1, r2⟩ := rp_list ok.rel r1
    exact go p zs (.inr q1) r2 rfl
section
variable {X : Cx} {W : Wi} {e : Expr}
theorem de_ext {o : Expr} {to : TED} {es : List Expr} {t : TAD} {apos cpos : Pos} (ho : DE X W o to) (ha : DA X W (e :: es) t) (hbase : attributeBase o "extend" X.env (eval o X.env) = eval o X.env := by rfl)
    (hfew : ((backTo cpos (starEach (e :: es) X.env)).all (fun x => !x.1) && (backToKw cpos (keywordEach [] X.env)).all (fun x => x.1.isSome)
      && decide ((e :: es).length + ([] : List Keyword).length + (if ([] : List Keyword).isEmpty then 0 else 1) < 30)) = true := by rfl)
    (hline : (apos.endLine == cpos.line) = true := by rfl) (hs : starEach (e :: es) X.env = (false, eval e X.env) :: starEach es X.env := by rfl) (hplain : (backTo cpos (starEach es X.env)).any (·.1) = false := by rfl) :
    DE X W (.Call (.Attribute o "extend" apos) (e :: es) [] cpos) (dBM "list" rdExt to t) :=
  de_bm PySem.F.plainAttrs_list PySem.F.slot_list_extend PySem.F.type_list_extend mt_extendA ext_lift ho ha hbase hfew hline hs hplain
end
end Dv
/-! the truth of an instance by its class's own __len__ -/
namespace Hx
open PySem PySem.Spec PyProof.Rows L2
section
variable {X : Cx} {CX : CXT} {k : Nat} {C f : Addr} {fd : FuncData} {y : Str} {sp : Sp} {a : Expr} {ta : TE}
end
end Hx
namespace Dv
open PySem PySem.Spec L2 PyProof.Rows Hx
end Dv
/-! a part of a list, kept for storing -/
namespace Dv
open PySem PySem.Spec L2 PyProof.Rows Hx
section
variable {X : Cx} {W : Wi} {e : Expr} {te : TED} {pos p2 : Pos}
end
end Dv

/-! l.index(x, from): the first place of an equal one, from a place on. -/
namespace L2
open PySem PySem.Spec PyProof.Rows
section
variable {X : Cx}
end
end L2
namespace Dv
open PySem L2 PyProof.Rows Hx
end Dv

/-! A written tuple, known whole. -/
namespace Dv
open PySem PySem.Spec PyProof.Rows L2 Hx
section
variable {X : Cx} {W : Wi} {es : List Expr} {pos : Pos}
end
end Dv

/-! A lambda of one parameter as a value; min by it. -/
namespace Hx
open PySem PySem.Spec PyProof.Rows L2 HotX LamX
section
variable {X : Cx} {pins : List (Addr × Obj)} {σ : L2.St} {H HZ : Hp} {s : Shared}
end
end Hx

/-! Readings by value: min by a lambda of one parameter. -/
namespace Dv
open PySem L2 PyProof.Rows Hx
section
variable {X : Cx} {W : Wi} {k : Nat} {c P : Addr} {p : Str} {e : Expr} {te : TED} {params : Arguments} {body : Expr} {scope : Scope} {p1 lpos p3 pos : Pos}
end
end Dv

/-! l.remove(x), l.pop(), l.pop(i) of a tracked list. -/
namespace L2
open PySem PySem.Spec PyProof.Rows
section
variable {X : Cx}
end
end L2
namespace Dv
open PySem L2 PyProof.Rows Hx
section
variable {K : PySem.W.Frag} {H : Hp} {S : Sd}
end
end Dv

/-! Dicts by value: dict(list of pairs), d[key], key in d, list(d). -/
namespace Dv
open PySem L2 PyProof.Rows Hx
section
variable {K : PySem.W.Frag} {H : Hp} {S : Sd}
end
end Dv

/-! isinstance(x, (A, B, ..)) of data, A, B built-in classes. -/
namespace Dv
open PySem PySem.Spec PyProof.Rows L2
section
variable {S : Sd} {Q : DK}
end
end Dv

/-! set(list) of different values of any one kind -/
namespace Hx
open PySem PySem.Spec PyProof.Rows L2
section
variable {P : Program} {w : World} {B : Around} {Rz : Result → Shared → Prop} {it : Addr} {fp wr : List Addr} {Gz : Array GenState → Array GenState → Prop} {n : Nat} {Pv : Nat → Value → Prop} {Sv : Nat → Shared → Prop}
theorem setOf_moved {K : Type} [DecidableEq K] {kd : KeyKind P w K} {h h' : Heap} {b : Addr} {F : K → Bool} {m : Nat} (x : h.SetOf kd b F m) (hk : ∀ o, h.get? b = some o → h'.get? b = some o) : h'.SetOf kd b F m := by
  obtain ⟨o, es, ep, tb, ho, q⟩ := x
  exact ⟨o, es, ep, tb, hk o ho, q⟩
theorem set_loop {K : Type} [DecidableEq K] {kd : KeyKind P w K} (Wk : WalksS P w B.in1 it fp wr Gz n Pv Sv) (b : Addr) (hb : b ∉ fp) (ks : List K) (hl : ks.length = n) (nd : ks.Nodup) (few : n + 1 < scanBound)
    (hv : ∀ i v, Pv i v → ∃ k, ks[i]? = some k ∧ kd.is k v = true ∧ v.scannable = true) :
    ∀ (m i : Nat) (s : Shared), i + m = n → Sv i s → s.heap.SetOf kd b (fun z => decide (z ∈ ks.take i)) i →
      (∀ s', Moved (b :: wr) Gz s s' → s'.heap.SetOf kd b (fun z => decide (z ∈ ks.take n)) n → Rz (.ok (.ret .none)) s') →
      codeAny (model P w) B (.builtin "set.update.loop" ⟨[.ref b, .ref it], []⟩) Rz s := by
  have nw : b ∉ wr := fun z => hb (Wk.sub _ z)
  have up : ∀ c ∈ wr, c ∈ b :: wr := fun c z => List.mem_cons_of_mem _ z
  intro m
  induction m with
  | zero =>
    intro i s e hs x out
    rw [Nat.add_zero] at e
    subst e
    refine codeAny_builtin PyProof.Rows.F.entry_set_update_loop ?_
    rw [Around.under_plainId PyProof.Rows.F.plain_set_update_loop]
    refine (show wpAny _ B.in1 (pyNext (.ref it) >>= _) _ _ s from wpAny_bind (Wk.done s _ _ hs fun s2 mv => ?_))
    exact (show wpAny _ B.in1 (ret Value.none) _ _ s2 from wpAny_pure (out s2 (mv.mono up) (setOf_moved x fun o => mv.heap b o nw)))
  | succ m ih =>
    intro i s e hs x out
    have lt : i < n := by omega
    refine codeAny_builtin PyProof.Rows.F.entry_set_update_loop ?_
    rw [Around.under_plainId PyProof.Rows.F.plain_set_update_loop]
    refine (show wpAny _ B.in1 (pyNext (.ref it) >>= _) _ _ s from wpAny_bind (Wk.item i s _ _ lt hs fun v s2 hp hs2 mv => ?_))
    obtain ⟨k, hk, ik, sc⟩ := hv i v hp
    have x2 := setOf_moved x fun o => mv.heap b o nw
    refine (show wpAny _ B.in1 (holding [v] (setAdd b v) >>= _) _ _ s2 from wpAny_bind (wpAny_holding ?_))
    unfold setAdd
    refine wpAny_holding (wpAny_bind (kd.pyHash ik ?_))
    refine wpAny_setAddHashed_of (knd := kd) (s := { s2 with toks := s2.toks + 1 }) ik sc x2 (by omega) fun h3 sb x3 => ?_
    obtain ⟨hi, ek⟩ := List.getElem?_eq_some_iff.mp hk
    have new : k ∉ ks.take i := fun z => by
      obtain ⟨j, hj, ej⟩ := List.getElem_of_mem z
      rw [List.length_take] at hj
      rw [List.getElem_take] at ej
      exact absurd (ej.trans ek.symm) (List.pairwise_iff_getElem.mp nd j i (by omega) hi (by omega))
    have x4 : h3.SetOf kd b (fun z => decide (z ∈ ks.take (i + 1))) (i + 1) := by
      have ef : (fun z => decide (z ∈ ks.take (i + 1))) = fun z => decide (z ∈ ks.take i) || decide (z = k) := by
        funext z
        rw [List.take_succ, hk]
        simp
      rw [ef]
      rw [decide_eq_false new] at x3
      exact x3
    refine wpAny_pure ⟨plainId_quiet PyProof.Rows.F.plain_set_update_loop _, ih (i + 1) _ (by omega) (Wk.frame _ s2 _ _ hs2 (Nat.le_succ _) fun c hc o ho => ?_) x4 fun s5 mv5 x5 => ?_⟩
    · rw [sb.2 c fun z => hb (z ▸ hc)]
      exact ho
    · refine out s5 (Moved.trans Wk.gtrans ((mv.mono up).then_heap (Nat.le_succ _) fun c o hc ho => ?_) mv5) x5
      rw [sb.2 c fun z => hc (z ▸ List.mem_cons_self)]
      exact ho
end
section
variable {P : Program} {w : World} {B : Around} {E : Value → Shared → Prop} {s : Shared}
abbrev setNew (led : Bool) : Obj := { cls := .type "set", dict := none, data := .set #[] 0 (.fresh 0 0 led) }
theorem call_set_keys {K : Type} [DecidableEq K] {kd : KeyKind P w K} {l : Addr} {its : Array Value} {ks : List K} {Q : Value → Shared → Prop} (hh : B.handled = none) (hl : s.heap.IsList l its) (el : ks.length = its.size) (nd : ks.Nodup) (few : its.size + 1 < scanBound)
    (hv : ∀ (i : Nat) (v : Value), its[i]? = some v → ∃ k, ks[i]? = some k ∧ kd.is k v = true ∧ v.scannable = true)
    (h : ∀ (h' : Heap) (tk : Nat), h'.SetOf kd s.heap.objs.size (fun z => decide (z ∈ ks.take its.size)) its.size → (∀ b o, b < s.heap.objs.size → s.heap.get? b = some o → h'.get? b = some o) → Q (.ref s.heap.objs.size) { s with heap := h', toks := tk }) :
    wpAny (model P w) B (call (.type "set") [.ref l]) Q E s := by
  have ⟨c0, tl0, mro⟩ := PySem.F.called_set.mro
  have made := PySem.F.called_set.made; have sub := PySem.F.called_set.sub
  refine wpAny_call (codeAny_of_tree ?_)
  refine (show wpAny _ _ (callAny (.type "set") _) _ _ _ from wpAny_pure ⟨Code.quiet_builtin _ (by decide +kernel), codeAny_builtin PySem.F.entry_type_call ?_⟩)
  rw [Around.under_plain (weight_type_call_type "set" [.ref l] []) rfl]
  have nt := PySem.F.called_set.notType; have cc := PySem.F.called_set.canCreate; have tc := PySem.F.typeCall_set_1 (.ref l)
  repeat (any_goals (first | assumption | wp_step))
  refine codeAny_mono (code_set_new_1 (.ref l) (E := E) (Q₁ := fun ob s1 => ∃ led : Bool, ob = .ref s.heap.objs.size ∧ s1 = { s with heap := s.heap.push (setNew led) }) fun led => ⟨led, rfl, rfl⟩) fun r s1 hr => ?_
  match r, hr with
  | .error e, hr => exact hr
  | .ok .next, hr => exact hr.elim
  | .ok .brk, hr => exact hr.elim
  | .ok .cont, hr => exact hr.elim
  | .ok (.ret ob), hr =>
  obtain ⟨led, rfl, rfl⟩ := hr
  have at_ : (s.heap.push (setNew led)).get? s.heap.objs.size = some (setNew led) := Heap.get?_push_size _ rfl
  have ty : Shared.TypeIs { s with heap := s.heap.push (setNew led) } (.ref s.heap.objs.size) "set" := ⟨_, at_, rfl⟩
  have li := PySem.F.called_set.init.lookup; have bi := PySem.F.called_set.init.bind (.ref s.heap.objs.size)
  repeat (any_goals (first | assumption | wp_step))
  refine codeAny_mono (codeAny_call_builtin (R := wants (fun r s2 => r = .none ∧ ∃ h' tk, s2 = { s with heap := h', toks := tk } ∧ h'.SetOf kd s.heap.objs.size (fun z => decide (z ∈ ks.take its.size)) its.size ∧ ∀ b o, b < s.heap.objs.size → s.heap.get? b = some o → h'.get? b = some o) E)
    PySem.F.called_set.init.plain PySem.F.entry_set_init (check_set_init_1 ty ?_)) fun r2 s2 hr2 => ?_
  · obtain ⟨⟨lc, ld, lt, lsl⟩, ho, hc, m, hd⟩ := hl
    simp only at hc hd
    subst hc hd
    have hl1 : (s.heap.push (setNew led)).IsList l its := ⟨_, Heap.get?_push_of_some _ ho, rfl, m, rfl⟩
    have ho1 := Heap.get?_push_of_some (setNew led) ho
    have s1 := PySem.F.sub_list_set; have s2 := PySem.F.sub_list_frozenset; have nd1 : (Value.type "list" == Value.type "dict") = false := by decide
    unfold Builtin.«set.__init__» noKeywords Builtin.Frozenset.updateFrom
    generalize hg : pyIter = pit
    wp_walk
    subst hg
    refine wpAny_pyIter_list hl1 (wpAny_bind (wpAny_runValue ?_))
    have ls := Heap.lt_size ho
    have nI : l ≠ (s.heap.push (setNew led)).objs.size := by rw [Heap.size_push]; exact Nat.ne_of_lt (Nat.lt_succ_of_lt ls)
    refine set_loop (kd := kd) ((Walks.list (show B.in1.in1.in1.handled = none by simp [hh]) _ l nI its).toS) s.heap.objs.size ?_ ks el nd few hv its.size 0 _ (Nat.zero_add _) ⟨⟨_, Heap.get?_push_size _ rfl, rfl, rfl⟩, (hl1.push _)⟩ ?_ ?_
    · rw [Heap.size_push]
      intro z
      rcases List.mem_cons.mp z with z | z
      · exact absurd z (Nat.ne_of_lt (Nat.lt_succ_self _))
      · exact absurd (List.mem_singleton.mp z) (Nat.ne_of_gt ls)
    · exact PyProof.Rows.SetOf_congr ((PyProof.Rows.setObjOf_fresh (knd := kd) led).setOf (Heap.get?_push_of_some _ at_) (by unfold scanBound; omega)) (fun _ => by simp) rfl
    · rintro ⟨h5, g5, d5, t5, o5⟩ mv x5
      obtain rfl : g5 = s.gens := mv.gens
      obtain rfl : d5 = s.drawn := mv.drawn
      obtain rfl : o5 = s.os := mv.os
      refine (show wpAny _ _ _ _ _ _ from wpAny_pure (show wpAny _ _ (ret Value.none) _ _ _ from wpAny_pure ⟨rfl, h5, t5, rfl, x5, fun b o hb e => ?_⟩))
      refine mv.heap b o (fun z => ?_) (Heap.get?_push_of_some _ (Heap.get?_push_of_some _ e))
      rcases List.mem_cons.mp z with z | z
      · exact absurd z (Nat.ne_of_lt hb)
      · have z := List.mem_singleton.mp z
        rw [Heap.size_push] at z
        exact absurd z (Nat.ne_of_lt (Nat.lt_succ_of_lt hb))
  · match r2, hr2 with
    | .error e, hr2 => exact hr2
    | .ok .next, hr2 => exact hr2.elim
    | .ok .brk, hr2 => exact hr2.elim
    | .ok .cont, hr2 => exact hr2.elim
    | .ok (.ret r), hr2 =>
      obtain ⟨rfl, h5, t5, rfl, x5, k5⟩ := hr2
      repeat (any_goals (first | assumption | wp_step))
      exact h _ _ x5 k5
end
/-- len(set(xs)), different texts -/
def tLenSetS (K : PySem.W.Frag) (ta : TE) : TE := fun σ H Q => ta σ H fun x H1 => ∃ (l : Addr) (zs : List Str), x = V.ref l ∧ SqL K H1 l (zs.map V.str) ∧ zs.length < 1000 ∧ zs.Nodup ∧ Q (.int zs.length) H1
theorem strs_vals : ∀ {zs : List Str} {us : List Value}, Vals (zs.map V.str) us → us.length = zs.length ∧ ∀ (i : Nat) (v : Value), us[i]? = some v → ∃ z t, zs[i]? = some z ∧ v = .str z t
  | [], _, .nil => ⟨rfl, fun i v h => by simp at h⟩
  | z :: zs, _, .cons r t => by
    obtain ⟨tk, rfl⟩ := r
    obtain ⟨l, at_⟩ := strs_vals t
    refine ⟨by rw [List.length_cons, List.length_cons, l], fun i v h => ?_⟩
    cases i with
    | zero => exact ⟨z, tk, rfl, (Option.some.inj h).symm⟩
    | succ i => exact at_ i v h
theorem pe_lenSetS {X : Cx} {a : Expr} {ta : TE} {p p2 q pos : Pos} (hc : X.calm = true) (hg : Gl X "len") (hm : X.mg "len" = none) (hg2 : Gl X "set") (hm2 : X.mg "set" = none) (ha : PE X a ta)
    (na : starEach [a] X.env = (false, eval a X.env) :: starEach [] X.env := by rfl) : PE X (.Call (.Name "len" p) [.Call (.Name "set" p2) [a] [] q] [] pos) (tLenSetS X.K ta) := by
  refine ⟨fun pins s σ H Q I h => Call_ (ld_blt I hg hm PySem.boot_len (PyProof.Rows.callWith_builtin1 (PyProof.Rows.args_cons (Call_ (ld_blt I hg2 hm2 PyProof.Rows.boot_set ?_)) rfl) rfl rfl))⟩
  refine PyProof.Rows.callWith_type1 (PyProof.Rows.args_cons (thn (ha.run pins s σ H _ I h) fun v s1 ⟨x, H1, I1, r1, l, zs, ex, hq, h1, hnd, q1⟩ => PyProof.Rows.args_nil ?_) na) na rfl
  subst ex
  cases r1
  obtain ⟨its, r, pl, hz⟩ := I1.list hq
  obtain ⟨el, at_⟩ := strs_vals r
  have es : its.toArray.size = zs.length := by rw [List.size_toArray, el]
  refine call_set_keys (kd := PySem.strKind X.prog X.w) (ks := zs) (I1.ok.hd hc) pl.isList es.symm hnd (by unfold scanBound; omega) (fun i v hi => ?_) fun h' tk hS hk => PyProof.Rows.args_nil ?_
  · obtain ⟨z, t, e1, e2⟩ := at_ i v (by simpa using hi)
    subst e2
    exact ⟨z, e1, strKind_is _ _ _ _, rfl⟩
  · rw [es] at hS
    obtain ⟨o, es2, ep, t, ho, hex, hd, _, _, _, hf, hn⟩ := hS
    have I2 : Inv X pins σ H1 { s1 with heap := h', toks := tk } := I1.kept fun b o e => hk b o (Heap.lt_size e) e
    exact call_len_set ho hex hd hf (by rw [hn]; omega) ⟨.int zs.length, H1, I2.tok _, ⟨_, by rw [hn]⟩, q1⟩
end Hx

/-! Readings by value: sorted(set(tuples of ints)), len(set(ints)), len(set(texts)). -/
namespace Dv
open PySem L2 PyProof.Rows Hx
def dLenSetS (te : TED) : TED := fun σ S Q => te σ S fun d S1 => ∃ zs : List Str, lstD S1 d = some (zs.map .str) ∧ zs.length < 1000 ∧ zs.Nodup ∧ Q (.int zs.length) S1
section
variable {X : Cx} {W : Wi} {e : Expr} {te : TED} {p p2 q pos : Pos}
theorem lenSetS_lift (σ : L2.St) (H : Hp) (Q : VK) (h : upE X.K W (dLenSetS te) σ H Q) : tLenSetS X.K (upE X.K W te) σ H Q := by
  obtain ⟨σd, S, fr, Qd, ok, cl, h, kq⟩ := h
  refine ⟨σd, S, fr, _, ok, cl, h, fun v d H1 S1 ok1 r1 ⟨ns, hl, h1, h2, z⟩ => ?_⟩
  obtain ⟨a, vs, rfl, q1, r2⟩ := rp_lstD ok1.rel r1 hl
  exact ⟨a, ns, rfl, by rw [← rpL_strs r2]; exact q1, h1, h2, kq _ _ H1 S1 ok1 (show Rp X.K H1 S1 (.int ns.length) _ from rfl) z⟩
theorem de_lenSetS (hc : X.calm = true) (hg : Gl X "len") (hm : X.mg "len" = none) (hg2 : Gl X "set") (hm2 : X.mg "set" = none) (he : DE X W e te)
    (na : starEach [e] X.env = (false, eval e X.env) :: starEach [] X.env := by rfl) : DE X W (.Call (.Name "len" p) [.Call (.Name "set" p2) [e] [] q] [] pos) (dLenSetS te) :=
  ⟨PE.imp (pe_lenSetS hc hg hm hg2 hm2 he.p na) lenSetS_lift⟩
end
end Dv

/-! sum of a tuple of ints -/
namespace Hx
open PySem PySem.Spec PyProof.Rows L2
section
variable {P : Program} {w : World} {B : Around} {E : Value → Shared → Prop} {s : Shared}
end
end Hx

/-! Readings by value: sum of a tuple of ints. -/
namespace Dv
open PySem L2 PyProof.Rows Hx
end Dv

/-! A written dict with text keys; a comprehension in an expression kept for changes; o[i] as one of several targets. -/
namespace Dv
open PySem L2 PyProof.Rows Hx
section
variable {X : Cx} {W : Wi} {pos : Pos}
end
end Dv

/-! max, min of a tuple of ints -/
namespace Hx
open PySem PySem.Spec PyProof.Rows L2
section
variable {X : Cx}
end
end Hx

/-! Readings by value: max, min of a tuple of ints. -/
namespace Dv
open PySem L2 PyProof.Rows Hx
end Dv

/-! repr of great ints and of tuples of such, where no limit of figures was set -/
namespace Hx
open PySem PySem.Spec PyProof.Rows L2
section
variable {prog : Program} {w : World} {h₀ : Heap}
end
end Hx

/-! Readings by value: repr of a tuple of great ints, of texts and of such tuples (int below 2 ^ 12800). -/
namespace Dv
open PySem L2 PyProof.Rows Hx
end Dv

/-! set(list) of nested tuples of ints with different hashes: the table runs by the hashes alone. -/
namespace Hx
open PySem PySem.Spec PyProof.Rows L2
/-- one hash more; none where the run would ask == or leave its room -/
def addH (p : List Int × SetTable) (h : Int) : Option (List Int × SetTable) :=
  if (p.2.fits p.1.length && !p.2.gaveWay) && decide (p.1.length < 1000) then
    match p.2.probe (fun i => p.1.getD i 0) h (p.2.probeStart h) with
    | some (.empty j none) =>
      let q := p.2.put j
      let hs := (SetTable.insertAt p.1.toArray q.2 h).toList
      if q.1.fits hs.length then
        if q.1.tooFull then
          match q.1.relaid hs.toArray (SetTable.grown hs.length) with
          | some r =>
            if (r.2.filterMap (hs.toArray[·]?)).size == hs.length && decide (SetTable.sizeAbove (SetTable.grown hs.length) ≤ 100000) then some ((r.2.filterMap (hs.toArray[·]?)).toList, r.1) else none
          | none => none
        else some (hs, q.1)
      else none
    | _ => none
  else none
def addHs : List Int → (List Int × SetTable) → Option (List Int × SetTable)
  | [], p => some p
  | h :: l, p => (addH p h).bind (addHs l)
def SetH (h : Heap) (b : Addr) (p : List Int × SetTable) : Prop :=
  ∃ o es ep, h.get? b = some o ∧ o.ExactSet ∧ o.data = .set es ep p.2 ∧ es.toList.map (·.1) = p.1
section
variable {P : Program} {w : World} {A : Around} {E : Value → Shared → Prop} {s : Shared}
theorem insertAt_map {α β : Type} (f : α → β) (xs : Array α) (p : Nat) (x : α) : (SetTable.insertAt xs p x).toList.map f = (SetTable.insertAt (xs.toList.map f).toArray p (f x)).toList := by
  rw [SetTable.toList_insertAt, SetTable.toList_insertAt]
  simp
theorem filt_map {α β : Type} (f : α → β) (xs : Array α) (r : Array Nat) : (r.filterMap (xs[·]?)).toList.map f = (r.filterMap ((xs.toList.map f).toArray[·]?)).toList := by
  rw [Array.toList_filterMap, Array.toList_filterMap, List.map_filterMap]
  congr 1
  funext i
  simp
theorem search_h {b x : Addr} {h : Int} {o : Obj} {es : Array (Int × Value)} {ep j : Nat} {t : SetTable} (ho : s.heap.get? b = some o) (hd : o.data = .set es ep t) (hf : t.fits es.size = true) (gw : t.gaveWay = false)
    (hpr : ∀ f : Nat → Int, (∀ i, f i = (es.toList.map (·.1)).getD i 0) → t.probe f h (t.probeStart h) = some (.empty j none)) {Q : SetFound → Shared → Prop} (out : Q (.free j false) s) :
    wpAny (model P w) A (setSearch b (.ref x) h true) Q E s := by
  unfold setSearch
  rw [show (100000 : Nat) = 99999 + 1 from rfl]
  unfold setSearchFrom
  refine wpAny_bind (wpAny_setState_of ho hd hf ?_)
  dsimp only
  refine wp_if_neg (by simp [gw]) ?_
  try refine wpAny_bind (wpAny_pure ?_)
  rw [Option.getD_none, hpr _ fun i => ?_]
  · dsimp only
    exact wpAny_pure out
  · show (es[i]?.map (·.1)).getD 0 = _
    rw [List.getD_eq_getElem?_getD, List.getElem?_map, Array.getElem?_toList]
theorem setAdd_h {b x : Addr} {h : Int} {p q : List Int × SetTable} (hS : SetH s.heap b p) (e : addH p h = some q)
    (hby : ∀ (Q' : Bool → Shared → Prop), Q' true s → wpAny (model P w) A (hashByValue 8 (.ref x)) Q' E s) {Q : Bool → Shared → Prop}
    (out : ∀ h', Heap.SameBut b s.heap h' → SetH h' b q → Q true { s with heap := h' }) :
    wpAny (model P w) A (setAddHashed b (.ref x) h) Q E s := by
  obtain ⟨o, es, ep, ho, hex, hd, hm⟩ := hS
  obtain ⟨hs, t⟩ := p
  simp only at hd hm
  have hl : es.size = hs.length := by rw [← hm, List.length_map, Array.length_toList]
  unfold addH at e
  simp only at e
  split at e
  case isFalse => cases e
  rename_i g
  rw [Bool.and_eq_true, Bool.and_eq_true, Bool.not_eq_true', decide_eq_true_eq] at g
  obtain ⟨⟨hf, gw⟩, few⟩ := g
  split at e
  case h_2 => cases e
  rename_i j hp
  have hf' : t.fits es.size = true := by rw [hl]; exact hf
  have hpr : ∀ f : Nat → Int, (∀ i, f i = (es.toList.map (·.1)).getD i 0) → t.probe f h (t.probeStart h) = some (.empty j none) := fun f hfe => by rw [← hp, funext hfe, hm]
  have nb : byScan (.ref x) es = false := by simp [byScan, Value.scannable]
  unfold setAddHashed
  refine wpAny_holding ?_
  rw [show (100000 : Nat) = 99999 + 1 from rfl, setAddHashedIn_succ]
  refine wpAny_bind (wpAny_setState_of ho hd hf' ?_)
  dsimp only
  refine wp_if_neg (by simp [nb]) ?_
  try refine wpAny_bind (wpAny_pure ?_)
  refine wpAny_bind (search_h ho hd hf' gw hpr ?_)
  dsimp only
  refine wpAny_bind (wpAny_setState_of ho hd hf' ?_)
  dsimp only
  have ein := insertAt_map (·.1) es (t.put j).2 (h, Value.ref x)
  rw [hm] at ein
  simp only at ein
  rw [← ein] at e
  have e1 : es.size + 1 = (SetTable.insertAt es (t.put j).2 (h, Value.ref x)).size := by
    have z := congrArg List.length (SetTable.toList_insertAt es (t.put j).2 (h, Value.ref x))
    rw [List.length_append, List.length_cons, List.length_take, List.length_drop, Array.length_toList, Array.length_toList] at z
    omega
  generalize SetTable.insertAt es (t.put j).2 (h, Value.ref x) = es1 at ein e e1 ⊢
  have el1 : (es1.toList.map (·.1)).length = es1.size := by rw [List.length_map, Array.length_toList]
  rw [el1] at e
  generalize (t.put j).1 = t1 at e ⊢
  split at e
  case isFalse => cases e
  rename_i hf1
  have tail : wpAny (model P w) A (do
      storeSet b es1 t1
      if (!false && t1.tooFull) = true then setRelay b (SetTable.grown (es.size + 1))
      return true) Q E s := by
    have hz : es1.size ≤ sizeLine := by rw [sizeLine_eq]; omega
    refine wpAny_bind (wpAny_storeSet_of ho hd ?_ hz)
    have sb : Heap.SameBut b s.heap (s.heap.update b (Obj.putSet es1 t1)) := Heap.SameBut.update ..
    have ho1 := store_at (es' := es1) (t' := t1) ho hd
    generalize s.heap.update b (Obj.putSet es1 t1) = h1 at sb ho1 ⊢
    split at e
    · rename_i hfull
      split at e
      case h_2 => cases e
      rename_i r hr
      split at e
      case isFalse => cases e
      rename_i g2
      rw [Bool.and_eq_true, decide_eq_true_eq, beq_iff_eq] at g2
      cases e
      obtain ⟨t2, order⟩ := r
      rw [e1]
      first
        | (refine wpAny_bind ?_; refine wp_if_pos (by simp [hfull]) ?_)
        | (refine wp_if_pos (by simp [hfull]) ?_; refine wpAny_bind ?_)
      rw [setRelay_eq]
      refine wpAny_bind (wpAny_setState_of ho1 rfl hf1 ?_)
      dsimp only
      refine wp_if_neg (by rw [sizeLine_eq]; omega) ?_
      try refine wpAny_bind (wpAny_pure ?_)
      have em : es1.map (·.1) = (es1.toList.map (·.1)).toArray := Array.toList_inj.mp (by rw [Array.toList_map])
      rw [em, hr]
      dsimp only
      have fm := filt_map (·.1) es1 order
      have fl : (order.filterMap (es1[·]?)).size = es1.size := by
        have h := congrArg List.length fm
        rw [List.length_map, Array.length_toList, Array.length_toList, g2.1] at h
        exact h
      refine wpAny_bind ?_
      refine wp_if_neg (by rw [fl]; simp) ?_
      try refine wpAny_bind (wpAny_pure ?_)
      refine wpAny_pure ?_
      dsimp only
      refine wpAny_storeSet_of ho1 rfl ?_ (by rw [fl]; exact hz)
      have sb2 : Heap.SameBut b h1 (h1.update b (Obj.putSet (order.filterMap (es1[·]?)) t2)) := Heap.SameBut.update ..
      refine wpAny_pure (out _ (sb.trans sb2) ⟨_, _, _, store_at ho1 rfl, ⟨hex.1, hex.2.1, hex.2.2⟩, rfl, fm⟩)
    · rename_i hfull
      cases e
      first
        | refine wp_if_neg (by simp [hfull]) ?_
        | (refine wpAny_bind ?_; refine wp_if_neg (by simp [hfull]) ?_; refine wpAny_pure ?_)
      exact wpAny_pure (out h1 sb ⟨_, _, _, ho1, ⟨hex.1, hex.2.1, hex.2.2⟩, rfl, rfl⟩)
  cases hp1 : t1.plain with
  | true =>
    first
      | (refine wpAny_bind ?_; refine wp_if_pos rfl ?_; refine hby _ ?_)
      | refine wp_if_pos rfl (wpAny_bind (hby _ ?_))
    simp only [if_true]
    exact tail
  | false =>
    first
      | (refine wpAny_bind ?_; refine wp_if_neg (by simp) ?_; refine wpAny_pure ?_)
      | (refine wp_if_neg (by simp) (wpAny_bind (wpAny_pure ?_)))
    simp only [if_true]
    exact tail

mutual
def onlyNum : NestedKey → Bool
  | .num _ => true
  | .tup ks => onlyNums ks
  | _ => false
def onlyNums : List NestedKey → Bool
  | [] => true
  | k :: ks => onlyNum k && onlyNums ks
end
theorem hashBy_key : ∀ (n : Nat) (k : NestedKey) (v : Value) (s : Shared) (Q : Bool → Shared → Prop), NestedIs s.heap k v → onlyNum k = true → k.depth ≤ n → Q true s → wpAny (model P w) A (hashByValue n v) Q E s := by
  intro n
  induction n with
  | zero =>
    intro k v s Q hk ho hd h
    cases hk with
    | int i t => rw [hashBy_int]; exact wpAny_pure h
    | @bool b _ e => unfold hashByValue; exact wpAny_pure h
    | none => simp [onlyNum] at ho
    | text => simp [onlyNum] at ho
    | tup => simp [NestedKey.depth] at hd
  | succ n ih =>
    intro k v s Q hk ho hd h
    cases hk with
    | int i t => rw [hashBy_int]; exact wpAny_pure h
    | @bool b _ e => unfold hashByValue; exact wpAny_pure h
    | none => simp [onlyNum] at ho
    | text => simp [onlyNum] at ho
    | @tup a o vs m ks hg hc hda hks =>
      unfold hashByValue
      refine wpAny_bind (wpAny_specialOf (T := "tuple") ⟨_, hg, hc⟩ F.slot_tuple_hash.lookup ?_)
      show wpAny _ _ (seqItems? (.ref a) >>= _) _ _ s
      refine wpAny_bind (wpAny_seqItems hg hda ?_)
      refine wpAny_bind ?_
      show wpAny _ _ (forIn vs _ _) _ _ s
      rw [← Array.forIn_toList]
      refine wpAny_forIn_list _ (fun rest r s' => r.1 = none ∧ s' = s ∧ ∃ l, NestedAll s.heap l rest ∧ onlyNums l = true ∧ NestedKey.depthAll l ≤ n) _ ?_ ?_ _ _ ⟨rfl, rfl, ks, hks, by simpa [onlyNum] using ho, by simpa [NestedKey.depth] using hd⟩
      · rintro v rest r s' ⟨hr, rfl, l, hl, hol, hdl⟩
        cases hl with
        | @cons k1 _ ks1 _ h1 h2 =>
          rw [onlyNums, Bool.and_eq_true] at hol
          rw [NestedKey.depthAll] at hdl
          refine wpAny_bind (ih k1 v s' _ h1 hol.1 (by omega) ?_)
          simp only [Bool.not_true, Bool.false_eq_true, if_false]
          exact wpAny_pure ⟨rfl, rfl, ks1, h2, hol.2, by omega⟩
      · rintro ⟨r1, r2⟩ s' ⟨hr, rfl, _⟩
        simp only at hr
        subst hr
        exact wpAny_pure h
end
section
variable {P : Program} {w : World} {B : Around} {Rz : Result → Shared → Prop} {it : Addr} {fp wr : List Addr} {Gz : Array GenState → Array GenState → Prop} {n : Nat} {Pv : Nat → Value → Prop} {Sv : Nat → Shared → Prop}
def KpH (h0 h : Heap) : Prop := ∀ c o, c < h0.objs.size → h0.get? c = some o → h.get? c = some o
theorem KpH.nest {h0 h : Heap} {k : NestedKey} {v : Value} (kp : KpH h0 h) (x : NestedIs h0 k v) : NestedIs h k v := x.at fun c o _ _ e _ => kp c o (Heap.lt_size e) e
theorem setH_moved {h h' : Heap} {b : Addr} {p : List Int × SetTable} (x : SetH h b p) (hk : ∀ o, h.get? b = some o → h'.get? b = some o) : SetH h' b p := by
  obtain ⟨o, es, ep, ho, q⟩ := x
  exact ⟨o, es, ep, hk o ho, q⟩
theorem set_loop_h (Wk : WalksS P w B.in1 it fp wr Gz n Pv Sv) (b : Addr) (hb : b ∉ fp) (h0 : Heap) (hN : ∀ c ∈ b :: wr, h0.objs.size ≤ c) (hu : B.units + 20 < cLine) (ks : List NestedKey) (hl : ks.length = n) (q : List Int × SetTable)
    (hv : ∀ i v, Pv i v → ∃ k a, ks[i]? = some k ∧ v = .ref a ∧ NestedIs h0 k v ∧ onlyNum k = true ∧ k.depth ≤ 8) :
    ∀ (m i : Nat) (s : Shared) (p : List Int × SetTable), i + m = n → Sv i s → SetH s.heap b p → addHs ((ks.drop i).map (·.hash w)) p = some q → KpH h0 s.heap →
      (∀ s', Moved (b :: wr) Gz s s' → SetH s'.heap b q → Rz (.ok (.ret .none)) s') →
      codeAny (model P w) B (.builtin "set.update.loop" ⟨[.ref b, .ref it], []⟩) Rz s := by
  have nw : b ∉ wr := fun z => hb (Wk.sub _ z)
  have up : ∀ c ∈ wr, c ∈ b :: wr := fun c z => List.mem_cons_of_mem _ z
  intro m
  induction m with
  | zero =>
    intro i s p e hs x ea kp out
    rw [Nat.add_zero] at e
    subst e
    rw [← hl, List.drop_length] at ea
    cases ea
    refine codeAny_builtin PyProof.Rows.F.entry_set_update_loop ?_
    rw [Around.under_plainId PyProof.Rows.F.plain_set_update_loop]
    refine (show wpAny _ B.in1 (pyNext (.ref it) >>= _) _ _ s from wpAny_bind (Wk.done s _ _ hs fun s2 mv => ?_))
    exact (show wpAny _ B.in1 (ret Value.none) _ _ s2 from wpAny_pure (out s2 (mv.mono up) (setH_moved x fun o => mv.heap b o nw)))
  | succ m ih =>
    intro i s p e hs x ea kp out
    have lt : i < n := by omega
    refine codeAny_builtin PyProof.Rows.F.entry_set_update_loop ?_
    rw [Around.under_plainId PyProof.Rows.F.plain_set_update_loop]
    refine (show wpAny _ B.in1 (pyNext (.ref it) >>= _) _ _ s from wpAny_bind (Wk.item i s _ _ lt hs fun v s2 hp hs2 mv => ?_))
    obtain ⟨k, a, hk, rfl, ik, ok, dk⟩ := hv i v hp
    have x2 := setH_moved x fun o => mv.heap b o nw
    have kp2 : KpH h0 s2.heap := fun c o hc ho => mv.heap c o (fun z => by have := hN c (up c z); omega) (kp c o hc ho)
    obtain ⟨hi, ek⟩ := List.getElem?_eq_some_iff.mp hk
    rw [List.drop_eq_getElem_cons hi, List.map_cons, addHs, ek] at ea
    obtain ⟨p2, e1, e2⟩ := Option.bind_eq_some_iff.mp ea
    refine (show wpAny _ B.in1 (holding [.ref a] (setAdd b (.ref a)) >>= _) _ _ s2 from wpAny_bind (wpAny_holding ?_))
    unfold setAdd
    refine wpAny_holding (wpAny_bind (pyHash_key k _ _ _ _ (kp2.nest ik) (by rw [Around.in1_units]; omega) ?_))
    refine setAdd_h (s := { s2 with toks := s2.toks + k.draws }) x2 e1 (fun Q' h => hashBy_key 8 k _ _ Q' (kp2.nest ik) ok dk h) fun h3 sb x3 => ?_
    refine wpAny_pure ⟨plainId_quiet PyProof.Rows.F.plain_set_update_loop _, ih (i + 1) _ p2 (by omega) (Wk.frame _ s2 _ _ hs2 (Nat.le_add_right _ _) fun c hc o ho => ?_) x3 e2 (fun c o hc ho => ?_) fun s5 mv5 x5 => ?_⟩
    · rw [sb.2 c fun z => hb (z ▸ hc)]
      exact ho
    · rw [sb.2 c fun z => by have := hN b List.mem_cons_self; subst z; omega]
      exact kp2 c o hc ho
    · refine out s5 (Moved.trans Wk.gtrans ((mv.mono up).then_heap (Nat.le_add_right _ _) fun c o hc ho => ?_) mv5) x5
      rw [sb.2 c fun z => hc (z ▸ List.mem_cons_self)]
      exact ho
end
section
variable {P : Program} {w : World} {B : Around} {E : Value → Shared → Prop} {s : Shared}
theorem call_set_hs {l : Addr} {its : Array Value} {ks : List NestedKey} {Q : Value → Shared → Prop} (hh : B.handled = none) (hu : B.units + 40 < cLine) (hl : s.heap.IsList l its) (el : ks.length = its.size)
    (hv : ∀ (i : Nat) (v : Value), its[i]? = some v → ∃ k a, ks[i]? = some k ∧ v = .ref a ∧ NestedIs s.heap k v ∧ onlyNum k = true ∧ k.depth ≤ 8)
    (fq : Bool → List Int × SetTable) (ea : ∀ led, addHs (ks.map (·.hash w)) ([], .fresh 0 0 led) = some (fq led))
    (h : ∀ (h' : Heap) (tk : Nat) (led : Bool), SetH h' s.heap.objs.size (fq led) → (∀ b o, b < s.heap.objs.size → s.heap.get? b = some o → h'.get? b = some o) → Q (.ref s.heap.objs.size) { s with heap := h', toks := tk }) :
    wpAny (model P w) B (call (.type "set") [.ref l]) Q E s := by
  have ⟨c0, tl0, mro⟩ := PySem.F.called_set.mro
  have made := PySem.F.called_set.made; have sub := PySem.F.called_set.sub
  refine wpAny_call (codeAny_of_tree ?_)
  refine (show wpAny _ _ (callAny (.type "set") _) _ _ _ from wpAny_pure ⟨Code.quiet_builtin _ (by decide +kernel), codeAny_builtin PySem.F.entry_type_call ?_⟩)
  rw [Around.under_plain (weight_type_call_type "set" [.ref l] []) rfl]
  have nt := PySem.F.called_set.notType; have cc := PySem.F.called_set.canCreate; have tc := PySem.F.typeCall_set_1 (.ref l)
  repeat (any_goals (first | assumption | wp_step))
  refine codeAny_mono (code_set_new_1 (.ref l) (E := E) (Q₁ := fun ob s1 => ∃ led : Bool, ob = .ref s.heap.objs.size ∧ s1 = { s with heap := s.heap.push (setNew led) }) fun led => ⟨led, rfl, rfl⟩) fun r s1 hr => ?_
  match r, hr with
  | .error e, hr => exact hr
  | .ok .next, hr => exact hr.elim
  | .ok .brk, hr => exact hr.elim
  | .ok .cont, hr => exact hr.elim
  | .ok (.ret ob), hr =>
  obtain ⟨led, rfl, rfl⟩ := hr
  have at_ : (s.heap.push (setNew led)).get? s.heap.objs.size = some (setNew led) := Heap.get?_push_size _ rfl
  have ty : Shared.TypeIs { s with heap := s.heap.push (setNew led) } (.ref s.heap.objs.size) "set" := ⟨_, at_, rfl⟩
  have li := PySem.F.called_set.init.lookup; have bi := PySem.F.called_set.init.bind (.ref s.heap.objs.size)
  repeat (any_goals (first | assumption | wp_step))
  refine codeAny_mono (codeAny_call_builtin (R := wants (fun r s2 => r = .none ∧ ∃ h' tk, s2 = { s with heap := h', toks := tk } ∧ SetH h' s.heap.objs.size (fq led) ∧ ∀ b o, b < s.heap.objs.size → s.heap.get? b = some o → h'.get? b = some o) E)
    PySem.F.called_set.init.plain PySem.F.entry_set_init (check_set_init_1 ty ?_)) fun r2 s2 hr2 => ?_
  · obtain ⟨⟨lc, ld, lt, lsl⟩, ho, hc, m, hd⟩ := hl
    simp only at hc hd
    subst hc hd
    have hl1 : (s.heap.push (setNew led)).IsList l its := ⟨_, Heap.get?_push_of_some _ ho, rfl, m, rfl⟩
    have ho1 := Heap.get?_push_of_some (setNew led) ho
    have s1 := PySem.F.sub_list_set; have s2 := PySem.F.sub_list_frozenset; have nd1 : (Value.type "list" == Value.type "dict") = false := by decide
    unfold Builtin.«set.__init__» noKeywords Builtin.Frozenset.updateFrom
    generalize hg : pyIter = pit
    wp_walk
    subst hg
    refine wpAny_pyIter_list hl1 (wpAny_bind (wpAny_runValue ?_))
    have ls := Heap.lt_size ho
    have nI : l ≠ (s.heap.push (setNew led)).objs.size := by rw [Heap.size_push]; exact Nat.ne_of_lt (Nat.lt_succ_of_lt ls)
    refine set_loop_h ((Walks.list (show B.in1.in1.in1.handled = none by simp [hh]) _ l nI its).toS) s.heap.objs.size ?_ s.heap ?_ (by simp only [Around.in1_units]; omega) ks el (fq led) hv its.size 0 _ ([], .fresh 0 0 led) (Nat.zero_add _) ⟨⟨_, Heap.get?_push_size _ rfl, rfl, rfl⟩, (hl1.push _)⟩ ?_ ?_ ?_ ?_
    · rw [Heap.size_push]
      intro z
      rcases List.mem_cons.mp z with z | z
      · exact absurd z (Nat.ne_of_lt (Nat.lt_succ_self _))
      · exact absurd (List.mem_singleton.mp z) (Nat.ne_of_gt ls)
    · intro c hc
      rcases List.mem_cons.mp hc with hc | hc
      · exact hc ▸ Nat.le_refl _
      · have hc := List.mem_singleton.mp hc
        rw [hc, Heap.size_push]
        omega
    · exact ⟨_, _, _, Heap.get?_push_of_some _ at_, ⟨rfl, rfl, rfl⟩, rfl, rfl⟩
    · exact ea led
    · exact fun c o _ ho => Heap.get?_push_of_some _ (Heap.get?_push_of_some _ ho)
    · rintro ⟨h5, g5, d5, t5, o5⟩ mv x5
      obtain rfl : g5 = s.gens := mv.gens
      obtain rfl : d5 = s.drawn := mv.drawn
      obtain rfl : o5 = s.os := mv.os
      refine (show wpAny _ _ _ _ _ _ from wpAny_pure (show wpAny _ _ (ret Value.none) _ _ _ from wpAny_pure ⟨rfl, h5, t5, rfl, x5, fun b o hb e => ?_⟩))
      refine mv.heap b o (fun z => ?_) (Heap.get?_push_of_some _ (Heap.get?_push_of_some _ e))
      rcases List.mem_cons.mp z with z | z
      · exact absurd z (Nat.ne_of_lt hb)
      · have z := List.mem_singleton.mp z
        rw [Heap.size_push] at z
        exact absurd z (Nat.ne_of_lt (Nat.lt_succ_of_lt hb))
  · match r2, hr2 with
    | .error e, hr2 => exact hr2
    | .ok .next, hr2 => exact hr2.elim
    | .ok .brk, hr2 => exact hr2.elim
    | .ok .cont, hr2 => exact hr2.elim
    | .ok (.ret r), hr2 =>
      obtain ⟨rfl, h5, t5, rfl, x5, k5⟩ := hr2
      repeat (any_goals (first | assumption | wp_step))
      exact h _ _ led x5 k5
end
mutual
def NestR (K : PySem.W.Frag) (H : Hp) : NestedKey → V → Prop
  | .num i, v => v = .int i
  | .tup ks, v => ∃ a ws, v = .ref a ∧ SqT K H a ws ∧ NestRs K H ks ws
  | _, _ => False
def NestRs (K : PySem.W.Frag) (H : Hp) : List NestedKey → List V → Prop
  | [], vs => vs = []
  | k :: ks, vs => ∃ v vs', vs = v :: vs' ∧ NestR K H k v ∧ NestRs K H ks vs'
end
mutual
theorem nest_at {P : Program} {w : World} {K : PySem.W.Frag} {H : Hp} {h : Heap} (hok : HOk P w H h) (KX : K.In h) : ∀ (k : NestedKey) (v : V) (u : Value), NestR K H k v → RelV v u → NestedIs h k u
  | .num i, v, u, x, r => by
    rw [NestR] at x
    subst x
    obtain ⟨t, rfl⟩ := r
    exact .int i t
  | .tup ks, v, u, x, r => by
    rw [NestR] at x
    obtain ⟨a, ws, rfl, hs, hw⟩ := x
    cases r
    obtain ⟨its, o, n, hv, ho, hc, hd⟩ := sqT_at hok KX hs
    exact .tup ho hc hd (nests_at hok KX ks ws its hw hv)
  | .none, _, _, x, _ => by rw [NestR] at x <;> first | exact x.elim | (intros; contradiction)
  | .text _, _, _, x, _ => by rw [NestR] at x <;> first | exact x.elim | (intros; contradiction)
theorem nests_at {P : Program} {w : World} {K : PySem.W.Frag} {H : Hp} {h : Heap} (hok : HOk P w H h) (KX : K.In h) : ∀ (ks : List NestedKey) (vs : List V) (us : List Value), NestRs K H ks vs → Vals vs us → NestedAll h ks us
  | [], vs, us, x, r => by
    rw [NestRs] at x
    subst x
    cases r
    exact .nil
  | k :: ks, vs, us, x, r => by
    rw [NestRs] at x
    obtain ⟨v, vs', rfl, h1, h2⟩ := x
    cases r with
    | cons r1 r2 => exact .cons (nest_at hok KX k v _ h1 r1) (nests_at hok KX ks vs' _ h2 r2)
end
/-- len(set(xs)), nested tuples of ints with different hashes -/
def tLenSetT (w : World) (K : PySem.W.Frag) (ta : TE) : TE := fun σ H Q => ta σ H fun x H1 => ∃ (l : Addr) (vs : List V) (ks : List NestedKey) (fq : Bool → List Int × SetTable), x = V.ref l ∧ SqL K H1 l vs ∧ NestRs K H1 ks vs ∧
  (∀ k ∈ ks, (∃ l, k = .tup l) ∧ onlyNum k = true ∧ k.depth ≤ 8) ∧ (∀ led, addHs (ks.map (·.hash w)) ([], .fresh 0 0 led) = some (fq led) ∧ (fq led).1.length = ks.length ∧ (fq led).2.fits ks.length = true) ∧ ks.length < 1000 ∧ Q (.int ks.length) H1
theorem nestRs_len {K : PySem.W.Frag} {H : Hp} : ∀ {ks : List NestedKey} {vs : List V}, NestRs K H ks vs → vs.length = ks.length
  | [], vs, x => by rw [NestRs] at x; rw [x]; rfl
  | k :: ks, vs, x => by
    rw [NestRs] at x
    obtain ⟨v, vs', rfl, _, h2⟩ := x
    rw [List.length_cons, List.length_cons, nestRs_len h2]
theorem nestedAll_get {h : Heap} : ∀ {ks : List NestedKey} {us : List Value}, NestedAll h ks us → ∀ (i : Nat) (v : Value), us[i]? = some v → ∃ k, ks[i]? = some k ∧ NestedIs h k v
  | _, _, .nil, i, v, e => by simp at e
  | _, _, .cons h1 h2, i, v, e => by
    cases i with
    | zero => cases e; exact ⟨_, rfl, h1⟩
    | succ i => exact nestedAll_get h2 i v e
theorem vals_len : ∀ {vs : List V} {us : List Value}, Vals vs us → us.length = vs.length
  | [], _, .nil => rfl
  | _ :: _, _, .cons _ t => by rw [List.length_cons, List.length_cons, vals_len t]
theorem pe_lenSetT {X : Cx} {a : Expr} {ta : TE} {p p2 q pos : Pos} (hc : X.calm = true) (hu : X.A.units + 64 < cLine) (hg : Gl X "len") (hm : X.mg "len" = none) (hg2 : Gl X "set") (hm2 : X.mg "set" = none) (ha : PE X a ta)
    (na : starEach [a] X.env = (false, eval a X.env) :: starEach [] X.env := by rfl) : PE X (.Call (.Name "len" p) [.Call (.Name "set" p2) [a] [] q] [] pos) (tLenSetT X.w X.K ta) := by
  refine ⟨fun pins s σ H Q I h => Call_ (ld_blt I hg hm PySem.boot_len (PyProof.Rows.callWith_builtin1 (PyProof.Rows.args_cons (Call_ (ld_blt I hg2 hm2 PyProof.Rows.boot_set ?_)) rfl) rfl rfl))⟩
  refine PyProof.Rows.callWith_type1 (PyProof.Rows.args_cons (thn (ha.run pins s σ H _ I h) fun v s1 ⟨x, H1, I1, r1, l, vs, ks, fq, ex, hq, hn, hk, hf, few, q1⟩ => PyProof.Rows.args_nil ?_) na) na rfl
  subst ex
  cases r1
  obtain ⟨its, r, pl, hz⟩ := I1.list hq
  have el : its.toArray.size = ks.length := by rw [List.size_toArray, vals_len r, nestRs_len hn]
  have al := nests_at I1.hok I1.kIn ks vs its hn r
  refine call_set_hs (ks := ks) (I1.ok.hd hc) (by omega) pl.isList el.symm (fun i v hi => ?_) fq (fun led => (hf led).1) fun h' tk led hS hkp => PyProof.Rows.args_nil ?_
  · obtain ⟨k, e1, e2⟩ := nestedAll_get al i v (by simpa using hi)
    obtain ⟨⟨l2, rfl⟩, h2, h3⟩ := hk k (List.mem_of_getElem? e1)
    cases e2 with
    | @tup a o vs n _ x1 x2 x3 x4 => exact ⟨_, a, e1, rfl, .tup x1 x2 x3 x4, h2, h3⟩
  · obtain ⟨_, f1, f2⟩ := hf led
    obtain ⟨o, es, ep, ho, hex, hd, hmap⟩ := hS
    have hs : es.size = ks.length := by rw [← f1, ← hmap, List.length_map, Array.length_toList]
    have I2 : Inv X pins σ H1 { s1 with heap := h', toks := tk } := I1.kept fun b o e => hkp b o (Heap.lt_size e) e
    exact call_len_set ho hex hd (by rw [hs]; exact f2) (by rw [hs]; omega) ⟨.int ks.length, H1, I2.tok _, ⟨_, by rw [hs]⟩, q1⟩
end Hx

/-! len(set(tuples of tuples of ints)) by value; list.count of texts. -/
namespace Dv
open PySem PySem.Spec L2 PyProof.Rows Hx
mutual
def nhash : NestedKey → Int
  | .num i => hashInt i
  | .tup ks => reduceHash (Builtin.Tuple.tupleHashOf (nhashes ks))
  | _ => 0
def nhashes : List NestedKey → List Int
  | [] => []
  | k :: ks => nhash k :: nhashes ks
end
mutual
theorem nhash_eq (w : World) : ∀ k : NestedKey, onlyNum k = true → k.hash w = nhash k
  | .num i, _ => rfl
  | .tup ks, h => by rw [onlyNum] at h; rw [NestedKey.hash, nhash, nhashes_eq w ks h]
  | .none, h => by rw [onlyNum] at h <;> first | cases h | (intros; contradiction)
  | .text _, h => by rw [onlyNum] at h <;> first | cases h | (intros; contradiction)
theorem nhashes_eq (w : World) : ∀ ks : List NestedKey, onlyNums ks = true → NestedKey.hashes w ks = nhashes ks
  | [], _ => rfl
  | k :: ks, h => by
    rw [onlyNums, Bool.and_eq_true] at h
    rw [NestedKey.hashes, nhashes, nhash_eq w k h.1, nhashes_eq w ks h.2]
end
mutual
def keyD : NestedKey → D
  | .num i => .int i
  | .tup ks => .tup (keyDs ks)
  | _ => .non
def keyDs : List NestedKey → List D
  | [] => []
  | k :: ks => keyD k :: keyDs ks
end
mutual
theorem nkey_rp {K : PySem.W.Frag} {H : Hp} {S : Sd} : ∀ (k : NestedKey) (v : V), onlyNum k = true → Rp K H S (keyD k) v → NestR K H k v
  | .num i, v, _, r => by rw [keyD] at r; rw [NestR]; exact r
  | .tup ks, v, h, r => by
    rw [onlyNum] at h
    rw [keyD] at r
    obtain ⟨a, ws, e, hs, hw⟩ := r
    rw [NestR]
    exact ⟨a, ws, e, hs, nkeys_rp ks ws h hw⟩
  | .none, _, h, _ => by rw [onlyNum] at h <;> first | cases h | (intros; contradiction)
  | .text _, _, h, _ => by rw [onlyNum] at h <;> first | cases h | (intros; contradiction)
theorem nkeys_rp {K : PySem.W.Frag} {H : Hp} {S : Sd} : ∀ (ks : List NestedKey) (vs : List V), onlyNums ks = true → RpL K H S (keyDs ks) vs → NestRs K H ks vs
  | [], vs, _, r => by rw [NestRs]; exact r
  | k :: ks, vs, h, r => by
    rw [onlyNums, Bool.and_eq_true] at h
    rw [keyDs] at r
    obtain ⟨v, r', e, h1, h2⟩ := r
    rw [NestRs]
    exact ⟨v, r', e, nkey_rp k v h.1 h1, nkeys_rp ks r' h.2 h2⟩
end
def dLenSetT (te : TED) : TED := fun σ S Q => te σ S fun d S1 => ∃ (ks : List NestedKey) (fq : Bool → List Int × SetTable), lstD S1 d = some (keyDs ks) ∧ (∀ k ∈ ks, (∃ l, k = .tup l) ∧ onlyNum k = true ∧ k.depth ≤ 8) ∧
  (∀ led, addHs (ks.map nhash) ([], .fresh 0 0 led) = some (fq led) ∧ (fq led).1.length = ks.length ∧ (fq led).2.fits ks.length = true) ∧ ks.length < 1000 ∧ Q (.int ks.length) S1
theorem onlyNums_of : ∀ {ks : List NestedKey}, (∀ k ∈ ks, onlyNum k = true) → onlyNums ks = true
  | [], _ => rfl
  | k :: ks, h => by rw [onlyNums, h k List.mem_cons_self, onlyNums_of fun k' h' => h k' (List.mem_cons_of_mem _ h')]; rfl
section
variable {X : Cx} {W : Wi} {e : Expr} {te : TED} {p p2 q pos : Pos}
theorem lenSetT_lift (σ : L2.St) (H : Hp) (Q : VK) (h : upE X.K W (dLenSetT te) σ H Q) : tLenSetT X.w X.K (upE X.K W te) σ H Q := by
  obtain ⟨σd, S, fr, Qd, ok, cl, h, kq⟩ := h
  refine ⟨σd, S, fr, _, ok, cl, h, fun v d H1 S1 ok1 r1 ⟨ks, fq, hl, hk, hf, few, z⟩ => ?_⟩
  obtain ⟨a, vs, rfl, q1, r2⟩ := rp_lstD ok1.rel r1 hl
  have eh : ks.map (·.hash X.w) = ks.map nhash := List.map_congr_left fun k h => nhash_eq X.w k (hk k h).2.1
  exact ⟨a, vs, ks, fq, rfl, q1, nkeys_rp ks vs (onlyNums_of fun k h => (hk k h).2.1) r2, hk, fun led => by rw [eh]; exact hf led, few, kq _ _ H1 S1 ok1 (show Rp X.K H1 S1 (.int ks.length) _ from rfl) z⟩
theorem de_lenSetT (hc : X.calm = true) (hu : X.A.units + 64 < cLine) (hg : Gl X "len") (hm : X.mg "len" = none) (hg2 : Gl X "set") (hm2 : X.mg "set" = none) (he : DE X W e te)
    (na : starEach [e] X.env = (false, eval e X.env) :: starEach [] X.env := by rfl) : DE X W (.Call (.Name "len" p) [.Call (.Name "set" p2) [e] [] q] [] pos) (dLenSetT te) :=
  ⟨PE.imp (pe_lenSetT hc hu hg hm hg2 hm2 he.p na) lenSetT_lift⟩
end
def isTextOf (c : Str) : Value → Bool
  | .str a _ => a == c
  | _ => false
def rLstCntS (K : PySem.W.Frag) : V → List V → Hp → VK → Prop := fun o as H Q =>
  ∃ p, ∃ bs : List Str, ∃ c, o = .ref p ∧ as = [.str c] ∧ SqL K H p (bs.map V.str) ∧ Q (.int (bs.count c : Nat)) H
theorem cntS_cells {c : Str} : ∀ {bs : List Str} {cells : List Value}, Vals (bs.map V.str) cells → cells.countP (isTextOf c) = bs.count c
  | [], _, r => by cases r; rfl
  | b :: bs, _, r => by
    cases r with
    | cons h t =>
      obtain ⟨u, rfl⟩ := h
      rw [List.countP_cons, List.count_cons, cntS_cells t]
      rfl
theorem text_at {c : Str} {tk : Tok} : ∀ {bs : List Str} {cells : List Value}, Vals (bs.map V.str) cells → ∀ w ∈ cells, ∀ (A : Around) (s : Shared), SeqAt.EqAt A s w (.str c tk) (isTextOf c w)
  | [], _, r, w, hw => by cases r; cases hw
  | b :: bs, _, r, w, hw => by
    cases r with
    | cons h t =>
      obtain ⟨u, rfl⟩ := h
      rcases List.mem_cons.mp hw with rfl | hw
      · exact fun A s => SeqAt.EqAt.str_str b u c tk
      · exact text_at t w hw
theorem mt_lstCntS {X : Cx} : MtR X "list.count" (rLstCntS X.K) := fun pins s σ H o as v us Q I ro ras h => by
  obtain ⟨p, bs, c, rfl, rfl, hq, q⟩ := h
  cases ro
  obtain ⟨u, rfl, ru⟩ := vals1 ras
  obtain ⟨tk, rfl⟩ := ru
  obtain ⟨its, rv, ⟨⟨cls, dd, data, sl⟩, n, ho, hc, hdn, hd⟩, hlen⟩ := I.list hq
  simp only at hc hd
  subst hc hd
  refine call_meets PySem.F.slot_list_count ⟨_, ho, rfl⟩ PySem.F.entry_list_count (PySem.F.args_list_count_2 _ _) (SeqAt.list_countAt p its.toArray n dd sl (.str c tk) (isTextOf c)) ⟨ho, fun y hy => text_at rv y (by simpa using hy) _ _, ?_⟩
  have ec : its.toArray.toList.countP (isTextOf c) = bs.count c := cntS_cells rv
  rw [ec]
  exact ⟨.int (bs.count c : Nat), H, I.tok _, ⟨_, rfl⟩, q⟩
def rdLstCntS : RDM := fun o vs S Q => match o, vs with
  | .lst ds, [.str c] => ∃ bs : List Str, ds = bs.map D.str ∧ Q (.int (bs.count c : Nat)) S
  | _, _ => False
theorem lstCntS_lift {K : PySem.W.Frag} : LiftM K (rLstCntS K) rdLstCntS := fun H S fr σd σ x dx xs ds Qv Qd ok rx rs h k => by
  match dx, ds, h with
  | .lst es, [.str c], h =>
    obtain ⟨bs, rfl, q⟩ := h
    obtain ⟨v, rfl, r1⟩ := rpL1 rs
    have e : v = .str c := r1
    subst e
    obtain ⟨a, vs, rfl, hq, r2⟩ := rp_list ok.rel rx
    cases rpL_strs r2
    exact ⟨a, bs, c, rfl, rfl, hq, k _ (.int _) H S ok rfl q⟩
section
variable {X : Cx} {W : Wi} {o e : Expr} {es : List Expr} {to : TED} {t : TAD} {apos cpos : Pos}
theorem de_lstCntS (ho : DE X W o to) (ha : DA X W (e :: es) t) (hbase : attributeBase o "count" X.env (eval o X.env) = eval o X.env := by rfl)
    (hfew : ((backTo cpos (starEach (e :: es) X.env)).all (fun x => !x.1) && (backToKw cpos (keywordEach [] X.env)).all (fun x => x.1.isSome)
      && decide ((e :: es).length + ([] : List Keyword).length + (if ([] : List Keyword).isEmpty then 0 else 1) < 30)) = true := by rfl)
    (hline : (apos.endLine == cpos.line) = true := by rfl) (hs : starEach (e :: es) X.env = (false, eval e X.env) :: starEach es X.env := by rfl) (hplain : (backTo cpos (starEach es X.env)).any (·.1) = false := by rfl) :
    DE X W (.Call (.Attribute o "count" apos) (e :: es) [] cpos) (dBM "list" rdLstCntS to t) :=
  de_bm PySem.F.plainAttrs_list PySem.F.slot_list_count PySem.F.type_list_count mt_lstCntS lstCntS_lift ho ha hbase hfew hline hs hplain
end
end Dv

/-! Readings by value, z: urns, draws, small data, words. -/
namespace Dv
open PySem L2 PyProof.Rows
theorem mulOk {a b : Int} (m n : Nat) (ha : a.natAbs < 2 ^ m) (hb : b.natAbs < 2 ^ n) (h0 : 0 < m) (h1 : 0 < n) (h : m + n ≤ 1000000) : a.natAbs.log2 + b.natAbs.log2 < 1000000 := by
  have x := log2_lt ha h0
  have y := log2_lt hb h1
  omega
theorem powOk {a : Int} (m : Nat) (j : Int) (ha : a.natAbs < 2 ^ m) (h0 : 0 < m) (hj : 0 ≤ j) (h : (m : Int) * j ≤ 134217728) : 0 ≤ j ∧ ((a.natAbs.log2 : Int) + 1) * j ≤ 134217728 := by
  have x := log2_lt ha h0
  refine ⟨hj, Int.le_trans (Int.mul_le_mul_of_nonneg_right ?_ hj) h⟩
  omega
theorem fmod_in {a b : Int} (h : 0 < b) : 0 ≤ a.fmod b ∧ a.fmod b < b := by
  rw [Int.fmod_eq_emod_of_nonneg a (Int.le_of_lt h)]
  exact ⟨Int.emod_nonneg a (by omega), Int.emod_lt_of_pos a h⟩
theorem abs_lt_of {a : Int} {n : Nat} (h0 : 0 ≤ a) (h1 : a < 2 ^ n) : a.natAbs < 2 ^ n := by
  have e : ((2 ^ n : Nat) : Int) = 2 ^ n := by simp
  omega
def primes : List D := [.int 2147483647, .int 2147483629, .int 2147483587, .int 2147483579, .int 2147483563, .int 2147483549, .int 2147483543]
theorem primes_at {k : Int} (h0 : 0 ≤ k) (h1 : k < 7) : ∃ p, atI primes k = some (.int p) ∧ 2147483543 ≤ p ∧ p < 2147483648 := by
  have c : k = 0 ∨ k = 1 ∨ k = 2 ∨ k = 3 ∨ k = 4 ∨ k = 5 ∨ k = 6 := by omega
  rcases c with rfl | rfl | rfl | rfl | rfl | rfl | rfl
  · exact ⟨2147483647, atI_nat (j := 0) rfl, by decide, by decide⟩
  · exact ⟨2147483629, atI_nat (j := 1) rfl, by decide, by decide⟩
  · exact ⟨2147483587, atI_nat (j := 2) rfl, by decide, by decide⟩
  · exact ⟨2147483579, atI_nat (j := 3) rfl, by decide, by decide⟩
  · exact ⟨2147483563, atI_nat (j := 4) rfl, by decide, by decide⟩
  · exact ⟨2147483549, atI_nat (j := 5) rfl, by decide, by decide⟩
  · exact ⟨2147483543, atI_nat (j := 6) rfl, by decide, by decide⟩
theorem ixN_0 {n : Nat} (h : 0 < n) : ixN n 0 = some 0 := ixN_nat h
theorem ixN_2 {n : Nat} (h : 2 < n) : ixN n 2 = some 2 := ixN_nat h
/-! ### small data -/
def isWh : D → Bool
  | .int _ => true
  | _ => false
theorem isWh_int {d : D} (h : isWh d = true) : ∃ i, d = .int i := by
  cases d <;> first | exact ⟨_, rfl⟩ | exact absurd (show false = true from h) Bool.false_ne_true
mutual
/-- ints below 2 ^ n, texts of at most 100000 signs -/
def sm (n : Nat) : D → Bool
  | .int i => decide (i.natAbs < 2 ^ n)
  | .str z => decide (z.length ≤ 100000)
  | .non => true | .bl _ => true
  | .tup ds => smL n ds
  | .lst ds => smL n ds
  | _ => false
def smL (n : Nat) : List D → Bool
  | [] => true
  | d :: ds => sm n d && smL n ds
end
theorem smL_iff {n : Nat} : ∀ {ds : List D}, smL n ds = true ↔ ∀ d ∈ ds, sm n d = true
  | [] => by simp [smL]
  | d :: ds => by
    have ih := smL_iff (n := n) (ds := ds)
    simp only [smL, Bool.and_eq_true, List.mem_cons, ih]
    constructor
    · rintro ⟨h1, h2⟩ x (rfl | hx)
      · exact h1
      · exact h2 x hx
    · intro h
      exact ⟨h d (.inl rfl), fun x hx => h x (.inr hx)⟩
mutual
theorem sm_data {n : Nat} : ∀ {d : D}, sm n d = true → isData d = true
  | .int _, _ => rfl
  | .non, _ => rfl
  | .bl _, _ => rfl
  | .str _, _ => rfl
  | .tup ds, h => smL_data (ds := ds) h
  | .lst ds, h => smL_data (ds := ds) h
  | .tupX _, h => absurd (show false = true from h) Bool.false_ne_true
  | .inst _ _ _, h => absurd (show false = true from h) Bool.false_ne_true
  | .obj _, h => absurd (show false = true from h) Bool.false_ne_true
  | .ty _, h => absurd (show false = true from h) Bool.false_ne_true
theorem smL_data {n : Nat} : ∀ {ds : List D}, smL n ds = true → isDataL ds = true
  | [], _ => rfl
  | d :: ds, h => by
    have h' := Bool.and_eq_true_iff.mp (show (sm n d && smL n ds) = true from h)
    show (isData d && isDataL ds) = true
    rw [sm_data h'.1, smL_data h'.2]
    rfl
end
theorem sm_int {n : Nat} {i : Int} : sm n (.int i) = true ↔ i.natAbs < 2 ^ n := by simp [sm]
theorem sm_str {n : Nat} {z : Str} : sm n (.str z) = true ↔ z.length ≤ 100000 := by simp [sm]
theorem smT {n : Nat} {ds : List D} : sm n (.tup ds) = true ↔ ∀ d ∈ ds, sm n d = true := smL_iff
/-! ### urns -/
def Urn (S : Sd) (u : Addr) (B : Int) : Prop := ∃ g c n, S u = some (.lst [.int g, .int c, .int n]) ∧ 0 ≤ g ∧ 0 ≤ c ∧ c < 2 ^ 70 ∧ 0 ≤ n ∧ n ≤ B
def Oth (S S' : Sd) (u : Addr) : Prop := ∀ a, a ≠ u → S' a = S a
theorem Oth.trans {S S1 S2 : Sd} {u : Addr} (h : Oth S S1 u) (k : Oth S1 S2 u) : Oth S S2 u := fun a ha => (k a ha).trans (h a ha)
theorem Oth.refl {S : Sd} {u : Addr} : Oth S S u := fun _ _ => rfl
theorem Urn.mono {S : Sd} {u : Addr} {B B' : Int} (h : Urn S u B) (hb : B ≤ B') : Urn S u B' := by
  obtain ⟨g, c, n, e, g0, c0, c1, n0, n1⟩ := h
  exact ⟨g, c, n, e, g0, c0, c1, n0, Int.le_trans n1 hb⟩
theorem Urn.oth {S S' : Sd} {p u : Addr} {B : Int} (h : Urn S u B) (ho : ∀ a, a ≠ p → S' a = S a) (hne : u ≠ p) : Urn S' u B := by
  obtain ⟨g, c, n, e, k⟩ := h
  exact ⟨g, c, n, (ho u hne).trans e, k⟩
theorem Urn.ne {S : Sd} {p u : Addr} {B : Int} (h : Urn S u B) (hp : S p = none) : u ≠ p := fun e => by
  obtain ⟨g, c, n, e2, _⟩ := h
  rw [e, hp] at e2
  cases e2
theorem Urn.up {S : Sd} {p u : Addr} {B : Int} {o : SO} (h : Urn S u B) (hne : u ≠ p) : Urn (upS S p o) u B := h.oth (fun a ha => upS_ne ha) hne
theorem Urn.del {S : Sd} {p u : Addr} {B : Int} (h : Urn S u B) (hne : u ≠ p) : Urn (del S p) u B := h.oth (fun a ha => del_ne ha) hne
theorem Oth.del {S S' : Sd} {p u : Addr} (h : ∀ a, a ≠ u → a ≠ p → S' a = S a) (hp : S p = none) : Oth S (del S' p) u := fun a ha => by
  by_cases e : a = p
  · rw [e, del_same, hp]
  · rw [del_ne e, h a ha e]
/-! ### parts -/
theorem cutD_len {xs : List D} {lo hi : Option Int} : (cutD xs lo hi).length ≤ xs.length := by
  unfold cutD
  rw [List.length_take, List.length_drop]
  omega
theorem sIx_lo {n : Nat} {i : Int} (h0 : 0 ≤ i) (h1 : i ≤ n) (b : Nat) : HT.sIx n b (some i) = i.toNat := by
  obtain ⟨k, rfl⟩ := Int.eq_ofNat_of_zero_le h0
  rw [HT.sIx_nat]
  show min k n = k
  omega
theorem cutS_take {l : List Nat} {i : Int} (h0 : 0 ≤ i) (h1 : i ≤ l.length) : cutS (ofL l) none (some i) = ofL (l.take i.toNat) := by
  refine str_ext ?_
  show (((ofL l).cps.toList.drop (HT.sIx (ofL l).length 0 none)).take (HT.sIx (ofL l).length (ofL l).length (some i) - HT.sIx (ofL l).length 0 none)) = _
  rw [ofL_len, sIx_lo h0 h1]
  show (l.drop 0).take (i.toNat - 0) = _
  rfl
theorem cutS_drop {l : List Nat} {i : Int} (h0 : 0 ≤ i) (h1 : i ≤ l.length) : cutS (ofL l) (some i) none = ofL (l.drop i.toNat) := by
  refine str_ext ?_
  show (((ofL l).cps.toList.drop (HT.sIx (ofL l).length 0 (some i))).take (HT.sIx (ofL l).length (ofL l).length none - HT.sIx (ofL l).length 0 (some i))) = _
  rw [ofL_len, sIx_lo h0 h1]
  show (l.drop i.toNat).take (l.length - i.toNat) = _
  rw [List.take_of_length_le (by rw [List.length_drop]; omega)]
  rfl
theorem cutS_mid {l : List Nat} {i j : Int} (h0 : 0 ≤ i) (h1 : i ≤ l.length) (h2 : 0 ≤ j) (h3 : j ≤ l.length) : cutS (ofL l) (some i) (some j) = ofL ((l.drop i.toNat).take (j.toNat - i.toNat)) := by
  refine str_ext ?_
  show (((ofL l).cps.toList.drop (HT.sIx (ofL l).length 0 (some i))).take (HT.sIx (ofL l).length (ofL l).length (some j) - HT.sIx (ofL l).length 0 (some i))) = _
  rw [ofL_len, sIx_lo h0 h1, sIx_lo h2 h3]
  rfl
/-! ### words: a is 97, b is 98 -/
def isAB (l : List Nat) : Bool := l.all fun c => decide (c = 97 ∨ c = 98)
theorem isAB_iff {l : List Nat} : isAB l = true ↔ ∀ c ∈ l, c = 97 ∨ c = 98 := by simp [isAB]
/-- the even word of b signs b among n -/
def evF (b n : Nat) : List Nat := (List.range n).map fun k => if (k + 1) * b / n = k * b / n then 97 else 98
theorem evF_len (b n : Nat) : (evF b n).length = n := by unfold evF; rw [List.length_map, List.length_range]
theorem evF_ab (b n : Nat) : isAB (evF b n) = true := isAB_iff.mpr fun c hc => by
  unfold evF at hc
  obtain ⟨k, _, rfl⟩ := List.mem_map.mp hc
  split
  · exact .inl rfl
  · exact .inr rfl
/-- the next step of a floor -/
theorem floor_step {b n k : Nat} (hb : b ≤ n) (hn : 0 < n) : (k + 1) * b / n = (if k * b % n + b < n then k * b / n else k * b / n + 1) ∧ (k + 1) * b % n = (if k * b % n + b < n then k * b % n + b else k * b % n + b - n) := by
  rw [Nat.succ_mul]
  generalize k * b = w
  have h1 := Nat.div_add_mod w n
  have h2 := Nat.mod_lt w hn
  generalize w / n = q at h1 ⊢
  generalize w % n = r at h1 h2 ⊢
  subst h1
  rw [Nat.add_assoc]
  split
  · rename_i h
    rw [Nat.mul_add_div hn, Nat.mul_add_mod, Nat.div_eq_of_lt h, Nat.mod_eq_of_lt h]
    exact ⟨rfl, rfl⟩
  · rename_i h
    have e2 : n * q + (r + b) = n * (q + 1) + (r + b - n) := by rw [Nat.mul_succ]; omega
    rw [e2, Nat.mul_add_div hn, Nat.mul_add_mod, Nat.div_eq_of_lt (by omega), Nat.mod_eq_of_lt (by omega)]
    exact ⟨rfl, rfl⟩
theorem evF_count {b n : Nat} (hb : b ≤ n) (hn : 0 < n) : (evF b n).count 98 = b := by
  have h : ∀ m, (((List.range m).map fun k => if (k + 1) * b / n = k * b / n then 97 else 98).count 98) = m * b / n := fun m => by
    induction m with
    | zero => simp
    | succ m ih =>
      rw [List.range_succ, List.map_append, List.count_append, ih, List.map_singleton, List.count_singleton]
      have f := (floor_step (k := m) hb hn).1
      rw [f]
      by_cases c : m * b % n + b < n
      · rw [if_pos c, if_pos rfl]; rfl
      · rw [if_neg c, if_neg (Nat.succ_ne_self _)]; rfl
  unfold evF
  rw [h, Nat.mul_comm, Nat.mul_div_cancel _ hn]
theorem count_eq (z : Str) (c : Nat) : Txt.count z ⟨#[c]⟩ = (z.cps.toList.count c : Nat) := by
  rw [PyProof.Rows.count_cnt]
  induction z.cps.toList with
  | nil => rfl
  | cons d r ih =>
    rw [PyProof.Rows.cnt_cons, ih, List.count_cons]
    by_cases h : d = c
    · subst h; simp; omega
    · have : (d == c) = false := by simpa using h
      simp [h, this]
theorem str_b : (Str.ofString "b") = ⟨#[98]⟩ := by decide +kernel
theorem str_a : (Str.ofString "a") = ⟨#[97]⟩ := by decide +kernel
theorem count_b (l : List Nat) : Txt.count (ofL l) "b" = (l.count 98 : Nat) := count_eq _ _
/-! ### of the functions that many laws share -/
def isWordD : D → Bool
  | .str z => decide (1 ≤ z.length ∧ z.length ≤ 60) && isAB z.cps.toList
  | _ => false
/-- a text's signs, held against a and b -/
def abD : D → D
  | .str z => .bl (isAB z.cps.toList)
  | _ => .non
theorem ab_cps : (Str.ofString "ab").cps.toList = [97, 98] := by decide +kernel
theorem abD_comp {i : Nat} {te : TED} {vs : List Nat} {σ : Si} {S : Sd} {Q : DK} {z : Str} (hte : ∀ c S' (Q' : DK), Q' (.bl (decide (c ∈ [97, 98]))) S' → te ((wipeD σ vs).set i (some (.str ⟨#[c]⟩))) S' Q') (hl : z.length ≤ 100000)
    (ti : TID) (hti : ∀ R : List D → Sd → Prop, R (sgD z) S → ti σ S R) (q : Q (.bl (isAB z.cps.toList)) S) : dComp ti (dName i) dYes te vs σ S fun x S1 => rdAll [x] S1 Q := by
  refine comp_pure abD (sgD z) S hti (fun x hx S' Q' q' => ?_) (by unfold sgD; rw [List.length_map]; show z.cps.toList.length ≤ _; rw [← x_len_strL]; omega) ?_
  · obtain ⟨c, _, rfl⟩ := List.mem_map.mp hx
    refine hte c S' Q' ?_
    have e : abD (.str ⟨#[c]⟩) = .bl (decide (c ∈ [97, 98])) := by
      show D.bl (isAB [c]) = _
      simp [isAB]
    rw [← e]; exact q'
  · refine x_allb (bs := z.cps.toList.map fun c => isAB [c]) ?_ ?_
    · unfold sgD
      rw [List.map_map, List.map_map]
      rfl
    · have e : (z.cps.toList.map fun c => isAB [c]).all id = isAB z.cps.toList := by
        rw [List.all_map]
        unfold isAB
        congr 1
        funext c
        simp
      rw [e]; exact q
/-- the letter at a place counted from 1 -/
def evD (b n : Nat) : D → D
  | .int i => .str ⟨#[if i.toNat * b / n = (i.toNat - 1) * b / n then 97 else 98]⟩
  | _ => .non
theorem evD_map (b n m : Nat) : (rgD 1 m).map (evD b n) = ((List.range m).map fun k => (⟨#[if (k + 1) * b / n = k * b / n then 97 else 98]⟩ : Str)).map D.str := by
  unfold rgD
  rw [List.map_map, List.map_map]
  refine List.map_congr_left fun k _ => ?_
  show D.str ⟨#[if (1 + (k : Int)).toNat * b / n = ((1 + (k : Int)).toNat - 1) * b / n then 97 else 98]⟩ = _
  rw [show (1 + (k : Int)).toNat = k + 1 by omega]
  rfl
theorem sum_ones {α : Type} (f : α → Str) (h : ∀ a, (f a).length = 1) (l : List α) : ((l.map f).map (·.length)).sum = l.length := by
  induction l with
  | nil => rfl
  | cons a r ih => rw [List.map_cons, List.map_cons, List.sum_cons, ih, h, List.length_cons]; omega
def isStepL (l : List Nat) : Bool := decide (Nat.gcd (l.count 98) l.length = 1) && decide (l = evF (l.count 98) l.length)
def isStepD : D → Bool
  | .str z => isWordD (.str z) && isStepL z.cps.toList
  | _ => false
theorem isWordD_str {d : D} (h : isWordD d = true) : ∃ l, d = .str (ofL l) ∧ 1 ≤ l.length ∧ l.length ≤ 60 ∧ isAB l = true := by
  cases d with
  | str z =>
    have h' := Bool.and_eq_true_iff.mp (show (decide (1 ≤ z.length ∧ z.length ≤ 60) && isAB z.cps.toList) = true from h)
    have h1 := of_decide_eq_true h'.1
    exact ⟨z.cps.toList, by rw [← ofL_of], by rw [← x_len_strL]; exact h1.1, by rw [← x_len_strL]; exact h1.2, h'.2⟩
  | _ => exact absurd (show false = true from h) Bool.false_ne_true
theorem step_tail {l : List Nat} {k1 k2 : Bool} (h1 : k1 = decide (Nat.gcd (l.count 98) l.length = 1)) (h2 : k2 = decide (l = evF (l.count 98) l.length)) : isStepL l = (k1 && k2) := by
  rw [h1, h2]; rfl
theorem str_eL : Str.ofString "" = ofL [] := by decide +kernel
theorem isAB_app {a b : List Nat} (ha : isAB a = true) (hb : isAB b = true) : isAB (a ++ b) = true := isAB_iff.mpr fun c hc => (List.mem_append.mp hc).elim (isAB_iff.mp ha c) (isAB_iff.mp hb c)
theorem isAB_take {a : List Nat} (n : Nat) (ha : isAB a = true) : isAB (a.take n) = true := isAB_iff.mpr fun c hc => isAB_iff.mp ha c (List.mem_of_mem_take hc)
theorem isAB_drop {a : List Nat} (n : Nat) (ha : isAB a = true) : isAB (a.drop n) = true := isAB_iff.mpr fun c hc => isAB_iff.mp ha c (List.mem_of_mem_drop hc)
def rotL (l : List Nat) (i : Nat) : List Nat := l.drop i ++ l.take i
theorem rotL_len {l : List Nat} {i : Nat} : (rotL l i).length = l.length := by
  unfold rotL
  rw [List.length_append, List.length_drop, List.length_take]
  omega
/-! ### tables -/
structure M2 where
  p : Int
  q : Int
  r : Int
  s : Int
  deriving DecidableEq
def tbD (m : M2) : D := .tup [.tup [.int m.p, .int m.q], .tup [.int m.r, .int m.s]]
def mulM (x y : M2) : M2 := ⟨x.p * y.p + x.q * y.r, x.p * y.q + x.q * y.s, x.r * y.p + x.s * y.r, x.r * y.q + x.s * y.s⟩
def unitM : M2 := ⟨1, 0, 0, 1⟩
def detM (m : M2) : Int := m.p * m.s - m.q * m.r
def conM (m : M2) : M2 := ⟨m.s * detM m, 0 - m.q * detM m, 0 - m.r * detM m, m.p * detM m⟩
theorem m2ext {x y : M2} (h1 : x.p = y.p) (h2 : x.q = y.q) (h3 : x.r = y.r) (h4 : x.s = y.s) : x = y := by
  cases x; cases y; simp only at h1 h2 h3 h4; subst h1 h2 h3 h4; rfl
theorem mulM_assoc (x y z : M2) : mulM (mulM x y) z = mulM x (mulM y z) := by
  unfold mulM
  refine m2ext ?_ ?_ ?_ ?_ <;> (simp only [Int.add_mul, Int.mul_add, Int.mul_assoc]; omega)
theorem unit_mul (x : M2) : mulM unitM x = x := by
  unfold mulM unitM
  refine m2ext ?_ ?_ ?_ ?_ <;> simp
theorem mul_unit (x : M2) : mulM x unitM = x := by
  unfold mulM unitM
  refine m2ext ?_ ?_ ?_ ?_ <;> simp
/-- the letters' tables -/
def ltM (c : Nat) : M2 := if c = 97 then ⟨2, 1, 1, 1⟩ else ⟨5, 2, 2, 1⟩
def ltI (c : Nat) : M2 := if c = 97 then ⟨1, -1, -1, 2⟩ else ⟨1, -2, -2, 5⟩
theorem ltI_mul (c : Nat) : mulM (ltI c) (ltM c) = unitM := by
  unfold ltI ltM
  split <;> rfl
theorem con_lt (c : Nat) : conM (ltM c) = ltI c := by
  unfold ltI ltM
  split <;> rfl
def tabM : List Nat → M2
  | [] => unitM
  | c :: l => mulM (ltM c) (tabM l)
theorem tabM_app : ∀ (a b : List Nat), tabM (a ++ b) = mulM (tabM a) (tabM b)
  | [], b => (unit_mul _).symm
  | c :: a, b => by
    show mulM (ltM c) (tabM (a ++ b)) = mulM (mulM (ltM c) (tabM a)) (tabM b)
    rw [tabM_app a b, mulM_assoc]
theorem tabM_one (c : Nat) : tabM [c] = ltM c := mul_unit _
/-- signs of a word's table -/
structure PosM (m : M2) : Prop where
  p1 : 1 ≤ m.p
  q0 : 0 ≤ m.q
  r0 : 0 ≤ m.r
  s1 : 1 ≤ m.s
theorem ltM_cases (c : Nat) : ltM c = ⟨2, 1, 1, 1⟩ ∧ c = 97 ∨ ltM c = ⟨5, 2, 2, 1⟩ ∧ c ≠ 97 := by
  unfold ltM
  by_cases h : c = 97
  · exact .inl ⟨if_pos h, h⟩
  · exact .inr ⟨if_neg h, h⟩
theorem posM_tab : ∀ l : List Nat, PosM (tabM l)
  | [] => ⟨by decide, by decide, by decide, by decide⟩
  | c :: l => by
    obtain ⟨h1, h2, h3, h4⟩ := posM_tab l
    show PosM (mulM (ltM c) (tabM l))
    generalize tabM l = m at *
    rcases ltM_cases c with ⟨e, _⟩ | ⟨e, _⟩ <;> rw [e] <;> constructor <;> simp only [mulM] <;> omega
/-- the first letter of a word, told by its table -/
theorem first_tab {c : Nat} {l : List Nat} (hc : c = 97 ∨ c = 98) : (if (tabM (c :: l)).p > 2 * (tabM (c :: l)).r then 98 else 97) = c := by
  obtain ⟨h1, h2, h3, h4⟩ := posM_tab l
  show (if (mulM (ltM c) (tabM l)).p > 2 * (mulM (ltM c) (tabM l)).r then 98 else 97) = c
  generalize tabM l = m at *
  rcases hc with rfl | rfl
  · rw [if_neg]
    simp only [ltM, mulM, if_true]
    omega
  · rw [if_pos]
    simp only [ltM, mulM]
    rw [if_neg (by decide)]
    simp only
    omega
theorem tab_ne_unit {c : Nat} {l : List Nat} : tabM (c :: l) ≠ unitM := fun e => by
  obtain ⟨h1, h2, h3, h4⟩ := posM_tab l
  have e2 : (mulM (ltM c) (tabM l)).p = 1 := congrArg M2.p e
  generalize tabM l = m at *
  rcases ltM_cases c with ⟨e3, _⟩ | ⟨e3, _⟩ <;> rw [e3] at e2 <;> simp only [mulM] at e2 <;> omega
theorem tab_inj : ∀ {a b : List Nat}, isAB a = true → isAB b = true → tabM a = tabM b → a = b
  | [], [], _, _, _ => rfl
  | [], c :: b, _, _, e => absurd e.symm tab_ne_unit
  | c :: a, [], _, _, e => absurd e tab_ne_unit
  | c :: a, d :: b, ha, hb, e => by
    have ha' := isAB_iff.mp ha
    have hb' := isAB_iff.mp hb
    have h1 := first_tab (l := a) (ha' c (by simp))
    have h2 := first_tab (l := b) (hb' d (by simp))
    rw [e] at h1
    have hcd : c = d := h1.symm.trans h2
    subst hcd
    have e2 : mulM (ltI c) (mulM (ltM c) (tabM a)) = mulM (ltI c) (mulM (ltM c) (tabM b)) := congrArg (mulM (ltI c)) e
    rw [← mulM_assoc, ← mulM_assoc, ltI_mul, unit_mul, unit_mul] at e2
    rw [tab_inj (isAB_iff.mpr fun x hx => ha' x (by simp [hx])) (isAB_iff.mpr fun x hx => hb' x (by simp [hx])) e2]
/-- sizes -/
def SzM (m : M2) (n : Nat) : Prop := m.p.natAbs < 2 ^ n ∧ m.q.natAbs < 2 ^ n ∧ m.r.natAbs < 2 ^ n ∧ m.s.natAbs < 2 ^ n
theorem SzM.mono {m : M2} {n k : Nat} (h : SzM m n) (hk : n ≤ k) : SzM m k := by
  have := Nat.pow_le_pow_right (n := 2) (by decide) hk
  exact ⟨Nat.lt_of_lt_of_le h.1 this, Nat.lt_of_lt_of_le h.2.1 this, Nat.lt_of_lt_of_le h.2.2.1 this, Nat.lt_of_lt_of_le h.2.2.2 this⟩
theorem szM_tab : ∀ l : List Nat, SzM (tabM l) (3 * l.length + 1)
  | [] => ⟨by decide, by decide, by decide, by decide⟩
  | c :: l => by
    obtain ⟨a1, a2, a3, a4⟩ := szM_tab l
    have e : 2 ^ (3 * (c :: l).length + 1) = 8 * 2 ^ (3 * l.length + 1) := by
      rw [List.length_cons, show 3 * (l.length + 1) + 1 = (3 * l.length + 1) + 3 by omega, Nat.pow_add, Nat.mul_comm]
    show SzM (mulM (ltM c) (tabM l)) _
    unfold SzM
    rw [e]
    generalize tabM l = m at *
    generalize 2 ^ (3 * l.length + 1) = N at *
    rcases ltM_cases c with ⟨e, _⟩ | ⟨e, _⟩ <;> rw [e] <;> simp only [mulM] <;> refine ⟨?_, ?_, ?_, ?_⟩ <;> omega
theorem sm_tb {n : Nat} {m : M2} : sm n (tbD m) = true ↔ SzM m n := by
  unfold tbD SzM
  simp only [sm, smL, Bool.and_eq_true, decide_eq_true_eq, and_true, and_assoc]
theorem tbD_eqOk (m : M2) : eqOk (tbD m) = true := by
  unfold eqOk tbD
  show (true && SeqAt.shaped (.tuple [.tuple [.int m.p, .int m.q], .tuple [.int m.r, .int m.s]])) = true
  rfl
theorem tbD_deq (a b : M2) : deq (tbD a) (tbD b) = decide (a = b) := by
  unfold tbD
  simp only [deq, deqL, Bool.and_true]
  rw [Bool.eq_iff_iff]
  simp only [Bool.and_eq_true, beq_iff_eq, decide_eq_true_eq]
  constructor
  · rintro ⟨⟨h1, h2⟩, h3, h4⟩
    exact m2ext h1 h2 h3 h4
  · rintro rfl
    exact ⟨⟨rfl, rfl⟩, rfl, rfl⟩
theorem x_eq_tb {a b : M2} {S : Sd} {Q : DK} : rdEq (tbD a) (tbD b) S Q = Q (.bl (decide (a = b))) S := by
  show ((eqOk (tbD a) = true ∧ eqOk (tbD b) = true) ∧ Q (.bl (deq (tbD a) (tbD b))) S) = _
  rw [tbD_eqOk, tbD_eqOk, tbD_deq]
  simp
theorem x_ne_tb {a b : M2} {S : Sd} {Q : DK} : rdNe (tbD a) (tbD b) S Q = Q (.bl (!decide (a = b))) S := by
  show ((eqOk (tbD a) = true ∧ eqOk (tbD b) = true) ∧ Q (.bl (!deq (tbD a) (tbD b))) S) = _
  rw [tbD_eqOk, tbD_eqOk, tbD_deq]
  simp
/-- what is a table, a turning -/
def isPairD : D → Bool
  | .tup [_, _] => true
  | _ => false
def isTabD : D → Bool
  | .tup [.tup [.int _, .int _], .tup [.int _, .int _]] => true
  | _ => false
theorem isTabD_of {d : D} (h : isTabD d = true) : ∃ m, d = tbD m := by
  unfold isTabD at h
  split at h
  · exact ⟨⟨_, _, _, _⟩, rfl⟩
  · cases h
/-! ### == of data with itself -/
mutual
theorem deq_refl : ∀ {d : D}, isData d = true → deq d d = true
  | .int i, _ => beq_self_eq_true i
  | .non, _ => rfl
  | .bl b, _ => beq_self_eq_true b
  | .str z, _ => beq_self_eq_true z
  | .tup ds, h => deqL_refl (ds := ds) h
  | .lst ds, h => deqL_refl (ds := ds) h
  | .tupX _, h => absurd (show false = true from h) Bool.false_ne_true
  | .inst _ _ _, h => absurd (show false = true from h) Bool.false_ne_true
  | .obj _, h => absurd (show false = true from h) Bool.false_ne_true
  | .ty _, h => absurd (show false = true from h) Bool.false_ne_true
  | .exc _ _ _ _, h => absurd (show false = true from h) Bool.false_ne_true
theorem deqL_refl : ∀ {ds : List D}, isDataL ds = true → deqL ds ds = true
  | [], _ => rfl
  | d :: ds, h => by
    have h' := Bool.and_eq_true_iff.mp (show (isData d && isDataL ds) = true from h)
    show (deq d d && deqL ds ds) = true
    rw [deq_refl h'.1, deqL_refl h'.2]
    rfl
end
/-- may be held against others, so many deep -/
def okD_ (k : Nat) (d : D) : Bool := isData d && ((pd d).canLay0 && decide ((pd d).depth ≤ k))
theorem okD_eqOk {k : Nat} {d : D} (h : okD_ k d = true) (hk : k ≤ 64) : eqOk d = true := by
  have h1 := Bool.and_eq_true_iff.mp h
  have h2 := Bool.and_eq_true_iff.mp h1.2
  have h3 := of_decide_eq_true h2.2
  show (isData d && ((pd d).canLay0 && decide ((pd d).depth ≤ 64))) = true
  rw [h1.1, h2.1, decide_eq_true (Nat.le_trans h3 hk)]
  rfl
theorem okD_list {k : Nat} : ∀ {ds : List D}, (∀ d ∈ ds, okD_ k d = true) → isDataL ds = true ∧ PyData.canLayAll0 (pdL ds) = true ∧ PyData.depthAll (pdL ds) ≤ k
  | [], _ => ⟨rfl, rfl, Nat.zero_le _⟩
  | d :: ds, h => by
    obtain ⟨i1, i2, i3⟩ := okD_list (ds := ds) fun x hx => h x (List.mem_cons_of_mem _ hx)
    have h1 := Bool.and_eq_true_iff.mp (h d (.head _))
    have h2 := Bool.and_eq_true_iff.mp h1.2
    have h3 := of_decide_eq_true h2.2
    refine ⟨?_, ?_, ?_⟩
    · show (isData d && isDataL ds) = true
      rw [h1.1, i1]; rfl
    · show ((pd d).canLay0 && PyData.canLayAll0 (pdL ds)) = true
      rw [h2.1, i2]; rfl
    · show max (pd d).depth (PyData.depthAll (pdL ds)) ≤ k
      omega
theorem okD_tup {k : Nat} {ds : List D} (h : ∀ d ∈ ds, okD_ k d = true) : okD_ (k + 1) (.tup ds) = true := by
  obtain ⟨h1, h2, h3⟩ := okD_list h
  show (isDataL ds && (PyData.canLayAll0 (pdL ds) && decide (PyData.depthAll (pdL ds) + 1 ≤ k + 1))) = true
  rw [h1, h2, decide_eq_true (by omega)]
  rfl
theorem okD_lst {k : Nat} {ds : List D} (h : ∀ d ∈ ds, okD_ k d = true) : okD_ (k + 1) (.lst ds) = true := okD_tup h
theorem okD_int {k : Nat} {i : Int} : okD_ k (.int i) = true := by
  show (true && (true && decide (0 ≤ k))) = true
  rw [decide_eq_true (Nat.zero_le _)]; rfl
theorem okD_str {k : Nat} {z : Str} (h : PyData.strOk z = true) : okD_ k (.str z) = true := by
  show (true && (PyData.strOk z && decide (0 ≤ k))) = true
  rw [h, decide_eq_true (Nat.zero_le _)]; rfl
theorem strOk_of {l : List Nat} (h : ∀ c ∈ l, c < 1114112) : PyData.strOk (ofL l) = true := by
  show l.toArray.all (· < 0x110000) = true
  rw [Array.all_eq_true']
  intro c hc
  exact decide_eq_true (h c (by simpa using hc))
theorem strOk_ab {l : List Nat} (h : isAB l = true) : PyData.strOk (ofL l) = true := strOk_of fun c hc => by
  have := isAB_iff.mp h c hc
  omega
theorem okD_word {k : Nat} {l : List Nat} (h : isAB l = true) : okD_ k (.str (ofL l)) = true := okD_str (strOk_ab h)
theorem okD_ints (ns : List Int) : okD_ 1 (.tup (ns.map D.int)) = true := okD_tup fun d hd => by
  obtain ⟨n, _, rfl⟩ := List.mem_map.mp hd
  exact okD_int
theorem okD_intsL (ns : List Int) : okD_ 1 (.lst (ns.map D.int)) = true := okD_ints ns
end Dv

namespace K77
open PySem L2 Dv Hx
abbrev wd (Ed : XKD) : WXD := fun x _ S => Ed x S
abbrev wd0 : WXD := fun _ _ _ => False
abbrev k_LETTERS : D := .str "ab"
abbrev k_MOST_LETTERS : D := .int 60
abbrev k_MOST_NUMBER : D := .int 999999
abbrev k_MOST_RING : D := .int 40
abbrev k_WAY_LETTERS : D := .str "lr"
abbrev k_UNIT : D := .tup [.tup [.int 1, .int 0], .tup [.int 0, .int 1]]
def k_LETTER_TABLES (z : Str) : Option D := if z = "a" then some (.tup [.tup [.int 2, .int 1], .tup [.int 1, .int 1]]) else if z = "b" then some (.tup [.tup [.int 5, .int 2], .tup [.int 2, .int 1]]) else none
def k_HOLD (z : Str) : Option D := if z = "even" then some (.fn "even_holds") else if z = "uneven" then some (.fn "uneven_holds") else if z = "below" then some (.fn "below_holds") else if z = "above" then some (.fn "above_holds") else none
def k_HOLD_SAME (z : Str) : Option D := if z = "same" then some (.fn "same_holds") else none
def k_HOLD_OF_THREE (z : Str) : Option D := if z = "triple" then some (.fn "triple_holds") else if z = "form below" then some (.fn "form_below_holds") else if z = "form above" then some (.fn "form_above_holds") else none
def rsX : List Str := ["NoRing", "NoStep", "NoTable", "NoWay", "NoWord", "TooMany", "Uneven"]
/-! the text by places, derivations, printed by gen.py -/
def top (i : Nat) : Stmt := PySem.Challenge.pw_nearthrees_k77_whole_all_words_of_so_man.main.body.getD i (.Pass ⟨0, 0, 0, 0⟩)
abbrev s_is_whole : Stmt := top 16
abbrev s_are_wholes : Stmt := top 17
abbrev s_shared_by : Stmt := top 18
abbrev s_is_within : Stmt := top 37
abbrev s_is_row : Stmt := top 38
abbrev s_is_number_ring : Stmt := top 39
abbrev s_shortest_part : Stmt := top 40
abbrev s_is_word : Stmt := top 46
abbrev s_look_word : Stmt := top 47
abbrev s_Ring___init__ : Stmt := inClass (top 48) 0
abbrev s_Ring_turned : Stmt := inClass (top 48) 2
abbrev s_Ring_least_turn : Stmt := inClass (top 48) 3
abbrev s_Ring_least : Stmt := inClass (top 48) 4
abbrev s_Ring_root : Stmt := inClass (top 48) 5
abbrev s_how_many_b : Stmt := top 49
abbrev s_uneven_pair : Stmt := top 50
abbrev s_is_even : Stmt := top 51
abbrev s_uneven_parts : Stmt := top 52
abbrev s_even_word : Stmt := top 55
abbrev s_is_step_word : Stmt := top 56
abbrev s_look_step_steps : Stmt := top 57
abbrev s_cut_by : Stmt := top 59
abbrev s_cut_of : Stmt := top 60
abbrev s_way_by_left : Stmt := top 62
abbrev s_way_by_right : Stmt := top 63
abbrev s_way_to : Stmt := top 61
abbrev s_way_of_word : Stmt := top 64
abbrev s_look_way : Stmt := top 65
abbrev s_word_of_way : Stmt := top 66
abbrev s_is_pair_of : Stmt := top 70
abbrev s_is_table : Stmt := top 71
abbrev s_size_of : Stmt := top 72
abbrev s_joined : Stmt := top 75
abbrev s_contrary_by : Stmt := top 77
abbrev s_table_by : Stmt := top 78
abbrev s_table_of : Stmt := top 79
abbrev s_first_letter : Stmt := top 80
abbrev s_word_of : Stmt := top 81
abbrev s_is_tuple_of : Stmt := top 109
abbrev s_is_part_of : Stmt := top 111
abbrev s_even_holds : Stmt := top 112
abbrev s_uneven_holds : Stmt := top 113
abbrev s_holds : Stmt := top 124
abbrev s_law_urn : Stmt := top 126
abbrev s_law_draw : Stmt := top 127
abbrev s_law_shared : Stmt := top 128
abbrev s_law_all_words : Stmt := top 129
abbrev s_law_even_right : Stmt := top 130
abbrev s_law_step_right : Stmt := top 131
abbrev s_law_no_way : Stmt := top 132
abbrev s_law : Stmt := top 133
abbrev sI_TooMany : Stmt := inClass (top 6) 0
abbrev sI_Uneven : Stmt := inClass (top 10) 0
structure Txt (w : World) (K : PySem.W.Frag) (mg : Str → Option Value) (base : Heap) where
  C_Ring : Addr
  gc_Ring : mg "Ring" = some (.ref C_Ring)
  f_is_whole : Addr
  fd_is_whole : FuncData
  f_are_wholes : Addr
  fd_are_wholes : FuncData
  f_shared_by : Addr
  fd_shared_by : FuncData
  f_is_within : Addr
  fd_is_within : FuncData
  f_is_row : Addr
  fd_is_row : FuncData
  f_is_number_ring : Addr
  fd_is_number_ring : FuncData
  f_shortest_part : Addr
  fd_shortest_part : FuncData
  f_is_word : Addr
  fd_is_word : FuncData
  f_look_word : Addr
  fd_look_word : FuncData
  f_how_many_b : Addr
  fd_how_many_b : FuncData
  f_uneven_pair : Addr
  fd_uneven_pair : FuncData
  f_is_even : Addr
  fd_is_even : FuncData
  f_uneven_parts : Addr
  fd_uneven_parts : FuncData
  f_even_word : Addr
  fd_even_word : FuncData
  f_is_step_word : Addr
  fd_is_step_word : FuncData
  f_look_step_steps : Addr
  fd_look_step_steps : FuncData
  f_cut_by : Addr
  fd_cut_by : FuncData
  f_cut_of : Addr
  fd_cut_of : FuncData
  f_way_by_left : Addr
  fd_way_by_left : FuncData
  f_way_by_right : Addr
  fd_way_by_right : FuncData
  f_way_to : Addr
  fd_way_to : FuncData
  f_way_of_word : Addr
  fd_way_of_word : FuncData
  f_look_way : Addr
  fd_look_way : FuncData
  f_word_of_way : Addr
  fd_word_of_way : FuncData
  f_is_pair_of : Addr
  fd_is_pair_of : FuncData
  f_is_table : Addr
  fd_is_table : FuncData
  f_size_of : Addr
  fd_size_of : FuncData
  f_joined : Addr
  fd_joined : FuncData
  f_contrary_by : Addr
  fd_contrary_by : FuncData
  f_table_by : Addr
  fd_table_by : FuncData
  f_table_of : Addr
  fd_table_of : FuncData
  f_first_letter : Addr
  fd_first_letter : FuncData
  f_word_of : Addr
  fd_word_of : FuncData
  f_is_tuple_of : Addr
  fd_is_tuple_of : FuncData
  f_is_part_of : Addr
  fd_is_part_of : FuncData
  f_even_holds : Addr
  fd_even_holds : FuncData
  f_uneven_holds : Addr
  fd_uneven_holds : FuncData
  f_holds : Addr
  fd_holds : FuncData
  f_law_urn : Addr
  fd_law_urn : FuncData
  f_law_draw : Addr
  fd_law_draw : FuncData
  f_law_shared : Addr
  fd_law_shared : FuncData
  f_law_all_words : Addr
  fd_law_all_words : FuncData
  f_law_even_right : Addr
  fd_law_even_right : FuncData
  f_law_step_right : Addr
  fd_law_step_right : FuncData
  f_law_no_way : Addr
  fd_law_no_way : FuncData
  f_law : Addr
  fd_law : FuncData
  f_Ring___init__ : Addr
  fd_Ring___init__ : FuncData
  f_Ring_turned : Addr
  fd_Ring_turned : FuncData
  f_Ring_least_turn : Addr
  fd_Ring_least_turn : FuncData
  f_Ring_least : Addr
  fd_Ring_least : FuncData
  f_Ring_root : Addr
  fd_Ring_root : FuncData
  F_is_whole : Fun K "is_whole" "is_whole" s_is_whole f_is_whole fd_is_whole
  m_is_whole : mg "is_whole" = some (.ref f_is_whole)
  b_is_whole : Binds K fd_is_whole ["thing"] []
  F_are_wholes : Fun K "are_wholes" "are_wholes" s_are_wholes f_are_wholes fd_are_wholes
  m_are_wholes : mg "are_wholes" = some (.ref f_are_wholes)
  b_are_wholes : Binds K fd_are_wholes ["things"] []
  F_shared_by : Fun K "shared_by" "shared_by" s_shared_by f_shared_by fd_shared_by
  m_shared_by : mg "shared_by" = some (.ref f_shared_by)
  b_shared_by : Binds K fd_shared_by ["one", "other"] []
  F_is_within : Fun K "is_within" "is_within" s_is_within f_is_within fd_is_within
  m_is_within : mg "is_within" = some (.ref f_is_within)
  b_is_within : Binds K fd_is_within ["thing", "least", "most"] []
  F_is_row : Fun K "is_row" "is_row" s_is_row f_is_row fd_is_row
  m_is_row : mg "is_row" = some (.ref f_is_row)
  b_is_row : Binds K fd_is_row ["thing", "least", "most"] []
  F_is_number_ring : Fun K "is_number_ring" "is_number_ring" s_is_number_ring f_is_number_ring fd_is_number_ring
  m_is_number_ring : mg "is_number_ring" = some (.ref f_is_number_ring)
  b_is_number_ring : Binds K fd_is_number_ring ["thing"] []
  F_shortest_part : Fun K "shortest_part" "shortest_part" s_shortest_part f_shortest_part fd_shortest_part
  m_shortest_part : mg "shortest_part" = some (.ref f_shortest_part)
  b_shortest_part : Binds K fd_shortest_part ["parts"] []
  F_is_word : Fun K "is_word" "is_word" s_is_word f_is_word fd_is_word
  m_is_word : mg "is_word" = some (.ref f_is_word)
  b_is_word : Binds K fd_is_word ["thing"] []
  F_look_word : Fun K "look_word" "look_word" s_look_word f_look_word fd_look_word
  m_look_word : mg "look_word" = some (.ref f_look_word)
  b_look_word : Binds K fd_look_word ["thing"] []
  F_how_many_b : Fun K "how_many_b" "how_many_b" s_how_many_b f_how_many_b fd_how_many_b
  m_how_many_b : mg "how_many_b" = some (.ref f_how_many_b)
  b_how_many_b : Binds K fd_how_many_b ["part"] []
  F_uneven_pair : Fun K "uneven_pair" "uneven_pair" s_uneven_pair f_uneven_pair fd_uneven_pair
  m_uneven_pair : mg "uneven_pair" = some (.ref f_uneven_pair)
  b_uneven_pair : Binds K fd_uneven_pair ["word"] []
  F_is_even : Fun K "is_even" "is_even" s_is_even f_is_even fd_is_even
  m_is_even : mg "is_even" = some (.ref f_is_even)
  b_is_even : Binds K fd_is_even ["word"] []
  F_uneven_parts : Fun K "uneven_parts" "uneven_parts" s_uneven_parts f_uneven_parts fd_uneven_parts
  m_uneven_parts : mg "uneven_parts" = some (.ref f_uneven_parts)
  b_uneven_parts : Binds K fd_uneven_parts ["word"] []
  F_even_word : Fun K "even_word" "even_word" s_even_word f_even_word fd_even_word
  m_even_word : mg "even_word" = some (.ref f_even_word)
  b_even_word : Binds K fd_even_word ["many_b", "many_a"] []
  F_is_step_word : Fun K "is_step_word" "is_step_word" s_is_step_word f_is_step_word fd_is_step_word
  m_is_step_word : mg "is_step_word" = some (.ref f_is_step_word)
  b_is_step_word : Binds K fd_is_step_word ["thing"] []
  F_look_step_steps : Fun K "look_step" "look_step" s_look_step_steps f_look_step_steps fd_look_step_steps
  m_look_step_steps : mg "look_step_steps" = some (.ref f_look_step_steps)
  b_look_step_steps : Binds K fd_look_step_steps ["word", "least"] []
  F_cut_by : Fun K "cut_by" "cut_by" s_cut_by f_cut_by fd_cut_by
  m_cut_by : mg "cut_by" = some (.ref f_cut_by)
  b_cut_by : Binds K fd_cut_by ["word"] []
  F_cut_of : Fun K "cut_of" "cut_of" s_cut_of f_cut_of fd_cut_of
  m_cut_of : mg "cut_of" = some (.ref f_cut_of)
  b_cut_of : Binds K fd_cut_of ["word"] []
  F_way_by_left : Fun K "way_by_left" "way_by_left" s_way_by_left f_way_by_left fd_way_by_left
  m_way_by_left : mg "way_by_left" = some (.ref f_way_by_left)
  b_way_by_left : Binds K fd_way_by_left ["first", "second"] []
  F_way_by_right : Fun K "way_by_right" "way_by_right" s_way_by_right f_way_by_right fd_way_by_right
  m_way_by_right : mg "way_by_right" = some (.ref f_way_by_right)
  b_way_by_right : Binds K fd_way_by_right ["first", "second"] []
  F_way_to : Fun K "way_to" "way_to" s_way_to f_way_to fd_way_to
  m_way_to : mg "way_to" = some (.ref f_way_to)
  b_way_to : Binds K fd_way_to ["first", "second"] []
  F_way_of_word : Fun K "way_of_word" "way_of_word" s_way_of_word f_way_of_word fd_way_of_word
  m_way_of_word : mg "way_of_word" = some (.ref f_way_of_word)
  b_way_of_word : Binds K fd_way_of_word ["word"] []
  F_look_way : Fun K "look_way" "look_way" s_look_way f_look_way fd_look_way
  m_look_way : mg "look_way" = some (.ref f_look_way)
  b_look_way : Binds K fd_look_way ["way"] []
  F_word_of_way : Fun K "word_of_way" "word_of_way" s_word_of_way f_word_of_way fd_word_of_way
  m_word_of_way : mg "word_of_way" = some (.ref f_word_of_way)
  b_word_of_way : Binds K fd_word_of_way ["way"] []
  F_is_pair_of : Fun K "is_pair_of" "is_pair_of" s_is_pair_of f_is_pair_of fd_is_pair_of
  m_is_pair_of : mg "is_pair_of" = some (.ref f_is_pair_of)
  b_is_pair_of : Binds K fd_is_pair_of ["thing"] []
  F_is_table : Fun K "is_table" "is_table" s_is_table f_is_table fd_is_table
  m_is_table : mg "is_table" = some (.ref f_is_table)
  b_is_table : Binds K fd_is_table ["thing"] []
  F_size_of : Fun K "size_of" "size_of" s_size_of f_size_of fd_size_of
  m_size_of : mg "size_of" = some (.ref f_size_of)
  b_size_of : Binds K fd_size_of ["table"] []
  F_joined : Fun K "joined" "joined" s_joined f_joined fd_joined
  m_joined : mg "joined" = some (.ref f_joined)
  b_joined : Binds K fd_joined ["one", "other"] []
  F_contrary_by : Fun K "contrary_by" "contrary_by" s_contrary_by f_contrary_by fd_contrary_by
  m_contrary_by : mg "contrary_by" = some (.ref f_contrary_by)
  b_contrary_by : Binds K fd_contrary_by ["table"] []
  F_table_by : Fun K "table_by" "table_by" s_table_by f_table_by fd_table_by
  m_table_by : mg "table_by" = some (.ref f_table_by)
  b_table_by : Binds K fd_table_by ["word"] []
  F_table_of : Fun K "table_of" "table_of" s_table_of f_table_of fd_table_of
  m_table_of : mg "table_of" = some (.ref f_table_of)
  b_table_of : Binds K fd_table_of ["word"] []
  F_first_letter : Fun K "first_letter" "first_letter" s_first_letter f_first_letter fd_first_letter
  m_first_letter : mg "first_letter" = some (.ref f_first_letter)
  b_first_letter : Binds K fd_first_letter ["table"] []
  F_word_of : Fun K "word_of" "word_of" s_word_of f_word_of fd_word_of
  m_word_of : mg "word_of" = some (.ref f_word_of)
  b_word_of : Binds K fd_word_of ["table"] []
  F_is_tuple_of : Fun K "is_tuple_of" "is_tuple_of" s_is_tuple_of f_is_tuple_of fd_is_tuple_of
  m_is_tuple_of : mg "is_tuple_of" = some (.ref f_is_tuple_of)
  b_is_tuple_of : Binds K fd_is_tuple_of ["thing", "many"] []
  F_is_part_of : Fun K "is_part_of" "is_part_of" s_is_part_of f_is_part_of fd_is_part_of
  m_is_part_of : mg "is_part_of" = some (.ref f_is_part_of)
  b_is_part_of : Binds K fd_is_part_of ["thing", "word"] []
  F_even_holds : Fun K "even_holds" "even_holds" s_even_holds f_even_holds fd_even_holds
  gn_even_holds : PySem.W.nsIn K mainGlobals "even_holds" = some (some (.ref f_even_holds))
  m_even_holds : mg "even_holds" = some (.ref f_even_holds)
  b_even_holds : Binds K fd_even_holds ["word", "paper"] []
  F_uneven_holds : Fun K "uneven_holds" "uneven_holds" s_uneven_holds f_uneven_holds fd_uneven_holds
  gn_uneven_holds : PySem.W.nsIn K mainGlobals "uneven_holds" = some (some (.ref f_uneven_holds))
  m_uneven_holds : mg "uneven_holds" = some (.ref f_uneven_holds)
  b_uneven_holds : Binds K fd_uneven_holds ["word", "paper"] []
  F_holds : Fun K "holds" "holds" s_holds f_holds fd_holds
  m_holds : mg "holds" = some (.ref f_holds)
  b_holds : Binds K fd_holds ["claim", "paper"] []
  F_law_urn : Fun K "_law_urn" "_law_urn" s_law_urn f_law_urn fd_law_urn
  m_law_urn : mg "_law_urn" = some (.ref f_law_urn)
  b_law_urn : Binds K fd_law_urn ["_law_script", "_law_at"] []
  F_law_draw : Fun K "_law_draw" "_law_draw" s_law_draw f_law_draw fd_law_draw
  m_law_draw : mg "_law_draw" = some (.ref f_law_draw)
  b_law_draw : Binds K fd_law_draw ["_law_urn_here", "_law_wide"] []
  F_law_shared : Fun K "_law_shared" "_law_shared" s_law_shared f_law_shared fd_law_shared
  m_law_shared : mg "_law_shared" = some (.ref f_law_shared)
  b_law_shared : Binds K fd_law_shared ["_law_one", "_law_other"] []
  F_law_all_words : Fun K "_law_all_words" "_law_all_words" s_law_all_words f_law_all_words fd_law_all_words
  m_law_all_words : mg "_law_all_words" = some (.ref f_law_all_words)
  b_law_all_words : Binds K fd_law_all_words ["_law_many"] []
  F_law_even_right : Fun K "_law_even_right" "_law_even_right" s_law_even_right f_law_even_right fd_law_even_right
  m_law_even_right : mg "_law_even_right" = some (.ref f_law_even_right)
  b_law_even_right : Binds K fd_law_even_right ["_law_word"] []
  F_law_step_right : Fun K "_law_step_right" "_law_step_right" s_law_step_right f_law_step_right fd_law_step_right
  m_law_step_right : mg "_law_step_right" = some (.ref f_law_step_right)
  b_law_step_right : Binds K fd_law_step_right ["_law_word"] []
  F_law_no_way : Fun K "_law_no_way" "_law_no_way" s_law_no_way f_law_no_way fd_law_no_way
  m_law_no_way : mg "_law_no_way" = some (.ref f_law_no_way)
  b_law_no_way : Binds K fd_law_no_way ["_law_word"] []
  F_law : Fun K "law" "law" s_law f_law fd_law
  m_law : mg "law" = some (.ref f_law)
  b_law : Binds K fd_law ["_law_script"] []
  F_Ring___init__ : Fun K "__init__" "Ring.__init__" s_Ring___init__ f_Ring___init__ fd_Ring___init__
  cl_Ring : ClF K "Ring" C_Ring f_Ring___init__
  na_Ring : noAttrB K C_Ring ["held"] = true
  b_Ring___init__ : Binds K fd_Ring___init__ ["self", "parts"] []
  T_Ring_turned : Addr
  its_Ring_turned : Array Value
  F_Ring_turned : Hx.FunV K "turned" "Ring.turned" s_Ring_turned f_Ring_turned fd_Ring_turned T_Ring_turned its_Ring_turned
  M_Ring_turned : Meth K C_Ring "turned" f_Ring_turned
  B_Ring_turned : BMeth K C_Ring "turned" f_Ring_turned
  b_Ring_turned : Binds K fd_Ring_turned ["self", "by"] []
  F_Ring_least_turn : Fun K "least_turn" "Ring.least_turn" s_Ring_least_turn f_Ring_least_turn fd_Ring_least_turn
  M_Ring_least_turn : Meth K C_Ring "least_turn" f_Ring_least_turn
  b_Ring_least_turn : Binds K fd_Ring_least_turn ["self"] []
  F_Ring_least : Fun K "least" "Ring.least" s_Ring_least f_Ring_least fd_Ring_least
  M_Ring_least : Meth K C_Ring "least" f_Ring_least
  b_Ring_least : Binds K fd_Ring_least ["self"] []
  F_Ring_root : Fun K "root" "Ring.root" s_Ring_root f_Ring_root fd_Ring_root
  M_Ring_root : Meth K C_Ring "root" f_Ring_root
  b_Ring_root : Binds K fd_Ring_root ["self"] []
  own : ∀ c ∈ ownCls, ∃ Dn, mg c = some (.ref Dn) ∧ clsV K c = .ref Dn
  wf : ∀ n ∈ rsX, n ∈ ownCls ∧ ∃ Dn, WhF K n Dn
  C_TooMany : Addr
  fI_TooMany : Addr
  fdI_TooMany : FuncData
  FI_TooMany : Fun K "__init__" "TooMany.__init__" sI_TooMany fI_TooMany fdI_TooMany
  bI_TooMany : Binds K fdI_TooMany ["self", "most"] []
  X_TooMany : FxF K "TooMany" [.type "OverflowError", .type "ArithmeticError", .type "Exception", .type "BaseException", .type "object"] "OverflowError.__new__" C_TooMany fI_TooMany ["most"]
  gc_TooMany : mg "TooMany" = some (.ref C_TooMany)
  C_Uneven : Addr
  fI_Uneven : Addr
  fdI_Uneven : FuncData
  FI_Uneven : Fun K "__init__" "Uneven.__init__" sI_Uneven fI_Uneven fdI_Uneven
  bI_Uneven : Binds K fdI_Uneven ["self", "one", "other"] []
  X_Uneven : FxF K "Uneven" [.type "ValueError", .type "Exception", .type "BaseException", .type "object"] "ValueError.__new__" C_Uneven fI_Uneven ["one", "other"]
  gc_Uneven : mg "Uneven" = some (.ref C_Uneven)
  C_NoRing : Addr
  R_NoRing : RsF K "NoRing" [.type "ValueError", .type "Exception", .type "BaseException", .type "object"] "ValueError.__new__" C_NoRing
  gc_NoRing : mg "NoRing" = some (.ref C_NoRing)
  C_NoStep : Addr
  R_NoStep : RsF K "NoStep" [.type "ValueError", .type "Exception", .type "BaseException", .type "object"] "ValueError.__new__" C_NoStep
  gc_NoStep : mg "NoStep" = some (.ref C_NoStep)
  C_NoTable : Addr
  R_NoTable : RsF K "NoTable" [.type "ValueError", .type "Exception", .type "BaseException", .type "object"] "ValueError.__new__" C_NoTable
  gc_NoTable : mg "NoTable" = some (.ref C_NoTable)
  C_NoWay : Addr
  R_NoWay : RsF K "NoWay" [.type "ValueError", .type "Exception", .type "BaseException", .type "object"] "ValueError.__new__" C_NoWay
  gc_NoWay : mg "NoWay" = some (.ref C_NoWay)
  C_NoWord : Addr
  R_NoWord : RsF K "NoWord" [.type "ValueError", .type "Exception", .type "BaseException", .type "object"] "ValueError.__new__" C_NoWord
  gc_NoWord : mg "NoWord" = some (.ref C_NoWord)
  a_HOLD : Addr
  m_HOLD : mg "HOLD" = some (.ref a_HOLD)
  k_HOLD : ∀ z d, k_HOLD z = some d → ∃ v, KDct K w a_HOLD z v ∧ ∀ H S, Rp K H S d v
  q_HOLD : KdK K w a_HOLD ["even", "uneven", "below", "above"]
  a_HOLD_OF_THREE : Addr
  m_HOLD_OF_THREE : mg "HOLD_OF_THREE" = some (.ref a_HOLD_OF_THREE)
  k_HOLD_OF_THREE : ∀ z d, k_HOLD_OF_THREE z = some d → ∃ v, KDct K w a_HOLD_OF_THREE z v ∧ ∀ H S, Rp K H S d v
  q_HOLD_OF_THREE : KdK K w a_HOLD_OF_THREE ["triple", "form below", "form above"]
  a_HOLD_SAME : Addr
  m_HOLD_SAME : mg "HOLD_SAME" = some (.ref a_HOLD_SAME)
  k_HOLD_SAME : ∀ z d, k_HOLD_SAME z = some d → ∃ v, KDct K w a_HOLD_SAME z v ∧ ∀ H S, Rp K H S d v
  q_HOLD_SAME : KdK K w a_HOLD_SAME ["same"]
  v_LETTERS : V
  u_LETTERS : Value
  m_LETTERS : mg "LETTERS" = some u_LETTERS
  r_LETTERS : RelV v_LETTERS u_LETTERS
  k_LETTERS : ∀ H S, Rp K H S (k_LETTERS) v_LETTERS
  a_LETTER_TABLES : Addr
  m_LETTER_TABLES : mg "LETTER_TABLES" = some (.ref a_LETTER_TABLES)
  k_LETTER_TABLES : ∀ z d, k_LETTER_TABLES z = some d → ∃ v, KDct K w a_LETTER_TABLES z v ∧ ∀ H S, Rp K H S d v
  v_MOST_LETTERS : V
  u_MOST_LETTERS : Value
  m_MOST_LETTERS : mg "MOST_LETTERS" = some u_MOST_LETTERS
  r_MOST_LETTERS : RelV v_MOST_LETTERS u_MOST_LETTERS
  k_MOST_LETTERS : ∀ H S, Rp K H S (k_MOST_LETTERS) v_MOST_LETTERS
  v_MOST_NUMBER : V
  u_MOST_NUMBER : Value
  m_MOST_NUMBER : mg "MOST_NUMBER" = some u_MOST_NUMBER
  r_MOST_NUMBER : RelV v_MOST_NUMBER u_MOST_NUMBER
  k_MOST_NUMBER : ∀ H S, Rp K H S (k_MOST_NUMBER) v_MOST_NUMBER
  v_MOST_RING : V
  u_MOST_RING : Value
  m_MOST_RING : mg "MOST_RING" = some u_MOST_RING
  r_MOST_RING : RelV v_MOST_RING u_MOST_RING
  k_MOST_RING : ∀ H S, Rp K H S (k_MOST_RING) v_MOST_RING
  v_UNIT : V
  u_UNIT : Value
  m_UNIT : mg "UNIT" = some u_UNIT
  r_UNIT : RelV v_UNIT u_UNIT
  k_UNIT : ∀ H S, Rp K H S (k_UNIT) v_UNIT
  v_WAY_LETTERS : V
  u_WAY_LETTERS : Value
  m_WAY_LETTERS : mg "WAY_LETTERS" = some u_WAY_LETTERS
  r_WAY_LETTERS : RelV v_WAY_LETTERS u_WAY_LETTERS
  k_WAY_LETTERS : ∀ H S, Rp K H S (k_WAY_LETTERS) v_WAY_LETTERS
  n_abs : mg "abs" = none
  n_all : mg "all" = none
  n_bool : mg "bool" = none
  n_int : mg "int" = none
  n_isinstance : mg "isinstance" = none
  n_len : mg "len" = none
  n_max : mg "max" = none
  n_min : mg "min" = none
  n_range : mg "range" = none
  n_set : mg "set" = none
  n_sorted : mg "sorted" = none
  n_str : mg "str" = none
  n_tuple : mg "tuple" = none
theorem all_mk {w : World} {K : PySem.W.Frag} {h : Heap} {mg : Str → Option Value} {fa : Addr} (okl : ∀ {base : Heap} (T : Txt w K mg base), FnG PySem.Challenge.rw_nearthrees_k77_whole_all_words_of_so_man.prog w K mg base (L2N.CX PySem.Challenge.rw_nearthrees_k77_whole_all_words_of_so_man.prog w) 121 T.f_law T.fd_law ["_law_script"] (upF K spLawD))
    (X : K.In h) (G : h.Ns mainGlobals mg) (hfa : mg "law" = some (.ref fa))
    {f0 f1 f2 f3 f4 f5 f6 f7 f8 f9 f10 f11 f12 f13 f14 f15 f16 f17 f18 f19 f20 f21 f22 f23 f24 f25 f26 f27 f28 f29 f30 f31 f32 f33 f34 f35 f36 f37 f38 f39 f40 f41 f42 f43 f44 f45 f46 f47 f48 f49 f50 : Addr} {od0 an0 od1 an1 od2 an2 od3 an3 od4 an4 od5 an5 od6 an6 od7 an7 od8 an8 od9 an9 od10 an10 od11 an11 od12 an12 od13 an13 od14 an14 od15 an15 od16 an16 od17 an17 od18 an18 od19 an19 od20 an20 od21 an21 od22 an22 od23 an23 od24 an24 od25 an25 od26 an26 od27 an27 od28 an28 od29 an29 od30 an30 od31 an31 od32 an32 od33 an33 od34 an34 od35 an35 od36 an36 od37 an37 od38 an38 od39 an39 od40 an40 od41 an41 od42 an42 od43 an43 od44 an44 od45 an45 od46 an46 od47 an47 od48 an48 od49 an49 od50 an50 : Option Addr} {sl0 sl1 sl2 sl3 sl4 sl5 sl6 sl7 sl8 sl9 sl10 sl11 sl12 sl13 sl14 sl15 sl16 sl17 sl18 sl19 sl20 sl21 sl22 sl23 sl24 sl25 sl26 sl27 sl28 sl29 sl30 sl31 sl32 sl33 sl34 sl35 sl36 sl37 sl38 sl39 sl40 sl41 sl42 sl43 sl44 sl45 sl46 sl47 sl48 sl49 sl50 : Array (Option Value)}
    {oc0 kV0 dc0 pm0 cd0 ct0 oc1 kV1 dc1 pm1 cd1 ct1 oc2 kV2 dc2 pm2 cd2 ct2 oc3 kV3 dc3 pm3 cd3 ct3 oc4 kV4 dc4 pm4 cd4 ct4 oc5 kV5 dc5 pm5 cd5 ct5 oc6 kV6 dc6 pm6 cd6 ct6 oc7 kV7 dc7 pm7 cd7 ct7 oc8 kV8 dc8 pm8 cd8 ct8 oc9 kV9 dc9 pm9 cd9 ct9 oc10 kV10 dc10 pm10 cd10 ct10 oc11 kV11 dc11 pm11 cd11 ct11 oc12 kV12 dc12 pm12 cd12 ct12 oc13 kV13 dc13 pm13 cd13 ct13 oc14 kV14 dc14 pm14 cd14 ct14 oc15 kV15 dc15 pm15 cd15 ct15 oc16 kV16 dc16 pm16 cd16 ct16 oc17 kV17 dc17 pm17 cd17 ct17 oc18 kV18 dc18 pm18 cd18 ct18 oc19 kV19 dc19 pm19 cd19 ct19 oc20 kV20 dc20 pm20 cd20 ct20 oc21 kV21 dc21 pm21 cd21 ct21 oc22 kV22 dc22 pm22 cd22 ct22 oc23 kV23 dc23 pm23 cd23 ct23 oc24 kV24 dc24 pm24 cd24 ct24 oc25 kV25 dc25 pm25 cd25 ct25 oc26 kV26 dc26 pm26 cd26 ct26 oc27 kV27 dc27 pm27 cd27 ct27 oc28 kV28 dc28 pm28 cd28 ct28 oc29 kV29 dc29 pm29 cd29 ct29 oc30 kV30 dc30 pm30 cd30 ct30 oc31 kV31 dc31 pm31 cd31 ct31 oc32 kV32 dc32 pm32 cd32 ct32 oc33 kV33 dc33 pm33 cd33 ct33 oc34 kV34 dc34 pm34 cd34 ct34 oc35 kV35 dc35 pm35 cd35 ct35 oc36 kV36 dc36 pm36 cd36 ct36 oc37 kV37 dc37 pm37 cd37 ct37 oc38 kV38 dc38 pm38 cd38 ct38 oc39 kV39 dc39 pm39 cd39 ct39 oc40 kV40 dc40 pm40 cd40 ct40 oc41 kV41 dc41 pm41 cd41 ct41 oc42 kV42 dc42 pm42 cd42 ct42 oc43 kV43 dc43 pm43 cd43 ct43 oc44 kV44 dc44 pm44 cd44 ct44 oc45 kV45 dc45 pm45 cd45 ct45 oc46 kV46 dc46 pm46 cd46 ct46 oc47 kV47 dc47 pm47 cd47 ct47 oc48 kV48 dc48 pm48 cd48 ct48 oc49 kV49 dc49 pm49 cd49 ct49 oc50 kV50 dc50 pm50 cd50 ct50 : Value}
    {dT47 : Addr} {doc47 : Value} {dod47 : Option Addr} {dn47 : Nat} {dsl47 : Array (Option Value)} {dk47_0 : Tok}
    {p_HOLD : Addr} {es_HOLD : Array DictEntry} {n_HOLD : Nat}
    {fx_below_holds : Addr}
    {fx_above_holds : Addr}
    {p_HOLD_OF_THREE : Addr} {es_HOLD_OF_THREE : Array DictEntry} {n_HOLD_OF_THREE : Nat}
    {fx_triple_holds : Addr}
    {fx_form_below_holds : Addr}
    {fx_form_above_holds : Addr}
    {p_HOLD_SAME : Addr} {es_HOLD_SAME : Array DictEntry} {n_HOLD_SAME : Nat}
    {fx_same_holds : Addr}
    {tk_LETTERS : Tok}
    {p_LETTER_TABLES : Addr} {es_LETTER_TABLES : Array DictEntry} {n_LETTER_TABLES : Nat}
    {tk_LETTER_TABLES_0_0_0 : Tok}
    {tk_LETTER_TABLES_0_0_1 : Tok}
    {p_LETTER_TABLES_0_0 : Addr} {np_LETTER_TABLES_0_0 : Nat} {odp_LETTER_TABLES_0_0 : Option Addr} {slp_LETTER_TABLES_0_0 : Array (Option Value)}
    {tk_LETTER_TABLES_0_1_0 : Tok}
    {tk_LETTER_TABLES_0_1_1 : Tok}
    {p_LETTER_TABLES_0_1 : Addr} {np_LETTER_TABLES_0_1 : Nat} {odp_LETTER_TABLES_0_1 : Option Addr} {slp_LETTER_TABLES_0_1 : Array (Option Value)}
    {p_LETTER_TABLES_0 : Addr} {np_LETTER_TABLES_0 : Nat} {odp_LETTER_TABLES_0 : Option Addr} {slp_LETTER_TABLES_0 : Array (Option Value)}
    {tk_LETTER_TABLES_1_0_0 : Tok}
    {tk_LETTER_TABLES_1_0_1 : Tok}
    {p_LETTER_TABLES_1_0 : Addr} {np_LETTER_TABLES_1_0 : Nat} {odp_LETTER_TABLES_1_0 : Option Addr} {slp_LETTER_TABLES_1_0 : Array (Option Value)}
    {tk_LETTER_TABLES_1_1_0 : Tok}
    {tk_LETTER_TABLES_1_1_1 : Tok}
    {p_LETTER_TABLES_1_1 : Addr} {np_LETTER_TABLES_1_1 : Nat} {odp_LETTER_TABLES_1_1 : Option Addr} {slp_LETTER_TABLES_1_1 : Array (Option Value)}
    {p_LETTER_TABLES_1 : Addr} {np_LETTER_TABLES_1 : Nat} {odp_LETTER_TABLES_1 : Option Addr} {slp_LETTER_TABLES_1 : Array (Option Value)}
    {tk_MOST_LETTERS : Tok}
    {tk_MOST_NUMBER : Tok}
    {tk_MOST_RING : Tok}
    {tk_UNIT_0_0 : Tok}
    {tk_UNIT_0_1 : Tok}
    {p_UNIT_0 : Addr} {np_UNIT_0 : Nat} {odp_UNIT_0 : Option Addr} {slp_UNIT_0 : Array (Option Value)}
    {tk_UNIT_1_0 : Tok}
    {tk_UNIT_1_1 : Tok}
    {p_UNIT_1 : Addr} {np_UNIT_1 : Nat} {odp_UNIT_1 : Option Addr} {slp_UNIT_1 : Array (Option Value)}
    {p_UNIT : Addr} {np_UNIT : Nat} {odp_UNIT : Option Addr} {slp_UNIT : Array (Option Value)}
    {tk_WAY_LETTERS : Tok}
    {C_Ring : Addr}
    {C_TooMany fI_TooMany C_Uneven fI_Uneven : Addr} {xod_TooMany xan_TooMany xod_Uneven xan_Uneven : Option Addr} {xsl_TooMany xsl_Uneven : Array (Option Value)} {xoc_TooMany xkV_TooMany xdc_TooMany xpm_TooMany xcd_TooMany xct_TooMany xoc_Uneven xkV_Uneven xdc_Uneven xpm_Uneven xcd_Uneven xct_Uneven : Value}
    (vg_Ring : PySem.W.nsIn K mainGlobals "Ring" = some (some (.ref C_Ring)))
    (a0 : PySem.W.nsIn K mainGlobals "is_whole" = some (some (.ref f0)))
    (l0 : K.lookup f0 = some ⟨oc0, od0, .func (PySem.W.fnOf "is_whole" "is_whole" (defArgs s_is_whole) (defBody s_is_whole) (defScope s_is_whole) .none kV0 dc0 pm0 an0 cd0 ct0), sl0⟩)
    (c0 : PySem.W.codeIn K cd0 "is_whole" = true)
    (k0 : PySem.W.keepIn K (.ref f0) = true)
    (a1 : PySem.W.nsIn K mainGlobals "are_wholes" = some (some (.ref f1)))
    (l1 : K.lookup f1 = some ⟨oc1, od1, .func (PySem.W.fnOf "are_wholes" "are_wholes" (defArgs s_are_wholes) (defBody s_are_wholes) (defScope s_are_wholes) .none kV1 dc1 pm1 an1 cd1 ct1), sl1⟩)
    (c1 : PySem.W.codeIn K cd1 "are_wholes" = true)
    (k1 : PySem.W.keepIn K (.ref f1) = true)
    (a2 : PySem.W.nsIn K mainGlobals "shared_by" = some (some (.ref f2)))
    (l2 : K.lookup f2 = some ⟨oc2, od2, .func (PySem.W.fnOf "shared_by" "shared_by" (defArgs s_shared_by) (defBody s_shared_by) (defScope s_shared_by) .none kV2 dc2 pm2 an2 cd2 ct2), sl2⟩)
    (c2 : PySem.W.codeIn K cd2 "shared_by" = true)
    (k2 : PySem.W.keepIn K (.ref f2) = true)
    (a3 : PySem.W.nsIn K mainGlobals "is_within" = some (some (.ref f3)))
    (l3 : K.lookup f3 = some ⟨oc3, od3, .func (PySem.W.fnOf "is_within" "is_within" (defArgs s_is_within) (defBody s_is_within) (defScope s_is_within) .none kV3 dc3 pm3 an3 cd3 ct3), sl3⟩)
    (c3 : PySem.W.codeIn K cd3 "is_within" = true)
    (k3 : PySem.W.keepIn K (.ref f3) = true)
    (a4 : PySem.W.nsIn K mainGlobals "is_row" = some (some (.ref f4)))
    (l4 : K.lookup f4 = some ⟨oc4, od4, .func (PySem.W.fnOf "is_row" "is_row" (defArgs s_is_row) (defBody s_is_row) (defScope s_is_row) .none kV4 dc4 pm4 an4 cd4 ct4), sl4⟩)
    (c4 : PySem.W.codeIn K cd4 "is_row" = true)
    (k4 : PySem.W.keepIn K (.ref f4) = true)
    (a5 : PySem.W.nsIn K mainGlobals "is_number_ring" = some (some (.ref f5)))
    (l5 : K.lookup f5 = some ⟨oc5, od5, .func (PySem.W.fnOf "is_number_ring" "is_number_ring" (defArgs s_is_number_ring) (defBody s_is_number_ring) (defScope s_is_number_ring) .none kV5 dc5 pm5 an5 cd5 ct5), sl5⟩)
    (c5 : PySem.W.codeIn K cd5 "is_number_ring" = true)
    (k5 : PySem.W.keepIn K (.ref f5) = true)
    (a6 : PySem.W.nsIn K mainGlobals "shortest_part" = some (some (.ref f6)))
    (l6 : K.lookup f6 = some ⟨oc6, od6, .func (PySem.W.fnOf "shortest_part" "shortest_part" (defArgs s_shortest_part) (defBody s_shortest_part) (defScope s_shortest_part) .none kV6 dc6 pm6 an6 cd6 ct6), sl6⟩)
    (c6 : PySem.W.codeIn K cd6 "shortest_part" = true)
    (k6 : PySem.W.keepIn K (.ref f6) = true)
    (a7 : PySem.W.nsIn K mainGlobals "is_word" = some (some (.ref f7)))
    (l7 : K.lookup f7 = some ⟨oc7, od7, .func (PySem.W.fnOf "is_word" "is_word" (defArgs s_is_word) (defBody s_is_word) (defScope s_is_word) .none kV7 dc7 pm7 an7 cd7 ct7), sl7⟩)
    (c7 : PySem.W.codeIn K cd7 "is_word" = true)
    (k7 : PySem.W.keepIn K (.ref f7) = true)
    (a8 : PySem.W.nsIn K mainGlobals "look_word" = some (some (.ref f8)))
    (l8 : K.lookup f8 = some ⟨oc8, od8, .func (PySem.W.fnOf "look_word" "look_word" (defArgs s_look_word) (defBody s_look_word) (defScope s_look_word) .none kV8 dc8 pm8 an8 cd8 ct8), sl8⟩)
    (c8 : PySem.W.codeIn K cd8 "look_word" = true)
    (k8 : PySem.W.keepIn K (.ref f8) = true)
    (a9 : PySem.W.nsIn K mainGlobals "how_many_b" = some (some (.ref f9)))
    (l9 : K.lookup f9 = some ⟨oc9, od9, .func (PySem.W.fnOf "how_many_b" "how_many_b" (defArgs s_how_many_b) (defBody s_how_many_b) (defScope s_how_many_b) .none kV9 dc9 pm9 an9 cd9 ct9), sl9⟩)
    (c9 : PySem.W.codeIn K cd9 "how_many_b" = true)
    (k9 : PySem.W.keepIn K (.ref f9) = true)
    (a10 : PySem.W.nsIn K mainGlobals "uneven_pair" = some (some (.ref f10)))
    (l10 : K.lookup f10 = some ⟨oc10, od10, .func (PySem.W.fnOf "uneven_pair" "uneven_pair" (defArgs s_uneven_pair) (defBody s_uneven_pair) (defScope s_uneven_pair) .none kV10 dc10 pm10 an10 cd10 ct10), sl10⟩)
    (c10 : PySem.W.codeIn K cd10 "uneven_pair" = true)
    (k10 : PySem.W.keepIn K (.ref f10) = true)
    (a11 : PySem.W.nsIn K mainGlobals "is_even" = some (some (.ref f11)))
    (l11 : K.lookup f11 = some ⟨oc11, od11, .func (PySem.W.fnOf "is_even" "is_even" (defArgs s_is_even) (defBody s_is_even) (defScope s_is_even) .none kV11 dc11 pm11 an11 cd11 ct11), sl11⟩)
    (c11 : PySem.W.codeIn K cd11 "is_even" = true)
    (k11 : PySem.W.keepIn K (.ref f11) = true)
    (a12 : PySem.W.nsIn K mainGlobals "uneven_parts" = some (some (.ref f12)))
    (l12 : K.lookup f12 = some ⟨oc12, od12, .func (PySem.W.fnOf "uneven_parts" "uneven_parts" (defArgs s_uneven_parts) (defBody s_uneven_parts) (defScope s_uneven_parts) .none kV12 dc12 pm12 an12 cd12 ct12), sl12⟩)
    (c12 : PySem.W.codeIn K cd12 "uneven_parts" = true)
    (k12 : PySem.W.keepIn K (.ref f12) = true)
    (a13 : PySem.W.nsIn K mainGlobals "even_word" = some (some (.ref f13)))
    (l13 : K.lookup f13 = some ⟨oc13, od13, .func (PySem.W.fnOf "even_word" "even_word" (defArgs s_even_word) (defBody s_even_word) (defScope s_even_word) .none kV13 dc13 pm13 an13 cd13 ct13), sl13⟩)
    (c13 : PySem.W.codeIn K cd13 "even_word" = true)
    (k13 : PySem.W.keepIn K (.ref f13) = true)
    (a14 : PySem.W.nsIn K mainGlobals "is_step_word" = some (some (.ref f14)))
    (l14 : K.lookup f14 = some ⟨oc14, od14, .func (PySem.W.fnOf "is_step_word" "is_step_word" (defArgs s_is_step_word) (defBody s_is_step_word) (defScope s_is_step_word) .none kV14 dc14 pm14 an14 cd14 ct14), sl14⟩)
    (c14 : PySem.W.codeIn K cd14 "is_step_word" = true)
    (k14 : PySem.W.keepIn K (.ref f14) = true)
    (a15 : PySem.W.nsIn K mainGlobals "look_step_steps" = some (some (.ref f15)))
    (l15 : K.lookup f15 = some ⟨oc15, od15, .func (PySem.W.fnOf "look_step" "look_step" (defArgs s_look_step_steps) (defBody s_look_step_steps) (defScope s_look_step_steps) .none kV15 dc15 pm15 an15 cd15 ct15), sl15⟩)
    (c15 : PySem.W.codeIn K cd15 "look_step" = true)
    (k15 : PySem.W.keepIn K (.ref f15) = true)
    (a16 : PySem.W.nsIn K mainGlobals "cut_by" = some (some (.ref f16)))
    (l16 : K.lookup f16 = some ⟨oc16, od16, .func (PySem.W.fnOf "cut_by" "cut_by" (defArgs s_cut_by) (defBody s_cut_by) (defScope s_cut_by) .none kV16 dc16 pm16 an16 cd16 ct16), sl16⟩)
    (c16 : PySem.W.codeIn K cd16 "cut_by" = true)
    (k16 : PySem.W.keepIn K (.ref f16) = true)
    (a17 : PySem.W.nsIn K mainGlobals "cut_of" = some (some (.ref f17)))
    (l17 : K.lookup f17 = some ⟨oc17, od17, .func (PySem.W.fnOf "cut_of" "cut_of" (defArgs s_cut_of) (defBody s_cut_of) (defScope s_cut_of) .none kV17 dc17 pm17 an17 cd17 ct17), sl17⟩)
    (c17 : PySem.W.codeIn K cd17 "cut_of" = true)
    (k17 : PySem.W.keepIn K (.ref f17) = true)
    (a18 : PySem.W.nsIn K mainGlobals "way_by_left" = some (some (.ref f18)))
    (l18 : K.lookup f18 = some ⟨oc18, od18, .func (PySem.W.fnOf "way_by_left" "way_by_left" (defArgs s_way_by_left) (defBody s_way_by_left) (defScope s_way_by_left) .none kV18 dc18 pm18 an18 cd18 ct18), sl18⟩)
    (c18 : PySem.W.codeIn K cd18 "way_by_left" = true)
    (k18 : PySem.W.keepIn K (.ref f18) = true)
    (a19 : PySem.W.nsIn K mainGlobals "way_by_right" = some (some (.ref f19)))
    (l19 : K.lookup f19 = some ⟨oc19, od19, .func (PySem.W.fnOf "way_by_right" "way_by_right" (defArgs s_way_by_right) (defBody s_way_by_right) (defScope s_way_by_right) .none kV19 dc19 pm19 an19 cd19 ct19), sl19⟩)
    (c19 : PySem.W.codeIn K cd19 "way_by_right" = true)
    (k19 : PySem.W.keepIn K (.ref f19) = true)
    (a20 : PySem.W.nsIn K mainGlobals "way_to" = some (some (.ref f20)))
    (l20 : K.lookup f20 = some ⟨oc20, od20, .func (PySem.W.fnOf "way_to" "way_to" (defArgs s_way_to) (defBody s_way_to) (defScope s_way_to) .none kV20 dc20 pm20 an20 cd20 ct20), sl20⟩)
    (c20 : PySem.W.codeIn K cd20 "way_to" = true)
    (k20 : PySem.W.keepIn K (.ref f20) = true)
    (a21 : PySem.W.nsIn K mainGlobals "way_of_word" = some (some (.ref f21)))
    (l21 : K.lookup f21 = some ⟨oc21, od21, .func (PySem.W.fnOf "way_of_word" "way_of_word" (defArgs s_way_of_word) (defBody s_way_of_word) (defScope s_way_of_word) .none kV21 dc21 pm21 an21 cd21 ct21), sl21⟩)
    (c21 : PySem.W.codeIn K cd21 "way_of_word" = true)
    (k21 : PySem.W.keepIn K (.ref f21) = true)
    (a22 : PySem.W.nsIn K mainGlobals "look_way" = some (some (.ref f22)))
    (l22 : K.lookup f22 = some ⟨oc22, od22, .func (PySem.W.fnOf "look_way" "look_way" (defArgs s_look_way) (defBody s_look_way) (defScope s_look_way) .none kV22 dc22 pm22 an22 cd22 ct22), sl22⟩)
    (c22 : PySem.W.codeIn K cd22 "look_way" = true)
    (k22 : PySem.W.keepIn K (.ref f22) = true)
    (a23 : PySem.W.nsIn K mainGlobals "word_of_way" = some (some (.ref f23)))
    (l23 : K.lookup f23 = some ⟨oc23, od23, .func (PySem.W.fnOf "word_of_way" "word_of_way" (defArgs s_word_of_way) (defBody s_word_of_way) (defScope s_word_of_way) .none kV23 dc23 pm23 an23 cd23 ct23), sl23⟩)
    (c23 : PySem.W.codeIn K cd23 "word_of_way" = true)
    (k23 : PySem.W.keepIn K (.ref f23) = true)
    (a24 : PySem.W.nsIn K mainGlobals "is_pair_of" = some (some (.ref f24)))
    (l24 : K.lookup f24 = some ⟨oc24, od24, .func (PySem.W.fnOf "is_pair_of" "is_pair_of" (defArgs s_is_pair_of) (defBody s_is_pair_of) (defScope s_is_pair_of) .none kV24 dc24 pm24 an24 cd24 ct24), sl24⟩)
    (c24 : PySem.W.codeIn K cd24 "is_pair_of" = true)
    (k24 : PySem.W.keepIn K (.ref f24) = true)
    (a25 : PySem.W.nsIn K mainGlobals "is_table" = some (some (.ref f25)))
    (l25 : K.lookup f25 = some ⟨oc25, od25, .func (PySem.W.fnOf "is_table" "is_table" (defArgs s_is_table) (defBody s_is_table) (defScope s_is_table) .none kV25 dc25 pm25 an25 cd25 ct25), sl25⟩)
    (c25 : PySem.W.codeIn K cd25 "is_table" = true)
    (k25 : PySem.W.keepIn K (.ref f25) = true)
    (a26 : PySem.W.nsIn K mainGlobals "size_of" = some (some (.ref f26)))
    (l26 : K.lookup f26 = some ⟨oc26, od26, .func (PySem.W.fnOf "size_of" "size_of" (defArgs s_size_of) (defBody s_size_of) (defScope s_size_of) .none kV26 dc26 pm26 an26 cd26 ct26), sl26⟩)
    (c26 : PySem.W.codeIn K cd26 "size_of" = true)
    (k26 : PySem.W.keepIn K (.ref f26) = true)
    (a27 : PySem.W.nsIn K mainGlobals "joined" = some (some (.ref f27)))
    (l27 : K.lookup f27 = some ⟨oc27, od27, .func (PySem.W.fnOf "joined" "joined" (defArgs s_joined) (defBody s_joined) (defScope s_joined) .none kV27 dc27 pm27 an27 cd27 ct27), sl27⟩)
    (c27 : PySem.W.codeIn K cd27 "joined" = true)
    (k27 : PySem.W.keepIn K (.ref f27) = true)
    (a28 : PySem.W.nsIn K mainGlobals "contrary_by" = some (some (.ref f28)))
    (l28 : K.lookup f28 = some ⟨oc28, od28, .func (PySem.W.fnOf "contrary_by" "contrary_by" (defArgs s_contrary_by) (defBody s_contrary_by) (defScope s_contrary_by) .none kV28 dc28 pm28 an28 cd28 ct28), sl28⟩)
    (c28 : PySem.W.codeIn K cd28 "contrary_by" = true)
    (k28 : PySem.W.keepIn K (.ref f28) = true)
    (a29 : PySem.W.nsIn K mainGlobals "table_by" = some (some (.ref f29)))
    (l29 : K.lookup f29 = some ⟨oc29, od29, .func (PySem.W.fnOf "table_by" "table_by" (defArgs s_table_by) (defBody s_table_by) (defScope s_table_by) .none kV29 dc29 pm29 an29 cd29 ct29), sl29⟩)
    (c29 : PySem.W.codeIn K cd29 "table_by" = true)
    (k29 : PySem.W.keepIn K (.ref f29) = true)
    (a30 : PySem.W.nsIn K mainGlobals "table_of" = some (some (.ref f30)))
    (l30 : K.lookup f30 = some ⟨oc30, od30, .func (PySem.W.fnOf "table_of" "table_of" (defArgs s_table_of) (defBody s_table_of) (defScope s_table_of) .none kV30 dc30 pm30 an30 cd30 ct30), sl30⟩)
    (c30 : PySem.W.codeIn K cd30 "table_of" = true)
    (k30 : PySem.W.keepIn K (.ref f30) = true)
    (a31 : PySem.W.nsIn K mainGlobals "first_letter" = some (some (.ref f31)))
    (l31 : K.lookup f31 = some ⟨oc31, od31, .func (PySem.W.fnOf "first_letter" "first_letter" (defArgs s_first_letter) (defBody s_first_letter) (defScope s_first_letter) .none kV31 dc31 pm31 an31 cd31 ct31), sl31⟩)
    (c31 : PySem.W.codeIn K cd31 "first_letter" = true)
    (k31 : PySem.W.keepIn K (.ref f31) = true)
    (a32 : PySem.W.nsIn K mainGlobals "word_of" = some (some (.ref f32)))
    (l32 : K.lookup f32 = some ⟨oc32, od32, .func (PySem.W.fnOf "word_of" "word_of" (defArgs s_word_of) (defBody s_word_of) (defScope s_word_of) .none kV32 dc32 pm32 an32 cd32 ct32), sl32⟩)
    (c32 : PySem.W.codeIn K cd32 "word_of" = true)
    (k32 : PySem.W.keepIn K (.ref f32) = true)
    (a33 : PySem.W.nsIn K mainGlobals "is_tuple_of" = some (some (.ref f33)))
    (l33 : K.lookup f33 = some ⟨oc33, od33, .func (PySem.W.fnOf "is_tuple_of" "is_tuple_of" (defArgs s_is_tuple_of) (defBody s_is_tuple_of) (defScope s_is_tuple_of) .none kV33 dc33 pm33 an33 cd33 ct33), sl33⟩)
    (c33 : PySem.W.codeIn K cd33 "is_tuple_of" = true)
    (k33 : PySem.W.keepIn K (.ref f33) = true)
    (a34 : PySem.W.nsIn K mainGlobals "is_part_of" = some (some (.ref f34)))
    (l34 : K.lookup f34 = some ⟨oc34, od34, .func (PySem.W.fnOf "is_part_of" "is_part_of" (defArgs s_is_part_of) (defBody s_is_part_of) (defScope s_is_part_of) .none kV34 dc34 pm34 an34 cd34 ct34), sl34⟩)
    (c34 : PySem.W.codeIn K cd34 "is_part_of" = true)
    (k34 : PySem.W.keepIn K (.ref f34) = true)
    (a35 : PySem.W.nsIn K mainGlobals "even_holds" = some (some (.ref f35)))
    (l35 : K.lookup f35 = some ⟨oc35, od35, .func (PySem.W.fnOf "even_holds" "even_holds" (defArgs s_even_holds) (defBody s_even_holds) (defScope s_even_holds) .none kV35 dc35 pm35 an35 cd35 ct35), sl35⟩)
    (c35 : PySem.W.codeIn K cd35 "even_holds" = true)
    (k35 : PySem.W.keepIn K (.ref f35) = true)
    (a36 : PySem.W.nsIn K mainGlobals "uneven_holds" = some (some (.ref f36)))
    (l36 : K.lookup f36 = some ⟨oc36, od36, .func (PySem.W.fnOf "uneven_holds" "uneven_holds" (defArgs s_uneven_holds) (defBody s_uneven_holds) (defScope s_uneven_holds) .none kV36 dc36 pm36 an36 cd36 ct36), sl36⟩)
    (c36 : PySem.W.codeIn K cd36 "uneven_holds" = true)
    (k36 : PySem.W.keepIn K (.ref f36) = true)
    (a37 : PySem.W.nsIn K mainGlobals "holds" = some (some (.ref f37)))
    (l37 : K.lookup f37 = some ⟨oc37, od37, .func (PySem.W.fnOf "holds" "holds" (defArgs s_holds) (defBody s_holds) (defScope s_holds) .none kV37 dc37 pm37 an37 cd37 ct37), sl37⟩)
    (c37 : PySem.W.codeIn K cd37 "holds" = true)
    (k37 : PySem.W.keepIn K (.ref f37) = true)
    (a38 : PySem.W.nsIn K mainGlobals "_law_urn" = some (some (.ref f38)))
    (l38 : K.lookup f38 = some ⟨oc38, od38, .func (PySem.W.fnOf "_law_urn" "_law_urn" (defArgs s_law_urn) (defBody s_law_urn) (defScope s_law_urn) .none kV38 dc38 pm38 an38 cd38 ct38), sl38⟩)
    (c38 : PySem.W.codeIn K cd38 "_law_urn" = true)
    (k38 : PySem.W.keepIn K (.ref f38) = true)
    (a39 : PySem.W.nsIn K mainGlobals "_law_draw" = some (some (.ref f39)))
    (l39 : K.lookup f39 = some ⟨oc39, od39, .func (PySem.W.fnOf "_law_draw" "_law_draw" (defArgs s_law_draw) (defBody s_law_draw) (defScope s_law_draw) .none kV39 dc39 pm39 an39 cd39 ct39), sl39⟩)
    (c39 : PySem.W.codeIn K cd39 "_law_draw" = true)
    (k39 : PySem.W.keepIn K (.ref f39) = true)
    (a40 : PySem.W.nsIn K mainGlobals "_law_shared" = some (some (.ref f40)))
    (l40 : K.lookup f40 = some ⟨oc40, od40, .func (PySem.W.fnOf "_law_shared" "_law_shared" (defArgs s_law_shared) (defBody s_law_shared) (defScope s_law_shared) .none kV40 dc40 pm40 an40 cd40 ct40), sl40⟩)
    (c40 : PySem.W.codeIn K cd40 "_law_shared" = true)
    (k40 : PySem.W.keepIn K (.ref f40) = true)
    (a41 : PySem.W.nsIn K mainGlobals "_law_all_words" = some (some (.ref f41)))
    (l41 : K.lookup f41 = some ⟨oc41, od41, .func (PySem.W.fnOf "_law_all_words" "_law_all_words" (defArgs s_law_all_words) (defBody s_law_all_words) (defScope s_law_all_words) .none kV41 dc41 pm41 an41 cd41 ct41), sl41⟩)
    (c41 : PySem.W.codeIn K cd41 "_law_all_words" = true)
    (k41 : PySem.W.keepIn K (.ref f41) = true)
    (a42 : PySem.W.nsIn K mainGlobals "_law_even_right" = some (some (.ref f42)))
    (l42 : K.lookup f42 = some ⟨oc42, od42, .func (PySem.W.fnOf "_law_even_right" "_law_even_right" (defArgs s_law_even_right) (defBody s_law_even_right) (defScope s_law_even_right) .none kV42 dc42 pm42 an42 cd42 ct42), sl42⟩)
    (c42 : PySem.W.codeIn K cd42 "_law_even_right" = true)
    (k42 : PySem.W.keepIn K (.ref f42) = true)
    (a43 : PySem.W.nsIn K mainGlobals "_law_step_right" = some (some (.ref f43)))
    (l43 : K.lookup f43 = some ⟨oc43, od43, .func (PySem.W.fnOf "_law_step_right" "_law_step_right" (defArgs s_law_step_right) (defBody s_law_step_right) (defScope s_law_step_right) .none kV43 dc43 pm43 an43 cd43 ct43), sl43⟩)
    (c43 : PySem.W.codeIn K cd43 "_law_step_right" = true)
    (k43 : PySem.W.keepIn K (.ref f43) = true)
    (a44 : PySem.W.nsIn K mainGlobals "_law_no_way" = some (some (.ref f44)))
    (l44 : K.lookup f44 = some ⟨oc44, od44, .func (PySem.W.fnOf "_law_no_way" "_law_no_way" (defArgs s_law_no_way) (defBody s_law_no_way) (defScope s_law_no_way) .none kV44 dc44 pm44 an44 cd44 ct44), sl44⟩)
    (c44 : PySem.W.codeIn K cd44 "_law_no_way" = true)
    (k44 : PySem.W.keepIn K (.ref f44) = true)
    (a45 : PySem.W.nsIn K mainGlobals "law" = some (some (.ref f45)))
    (l45 : K.lookup f45 = some ⟨oc45, od45, .func (PySem.W.fnOf "law" "law" (defArgs s_law) (defBody s_law) (defScope s_law) .none kV45 dc45 pm45 an45 cd45 ct45), sl45⟩)
    (c45 : PySem.W.codeIn K cd45 "law" = true)
    (k45 : PySem.W.keepIn K (.ref f45) = true)
    (a46 : PySem.W.findIn K (.ref C_Ring) "__init__" = some (some (.ref f46)))
    (l46 : K.lookup f46 = some ⟨oc46, od46, .func (PySem.W.fnOf "__init__" "Ring.__init__" (defArgs s_Ring___init__) (defBody s_Ring___init__) (defScope s_Ring___init__) .none kV46 dc46 pm46 an46 cd46 ct46), sl46⟩)
    (c46 : PySem.W.codeIn K cd46 "Ring.__init__" = true)
    (k46 : PySem.W.keepIn K (.ref f46) = true)
    (vc_Ring : clB K "Ring" C_Ring f46 = true)
    (vn_Ring : noAttrB K C_Ring ["held"] = true)
    (a47 : PySem.W.findIn K (.ref C_Ring) "turned" = some (some (.ref f47)))
    (l47 : K.lookup f47 = some ⟨oc47, od47, .func (PySem.W.fnOf "turned" "Ring.turned" (defArgs s_Ring_turned) (defBody s_Ring_turned) (defScope s_Ring_turned) (.ref dT47) kV47 dc47 pm47 an47 cd47 ct47), sl47⟩)
    (dt47 : K.lookup dT47 = some ⟨doc47, dod47, .seq #[.int 1 dk47_0] dn47, dsl47⟩)
    (c47 : PySem.W.codeIn K cd47 "Ring.turned" = true)
    (k47 : PySem.W.keepIn K (.ref f47) = true)
    (vm47 : methB K C_Ring "turned" f47 = true)
    (vb47 : bmB K C_Ring "turned" f47 = true)
    (a48 : PySem.W.findIn K (.ref C_Ring) "least_turn" = some (some (.ref f48)))
    (l48 : K.lookup f48 = some ⟨oc48, od48, .func (PySem.W.fnOf "least_turn" "Ring.least_turn" (defArgs s_Ring_least_turn) (defBody s_Ring_least_turn) (defScope s_Ring_least_turn) .none kV48 dc48 pm48 an48 cd48 ct48), sl48⟩)
    (c48 : PySem.W.codeIn K cd48 "Ring.least_turn" = true)
    (k48 : PySem.W.keepIn K (.ref f48) = true)
    (vm48 : methB K C_Ring "least_turn" f48 = true)
    (a49 : PySem.W.findIn K (.ref C_Ring) "least" = some (some (.ref f49)))
    (l49 : K.lookup f49 = some ⟨oc49, od49, .func (PySem.W.fnOf "least" "Ring.least" (defArgs s_Ring_least) (defBody s_Ring_least) (defScope s_Ring_least) .none kV49 dc49 pm49 an49 cd49 ct49), sl49⟩)
    (c49 : PySem.W.codeIn K cd49 "Ring.least" = true)
    (k49 : PySem.W.keepIn K (.ref f49) = true)
    (vm49 : methB K C_Ring "least" f49 = true)
    (a50 : PySem.W.findIn K (.ref C_Ring) "root" = some (some (.ref f50)))
    (l50 : K.lookup f50 = some ⟨oc50, od50, .func (PySem.W.fnOf "root" "Ring.root" (defArgs s_Ring_root) (defBody s_Ring_root) (defScope s_Ring_root) .none kV50 dc50 pm50 an50 cd50 ct50), sl50⟩)
    (c50 : PySem.W.codeIn K cd50 "Ring.root" = true)
    (k50 : PySem.W.keepIn K (.ref f50) = true)
    (vm50 : methB K C_Ring "root" f50 = true)
    (gl : glB K = true)
    (wh : whB K rsX = true)
    (xg_TooMany : PySem.W.nsIn K mainGlobals "TooMany" = some (some (.ref C_TooMany)))
    (xi_TooMany : PySem.W.findIn K (.ref C_TooMany) "__init__" = some (some (.ref fI_TooMany)))
    (xl_TooMany : K.lookup fI_TooMany = some ⟨xoc_TooMany, xod_TooMany, .func (PySem.W.fnOf "__init__" "TooMany.__init__" (defArgs sI_TooMany) (defBody sI_TooMany) (defScope sI_TooMany) .none xkV_TooMany xdc_TooMany xpm_TooMany xan_TooMany xcd_TooMany xct_TooMany), xsl_TooMany⟩)
    (xc_TooMany : PySem.W.codeIn K xcd_TooMany "TooMany.__init__" = true)
    (xk_TooMany : PySem.W.keepIn K (.ref fI_TooMany) = true)
    (xf_TooMany : fxB K "TooMany" [.type "OverflowError", .type "ArithmeticError", .type "Exception", .type "BaseException", .type "object"] "OverflowError.__new__" C_TooMany fI_TooMany ["most"] = true)
    (xg_Uneven : PySem.W.nsIn K mainGlobals "Uneven" = some (some (.ref C_Uneven)))
    (xi_Uneven : PySem.W.findIn K (.ref C_Uneven) "__init__" = some (some (.ref fI_Uneven)))
    (xl_Uneven : K.lookup fI_Uneven = some ⟨xoc_Uneven, xod_Uneven, .func (PySem.W.fnOf "__init__" "Uneven.__init__" (defArgs sI_Uneven) (defBody sI_Uneven) (defScope sI_Uneven) .none xkV_Uneven xdc_Uneven xpm_Uneven xan_Uneven xcd_Uneven xct_Uneven), xsl_Uneven⟩)
    (xc_Uneven : PySem.W.codeIn K xcd_Uneven "Uneven.__init__" = true)
    (xk_Uneven : PySem.W.keepIn K (.ref fI_Uneven) = true)
    (xf_Uneven : fxB K "Uneven" [.type "ValueError", .type "Exception", .type "BaseException", .type "object"] "ValueError.__new__" C_Uneven fI_Uneven ["one", "other"] = true)
    (rs_NoRing : rsB K "NoRing" [.type "ValueError", .type "Exception", .type "BaseException", .type "object"] "ValueError.__new__" = true)
    (rs_NoStep : rsB K "NoStep" [.type "ValueError", .type "Exception", .type "BaseException", .type "object"] "ValueError.__new__" = true)
    (rs_NoTable : rsB K "NoTable" [.type "ValueError", .type "Exception", .type "BaseException", .type "object"] "ValueError.__new__" = true)
    (rs_NoWay : rsB K "NoWay" [.type "ValueError", .type "Exception", .type "BaseException", .type "object"] "ValueError.__new__" = true)
    (rs_NoWord : rsB K "NoWord" [.type "ValueError", .type "Exception", .type "BaseException", .type "object"] "ValueError.__new__" = true)
    (g_HOLD : PySem.W.nsIn K mainGlobals "HOLD" = some (some (.ref p_HOLD)))
    (l_HOLD : K.lookup p_HOLD = some ⟨.type "dict", none, .dict es_HOLD n_HOLD, #[]⟩)
    (y_HOLD : PySem.W.KeysLit w.params es_HOLD.toList)
    (e0_HOLD : PySem.W.nsIn K p_HOLD "even" = some (some (.ref f35)))
    (e1_HOLD : PySem.W.nsIn K p_HOLD "uneven" = some (some (.ref f36)))
    (e2_HOLD : PySem.W.nsIn K p_HOLD "below" = some (some (.ref fx_below_holds)))
    (fa_below_holds : PySem.W.nsIn K mainGlobals "below_holds" = some (some (.ref fx_below_holds)))
    (e3_HOLD : PySem.W.nsIn K p_HOLD "above" = some (some (.ref fx_above_holds)))
    (fa_above_holds : PySem.W.nsIn K mainGlobals "above_holds" = some (some (.ref fx_above_holds)))
    (s_HOLD : (p_HOLD == sysModules) = false)
    (sk_HOLD : es_HOLD.toList.map skey = (["even", "uneven", "below", "above"] : List PySem.Str).map some)
    (g_HOLD_OF_THREE : PySem.W.nsIn K mainGlobals "HOLD_OF_THREE" = some (some (.ref p_HOLD_OF_THREE)))
    (l_HOLD_OF_THREE : K.lookup p_HOLD_OF_THREE = some ⟨.type "dict", none, .dict es_HOLD_OF_THREE n_HOLD_OF_THREE, #[]⟩)
    (y_HOLD_OF_THREE : PySem.W.KeysLit w.params es_HOLD_OF_THREE.toList)
    (e0_HOLD_OF_THREE : PySem.W.nsIn K p_HOLD_OF_THREE "triple" = some (some (.ref fx_triple_holds)))
    (fa_triple_holds : PySem.W.nsIn K mainGlobals "triple_holds" = some (some (.ref fx_triple_holds)))
    (e1_HOLD_OF_THREE : PySem.W.nsIn K p_HOLD_OF_THREE "form below" = some (some (.ref fx_form_below_holds)))
    (fa_form_below_holds : PySem.W.nsIn K mainGlobals "form_below_holds" = some (some (.ref fx_form_below_holds)))
    (e2_HOLD_OF_THREE : PySem.W.nsIn K p_HOLD_OF_THREE "form above" = some (some (.ref fx_form_above_holds)))
    (fa_form_above_holds : PySem.W.nsIn K mainGlobals "form_above_holds" = some (some (.ref fx_form_above_holds)))
    (s_HOLD_OF_THREE : (p_HOLD_OF_THREE == sysModules) = false)
    (sk_HOLD_OF_THREE : es_HOLD_OF_THREE.toList.map skey = (["triple", "form below", "form above"] : List PySem.Str).map some)
    (g_HOLD_SAME : PySem.W.nsIn K mainGlobals "HOLD_SAME" = some (some (.ref p_HOLD_SAME)))
    (l_HOLD_SAME : K.lookup p_HOLD_SAME = some ⟨.type "dict", none, .dict es_HOLD_SAME n_HOLD_SAME, #[]⟩)
    (y_HOLD_SAME : PySem.W.KeysLit w.params es_HOLD_SAME.toList)
    (e0_HOLD_SAME : PySem.W.nsIn K p_HOLD_SAME "same" = some (some (.ref fx_same_holds)))
    (fa_same_holds : PySem.W.nsIn K mainGlobals "same_holds" = some (some (.ref fx_same_holds)))
    (s_HOLD_SAME : (p_HOLD_SAME == sysModules) = false)
    (sk_HOLD_SAME : es_HOLD_SAME.toList.map skey = (["same"] : List PySem.Str).map some)
    (g_LETTERS : PySem.W.nsIn K mainGlobals "LETTERS" = some (some (.str "ab" tk_LETTERS)))
    (g_LETTER_TABLES : PySem.W.nsIn K mainGlobals "LETTER_TABLES" = some (some (.ref p_LETTER_TABLES)))
    (l_LETTER_TABLES : K.lookup p_LETTER_TABLES = some ⟨.type "dict", none, .dict es_LETTER_TABLES n_LETTER_TABLES, #[]⟩)
    (y_LETTER_TABLES : PySem.W.KeysLit w.params es_LETTER_TABLES.toList)
    (e0_LETTER_TABLES : PySem.W.nsIn K p_LETTER_TABLES "a" = some (some (.ref p_LETTER_TABLES_0)))
    (lp_LETTER_TABLES_0 : K.lookup p_LETTER_TABLES_0 = some ⟨.type "tuple", odp_LETTER_TABLES_0, .seq #[.ref p_LETTER_TABLES_0_0, .ref p_LETTER_TABLES_0_1] np_LETTER_TABLES_0, slp_LETTER_TABLES_0⟩)
    (lp_LETTER_TABLES_0_0 : K.lookup p_LETTER_TABLES_0_0 = some ⟨.type "tuple", odp_LETTER_TABLES_0_0, .seq #[.int 2 tk_LETTER_TABLES_0_0_0, .int 1 tk_LETTER_TABLES_0_0_1] np_LETTER_TABLES_0_0, slp_LETTER_TABLES_0_0⟩)
    (lp_LETTER_TABLES_0_1 : K.lookup p_LETTER_TABLES_0_1 = some ⟨.type "tuple", odp_LETTER_TABLES_0_1, .seq #[.int 1 tk_LETTER_TABLES_0_1_0, .int 1 tk_LETTER_TABLES_0_1_1] np_LETTER_TABLES_0_1, slp_LETTER_TABLES_0_1⟩)
    (e1_LETTER_TABLES : PySem.W.nsIn K p_LETTER_TABLES "b" = some (some (.ref p_LETTER_TABLES_1)))
    (lp_LETTER_TABLES_1 : K.lookup p_LETTER_TABLES_1 = some ⟨.type "tuple", odp_LETTER_TABLES_1, .seq #[.ref p_LETTER_TABLES_1_0, .ref p_LETTER_TABLES_1_1] np_LETTER_TABLES_1, slp_LETTER_TABLES_1⟩)
    (lp_LETTER_TABLES_1_0 : K.lookup p_LETTER_TABLES_1_0 = some ⟨.type "tuple", odp_LETTER_TABLES_1_0, .seq #[.int 5 tk_LETTER_TABLES_1_0_0, .int 2 tk_LETTER_TABLES_1_0_1] np_LETTER_TABLES_1_0, slp_LETTER_TABLES_1_0⟩)
    (lp_LETTER_TABLES_1_1 : K.lookup p_LETTER_TABLES_1_1 = some ⟨.type "tuple", odp_LETTER_TABLES_1_1, .seq #[.int 2 tk_LETTER_TABLES_1_1_0, .int 1 tk_LETTER_TABLES_1_1_1] np_LETTER_TABLES_1_1, slp_LETTER_TABLES_1_1⟩)
    (g_MOST_LETTERS : PySem.W.nsIn K mainGlobals "MOST_LETTERS" = some (some (.int 60 tk_MOST_LETTERS)))
    (g_MOST_NUMBER : PySem.W.nsIn K mainGlobals "MOST_NUMBER" = some (some (.int 999999 tk_MOST_NUMBER)))
    (g_MOST_RING : PySem.W.nsIn K mainGlobals "MOST_RING" = some (some (.int 40 tk_MOST_RING)))
    (g_UNIT : PySem.W.nsIn K mainGlobals "UNIT" = some (some (.ref p_UNIT)))
    (lp_UNIT : K.lookup p_UNIT = some ⟨.type "tuple", odp_UNIT, .seq #[.ref p_UNIT_0, .ref p_UNIT_1] np_UNIT, slp_UNIT⟩)
    (lp_UNIT_0 : K.lookup p_UNIT_0 = some ⟨.type "tuple", odp_UNIT_0, .seq #[.int 1 tk_UNIT_0_0, .int 0 tk_UNIT_0_1] np_UNIT_0, slp_UNIT_0⟩)
    (lp_UNIT_1 : K.lookup p_UNIT_1 = some ⟨.type "tuple", odp_UNIT_1, .seq #[.int 0 tk_UNIT_1_0, .int 1 tk_UNIT_1_1] np_UNIT_1, slp_UNIT_1⟩)
    (g_WAY_LETTERS : PySem.W.nsIn K mainGlobals "WAY_LETTERS" = some (some (.str "lr" tk_WAY_LETTERS)))
    (z_abs : PySem.W.nsIn K mainGlobals "abs" = some none)
    (z_all : PySem.W.nsIn K mainGlobals "all" = some none)
    (z_bool : PySem.W.nsIn K mainGlobals "bool" = some none)
    (z_int : PySem.W.nsIn K mainGlobals "int" = some none)
    (z_isinstance : PySem.W.nsIn K mainGlobals "isinstance" = some none)
    (z_len : PySem.W.nsIn K mainGlobals "len" = some none)
    (z_max : PySem.W.nsIn K mainGlobals "max" = some none)
    (z_min : PySem.W.nsIn K mainGlobals "min" = some none)
    (z_range : PySem.W.nsIn K mainGlobals "range" = some none)
    (z_set : PySem.W.nsIn K mainGlobals "set" = some none)
    (z_sorted : PySem.W.nsIn K mainGlobals "sorted" = some none)
    (z_str : PySem.W.nsIn K mainGlobals "str" = some none)
    (z_tuple : PySem.W.nsIn K mainGlobals "tuple" = some none)
    : LawG PySem.Challenge.rw_nearthrees_k77_whole_all_words_of_so_man w K (L2N.CX PySem.Challenge.rw_nearthrees_k77_whole_all_words_of_so_man.prog w) 121 63 "_law_script" mg fa h := by
  have e := hfa.symm.trans (PySem.W.mg_of X G a45)
  cases e
  have F0 := fun_mk (st := s_is_whole) l0 c0 k0
  have b0 := F0.binds (ps := ["thing"]) fun _ _ _ _ _ _ us hl => match us, hl with | [_], _ => rfl
  have F1 := fun_mk (st := s_are_wholes) l1 c1 k1
  have b1 := F1.binds (ps := ["things"]) fun _ _ _ _ _ _ us hl => match us, hl with | [_], _ => rfl
  have F2 := fun_mk (st := s_shared_by) l2 c2 k2
  have b2 := F2.binds (ps := ["one", "other"]) fun _ _ _ _ _ _ us hl => match us, hl with | [_, _], _ => rfl
  have F3 := fun_mk (st := s_is_within) l3 c3 k3
  have b3 := F3.binds (ps := ["thing", "least", "most"]) fun _ _ _ _ _ _ us hl => match us, hl with | [_, _, _], _ => rfl
  have F4 := fun_mk (st := s_is_row) l4 c4 k4
  have b4 := F4.binds (ps := ["thing", "least", "most"]) fun _ _ _ _ _ _ us hl => match us, hl with | [_, _, _], _ => rfl
  have F5 := fun_mk (st := s_is_number_ring) l5 c5 k5
  have b5 := F5.binds (ps := ["thing"]) fun _ _ _ _ _ _ us hl => match us, hl with | [_], _ => rfl
  have F6 := fun_mk (st := s_shortest_part) l6 c6 k6
  have b6 := F6.binds (ps := ["parts"]) fun _ _ _ _ _ _ us hl => match us, hl with | [_], _ => rfl
  have F7 := fun_mk (st := s_is_word) l7 c7 k7
  have b7 := F7.binds (ps := ["thing"]) fun _ _ _ _ _ _ us hl => match us, hl with | [_], _ => rfl
  have F8 := fun_mk (st := s_look_word) l8 c8 k8
  have b8 := F8.binds (ps := ["thing"]) fun _ _ _ _ _ _ us hl => match us, hl with | [_], _ => rfl
  have F9 := fun_mk (st := s_how_many_b) l9 c9 k9
  have b9 := F9.binds (ps := ["part"]) fun _ _ _ _ _ _ us hl => match us, hl with | [_], _ => rfl
  have F10 := fun_mk (st := s_uneven_pair) l10 c10 k10
  have b10 := F10.binds (ps := ["word"]) fun _ _ _ _ _ _ us hl => match us, hl with | [_], _ => rfl
  have F11 := fun_mk (st := s_is_even) l11 c11 k11
  have b11 := F11.binds (ps := ["word"]) fun _ _ _ _ _ _ us hl => match us, hl with | [_], _ => rfl
  have F12 := fun_mk (st := s_uneven_parts) l12 c12 k12
  have b12 := F12.binds (ps := ["word"]) fun _ _ _ _ _ _ us hl => match us, hl with | [_], _ => rfl
  have F13 := fun_mk (st := s_even_word) l13 c13 k13
  have b13 := F13.binds (ps := ["many_b", "many_a"]) fun _ _ _ _ _ _ us hl => match us, hl with | [_, _], _ => rfl
  have F14 := fun_mk (st := s_is_step_word) l14 c14 k14
  have b14 := F14.binds (ps := ["thing"]) fun _ _ _ _ _ _ us hl => match us, hl with | [_], _ => rfl
  have F15 := fun_mk (st := s_look_step_steps) l15 c15 k15
  have b15 := F15.binds (ps := ["word", "least"]) fun _ _ _ _ _ _ us hl => match us, hl with | [_, _], _ => rfl
  have F16 := fun_mk (st := s_cut_by) l16 c16 k16
  have b16 := F16.binds (ps := ["word"]) fun _ _ _ _ _ _ us hl => match us, hl with | [_], _ => rfl
  have F17 := fun_mk (st := s_cut_of) l17 c17 k17
  have b17 := F17.binds (ps := ["word"]) fun _ _ _ _ _ _ us hl => match us, hl with | [_], _ => rfl
  have F18 := fun_mk (st := s_way_by_left) l18 c18 k18
  have b18 := F18.binds (ps := ["first", "second"]) fun _ _ _ _ _ _ us hl => match us, hl with | [_, _], _ => rfl
  have F19 := fun_mk (st := s_way_by_right) l19 c19 k19
  have b19 := F19.binds (ps := ["first", "second"]) fun _ _ _ _ _ _ us hl => match us, hl with | [_, _], _ => rfl
  have F20 := fun_mk (st := s_way_to) l20 c20 k20
  have b20 := F20.binds (ps := ["first", "second"]) fun _ _ _ _ _ _ us hl => match us, hl with | [_, _], _ => rfl
  have F21 := fun_mk (st := s_way_of_word) l21 c21 k21
  have b21 := F21.binds (ps := ["word"]) fun _ _ _ _ _ _ us hl => match us, hl with | [_], _ => rfl
  have F22 := fun_mk (st := s_look_way) l22 c22 k22
  have b22 := F22.binds (ps := ["way"]) fun _ _ _ _ _ _ us hl => match us, hl with | [_], _ => rfl
  have F23 := fun_mk (st := s_word_of_way) l23 c23 k23
  have b23 := F23.binds (ps := ["way"]) fun _ _ _ _ _ _ us hl => match us, hl with | [_], _ => rfl
  have F24 := fun_mk (st := s_is_pair_of) l24 c24 k24
  have b24 := F24.binds (ps := ["thing"]) fun _ _ _ _ _ _ us hl => match us, hl with | [_], _ => rfl
  have F25 := fun_mk (st := s_is_table) l25 c25 k25
  have b25 := F25.binds (ps := ["thing"]) fun _ _ _ _ _ _ us hl => match us, hl with | [_], _ => rfl
  have F26 := fun_mk (st := s_size_of) l26 c26 k26
  have b26 := F26.binds (ps := ["table"]) fun _ _ _ _ _ _ us hl => match us, hl with | [_], _ => rfl
  have F27 := fun_mk (st := s_joined) l27 c27 k27
  have b27 := F27.binds (ps := ["one", "other"]) fun _ _ _ _ _ _ us hl => match us, hl with | [_, _], _ => rfl
  have F28 := fun_mk (st := s_contrary_by) l28 c28 k28
  have b28 := F28.binds (ps := ["table"]) fun _ _ _ _ _ _ us hl => match us, hl with | [_], _ => rfl
  have F29 := fun_mk (st := s_table_by) l29 c29 k29
  have b29 := F29.binds (ps := ["word"]) fun _ _ _ _ _ _ us hl => match us, hl with | [_], _ => rfl
  have F30 := fun_mk (st := s_table_of) l30 c30 k30
  have b30 := F30.binds (ps := ["word"]) fun _ _ _ _ _ _ us hl => match us, hl with | [_], _ => rfl
  have F31 := fun_mk (st := s_first_letter) l31 c31 k31
  have b31 := F31.binds (ps := ["table"]) fun _ _ _ _ _ _ us hl => match us, hl with | [_], _ => rfl
  have F32 := fun_mk (st := s_word_of) l32 c32 k32
  have b32 := F32.binds (ps := ["table"]) fun _ _ _ _ _ _ us hl => match us, hl with | [_], _ => rfl
  have F33 := fun_mk (st := s_is_tuple_of) l33 c33 k33
  have b33 := F33.binds (ps := ["thing", "many"]) fun _ _ _ _ _ _ us hl => match us, hl with | [_, _], _ => rfl
  have F34 := fun_mk (st := s_is_part_of) l34 c34 k34
  have b34 := F34.binds (ps := ["thing", "word"]) fun _ _ _ _ _ _ us hl => match us, hl with | [_, _], _ => rfl
  have F35 := fun_mk (st := s_even_holds) l35 c35 k35
  have b35 := F35.binds (ps := ["word", "paper"]) fun _ _ _ _ _ _ us hl => match us, hl with | [_, _], _ => rfl
  have F36 := fun_mk (st := s_uneven_holds) l36 c36 k36
  have b36 := F36.binds (ps := ["word", "paper"]) fun _ _ _ _ _ _ us hl => match us, hl with | [_, _], _ => rfl
  have F37 := fun_mk (st := s_holds) l37 c37 k37
  have b37 := F37.binds (ps := ["claim", "paper"]) fun _ _ _ _ _ _ us hl => match us, hl with | [_, _], _ => rfl
  have F38 := fun_mk (st := s_law_urn) l38 c38 k38
  have b38 := F38.binds (ps := ["_law_script", "_law_at"]) fun _ _ _ _ _ _ us hl => match us, hl with | [_, _], _ => rfl
  have F39 := fun_mk (st := s_law_draw) l39 c39 k39
  have b39 := F39.binds (ps := ["_law_urn_here", "_law_wide"]) fun _ _ _ _ _ _ us hl => match us, hl with | [_, _], _ => rfl
  have F40 := fun_mk (st := s_law_shared) l40 c40 k40
  have b40 := F40.binds (ps := ["_law_one", "_law_other"]) fun _ _ _ _ _ _ us hl => match us, hl with | [_, _], _ => rfl
  have F41 := fun_mk (st := s_law_all_words) l41 c41 k41
  have b41 := F41.binds (ps := ["_law_many"]) fun _ _ _ _ _ _ us hl => match us, hl with | [_], _ => rfl
  have F42 := fun_mk (st := s_law_even_right) l42 c42 k42
  have b42 := F42.binds (ps := ["_law_word"]) fun _ _ _ _ _ _ us hl => match us, hl with | [_], _ => rfl
  have F43 := fun_mk (st := s_law_step_right) l43 c43 k43
  have b43 := F43.binds (ps := ["_law_word"]) fun _ _ _ _ _ _ us hl => match us, hl with | [_], _ => rfl
  have F44 := fun_mk (st := s_law_no_way) l44 c44 k44
  have b44 := F44.binds (ps := ["_law_word"]) fun _ _ _ _ _ _ us hl => match us, hl with | [_], _ => rfl
  have F45 := fun_mk (st := s_law) l45 c45 k45
  have b45 := F45.binds (ps := ["_law_script"]) fun _ _ _ _ _ _ us hl => match us, hl with | [_], _ => rfl
  have F46 := fun_mk (st := s_Ring___init__) l46 c46 k46
  have b46 := F46.binds (ps := ["self", "parts"]) fun _ _ _ _ _ _ us hl => match us, hl with | [_, _], _ => rfl
  have F47 := Hx.funV_mk (st := s_Ring_turned) l47 c47 k47 dt47
  have b47 : Binds K (PySem.W.fnOf "turned" "Ring.turned" (defArgs s_Ring_turned) (defBody s_Ring_turned) (defScope s_Ring_turned) (.ref dT47) kV47 dc47 pm47 an47 cd47 ct47) ["self", "by"] [] := fun s us X hl => F47.to X (match us, (by simp only [List.length_append, List.length_cons, List.length_nil] at hl; omega : us.length = 2) with | [_, _], _ => ⟨_, rfl, rfl⟩)
  have F48 := fun_mk (st := s_Ring_least_turn) l48 c48 k48
  have b48 := F48.binds (ps := ["self"]) fun _ _ _ _ _ _ us hl => match us, hl with | [_], _ => rfl
  have F49 := fun_mk (st := s_Ring_least) l49 c49 k49
  have b49 := F49.binds (ps := ["self"]) fun _ _ _ _ _ _ us hl => match us, hl with | [_], _ => rfl
  have F50 := fun_mk (st := s_Ring_root) l50 c50 k50
  have b50 := F50.binds (ps := ["self"]) fun _ _ _ _ _ _ us hl => match us, hl with | [_], _ => rfl
  obtain ⟨C_NoRing, R_NoRing⟩ := rsB_ok rs_NoRing
  obtain ⟨C_NoStep, R_NoStep⟩ := rsB_ok rs_NoStep
  obtain ⟨C_NoTable, R_NoTable⟩ := rsB_ok rs_NoTable
  obtain ⟨C_NoWay, R_NoWay⟩ := rsB_ok rs_NoWay
  obtain ⟨C_NoWord, R_NoWord⟩ := rsB_ok rs_NoWord
  have FI_TooMany := fun_mk (st := sI_TooMany) xl_TooMany xc_TooMany xk_TooMany
  have bI_TooMany := FI_TooMany.binds (ps := ["self", "most"]) fun _ _ _ _ _ _ us hl => match us, hl with | [_, _], _ => rfl
  have FI_Uneven := fun_mk (st := sI_Uneven) xl_Uneven xc_Uneven xk_Uneven
  have bI_Uneven := FI_Uneven.binds (ps := ["self", "one", "other"]) fun _ _ _ _ _ _ us hl => match us, hl with | [_, _, _], _ => rfl
  let T : ∀ base : Heap, Txt w K mg base := fun base => {
    C_Ring := C_Ring, gc_Ring := PySem.W.mg_of X G vg_Ring,
    f_is_whole := _, fd_is_whole := _, F_is_whole := F0, m_is_whole := PySem.W.mg_of X G a0, b_is_whole := b0,
    f_are_wholes := _, fd_are_wholes := _, F_are_wholes := F1, m_are_wholes := PySem.W.mg_of X G a1, b_are_wholes := b1,
    f_shared_by := _, fd_shared_by := _, F_shared_by := F2, m_shared_by := PySem.W.mg_of X G a2, b_shared_by := b2,
    f_is_within := _, fd_is_within := _, F_is_within := F3, m_is_within := PySem.W.mg_of X G a3, b_is_within := b3,
    f_is_row := _, fd_is_row := _, F_is_row := F4, m_is_row := PySem.W.mg_of X G a4, b_is_row := b4,
    f_is_number_ring := _, fd_is_number_ring := _, F_is_number_ring := F5, m_is_number_ring := PySem.W.mg_of X G a5, b_is_number_ring := b5,
    f_shortest_part := _, fd_shortest_part := _, F_shortest_part := F6, m_shortest_part := PySem.W.mg_of X G a6, b_shortest_part := b6,
    f_is_word := _, fd_is_word := _, F_is_word := F7, m_is_word := PySem.W.mg_of X G a7, b_is_word := b7,
    f_look_word := _, fd_look_word := _, F_look_word := F8, m_look_word := PySem.W.mg_of X G a8, b_look_word := b8,
    f_how_many_b := _, fd_how_many_b := _, F_how_many_b := F9, m_how_many_b := PySem.W.mg_of X G a9, b_how_many_b := b9,
    f_uneven_pair := _, fd_uneven_pair := _, F_uneven_pair := F10, m_uneven_pair := PySem.W.mg_of X G a10, b_uneven_pair := b10,
    f_is_even := _, fd_is_even := _, F_is_even := F11, m_is_even := PySem.W.mg_of X G a11, b_is_even := b11,
    f_uneven_parts := _, fd_uneven_parts := _, F_uneven_parts := F12, m_uneven_parts := PySem.W.mg_of X G a12, b_uneven_parts := b12,
    f_even_word := _, fd_even_word := _, F_even_word := F13, m_even_word := PySem.W.mg_of X G a13, b_even_word := b13,
    f_is_step_word := _, fd_is_step_word := _, F_is_step_word := F14, m_is_step_word := PySem.W.mg_of X G a14, b_is_step_word := b14,
    f_look_step_steps := _, fd_look_step_steps := _, F_look_step_steps := F15, m_look_step_steps := PySem.W.mg_of X G a15, b_look_step_steps := b15,
    f_cut_by := _, fd_cut_by := _, F_cut_by := F16, m_cut_by := PySem.W.mg_of X G a16, b_cut_by := b16,
    f_cut_of := _, fd_cut_of := _, F_cut_of := F17, m_cut_of := PySem.W.mg_of X G a17, b_cut_of := b17,
    f_way_by_left := _, fd_way_by_left := _, F_way_by_left := F18, m_way_by_left := PySem.W.mg_of X G a18, b_way_by_left := b18,
    f_way_by_right := _, fd_way_by_right := _, F_way_by_right := F19, m_way_by_right := PySem.W.mg_of X G a19, b_way_by_right := b19,
    f_way_to := _, fd_way_to := _, F_way_to := F20, m_way_to := PySem.W.mg_of X G a20, b_way_to := b20,
    f_way_of_word := _, fd_way_of_word := _, F_way_of_word := F21, m_way_of_word := PySem.W.mg_of X G a21, b_way_of_word := b21,
    f_look_way := _, fd_look_way := _, F_look_way := F22, m_look_way := PySem.W.mg_of X G a22, b_look_way := b22,
    f_word_of_way := _, fd_word_of_way := _, F_word_of_way := F23, m_word_of_way := PySem.W.mg_of X G a23, b_word_of_way := b23,
    f_is_pair_of := _, fd_is_pair_of := _, F_is_pair_of := F24, m_is_pair_of := PySem.W.mg_of X G a24, b_is_pair_of := b24,
    f_is_table := _, fd_is_table := _, F_is_table := F25, m_is_table := PySem.W.mg_of X G a25, b_is_table := b25,
    f_size_of := _, fd_size_of := _, F_size_of := F26, m_size_of := PySem.W.mg_of X G a26, b_size_of := b26,
    f_joined := _, fd_joined := _, F_joined := F27, m_joined := PySem.W.mg_of X G a27, b_joined := b27,
    f_contrary_by := _, fd_contrary_by := _, F_contrary_by := F28, m_contrary_by := PySem.W.mg_of X G a28, b_contrary_by := b28,
    f_table_by := _, fd_table_by := _, F_table_by := F29, m_table_by := PySem.W.mg_of X G a29, b_table_by := b29,
    f_table_of := _, fd_table_of := _, F_table_of := F30, m_table_of := PySem.W.mg_of X G a30, b_table_of := b30,
    f_first_letter := _, fd_first_letter := _, F_first_letter := F31, m_first_letter := PySem.W.mg_of X G a31, b_first_letter := b31,
    f_word_of := _, fd_word_of := _, F_word_of := F32, m_word_of := PySem.W.mg_of X G a32, b_word_of := b32,
    f_is_tuple_of := _, fd_is_tuple_of := _, F_is_tuple_of := F33, m_is_tuple_of := PySem.W.mg_of X G a33, b_is_tuple_of := b33,
    f_is_part_of := _, fd_is_part_of := _, F_is_part_of := F34, m_is_part_of := PySem.W.mg_of X G a34, b_is_part_of := b34,
    gn_even_holds := a35,
    f_even_holds := _, fd_even_holds := _, F_even_holds := F35, m_even_holds := PySem.W.mg_of X G a35, b_even_holds := b35,
    gn_uneven_holds := a36,
    f_uneven_holds := _, fd_uneven_holds := _, F_uneven_holds := F36, m_uneven_holds := PySem.W.mg_of X G a36, b_uneven_holds := b36,
    f_holds := _, fd_holds := _, F_holds := F37, m_holds := PySem.W.mg_of X G a37, b_holds := b37,
    f_law_urn := _, fd_law_urn := _, F_law_urn := F38, m_law_urn := PySem.W.mg_of X G a38, b_law_urn := b38,
    f_law_draw := _, fd_law_draw := _, F_law_draw := F39, m_law_draw := PySem.W.mg_of X G a39, b_law_draw := b39,
    f_law_shared := _, fd_law_shared := _, F_law_shared := F40, m_law_shared := PySem.W.mg_of X G a40, b_law_shared := b40,
    f_law_all_words := _, fd_law_all_words := _, F_law_all_words := F41, m_law_all_words := PySem.W.mg_of X G a41, b_law_all_words := b41,
    f_law_even_right := _, fd_law_even_right := _, F_law_even_right := F42, m_law_even_right := PySem.W.mg_of X G a42, b_law_even_right := b42,
    f_law_step_right := _, fd_law_step_right := _, F_law_step_right := F43, m_law_step_right := PySem.W.mg_of X G a43, b_law_step_right := b43,
    f_law_no_way := _, fd_law_no_way := _, F_law_no_way := F44, m_law_no_way := PySem.W.mg_of X G a44, b_law_no_way := b44,
    f_law := _, fd_law := _, F_law := F45, m_law := PySem.W.mg_of X G a45, b_law := b45,
    f_Ring___init__ := _, fd_Ring___init__ := _, F_Ring___init__ := F46, cl_Ring := clB_ok vc_Ring, na_Ring := vn_Ring, b_Ring___init__ := b46,
    f_Ring_turned := _, fd_Ring_turned := _, F_Ring_turned := F47, M_Ring_turned := methB_ok vm47, B_Ring_turned := bmB_ok vb47, T_Ring_turned := dT47, its_Ring_turned := #[.int 1 dk47_0], b_Ring_turned := b47,
    f_Ring_least_turn := _, fd_Ring_least_turn := _, F_Ring_least_turn := F48, M_Ring_least_turn := methB_ok vm48, b_Ring_least_turn := b48,
    f_Ring_least := _, fd_Ring_least := _, F_Ring_least := F49, M_Ring_least := methB_ok vm49, b_Ring_least := b49,
    f_Ring_root := _, fd_Ring_root := _, F_Ring_root := F50, M_Ring_root := methB_ok vm50, b_Ring_root := b50,
    own := fun c hc => let ⟨Dn, h1, h2⟩ := glB_ok gl hc; ⟨Dn, PySem.W.mg_of X G h1, h2⟩, wf := fun n hn => ⟨(by decide +kernel : ∀ n ∈ rsX, n ∈ ownCls) n hn, whB_ok wh hn⟩,
    C_TooMany := C_TooMany, fI_TooMany := fI_TooMany, fdI_TooMany := _, FI_TooMany := FI_TooMany, bI_TooMany := bI_TooMany, X_TooMany := fxB_ok pass_OverflowError (by decide +kernel) xf_TooMany, gc_TooMany := PySem.W.mg_of X G xg_TooMany,
    C_Uneven := C_Uneven, fI_Uneven := fI_Uneven, fdI_Uneven := _, FI_Uneven := FI_Uneven, bI_Uneven := bI_Uneven, X_Uneven := fxB_ok pass_ValueError (by decide +kernel) xf_Uneven, gc_Uneven := PySem.W.mg_of X G xg_Uneven,
    C_NoRing := C_NoRing, R_NoRing := R_NoRing, gc_NoRing := PySem.W.mg_of X G R_NoRing.at_,
    C_NoStep := C_NoStep, R_NoStep := R_NoStep, gc_NoStep := PySem.W.mg_of X G R_NoStep.at_,
    C_NoTable := C_NoTable, R_NoTable := R_NoTable, gc_NoTable := PySem.W.mg_of X G R_NoTable.at_,
    C_NoWay := C_NoWay, R_NoWay := R_NoWay, gc_NoWay := PySem.W.mg_of X G R_NoWay.at_,
    C_NoWord := C_NoWord, R_NoWord := R_NoWord, gc_NoWord := PySem.W.mg_of X G R_NoWord.at_,
    a_HOLD := p_HOLD,
    m_HOLD := PySem.W.mg_of X G g_HOLD,
    k_HOLD := fun z d e => by
      unfold k_HOLD at e
      split at e
      · rename_i hz
        rw [← Option.some.inj e, hz]
        exact ⟨.ref f35, ⟨_, _, _, l_HOLD, y_HOLD, e0_HOLD, rfl⟩, fun H S => ⟨_, rfl, a35⟩⟩
      split at e
      · rename_i hz
        rw [← Option.some.inj e, hz]
        exact ⟨.ref f36, ⟨_, _, _, l_HOLD, y_HOLD, e1_HOLD, rfl⟩, fun H S => ⟨_, rfl, a36⟩⟩
      split at e
      · rename_i hz
        rw [← Option.some.inj e, hz]
        exact ⟨.ref fx_below_holds, ⟨_, _, _, l_HOLD, y_HOLD, e2_HOLD, rfl⟩, fun H S => ⟨_, rfl, fa_below_holds⟩⟩
      split at e
      · rename_i hz
        rw [← Option.some.inj e, hz]
        exact ⟨.ref fx_above_holds, ⟨_, _, _, l_HOLD, y_HOLD, e3_HOLD, rfl⟩, fun H S => ⟨_, rfl, fa_above_holds⟩⟩
      exact absurd e (by simp),
    q_HOLD := ⟨_, _, ⟨l_HOLD, y_HOLD, s_HOLD⟩, sk_HOLD⟩,
    a_HOLD_OF_THREE := p_HOLD_OF_THREE,
    m_HOLD_OF_THREE := PySem.W.mg_of X G g_HOLD_OF_THREE,
    k_HOLD_OF_THREE := fun z d e => by
      unfold k_HOLD_OF_THREE at e
      split at e
      · rename_i hz
        rw [← Option.some.inj e, hz]
        exact ⟨.ref fx_triple_holds, ⟨_, _, _, l_HOLD_OF_THREE, y_HOLD_OF_THREE, e0_HOLD_OF_THREE, rfl⟩, fun H S => ⟨_, rfl, fa_triple_holds⟩⟩
      split at e
      · rename_i hz
        rw [← Option.some.inj e, hz]
        exact ⟨.ref fx_form_below_holds, ⟨_, _, _, l_HOLD_OF_THREE, y_HOLD_OF_THREE, e1_HOLD_OF_THREE, rfl⟩, fun H S => ⟨_, rfl, fa_form_below_holds⟩⟩
      split at e
      · rename_i hz
        rw [← Option.some.inj e, hz]
        exact ⟨.ref fx_form_above_holds, ⟨_, _, _, l_HOLD_OF_THREE, y_HOLD_OF_THREE, e2_HOLD_OF_THREE, rfl⟩, fun H S => ⟨_, rfl, fa_form_above_holds⟩⟩
      exact absurd e (by simp),
    q_HOLD_OF_THREE := ⟨_, _, ⟨l_HOLD_OF_THREE, y_HOLD_OF_THREE, s_HOLD_OF_THREE⟩, sk_HOLD_OF_THREE⟩,
    a_HOLD_SAME := p_HOLD_SAME,
    m_HOLD_SAME := PySem.W.mg_of X G g_HOLD_SAME,
    k_HOLD_SAME := fun z d e => by
      unfold k_HOLD_SAME at e
      split at e
      · rename_i hz
        rw [← Option.some.inj e, hz]
        exact ⟨.ref fx_same_holds, ⟨_, _, _, l_HOLD_SAME, y_HOLD_SAME, e0_HOLD_SAME, rfl⟩, fun H S => ⟨_, rfl, fa_same_holds⟩⟩
      exact absurd e (by simp),
    q_HOLD_SAME := ⟨_, _, ⟨l_HOLD_SAME, y_HOLD_SAME, s_HOLD_SAME⟩, sk_HOLD_SAME⟩,
    v_LETTERS := .str "ab",
    u_LETTERS := _,
    m_LETTERS := PySem.W.mg_of X G g_LETTERS,
    r_LETTERS := ⟨_, rfl⟩,
    k_LETTERS := fun _ _ => rfl,
    a_LETTER_TABLES := p_LETTER_TABLES,
    m_LETTER_TABLES := PySem.W.mg_of X G g_LETTER_TABLES,
    k_LETTER_TABLES := fun z d e => by
      unfold k_LETTER_TABLES at e
      split at e
      · rename_i hz
        rw [← Option.some.inj e, hz]
        exact ⟨.ref p_LETTER_TABLES_0, ⟨_, _, _, l_LETTER_TABLES, y_LETTER_TABLES, e0_LETTER_TABLES, rfl⟩, fun H S => (rp_ktup (vs := [.ref p_LETTER_TABLES_0_0, .ref p_LETTER_TABLES_0_1]) lp_LETTER_TABLES_0 (by show 2 ≤ 1000; decide) (.cons rfl (.cons rfl .nil)) (rpL_cons (rp_ktup (vs := [.int 2, .int 1]) lp_LETTER_TABLES_0_0 (by show 2 ≤ 1000; decide) (.cons ⟨_, rfl⟩ (.cons ⟨_, rfl⟩ .nil)) (rpL_cons rfl (rpL_cons rfl rpL_nil))) (rpL_cons (rp_ktup (vs := [.int 1, .int 1]) lp_LETTER_TABLES_0_1 (by show 2 ≤ 1000; decide) (.cons ⟨_, rfl⟩ (.cons ⟨_, rfl⟩ .nil)) (rpL_cons rfl (rpL_cons rfl rpL_nil))) rpL_nil)))⟩
      split at e
      · rename_i hz
        rw [← Option.some.inj e, hz]
        exact ⟨.ref p_LETTER_TABLES_1, ⟨_, _, _, l_LETTER_TABLES, y_LETTER_TABLES, e1_LETTER_TABLES, rfl⟩, fun H S => (rp_ktup (vs := [.ref p_LETTER_TABLES_1_0, .ref p_LETTER_TABLES_1_1]) lp_LETTER_TABLES_1 (by show 2 ≤ 1000; decide) (.cons rfl (.cons rfl .nil)) (rpL_cons (rp_ktup (vs := [.int 5, .int 2]) lp_LETTER_TABLES_1_0 (by show 2 ≤ 1000; decide) (.cons ⟨_, rfl⟩ (.cons ⟨_, rfl⟩ .nil)) (rpL_cons rfl (rpL_cons rfl rpL_nil))) (rpL_cons (rp_ktup (vs := [.int 2, .int 1]) lp_LETTER_TABLES_1_1 (by show 2 ≤ 1000; decide) (.cons ⟨_, rfl⟩ (.cons ⟨_, rfl⟩ .nil)) (rpL_cons rfl (rpL_cons rfl rpL_nil))) rpL_nil)))⟩
      exact absurd e (by simp),
    v_MOST_LETTERS := .int 60,
    u_MOST_LETTERS := _,
    m_MOST_LETTERS := PySem.W.mg_of X G g_MOST_LETTERS,
    r_MOST_LETTERS := ⟨_, rfl⟩,
    k_MOST_LETTERS := fun _ _ => rfl,
    v_MOST_NUMBER := .int 999999,
    u_MOST_NUMBER := _,
    m_MOST_NUMBER := PySem.W.mg_of X G g_MOST_NUMBER,
    r_MOST_NUMBER := ⟨_, rfl⟩,
    k_MOST_NUMBER := fun _ _ => rfl,
    v_MOST_RING := .int 40,
    u_MOST_RING := _,
    m_MOST_RING := PySem.W.mg_of X G g_MOST_RING,
    r_MOST_RING := ⟨_, rfl⟩,
    k_MOST_RING := fun _ _ => rfl,
    v_UNIT := .ref p_UNIT,
    u_UNIT := _,
    m_UNIT := PySem.W.mg_of X G g_UNIT,
    r_UNIT := rfl,
    k_UNIT := fun _ _ => (rp_ktup (vs := [.ref p_UNIT_0, .ref p_UNIT_1]) lp_UNIT (by show 2 ≤ 1000; decide) (.cons rfl (.cons rfl .nil)) (rpL_cons (rp_ktup (vs := [.int 1, .int 0]) lp_UNIT_0 (by show 2 ≤ 1000; decide) (.cons ⟨_, rfl⟩ (.cons ⟨_, rfl⟩ .nil)) (rpL_cons rfl (rpL_cons rfl rpL_nil))) (rpL_cons (rp_ktup (vs := [.int 0, .int 1]) lp_UNIT_1 (by show 2 ≤ 1000; decide) (.cons ⟨_, rfl⟩ (.cons ⟨_, rfl⟩ .nil)) (rpL_cons rfl (rpL_cons rfl rpL_nil))) rpL_nil))),
    v_WAY_LETTERS := .str "lr",
    u_WAY_LETTERS := _,
    m_WAY_LETTERS := PySem.W.mg_of X G g_WAY_LETTERS,
    r_WAY_LETTERS := ⟨_, rfl⟩,
    k_WAY_LETTERS := fun _ _ => rfl,
    n_abs := PySem.W.mg_none_of X G z_abs,
    n_all := PySem.W.mg_none_of X G z_all,
    n_bool := PySem.W.mg_none_of X G z_bool,
    n_int := PySem.W.mg_none_of X G z_int,
    n_isinstance := PySem.W.mg_none_of X G z_isinstance,
    n_len := PySem.W.mg_none_of X G z_len,
    n_max := PySem.W.mg_none_of X G z_max,
    n_min := PySem.W.mg_none_of X G z_min,
    n_range := PySem.W.mg_none_of X G z_range,
    n_set := PySem.W.mg_none_of X G z_set,
    n_sorted := PySem.W.mg_none_of X G z_sorted,
    n_str := PySem.W.mg_none_of X G z_str,
    n_tuple := PySem.W.mg_none_of X G z_tuple
  }
  exact ⟨(PySem.W.fnOf "law" "law" (defArgs s_law) (defBody s_law) (defScope s_law) .none kV45 dc45 pm45 an45 cd45 ct45), [], upF K spLawD, (fun _ h => nomatch h), (fun _ h => nomatch h), (fun _ h => nomatch h), fun s v => .of_eq rfl, fun H a ns hl _ _ hS => law_start hS hl, fun base _ _ _ => okl (T base)⟩

end K77
namespace K77
open PySem L2 Dv Hx
def ringD (L : List Int) : D := .tup (L.map D.int)
structure RowI (L : List Int) : Prop where
  el : ∀ a ∈ L, 1 ≤ a ∧ a ≤ 999999
  l0 : 1 ≤ L.length
  l1 : L.length ≤ 40
def rotI (L : List Int) (i : Nat) : List Int := L.drop i ++ L.take i
theorem RowI.rot {L : List Int} (R : RowI L) (i : Nat) : RowI (rotI L i) := by
  have hl : (rotI L i).length = L.length := by unfold rotI; rw [List.length_append, List.length_drop, List.length_take]; omega
  refine ⟨fun a h => R.el a ?_, by rw [hl]; exact R.l0, by rw [hl]; exact R.l1⟩
  rcases List.mem_append.mp h with h | h
  · exact List.mem_of_mem_drop h
  · exact List.mem_of_mem_take h
structure T4 where
  p : Int
  q : Int
  r : Int
  s : Int
def t4S (t : T4) (a : Int) : T4 := ⟨t.p * a + t.q, t.p, t.r * a + t.s, t.r⟩
structure T4I (t : T4) (n : Nat) : Prop where
  p0 : 0 ≤ t.p
  q0 : 0 ≤ t.q
  r0 : 0 ≤ t.r
  s0 : 0 ≤ t.s
  rs : 1 ≤ t.r + t.s
  p1 : t.p ≤ 2 ^ (20 * n)
  q1 : t.q ≤ 2 ^ (20 * n)
  r1 : t.r ≤ 2 ^ (20 * n)
  s1 : t.s ≤ 2 ^ (20 * n)
theorem t4_up {m x y a : Int} (hx : 0 ≤ x) (x1 : x ≤ m) (y1 : y ≤ m) (ha : 1 ≤ a ∧ a ≤ 999999) : x * a + y ≤ m * 1048576 ∧ x ≤ x * a := by
  have h1 : x * a ≤ x * 999999 := Int.mul_le_mul_of_nonneg_left ha.2 hx
  have h2 : x * 1 ≤ x * a := Int.mul_le_mul_of_nonneg_left ha.1 hx
  omega
theorem T4I.step {t : T4} {n : Nat} (I : T4I t n) {a : Int} (ha : 1 ≤ a ∧ a ≤ 999999) : T4I (t4S t a) (n + 1) := by
  have e : (2 : Int) ^ (20 * (n + 1)) = 2 ^ (20 * n) * 1048576 := by rw [Nat.mul_succ, Int.pow_add]; rfl
  obtain ⟨p0, q0, r0, s0, rs, p1, q1, r1, s1⟩ := I
  have hp := t4_up p0 p1 q1 ha
  have hr := t4_up r0 r1 s1 ha
  generalize (2 : Int) ^ (20 * n) = m at *
  refine ⟨?_, ?_, ?_, ?_, ?_, ?_, ?_, ?_, ?_⟩ <;> (try rw [e]) <;> show _ ≤ _ <;> unfold t4S <;> simp only <;> omega
def inD : D → Bool
  | .int a => decide (1 ≤ a ∧ a ≤ 999999)
  | _ => false
def isRingD : D → Bool
  | .tup xs => decide (1 ≤ xs.length ∧ xs.length ≤ 40) && xs.all inD
  | _ => false
theorem ring_is {L : List Int} (R : RowI L) : isRingD (ringD L) = true := by
  unfold isRingD ringD
  simp only [List.length_map, Bool.and_eq_true, decide_eq_true_eq, List.all_eq_true, List.mem_map]
  exact ⟨⟨R.l0, R.l1⟩, fun d ⟨a, ha, e⟩ => by rw [← e]; exact decide_eq_true (R.el a ha)⟩
theorem cutD_from {xs : List D} {i : Nat} (h : i ≤ xs.length) : cutD xs (some (i : Int)) none = xs.drop i := by
  unfold cutD
  rw [sIx_lo (by omega) (by omega)]
  show (xs.drop i).take (xs.length - i) = _
  rw [← List.length_drop, List.take_length]
theorem cutD_to {xs : List D} {i : Nat} (h : i ≤ xs.length) : cutD xs none (some (i : Int)) = xs.take i := by
  unfold cutD
  rw [sIx_lo (by omega) (by omega)]
  show (xs.drop 0).take (i - 0) = _
  rw [List.drop_zero, Nat.sub_zero]
/-! parts of rings: words, or rows of numbers -/
def lenD : D → Nat
  | .str z => z.length
  | .tup xs => xs.length
  | _ => 0
def rotD (d : D) (m : Nat) : D := match d with
  | .str z => .str (ofL (rotL z.cps.toList m))
  | .tup xs => .tup (xs.drop m ++ xs.take m)
  | d => d
inductive PartI : D → Prop
  | word (l : List Nat) (h : isAB l = true) (l0 : 1 ≤ l.length) (l1 : l.length ≤ 60) : PartI (.str (ofL l))
  | ring (L : List Int) (R : RowI L) : PartI (ringD L)
def partB (d : D) : Bool := isWordD d || isRingD d
theorem ofL_cps (l : List Nat) : (ofL l).cps.toList = l := by show l.toArray.toList = l; simp
theorem rotD_word (l : List Nat) (m : Nat) : rotD (.str (ofL l)) m = .str (ofL (rotL l m)) := by
  show D.str (ofL (rotL (ofL l).cps.toList m)) = _
  rw [ofL_cps]
theorem rotD_ring (L : List Int) (m : Nat) : rotD (ringD L) m = ringD (rotI L m) := by
  unfold ringD rotI rotD
  dsimp only
  rw [List.map_append, List.map_drop, List.map_take]
theorem lenD_word (l : List Nat) : lenD (.str (ofL l)) = l.length := ofL_len l
theorem lenD_ring (L : List Int) : lenD (ringD L) = L.length := List.length_map _
theorem PartI.len {d : D} (h : PartI d) : 1 ≤ lenD d ∧ lenD d ≤ 60 := by
  cases h with
  | word l h l0 l1 => rw [lenD_word]; exact ⟨l0, l1⟩
  | ring L R => rw [lenD_ring]; have := R.l0; have := R.l1; omega
theorem PartI.rot {d : D} (h : PartI d) (m : Nat) : PartI (rotD d m) := by
  cases h with
  | word l h l0 l1 =>
    rw [rotD_word]
    exact .word _ (isAB_app (isAB_drop _ h) (isAB_take _ h)) (by rw [rotL_len]; exact l0) (by rw [rotL_len]; exact l1)
  | ring L R => rw [rotD_ring]; exact .ring _ (R.rot m)
theorem isWord_of {l : List Nat} (h : isAB l = true) (l0 : 1 ≤ l.length) (l1 : l.length ≤ 60) : isWordD (.str (ofL l)) = true := by
  show (decide (1 ≤ (ofL l).length ∧ (ofL l).length ≤ 60) && isAB (ofL l).cps.toList) = true
  rw [ofL_len, ofL_cps, h, decide_eq_true ⟨l0, l1⟩]
  rfl
theorem PartI.ok {d : D} (h : PartI d) : partB d = true := by
  cases h with
  | word l h l0 l1 => unfold partB; rw [isWord_of h l0 l1]; rfl
  | ring L R => unfold partB; rw [ring_is R, Bool.or_true]
theorem row_sm {L : List Int} (R : RowI L) : ∀ d ∈ L.map D.int, sm 20 d = true := fun d hd => by
  obtain ⟨a, ha, rfl⟩ := List.mem_map.mp hd
  have := R.el a ha
  exact sm_int.mpr (abs_lt_of (by omega) (by omega))
theorem PartI.sm {d : D} (h : PartI d) : sm 20 d = true := by
  cases h with
  | word l h l0 l1 => exact sm_str.mpr (by rw [ofL_len]; omega)
  | ring L R => exact smT.mpr (row_sm R)
theorem PartI.eqOk {d : D} (h : PartI d) : eqOk d = true := by
  cases h with
  | word l h l0 l1 => exact okD_eqOk (okD_word (k := 0) h) (by decide)
  | ring L R => exact okD_eqOk (okD_ints L) (by decide)
theorem shOkL_all : ∀ {ds : List D}, (∀ d ∈ ds, shOk d = true) → shOkL ds = true
  | [], _ => rfl
  | d :: ds, h => by
    show (shOk d && shOkL ds) = true
    rw [h d (.head _), shOkL_all fun x hx => h x (.tail _ hx)]; rfl
theorem shLL_ints (L : List Int) : shLL (L.map D.int) = L.length * 1923 := by
  induction L with
  | nil => rfl
  | cons a L ih =>
    show 1921 + 2 + shLL (L.map D.int) = (L.length + 1) * 1923
    rw [ih, Nat.succ_mul]; omega
theorem depth_ints (L : List Int) : (pd (.tup (L.map D.int))).depth ≤ 60 := by
  have h := (okD_ints L)
  have h1 := Bool.and_eq_true_iff.mp h
  have h2 := Bool.and_eq_true_iff.mp h1.2
  have h3 := of_decide_eq_true h2.2
  omega
theorem PartI.sh {d : D} (h : PartI d) : shD d := by
  cases h with
  | word l h l0 l1 =>
    refine ⟨strOk_ab h, ?_, ?_⟩
    · show 10 * (ofL l).length + 2 ≤ _
      rw [ofL_len]; omega
    · have h := (okD_word (k := 0) h)
      have h1 := Bool.and_eq_true_iff.mp h
      have h2 := Bool.and_eq_true_iff.mp h1.2
      have h3 := of_decide_eq_true h2.2
      omega
  | ring L R =>
    refine ⟨shOkL_all fun d hd => ?_, ?_, depth_ints L⟩
    · obtain ⟨a, ha, rfl⟩ := List.mem_map.mp hd
      have := R.el a ha
      exact decide_eq_true (Nat.lt_trans (log2_lt (n := 20) (abs_lt_of (by omega) (by omega)) (by decide)) (by decide))
    · show shLL (L.map D.int) + 3 ≤ _
      have := R.l1
      rw [shLL_ints]; omega

def partL (l : List Nat) (s i : Nat) : List Nat := ((l ++ l).drop i).take s
def cntP (l : List Nat) (s i : Nat) : Int := ((partL l s i).count 98 : Nat)
def biP (up : Bool) (l : List Nat) (s : Nat) : Nat := bestBy up (cntP l s) l.length
def unev (l : List Nat) (s : Nat) : Prop := 1 < cntP l s (biP true l s) - cntP l s (biP false l s)
instance (l : List Nat) (s : Nat) : Decidable (unev l s) := by unfold unev; infer_instance
theorem argBest_le (bt : Nat → Nat → Bool) : ∀ n, argBest bt n ≤ n
  | 0 => Nat.le_refl _
  | n + 1 => by
    show (if bt (n + 1) (argBest bt n) then n + 1 else argBest bt n) ≤ n + 1
    have := argBest_le bt n
    split <;> omega
theorem argBest_congr {bt bt' : Nat → Nat → Bool} : ∀ n, (∀ i j, i ≤ n → j ≤ n → bt i j = bt' i j) → argBest bt n = argBest bt' n
  | 0, _ => rfl
  | n + 1, h => by
    have e := argBest_congr n fun i j hi hj => h i j (by omega) (by omega)
    show (if bt (n + 1) (argBest bt n) then n + 1 else argBest bt n) = (if bt' (n + 1) (argBest bt' n) then n + 1 else argBest bt' n)
    have := argBest_le bt' n
    rw [e, h (n + 1) (argBest bt' n) (by omega) (by omega)]
theorem best_congr {up : Bool} {f g : Nat → Int} {n : Nat} (hn : 0 < n) (h : ∀ i, i < n → f i = g i) : bestBy up f n = bestBy up g n := by
  unfold bestBy
  exact argBest_congr _ fun i j hi hj => by rw [h i (by omega), h j (by omega)]
theorem biP_lt {up : Bool} {l : List Nat} {s : Nat} (h : 1 ≤ l.length) : biP up l s < l.length := by
  have := argBest_le (fun i j => if up then decide (cntP l s i > cntP l s j) else decide (cntP l s i < cntP l s j)) (l.length - 1)
  show argBest _ (l.length - 1) < _
  omega
def pairD (l : List Nat) (s : Nat) : D := .tup [.str (ofL (partL l s (biP true l s))), .str (ofL (partL l s (biP false l s)))]
/-- what is asked of a word's parts -/
def unAns (l : List Nat) (S : Sd) (Q : DK) : Prop := (∀ s, 1 ≤ s → s < l.length → unev l s → (∀ t, 1 ≤ t → t < s → ¬ unev l t) → Q (pairD l s) S) ∧ ((∀ s, 1 ≤ s → s < l.length → ¬ unev l s) → Q .non S)
theorem isWordD_ofL {l : List Nat} (h : isAB l = true) (l0 : 1 ≤ l.length) (l1 : l.length ≤ 60) : isWordD (.str (ofL l)) = true := by
  show (decide (1 ≤ (ofL l).length ∧ (ofL l).length ≤ 60) && isAB l) = true
  rw [ofL_len, h, decide_eq_true ⟨l0, l1⟩]
  rfl

/-! ### step words and their cuts -/
def evC (b n k : Nat) : Nat := if (k + 1) * b / n = k * b / n then 97 else 98
theorem evF_take {b n m : Nat} (h : m ≤ n) : (evF b n).take m = (List.range m).map (evC b n) := by
  show ((List.range n).map (evC b n)).take m = _
  rw [← List.map_take, List.take_range, Nat.min_eq_left h]
theorem evF_drop {b n m : Nat} (h : m ≤ n) : (evF b n).drop m = (List.range (n - m)).map fun k => evC b n (m + k) := by
  show ((List.range n).map (evC b n)).drop m = _
  refine List.ext_getElem (by simp) fun i h1 h2 => ?_
  simp
theorem evC_count {b n : Nat} (hb : b ≤ n) (hn : 0 < n) (m : Nat) : ((List.range m).map (evC b n)).count 98 = m * b / n := by
  induction m with
  | zero => simp
  | succ m ih =>
    rw [List.range_succ, List.map_append, List.count_append, ih, List.map_singleton, List.count_singleton]
    have f := (floor_step (k := m) hb hn).1
    unfold evC
    rw [f]
    by_cases c : m * b % n + b < n
    · rw [if_pos c, if_pos rfl]; rfl
    · rw [if_neg c, if_neg (Nat.succ_ne_self _)]; rfl
theorem step_by {f : Nat → Nat} {m c : Nat} (h : ((List.range m).map f).count 98 = c) : isStepL ((List.range m).map f) = ((Nat.gcd c m == 1) && (List.range m).all fun k => Nat.beq (f k) (evC c m k)) := by
  unfold isStepL
  rw [h, List.length_map, List.length_range, Bool.eq_iff_iff]
  simp only [Bool.and_eq_true, decide_eq_true_eq, beq_iff_eq, List.all_eq_true, List.mem_range, Nat.beq_eq]
  refine and_congr_right fun _ => ?_
  constructor
  · intro e k hk
    have e1 := congrArg (fun l => l[k]?) e
    simp only [evF, List.getElem?_map, List.getElem?_range hk, Option.map_some, Option.some.injEq] at e1
    exact e1
  · intro e
    exact List.map_congr_left fun k hk => e k (List.mem_range.mp hk)
/-- whether the first so many letters, and the others, are step words -/
def cutB (b n m : Nat) : Bool :=
  ((Nat.gcd (m * b / n) m == 1) && (List.range m).all fun k => Nat.beq (evC b n k) (evC (m * b / n) m k)) && ((Nat.gcd (b - m * b / n) (n - m) == 1) && (List.range (n - m)).all fun k => Nat.beq (evC b n (m + k)) (evC (b - m * b / n) (n - m) k))
theorem cutB_of {b n m : Nat} (hb : b ≤ n) (hn : 0 < n) (hm : m ≤ n) : (isStepL ((evF b n).take m) && isStepL ((evF b n).drop m)) = cutB b n m := by
  have h1 := evC_count hb hn m
  have h2 : ((List.range (n - m)).map fun k => evC b n (m + k)).count 98 = b - m * b / n := by
    have h3 := evF_count hb hn
    rw [← List.take_append_drop m (evF b n), List.count_append, evF_take hm, evF_drop hm, h1] at h3
    omega
  rw [evF_take hm, evF_drop hm, step_by h1, step_by h2]
  rfl
/-- the one cut of a step word, by its counts -/
def cutsB (n : Nat) : Bool := (List.range n).all fun b => (Nat.gcd b n != 1) || match (List.range n).filter fun m => Nat.beq (b * m % n) 1 with
  | [m] => (List.range n).all fun k => Nat.beq k 0 || (cutB b n k == Nat.beq k m)
  | _ => false
theorem cutsC0 : ((List.range 24).all fun i => cutsB (2 + i)) = true := by decide +kernel
theorem cutsC1 : ((List.range 9).all fun i => cutsB (26 + i)) = true := by decide +kernel
theorem cutsC2 : ((List.range 6).all fun i => cutsB (35 + i)) = true := by decide +kernel
theorem cutsC3 : ((List.range 4).all fun i => cutsB (41 + i)) = true := by decide +kernel
theorem cutsC4 : ((List.range 4).all fun i => cutsB (45 + i)) = true := by decide +kernel
theorem cutsC5 : ((List.range 3).all fun i => cutsB (49 + i)) = true := by decide +kernel
theorem cutsC6 : ((List.range 3).all fun i => cutsB (52 + i)) = true := by decide +kernel
theorem cutsC7 : ((List.range 2).all fun i => cutsB (55 + i)) = true := by decide +kernel
theorem cutsC8 : ((List.range 2).all fun i => cutsB (57 + i)) = true := by decide +kernel
theorem cutsC9 : ((List.range 2).all fun i => cutsB (59 + i)) = true := by decide +kernel
theorem cuts_all {n : Nat} (h2 : 2 ≤ n) (h60 : n ≤ 60) : cutsB n = true := by
  have g : ∀ a k, ((List.range k).all fun i => cutsB (a + i)) = true → a ≤ n → n < a + k → cutsB n = true := fun a k h h1 h2 => by
    have := List.all_eq_true.mp h (n - a) (List.mem_range.mpr (by omega))
    rwa [show a + (n - a) = n by omega] at this
  by_cases c0 : n < 26
  · exact g 2 24 cutsC0 (by omega) (by omega)
  by_cases c1 : n < 35
  · exact g 26 9 cutsC1 (by omega) (by omega)
  by_cases c2 : n < 41
  · exact g 35 6 cutsC2 (by omega) (by omega)
  by_cases c3 : n < 45
  · exact g 41 4 cutsC3 (by omega) (by omega)
  by_cases c4 : n < 49
  · exact g 45 4 cutsC4 (by omega) (by omega)
  by_cases c5 : n < 52
  · exact g 49 3 cutsC5 (by omega) (by omega)
  by_cases c6 : n < 55
  · exact g 52 3 cutsC6 (by omega) (by omega)
  by_cases c7 : n < 57
  · exact g 55 2 cutsC7 (by omega) (by omega)
  by_cases c8 : n < 59
  · exact g 57 2 cutsC8 (by omega) (by omega)
  by_cases c9 : n < 61
  · exact g 59 2 cutsC9 (by omega) (by omega)
  omega
theorem cut_of60 {b n : Nat} (hn : 2 ≤ n) (h60 : n ≤ 60) (hb : b ≤ n) (hg : Nat.gcd b n = 1) : ∃ m, 1 ≤ m ∧ m < n ∧ b * m % n = 1 ∧ ∀ k, 1 ≤ k → k < n → ((isStepL ((evF b n).take k) && isStepL ((evF b n).drop k)) = true ↔ k = m) := by
  have hb' : b < n := by
    rcases Nat.lt_or_ge b n with h | h
    · exact h
    · have e : b = n := by omega
      rw [e, Nat.gcd_self] at hg
      omega
  have h2 : cutsB n = true := cuts_all hn h60
  have h3 := List.all_eq_true.mp h2 b (List.mem_range.mpr hb')
  rw [hg] at h3
  have h4 : (match (List.range n).filter fun m => Nat.beq (b * m % n) 1 with
    | [m] => (List.range n).all fun k => Nat.beq k 0 || (cutB b n k == Nat.beq k m)
    | _ => false) = true := h3
  split at h4
  · rename_i m hm
    have hm2 : m ∈ (List.range n).filter fun m => Nat.beq (b * m % n) 1 := by rw [hm]; simp
    obtain ⟨m1, m2⟩ := List.mem_filter.mp hm2
    have m3 := List.mem_range.mp m1
    have m4 : b * m % n = 1 := Nat.eq_of_beq_eq_true m2
    have m5 : 1 ≤ m := by
      rcases Nat.eq_zero_or_pos m with h | h
      · rw [h, Nat.mul_zero, Nat.zero_mod] at m4; omega
      · exact h
    refine ⟨m, m5, m3, m4, fun k k1 k2 => ?_⟩
    have h5 := List.all_eq_true.mp h4 k (List.mem_range.mpr k2)
    have k0 : Nat.beq k 0 = false := by
      cases k with
      | zero => omega
      | succ k => rfl
    rw [k0, Bool.false_or, beq_iff_eq (a := cutB b n k)] at h5
    rw [cutB_of (by omega) (by omega) (by omega), h5, Nat.beq_eq]
  · cases h4
theorem isStepL_ev {l : List Nat} (h : isStepL l = true) : l = evF (l.count 98) l.length ∧ Nat.gcd (l.count 98) l.length = 1 := by
  have h' := Bool.and_eq_true_iff.mp h
  exact ⟨of_decide_eq_true h'.2, of_decide_eq_true h'.1⟩
/-- the one cut of a step word -/
theorem cut_one {l : List Nat} (h : isStepL l = true) (h2 : 2 ≤ l.length) (h60 : l.length ≤ 60) : ∃ m, 1 ≤ m ∧ m < l.length ∧ l.count 98 * m % l.length = 1 ∧ ∀ k, 1 ≤ k → k < l.length → ((isStepL (l.take k) && isStepL (l.drop k)) = true ↔ k = m) := by
  obtain ⟨e, g⟩ := isStepL_ev h
  have q := cut_of60 h2 h60 List.count_le_length g
  rw [← e] at q
  exact q
theorem spl_a {p m q l k : Nat} (h : q * m = p * l + 1) (l0 : 0 < l) (m0 : 0 < m) (hk : k ≤ m) : k * (p + q) / (m + l) = k * p / m := by
  have h1 := Nat.div_mul_le_self (k * p) m
  have h2 := Nat.lt_div_mul_add m0 (a := k * p)
  generalize k * p / m = j at *
  have hk1 : k * (q * m) = k * (p * l + 1) := by rw [h]
  refine Nat.div_eq_of_lt_le ?_ ?_
  · have e1 : j * m * l ≤ k * p * l := Nat.mul_le_mul_right l h1
    refine Decidable.byContradiction fun c => ?_
    have c1 : k * q + 1 ≤ j * l := by grind
    have c2 := Nat.mul_le_mul_right m c1
    grind
  · refine Decidable.byContradiction fun c => ?_
    have e1 : (k * p + 1) * l ≤ (j * m + m) * l := Nat.mul_le_mul_right l h2
    obtain ⟨t, ht⟩ := Nat.exists_eq_add_of_le (show k * p + 1 ≤ j * m + m by omega)
    have c1 : (j + 1) * l + t + 1 ≤ k * q := by grind
    have c2 := Nat.mul_le_mul_right m c1
    have c3 : t * l ≥ 0 := Nat.zero_le _
    have c4 : (j * m + m) * l = (k * p + 1 + t) * l := by rw [ht]
    have c5 : t * m ≥ 0 := Nat.zero_le _
    grind
theorem spl_b {p m q l j : Nat} (h : q * m = p * l + 1) (l0 : 0 < l) (m0 : 0 < m) (hj : j ≤ l) : (m + j) * (p + q) / (m + l) = p + j * q / l := by
  have h1 := Nat.div_mul_le_self (j * q) l
  have h2 := Nat.lt_div_mul_add l0 (a := j * q)
  generalize j * q / l = i at *
  have hj1 : j * (q * m) = j * (p * l + 1) := by rw [h]
  obtain ⟨s, hs⟩ := Nat.exists_eq_add_of_le h1
  have s1 : s + 1 ≤ l := by omega
  have hs1 : j * q * m = (i * l + s) * m := by rw [hs]
  have s2 : (s + 1) * (m + l) ≤ l * (m + l) := Nat.mul_le_mul_right _ s1
  have hl1 : q * m * l = (p * l + 1) * l := by rw [h]
  have hs2 : j * q * l = (i * l + s) * l := by rw [hs]
  refine Nat.div_eq_of_lt_le ?_ ?_
  · refine Decidable.byContradiction fun c => ?_
    have c1 : (m + j) * (p + q) + 1 ≤ (p + i) * (m + l) := by omega
    have c2 := Nat.mul_le_mul_right l c1
    simp only [Nat.add_mul, Nat.mul_add, Nat.mul_assoc, Nat.mul_comm, Nat.mul_left_comm, Nat.one_mul, Nat.mul_one] at *
    omega
  · refine Decidable.byContradiction fun c => ?_
    have c1 : (p + i + 1) * (m + l) ≤ (m + j) * (p + q) := by omega
    have c2 := Nat.mul_le_mul_right l c1
    simp only [Nat.add_mul, Nat.mul_add, Nat.mul_assoc, Nat.mul_comm, Nat.mul_left_comm, Nat.one_mul, Nat.mul_one] at *
    omega
theorem evF_split {p m q l : Nat} (h : q * m = p * l + 1) (l0 : 0 < l) (m0 : 0 < m) : evF (p + q) (m + l) = evF p m ++ evF q l := by
  unfold evF
  rw [List.range_add, List.map_append, List.map_map]
  congr 1
  · refine List.map_congr_left fun k hk => ?_
    have hk' := List.mem_range.mp hk
    rw [spl_a h l0 m0 (show k + 1 ≤ m by omega), spl_a h l0 m0 (show k ≤ m by omega)]
  · refine List.map_congr_left fun k hk => ?_
    have hk' := List.mem_range.mp hk
    show (if (m + k + 1) * (p + q) / (m + l) = (m + k) * (p + q) / (m + l) then 97 else 98) = _
    rw [show m + k + 1 = m + (k + 1) by omega, spl_b h l0 m0 (show k + 1 ≤ l by omega), spl_b h l0 m0 (show k ≤ l by omega)]
    simp only [Nat.add_left_cancel_iff]

/-! ### even words are even (unev of k15's consts) -/
theorem evC_per {b n : Nat} (hn : 0 < n) (k : Nat) : evC b n (n + k) = evC b n k := by
  unfold evC
  rw [show (n + k + 1) * b = n * b + (k + 1) * b by rw [← Nat.add_mul, Nat.add_assoc], show (n + k) * b = n * b + k * b from Nat.add_mul _ _ _, Nat.mul_add_div hn, Nat.mul_add_div hn]
  simp only [Nat.add_left_cancel_iff]
theorem evF_two {b n : Nat} (hn : 0 < n) : evF b n ++ evF b n = (List.range (n + n)).map (evC b n) := by
  rw [List.range_add, List.map_append, List.map_map]
  congr 1
  exact List.map_congr_left fun k _ => (evC_per hn k).symm
theorem cntP_ev {b n s i : Nat} (hb : b ≤ n) (hn : 0 < n) (h : i + s ≤ n + n) : cntP (evF b n) s i = ((i + s) * b / n : Nat) - (i * b / n : Nat) := by
  unfold cntP partL
  rw [evF_two hn]
  have h1 := evC_count hb hn (i + s)
  have h2 := evC_count hb hn i
  have e1 : ((List.range (n + n)).map (evC b n)).take (i + s) = (List.range (i + s)).map (evC b n) := by rw [← List.map_take, List.take_range, Nat.min_eq_left h]
  have e2 : ((List.range (n + n)).map (evC b n)).take i = (List.range i).map (evC b n) := by rw [← List.map_take, List.take_range, Nat.min_eq_left (by omega)]
  generalize (List.range (n + n)).map (evC b n) = L at *
  have e3 := List.take_add (l := L) (i := i) (j := s)
  rw [e1, e2] at e3
  rw [e3, List.count_append, h2] at h1
  rw [← h1]
  omega
theorem div_two (x y n : Nat) (hn : 0 < n) : x / n + y / n ≤ (x + y) / n ∧ (x + y) / n ≤ x / n + y / n + 1 := by
  have a1 := Nat.div_add_mod x n
  have a2 := Nat.mod_lt x hn
  have b1 := Nat.div_add_mod y n
  have b2 := Nat.mod_lt y hn
  generalize x / n = p at *
  generalize y / n = q at *
  have e : x + y = n * (p + q) + (x % n + y % n) := by rw [Nat.mul_add]; omega
  rw [e, Nat.mul_add_div hn]
  rw [Nat.mul_add] at e
  have c : (x % n + y % n) / n ≤ 1 := by
    have : (x % n + y % n) / n < 2 := (Nat.div_lt_iff_lt_mul hn).mpr (by omega)
    omega
  have c0 : 0 ≤ (x % n + y % n) / n := Nat.zero_le _
  clear a1 b1 e
  generalize (x % n + y % n) / n = z at *
  omega
theorem ev_even {b n s : Nat} (hb : b ≤ n) (hn : 0 < n) (s1 : s < n) : ¬ unev (evF b n) s := by
  unfold unev
  have h1 := biP_lt (up := true) (l := evF b n) (s := s) (by rw [evF_len]; omega)
  have h2 := biP_lt (up := false) (l := evF b n) (s := s) (by rw [evF_len]; omega)
  rw [evF_len] at h1 h2
  generalize biP true (evF b n) s = i at *
  generalize biP false (evF b n) s = j at *
  rw [cntP_ev hb hn (by omega), cntP_ev hb hn (by omega), Nat.add_mul, Nat.add_mul]
  have a := div_two (i * b) (s * b) n hn
  have c := div_two (j * b) (s * b) n hn
  omega
theorem step_even {l : List Nat} (h : isStepL l = true) (l0 : 1 ≤ l.length) : ∀ s, 1 ≤ s → s < l.length → ¬ unev l s := fun s _ s1 => by
  obtain ⟨e, _⟩ := isStepL_ev h
  have := ev_even (b := l.count 98) (n := l.length) (s := s) List.count_le_length (by omega) s1
  rw [← e] at this
  exact this

/-! ### comprehensions with a test, without a trace -/
theorem lcL_filter {tt : TTD} {te : TED} {p : Addr} {σw : Si} {i : Nat} {S : Sd} (f : D → D) (g : D → Bool) : ∀ (xs acc : List D) (Q : List D → Sd → Prop), (∀ x ∈ xs, ∀ S' (Q' : Bool → Sd → Prop), Q' (g x) S' → tt (σw.set i (some x)) S' Q') → (∀ x ∈ xs, g x = true → ∀ S' (Q' : DK), Q' (f x) S' → te (σw.set i (some x)) S' Q') → acc.length + xs.length ≤ 16777216 →
    Q (acc ++ (xs.filter g).map f) (upS S p (.lst (acc ++ (xs.filter g).map f))) → dLcL (dName i) tt te p σw xs acc (upS S p (.lst acc)) Q
  | [], acc, Q, _, _, _, q => by
    rw [List.filter_nil, List.map_nil, List.append_nil] at q
    exact q
  | x :: r, acc, Q, ht, he, hl, q => by
    rw [List.length_cons] at hl
    have ht' := fun y (hy : y ∈ r) => ht y (List.mem_cons_of_mem _ hy)
    have he' := fun y (hy : y ∈ r) => he y (List.mem_cons_of_mem _ hy)
    refine ht x List.mem_cons_self _ _ ?_
    cases c : g x with
    | true =>
      rw [List.filter_cons_of_pos c, List.map_cons] at q
      show (if true = true then te (σw.set i (some x)) (upS S p (.lst acc)) fun y S4 => S4 p = some (.lst acc) ∧ acc.length < 16777216 ∧ dLcL (dName i) tt te p σw r (acc ++ [y]) (upS S4 p (.lst (acc ++ [y]))) Q else dLcL (dName i) tt te p σw r acc (upS S p (.lst acc)) Q)
      rw [if_pos rfl]
      refine he x List.mem_cons_self c _ _ ⟨upS_same, by omega, ?_⟩
      rw [upS_upS]
      refine lcL_filter f g r (acc ++ [f x]) Q ht' he' (by rw [List.length_append, List.length_singleton]; omega) ?_
      rw [List.append_assoc]
      exact q
    | false =>
      rw [List.filter_cons_of_neg (by rw [c]; decide)] at q
      show (if false = true then te (σw.set i (some x)) (upS S p (.lst acc)) fun y S4 => S4 p = some (.lst acc) ∧ acc.length < 16777216 ∧ dLcL (dName i) tt te p σw r (acc ++ [y]) (upS S4 p (.lst (acc ++ [y]))) Q else dLcL (dName i) tt te p σw r acc (upS S p (.lst acc)) Q)
      rw [if_neg (by decide)]
      exact lcL_filter f g r acc Q ht' he' (by omega) q
theorem comp_filter {ti : TID} {tt : TTD} {te : TED} {i : Nat} {vs : List Nat} {σ : Si} {S : Sd} {Q : DK} (f : D → D) (g : D → Bool) (xs : List D) (S1 : Sd) (hti : ∀ R : List D → Sd → Prop, R xs S1 → ti σ S R)
    (ht : ∀ x ∈ xs, ∀ S' (Q' : Bool → Sd → Prop), Q' (g x) S' → tt ((wipeD σ vs).set i (some x)) S' Q') (he : ∀ x ∈ xs, g x = true → ∀ S' (Q' : DK), Q' (f x) S' → te ((wipeD σ vs).set i (some x)) S' Q') (hl : xs.length ≤ 16777216)
    (q : Q (.lst ((xs.filter g).map f)) S1) : dComp ti (dName i) tt te vs σ S Q := hti _ fun p hp => by
  refine lcL_filter f g xs [] _ ht he (by simpa using hl) ⟨upS_same, ?_⟩
  rw [del_upS hp]
  exact q
/-- a range filtered -/
theorem rg_filter (lo n : Nat) (h : Nat → Bool) (g : D → Bool) (e : ∀ i, i < n → g (.int ((lo : Int) + (i : Int))) = h (lo + i)) : (rgD (lo : Int) n).filter g = (((List.range n).map (lo + ·)).filter h).map fun (k : Nat) => D.int (k : Int) := by
  unfold rgD
  rw [List.filter_map, List.filter_map, List.map_map]
  have e1 : (List.range n).filter (g ∘ fun (i : Nat) => D.int ((lo : Int) + (i : Int))) = (List.range n).filter (h ∘ (lo + ·)) := List.filter_congr fun i hi => e i (List.mem_range.mp hi)
  rw [e1]
  exact List.map_congr_left fun i _ => by simp
theorem filter_one {α : Type} {m : α} {h : α → Bool} : ∀ {l : List α}, l.Nodup → m ∈ l → (∀ k ∈ l, h k = true ↔ k = m) → l.filter h = [m]
  | [], _, hm, _ => absurd hm (by simp)
  | x :: r, nd, hm, e => by
    obtain ⟨nx, nr⟩ := List.nodup_cons.mp nd
    have er := fun k (hk : k ∈ r) => e k (List.mem_cons_of_mem _ hk)
    by_cases c : x = m
    · subst c
      rw [List.filter_cons_of_pos ((e x List.mem_cons_self).mpr rfl)]
      have : r.filter h = [] := List.filter_eq_nil_iff.mpr fun k hk hh => by
        rw [(er k hk).mp hh] at hk
        exact nx hk
      rw [this]
    · have hr : m ∈ r := by
        rcases List.mem_cons.mp hm with h1 | h1
        · exact absurd h1.symm c
        · exact h1
      rw [List.filter_cons_of_neg fun hh => c ((e x List.mem_cons_self).mp hh)]
      exact filter_one nr hr er

/-! ### texts told often -/
theorem fold_app (l : List Nat) : ∀ (n : Nat) (acc : Array Nat), (List.foldl (fun x1 x2 => x1 ++ x2) acc (List.replicate n l.toArray)).toList = acc.toList ++ (List.replicate n l).flatten
  | 0, acc => by simp
  | n + 1, acc => by rw [List.replicate_succ, List.foldl_cons, fold_app l n, List.replicate_succ]; simp
theorem repS_ofL (l : List Nat) (n : Nat) : repS (ofL l) n = ofL (List.replicate n l).flatten := str_ext (by
  have h := fold_app l n #[]
  show (repS (ofL l) n).cps.toList = _
  simp only [repS, ofL] at h ⊢
  simpa using h)
/-! ### the least of all turned ones (k12's consts: PartI, rotD, lenD) -/
def leastT (d : D) : Nat := bestD (fun j => rotD d j) (lenD d)
theorem leastT_lt {d : D} (h : PartI d) : leastT d < lenD d := bestD_lt (by have := h.len; omega)
theorem pdL_ints (L : List Int) : pdL (L.map D.int) = L.map PyData.int := by
  induction L with
  | nil => rfl
  | cons a L ih => show _ :: _ = _ :: _; rw [ih]; rfl
theorem alike_ints : ∀ (L M : List Int), PySem.W.alikeAll (L.map PyData.int) (M.map PyData.int) = true
  | [], _ => by simp [PySem.W.alikeAll]
  | _ :: _, [] => by simp [PySem.W.alikeAll]
  | a :: L, b :: M => by
    rw [List.map_cons, List.map_cons, PySem.W.alikeAll, alike_ints L M]
    simp [PySem.W.alike]
theorem PartI.key {d : D} (h : PartI d) : keyOk d = true := by
  cases h with
  | word l h l0 l1 =>
    have h := (okD_word (k := 0) h)
    have h1 := Bool.and_eq_true_iff.mp h
    have h2 := Bool.and_eq_true_iff.mp h1.2
    have h3 := of_decide_eq_true h2.2
    unfold keyOk
    rw [h1.1, decide_eq_true (by omega)]
    rfl
  | ring L R =>
    have h := (okD_ints L)
    have h1 := Bool.and_eq_true_iff.mp h
    have h2 := Bool.and_eq_true_iff.mp h1.2
    have h3 := of_decide_eq_true h2.2
    unfold keyOk ringD
    rw [h1.1, decide_eq_true (by omega)]
    rfl
theorem PartI.alike {d : D} (h : PartI d) (i j : Nat) : PySem.W.alike (pd (rotD d i)) (pd (rotD d j)) = true := by
  cases h with
  | word l h l0 l1 =>
    rw [rotD_word, rotD_word]
    show PySem.W.alike (.str _) (.str _) = true
    simp [PySem.W.alike]
  | ring L R =>
    rw [rotD_ring, rotD_ring]
    show PySem.W.alike (.tuple (pdL _)) (.tuple (pdL _)) = true
    rw [pdL_ints, pdL_ints, PySem.W.alike]
    exact alike_ints _ _
/-! ### an even word is the least of its ring; told often it is the even word of so many times its counts -/
/-! ### sums over a row told without end; even rows -/
def sumF (f : Nat → Nat) : Nat → Nat
  | 0 => 0
  | i + 1 => sumF f i + f i
theorem sumF_add (f : Nat → Nat) (i : Nat) : ∀ k, sumF f (i + k) = sumF f i + sumF (fun k => f (i + k)) k
  | 0 => rfl
  | k + 1 => by
    show sumF f (i + k) + f (i + k) = _ + (sumF (fun k => f (i + k)) k + f (i + k))
    rw [sumF_add f i k, Nat.add_assoc]
theorem sumF_congr {f g : Nat → Nat} : ∀ {n}, (∀ k, k < n → f k = g k) → sumF f n = sumF g n
  | 0, _ => rfl
  | n + 1, h => by
    show sumF f n + f n = sumF g n + g n
    rw [sumF_congr fun k hk => h k (by omega), h n (by omega)]
structure Per (f : Nat → Nat) (n : Nat) : Prop where
  n0 : 0 < n
  p : ∀ k, f (n + k) = f k
theorem Per.sum {f : Nat → Nat} {n : Nat} (P : Per f n) (k : Nat) : sumF f (n + k) = sumF f n + sumF f k := by
  rw [sumF_add]
  congr 1
  exact sumF_congr fun k _ => P.p k
/-! ### words told without end -/
/-! ### what makes a word, told often -/
def toldL (P : List Nat) (m : Nat) : List Nat := (List.replicate m P).flatten
def szOk (l : List Nat) (s : Nat) : Bool := decide (l.length % s = 0) && decide (toldL (l.take s) (l.length / s) = l)
/-- what the search from 1 on finds -/
def shL (l : List Nat) : List Nat := match (List.range (l.length - 1)).find? fun i => szOk l (i + 1) with
  | some i => l.take (i + 1)
  | none => l
theorem shL_first {l : List Nat} {i : Nat} (h : i < l.length - 1) (hno : ∀ j, j < i → szOk l (j + 1) = false) (ho : szOk l (i + 1) = true) : shL l = l.take (i + 1) := by
  unfold shL
  have e : (List.range (l.length - 1)).find? (fun i => szOk l (i + 1)) = some i := by
    rw [List.find?_eq_some_iff_append]
    refine ⟨ho, List.range i, (List.range (l.length - 1 - (i + 1))).map (fun k => i + 1 + k), ?_, fun a ha => ?_⟩
    · conv => lhs; rw [show l.length - 1 = i + 1 + (l.length - 1 - (i + 1)) by omega, List.range_add, List.range_succ]
      simp
    · rw [hno a (List.mem_range.mp ha)]; rfl
  rw [e]
theorem shL_none {l : List Nat} (hno : ∀ j, j < l.length - 1 → szOk l (j + 1) = false) : shL l = l := by
  unfold shL
  have e : (List.range (l.length - 1)).find? (fun i => szOk l (i + 1)) = none := by
    rw [List.find?_eq_none]
    intro a ha h
    exact absurd (h.symm.trans (hno a (List.mem_range.mp ha))) (by decide)
  rw [e]
theorem sz_self {l : List Nat} (h : 1 ≤ l.length) : szOk l l.length = true := by
  unfold szOk toldL
  rw [Nat.mod_self, Nat.div_self h, List.take_length]
  simp
theorem shL_char {l : List Nat} (h : 1 ≤ l.length) : ∃ s, 1 ≤ s ∧ s ≤ l.length ∧ szOk l s = true ∧ (∀ r, 1 ≤ r → r < s → szOk l r = false) ∧ shL l = l.take s := by
  by_cases c : ∃ i, i < l.length - 1 ∧ szOk l (i + 1) = true
  · obtain ⟨i, h1, h2, h3⟩ : ∃ i, i < l.length - 1 ∧ szOk l (i + 1) = true ∧ ∀ j, j < i → szOk l (j + 1) = false := by
      obtain ⟨i, h1, h2⟩ := c
      induction i using Nat.strongRecOn with
      | _ i ih =>
        by_cases e : ∃ j, j < i ∧ szOk l (j + 1) = true
        · obtain ⟨j, j1, j2⟩ := e
          exact ih j j1 (by omega) j2
        · exact ⟨i, h1, h2, fun j hj => by
            cases z : szOk l (j + 1) with
            | true => exact absurd ⟨j, hj, z⟩ e
            | false => rfl⟩
    exact ⟨i + 1, by omega, by omega, h2, fun r r1 r2 => by
      have := h3 (r - 1) (by omega)
      rwa [show r - 1 + 1 = r by omega] at this, shL_first h1 h3 h2⟩
  · have hno : ∀ j, j < l.length - 1 → szOk l (j + 1) = false := fun j hj => by
      cases z : szOk l (j + 1) with
      | true => exact absurd ⟨j, hj, z⟩ c
      | false => rfl
    refine ⟨l.length, h, Nat.le_refl _, sz_self h, fun r r1 r2 => ?_, ?_⟩
    · have := hno (r - 1) (by omega)
      rwa [show r - 1 + 1 = r by omega] at this
    · rw [shL_none hno, List.take_length]
theorem shL_len {l : List Nat} (h : 1 ≤ l.length) : 1 ≤ (shL l).length ∧ (shL l).length ≤ l.length := by
  obtain ⟨s, h1, h2, _, _, e⟩ := shL_char h
  rw [e, List.length_take]
  omega
/-! ### the least turned one of an even word -/
def thS (t : Int × Int × Int) (c : Nat) : Int × Int × Int := if c = 108 then (t.1, t.2.2, 3 * t.1 * t.2.2 - t.2.1) else (t.2.2, t.2.1, 3 * t.2.2 * t.2.1 - t.1)
def cnS (p : Nat × Nat) (c : Nat) : Nat × Nat := if c = 108 then (p.1, p.1 + p.2) else (p.1 + p.2, p.2)
def cnL (l : List Nat) : Nat × Nat := l.foldl cnS (1, 1)
def cnW (l : List Nat) : Nat := (cnL l).1 + (cnL l).2
/-- the three numbers of a way -/
structure MkI (u v w : Int) (f s : Nat) : Prop where
  u1 : 1 ≤ u
  v1 : 1 ≤ v
  uw : u ≤ w
  vw : v ≤ w
  eq : u * u + v * v + w * w = 3 * u * v * w
  c1 : ∀ d : Int, d ∣ u → d ∣ v → d ∣ 1
  c2 : ∀ d : Int, d ∣ u → d ∣ w → d ∣ 1
  c3 : ∀ d : Int, d ∣ v → d ∣ w → d ∣ 1
  b1 : 3 * u ≤ 8 ^ f
  b2 : 3 * v ≤ 8 ^ s
  b3 : 3 * w ≤ 8 ^ (f + s)
/-! ### the three numbers of a way -/
theorem MkI.first : MkI 1 2 5 1 1 := ⟨by decide, by decide, by decide, by decide, by decide, fun d h _ => h, fun d h _ => h, fun d h1 h2 => by
  obtain ⟨k1, e1⟩ := h1
  obtain ⟨k2, e2⟩ := h2
  exact ⟨k2 - 2 * k1, by grind⟩, by decide, by decide, by decide⟩
theorem MkI.left {u v w : Int} {f s : Nat} (I : MkI u v w f s) : MkI u w (3 * u * w - v) f (f + s) := by
  have e := I.eq
  have w1 : 1 ≤ w := by have := I.u1; have := I.uw; omega
  have h1 : 3 * 1 * w ≤ 3 * u * w := Int.mul_le_mul_of_nonneg_right (by have := I.u1; omega) (by omega)
  refine ⟨I.u1, w1, ?_, ?_, ?_, I.c2, fun d g1 g2 => I.c1 d g1 ?_, fun d g1 g2 => I.c3 d ?_ g1, I.b1, I.b3, ?_⟩
  · have := I.uw; have := I.vw; omega
  · have := I.vw; omega
  · grind
  · obtain ⟨k1, e1⟩ := g1
    obtain ⟨k2, e2⟩ := g2
    exact ⟨3 * k1 * w - k2, by grind⟩
  · obtain ⟨k1, e1⟩ := g1
    obtain ⟨k2, e2⟩ := g2
    exact ⟨3 * u * k1 - k2, by grind⟩
  · have p : (0 : Int) ≤ 8 ^ f := Int.pow_nonneg (by decide)
    have h2 : 3 * u * (3 * w) ≤ 8 ^ f * 8 ^ (f + s) := Int.mul_le_mul I.b1 I.b3 (by omega) p
    rw [← Int.pow_add] at h2
    have h3 : 3 * u * (3 * w) = 3 * (3 * u * w) := by grind
    have := I.v1
    omega
theorem MkI.right {u v w : Int} {f s : Nat} (I : MkI u v w f s) : MkI w v (3 * w * v - u) (f + s) s := by
  have e := I.eq
  have w1 : 1 ≤ w := by have := I.u1; have := I.uw; omega
  have h1 : 3 * w * 1 ≤ 3 * w * v := Int.mul_le_mul_of_nonneg_left I.v1 (by omega)
  refine ⟨w1, I.v1, ?_, ?_, ?_, fun d g1 g2 => I.c3 d g2 g1, fun d g1 g2 => I.c2 d ?_ g1, fun d g1 g2 => I.c1 d ?_ g1, I.b3, I.b2, ?_⟩
  · have := I.uw; omega
  · have := I.uw; have := I.vw; omega
  · grind
  · obtain ⟨k1, e1⟩ := g1
    obtain ⟨k2, e2⟩ := g2
    exact ⟨3 * k1 * v - k2, by grind⟩
  · obtain ⟨k1, e1⟩ := g1
    obtain ⟨k2, e2⟩ := g2
    exact ⟨3 * w * k1 - k2, by grind⟩
  · have p : (0 : Int) ≤ 8 ^ (f + s) := Int.pow_nonneg (by decide)
    have h2 : 3 * w * (3 * v) ≤ 8 ^ (f + s) * 8 ^ s := Int.mul_le_mul I.b3 I.b2 (by have := I.v1; omega) p
    rw [← Int.pow_add] at h2
    have h3 : 3 * w * (3 * v) = 3 * (3 * w * v) := by grind
    have := I.u1
    omega
theorem MkI.step {t : Int × Int × Int} {p : Nat × Nat} (c : Nat) (I : MkI t.1 t.2.1 t.2.2 p.1 p.2) : MkI (thS t c).1 (thS t c).2.1 (thS t c).2.2 (cnS p c).1 (cnS p c).2 := by
  unfold thS cnS
  split
  · exact I.left
  · exact I.right
/-! ### ways: the two words of a way, by their counts -/
structure WS where
  p : Nat
  m : Nat
  q : Nat
  l : Nat
def wpS (s : WS) (c : Nat) : WS := if c = 108 then ⟨s.p, s.m, s.p + s.q, s.m + s.l⟩ else ⟨s.p + s.q, s.m + s.l, s.q, s.l⟩
def wpL (w : List Nat) : WS := w.foldl wpS ⟨0, 1, 1, 1⟩
theorem wpL_snoc (w : List Nat) (c : Nat) : wpL (w ++ [c]) = wpS (wpL w) c := by unfold wpL; rw [List.foldl_append]; rfl
structure WOk (s : WS) : Prop where
  det : s.q * s.m = s.p * s.l + 1
  m0 : 0 < s.m
  l0 : 0 < s.l
  pm : s.p ≤ s.m
  ql : s.q ≤ s.l
theorem wpS_ok {s : WS} (h : WOk s) (c : Nat) : WOk (wpS s c) := by
  obtain ⟨d, m0, l0, pm, ql⟩ := h
  unfold wpS
  split
  · exact ⟨by show (s.p + s.q) * s.m = s.p * (s.m + s.l) + 1; rw [Nat.add_mul, Nat.mul_add]; omega, m0, by show 0 < s.m + s.l; omega, pm, by show s.p + s.q ≤ s.m + s.l; omega⟩
  · exact ⟨by show s.q * (s.m + s.l) = (s.p + s.q) * s.l + 1; rw [Nat.add_mul, Nat.mul_add]; omega, by show 0 < s.m + s.l; omega, l0, by show s.p + s.q ≤ s.m + s.l; omega, ql⟩
theorem foldl_ok : ∀ (w : List Nat) (s : WS), WOk s → WOk (w.foldl wpS s)
  | [], _, h => h
  | c :: w, s, h => foldl_ok w _ (wpS_ok h c)
theorem wpL_ok (w : List Nat) : WOk (wpL w) := foldl_ok w _ ⟨by decide, by decide, by decide, by decide, by decide⟩
theorem foldl_cn : ∀ (w : List Nat) (s : WS), w.foldl cnS (s.m, s.l) = ((w.foldl wpS s).m, (w.foldl wpS s).l)
  | [], _ => rfl
  | c :: w, s => by
    rw [List.foldl_cons, List.foldl_cons, ← foldl_cn w]
    unfold cnS wpS
    split <;> rfl
theorem cnL_wp (w : List Nat) : cnL w = ((wpL w).m, (wpL w).l) := foldl_cn w ⟨0, 1, 1, 1⟩
def fstW (w : List Nat) : List Nat := evF (wpL w).p (wpL w).m
def sndW (w : List Nat) : List Nat := evF (wpL w).q (wpL w).l
def wordW (w : List Nat) : List Nat := fstW w ++ sndW w
theorem wordW_ev (w : List Nat) : wordW w = evF ((wpL w).p + (wpL w).q) ((wpL w).m + (wpL w).l) := by
  obtain ⟨d, m0, l0, _, _⟩ := wpL_ok w
  exact (evF_split d l0 m0).symm
theorem fstW_snoc (w : List Nat) (c : Nat) : fstW (w ++ [c]) = if c = 108 then fstW w else wordW w := by
  rw [wordW_ev]
  unfold fstW
  rw [wpL_snoc]
  unfold wpS
  split <;> rfl
theorem sndW_snoc (w : List Nat) (c : Nat) : sndW (w ++ [c]) = if c = 108 then wordW w else sndW w := by
  rw [wordW_ev]
  unfold sndW
  rw [wpL_snoc]
  unfold wpS
  split <;> rfl
theorem fstW_len (w : List Nat) : (fstW w).length = (wpL w).m := evF_len _ _
theorem sndW_len (w : List Nat) : (sndW w).length = (wpL w).l := evF_len _ _
theorem wordW_len (w : List Nat) : (wordW w).length = cnW w := by
  unfold wordW cnW
  rw [List.length_append, fstW_len, sndW_len, cnL_wp]
theorem fstW_nil : fstW [] = [97] := by decide
theorem sndW_nil : sndW [] = [98] := by decide
theorem step_ev {b n : Nat} (hb : b ≤ n) (hn : 0 < n) (hg : Nat.gcd b n = 1) : isStepL (evF b n) = true := by
  unfold isStepL
  rw [evF_count hb hn, evF_len, decide_eq_true hg]
  simp
theorem gcd_by {a b c d : Nat} (h : a * b = c * d + 1) : Nat.gcd c b = 1 := by
  have h1 : Nat.gcd c b ∣ a * b := Nat.dvd_trans (Nat.gcd_dvd_right c b) (Nat.dvd_mul_left b a)
  have h2 : Nat.gcd c b ∣ c * d := Nat.dvd_trans (Nat.gcd_dvd_left c b) (Nat.dvd_mul_right c d)
  rw [h] at h1
  exact Nat.dvd_one.mp ((Nat.dvd_add_right h2).mp h1)
theorem fstW_step (w : List Nat) : isStepL (fstW w) = true := by
  obtain ⟨d, m0, l0, pm, ql⟩ := wpL_ok w
  exact step_ev pm m0 (gcd_by d)
theorem sndW_step (w : List Nat) : isStepL (sndW w) = true := by
  obtain ⟨d, m0, l0, pm, ql⟩ := wpL_ok w
  refine step_ev ql l0 ?_
  have h1 : Nat.gcd (wpL w).q (wpL w).l ∣ (wpL w).q * (wpL w).m := Nat.dvd_trans (Nat.gcd_dvd_left _ _) (Nat.dvd_mul_right _ _)
  have h2 : Nat.gcd (wpL w).q (wpL w).l ∣ (wpL w).p * (wpL w).l := Nat.dvd_trans (Nat.gcd_dvd_right _ _) (Nat.dvd_mul_left _ _)
  rw [d] at h1
  exact Nat.dvd_one.mp ((Nat.dvd_add_right h2).mp h1)
theorem wordW_step (w : List Nat) : isStepL (wordW w) = true := by
  obtain ⟨d, m0, l0, pm, ql⟩ := wpL_ok w
  rw [wordW_ev]
  refine step_ev (by omega) (by omega) ?_
  generalize (wpL w).p = p at *
  generalize (wpL w).q = q at *
  generalize (wpL w).m = m at *
  generalize (wpL w).l = l at *
  have h3 : (p + q) * m = p * (m + l) + 1 := by rw [Nat.add_mul, Nat.mul_add]; omega
  have h1 : Nat.gcd (p + q) (m + l) ∣ (p + q) * m := Nat.dvd_trans (Nat.gcd_dvd_left _ _) (Nat.dvd_mul_right _ _)
  have h2 : Nat.gcd (p + q) (m + l) ∣ p * (m + l) := Nat.dvd_trans (Nat.gcd_dvd_right _ _) (Nat.dvd_mul_left _ _)
  rw [h3] at h1
  exact Nat.dvd_one.mp ((Nat.dvd_add_right h2).mp h1)
theorem wordW_take (w : List Nat) : (wordW w).take (wpL w).m = fstW w ∧ (wordW w).drop (wpL w).m = sndW w := by
  unfold wordW
  have h := fstW_len w
  exact ⟨by rw [← h, List.take_left], by rw [← h, List.drop_left]⟩
/-- a way's word has the way's pair as its cut -/
theorem wordW_cut {w : List Nat} (h : cnW w ≤ 60) : ∀ k, 1 ≤ k → k < (wordW w).length → ((isStepL ((wordW w).take k) && isStepL ((wordW w).drop k)) = true ↔ k = (wpL w).m) := by
  have hl := wordW_len w
  have hk := wpL_ok w
  have e2 : cnW w = (wpL w).m + (wpL w).l := by unfold cnW; rw [cnL_wp]
  have := hk.m0
  have := hk.l0
  obtain ⟨m, m0, m1, _, hm⟩ := cut_one (wordW_step w) (by omega) (by omega)
  have e : (wpL w).m = m := (hm (wpL w).m (by omega) (by omega)).mp (by rw [(wordW_take w).1, (wordW_take w).2, fstW_step, sndW_step]; rfl)
  rw [e]
  exact hm
def isWayL (w : List Nat) : Bool := w.all fun c => decide (c = 108 ∨ c = 114)
theorem isWayL_iff {l : List Nat} : isWayL l = true ↔ ∀ c ∈ l, c = 108 ∨ c = 114 := by simp [isWayL]
def isWayD : D → Bool
  | .str z => isWayL z.cps.toList
  | _ => false
theorem cnS_mono (p : Nat × Nat) (c : Nat) : p.1 ≤ (cnS p c).1 ∧ p.2 ≤ (cnS p c).2 := by
  unfold cnS
  split <;> constructor <;> dsimp only <;> omega
theorem foldl_mono : ∀ (r : List Nat) (p : Nat × Nat), p.1 ≤ (r.foldl cnS p).1 ∧ p.2 ≤ (r.foldl cnS p).2
  | [], _ => ⟨Nat.le_refl _, Nat.le_refl _⟩
  | c :: r, p => by
    have h1 := cnS_mono p c
    have h2 := foldl_mono r (cnS p c)
    rw [List.foldl_cons]
    omega
theorem cnW_mono (p r : List Nat) : cnW p ≤ cnW (p ++ r) := by
  unfold cnW cnL
  rw [List.foldl_append]
  have := foldl_mono r (p.foldl cnS (1, 1))
  omega
theorem cnW_grow (p : List Nat) (c : Nat) (hp : cnW p ≤ 60) : cnW (p ++ [c]) ≤ 119 := by
  unfold cnW cnL at *
  rw [List.foldl_append]
  show (cnS _ c).1 + (cnS _ c).2 ≤ 119
  have hm := foldl_mono p (1, 1)
  generalize p.foldl cnS (1, 1) = s at *
  unfold cnS
  split <;> dsimp only at * <;> omega
theorem cnW_len (w : List Nat) : w.length + 2 ≤ cnW w := by
  have h : ∀ (r : List Nat) (p : Nat × Nat), 1 ≤ p.1 → 1 ≤ p.2 → r.length + (p.1 + p.2) ≤ (r.foldl cnS p).1 + (r.foldl cnS p).2 := fun r => by
    induction r with
    | nil => intro p _ _; simp
    | cons c r ih =>
      intro p h1 h2
      rw [List.foldl_cons, List.length_cons]
      have hm := cnS_mono p c
      have := ih (cnS p c) (by omega) (by omega)
      have hs : p.1 + p.2 + 1 ≤ (cnS p c).1 + (cnS p c).2 := by unfold cnS; split <;> dsimp only <;> omega
      omega
  exact h w (1, 1) (by decide) (by decide)
theorem cnW_snoc (v : List Nat) (c : Nat) : cnW v ≤ cnW (v ++ [c]) := cnW_mono v [c]
theorem cnW_eq (w : List Nat) : cnW w = (wpL w).m + (wpL w).l := by unfold cnW; rw [cnL_wp]

/-! ### texts of words shown -/
/-! ### a comprehension whose calls want the store to stand -/
/-- any target -/
theorem lcL_pureG {g : TGD} {te : TED} {p : Addr} {σw : Si} {S : Sd} (f : D → D) : ∀ (xs acc : List D) (Q : List D → Sd → Prop), (∀ x ∈ xs, ∀ S' (Q' : DK), Q' (f x) S' → g x σw S' fun σ2 S2 => te σ2 S2 Q') → acc.length + xs.length ≤ 16777216 →
    Q (acc ++ xs.map f) (upS S p (.lst (acc ++ xs.map f))) → dLcL g dYes te p σw xs acc (upS S p (.lst acc)) Q
  | [], acc, Q, _, _, q => by
    rw [List.map_nil, List.append_nil] at q
    exact q
  | x :: r, acc, Q, h, hl, q => by
    rw [List.length_cons] at hl
    refine h x List.mem_cons_self _ (fun y S4 => S4 p = some (.lst acc) ∧ acc.length < 16777216 ∧ dLcL g dYes te p σw r (acc ++ [y]) (upS S4 p (.lst (acc ++ [y]))) Q) ⟨upS_same, by omega, ?_⟩
    rw [upS_upS]
    refine lcL_pureG f r (acc ++ [f x]) Q (fun y hy => h y (List.mem_cons_of_mem _ hy)) (by rw [List.length_append, List.length_singleton]; omega) ?_
    rw [List.append_assoc]
    exact q
theorem comp_pureG {ti : TID} {g : TGD} {te : TED} {vs : List Nat} {σ : Si} {S : Sd} {Q : DK} (f : D → D) (xs : List D) (S1 : Sd) (hti : ∀ R : List D → Sd → Prop, R xs S1 → ti σ S R) (h : ∀ x ∈ xs, ∀ S' (Q' : DK), Q' (f x) S' → g x (wipeD σ vs) S' fun σ2 S2 => te σ2 S2 Q') (hl : xs.length ≤ 16777216)
    (q : Q (.lst (xs.map f)) S1) : dComp ti g dYes te vs σ S Q := hti _ fun p hp => by
  refine lcL_pureG f xs [] _ h (by simpa using hl) ⟨upS_same, ?_⟩
  rw [del_upS hp]
  exact q
/-! ### what stands behind two statements -/
def Kept (S S' : Sd) (u : Addr) : Prop := ∀ a o, a ≠ u → S a = some o → S' a = some o
theorem Kept.of {S S' : Sd} {u : Addr} (h : Oth S S' u) : Kept S S' u := fun a o ha e => (h a ha).trans e
theorem Kept.all {S S' : Sd} {u : Addr} (h : ∀ a o, S a = some o → S' a = some o) : Kept S S' u := fun a o _ e => h a o e
theorem Kept.trans {S S1 S2 : Sd} {u : Addr} (h : Kept S S1 u) (k : Kept S1 S2 u) : Kept S S2 u := fun a o ha e => k a o ha (h a o ha e)
theorem Urn.kept {S S' : Sd} {u : Addr} {B : Int} (h : Urn S u B) (k : ∀ a o, S a = some o → S' a = some o) : Urn S' u B := by
  obtain ⟨g, c, n, e, r⟩ := h
  exact ⟨g, c, n, k _ _ e, r⟩

/-! ### even and uneven, as truths -/
def cntB (z : Str) : Int := (z.cps.toList.count 98 : Nat)
def evenL (l : List Nat) : Bool := (List.range l.length).all fun s => decide (s = 0 ∨ ¬ unev l s)
theorem evenL_iff {l : List Nat} : evenL l = true ↔ ∀ s, 1 ≤ s → s < l.length → ¬ unev l s := by
  unfold evenL
  rw [List.all_eq_true]
  constructor
  · intro h s h1 h2
    have := of_decide_eq_true (h s (List.mem_range.mpr h2))
    rcases this with e | e
    · omega
    · exact e
  · intro h s hs
    refine decide_eq_true ?_
    by_cases e : s = 0
    · exact .inl e
    · exact .inr (h s (by omega) (List.mem_range.mp hs))
def evenD : D → Bool
  | .str z => evenL z.cps.toList
  | _ => false
def partC (z w : Str) : Bool := isWordD (.str z) && (decide (z.length ≤ w.length) && hasS (w ++ w) z)
def partD (w : Str) : D → Bool
  | .str z => partC z w
  | _ => false
def cmpD : D → D → Bool
  | .str x, .str y => decide (x.length = y.length) && decide (cntB x - cntB y > 1)
  | _, _ => false
/-- an uneven word's paper -/
def unevB : D → D → Bool
  | .str w, .tup [a, b] => isWordD (.str w) && (partD w a && partD w b) && cmpD a b
  | _, _ => false
/-- what is due -/
def evB : D → D → Bool
  | .tup [.str z, w], p => if z = "even" then (match p with | .non => isWordD w && evenD w | _ => false) else if z = "uneven" then unevB w p else false
  | _, _ => false
/-- no claim of another kind -/
def cleanEv : D → Prop
  | .tup (.str z :: r) => (r.length = 1 → z ≠ "below" ∧ z ≠ "above") ∧ (r.length = 2 → z ≠ "same") ∧ (r.length = 3 → z ≠ "triple" ∧ z ≠ "form below" ∧ z ≠ "form above")
  | _ => True
theorem str_ofL (z : Str) : ∃ l, z = ofL l := ⟨z.cps.toList, str_ext (by show z.cps.toList = z.cps.toList.toArray.toList; simp)⟩
theorem txt_count_b (z : Str) : Txt.count z "b" = cntB z := by
  obtain ⟨l, rfl⟩ := str_ofL z
  exact count_b l
def clean (c _p : D) : Prop := cleanEv c

/-! ### each step word of two letters or more is a way's word -/
/-- each step word is the word of a way -/
theorem way_ex : ∀ (N : Nat) (s : WS), WOk s → s.m + s.l ≤ N → ∃ w, isWayL w = true ∧ wpL w = s := fun N => by
  induction N with
  | zero => intro s h hn; have := h.m0; omega
  | succ N ih =>
    rintro ⟨p, m, q, l⟩ ⟨d, m0, l0, pm, ql⟩ hn
    simp only at d m0 l0 pm ql hn
    rcases Nat.lt_trichotomy m l with c | c | c
    · have h1 : p < q := by
        refine Decidable.byContradiction fun h => ?_
        have a := Nat.mul_le_mul_right m (show q ≤ p by omega)
        have b := Nat.mul_le_mul_left p (show m + 1 ≤ l by omega)
        rw [Nat.mul_add] at b
        omega
      obtain ⟨q, rfl⟩ := Nat.exists_eq_add_of_le (Nat.le_of_lt h1)
      obtain ⟨l, rfl⟩ := Nat.exists_eq_add_of_le (Nat.le_of_lt c)
      rw [Nat.add_mul, Nat.mul_add] at d
      have d2 : q * m = p * l + 1 := by omega
      have l1 : 0 < l := by omega
      have ql2 : q ≤ l := by
        refine Decidable.byContradiction fun h => ?_
        have a := Nat.mul_le_mul_right m (show l + 1 ≤ q by omega)
        have b := Nat.mul_le_mul_right l pm
        rw [Nat.add_mul] at a
        have e : m * l = l * m := Nat.mul_comm _ _
        have m1 : m = 1 := by omega
        subst m1
        have : p = 0 ∨ p = 1 := by omega
        rcases this with rfl | rfl <;> omega
      obtain ⟨w, hw, e⟩ := ih ⟨p, m, q, l⟩ ⟨d2, m0, l1, pm, ql2⟩ (by show m + l ≤ N; omega)
      refine ⟨w ++ [108], isWayL_iff.mpr fun x hx => ?_, ?_⟩
      · rcases List.mem_append.mp hx with hx | hx
        · exact isWayL_iff.mp hw x hx
        · exact .inl (List.mem_singleton.mp hx)
      · rw [wpL_snoc, e]; rfl
    · subst c
      have d2 : (q - p) * m = 1 := by rw [Nat.sub_mul]; omega
      have m1 : m = 1 := Nat.eq_one_of_mul_eq_one_left d2
      subst m1
      have : p = 0 ∧ q = 1 := by omega
      obtain ⟨rfl, rfl⟩ := this
      exact ⟨[], rfl, rfl⟩
    · have h1 : q ≤ p := by
        refine Decidable.byContradiction fun h => ?_
        have a := Nat.mul_le_mul_left q (show l + 1 ≤ m by omega)
        have b := Nat.mul_le_mul_right l (show p + 1 ≤ q by omega)
        rw [Nat.mul_add] at a
        rw [Nat.add_mul] at b
        omega
      obtain ⟨p, rfl⟩ := Nat.exists_eq_add_of_le h1
      obtain ⟨m, rfl⟩ := Nat.exists_eq_add_of_le (Nat.le_of_lt c)
      rw [Nat.add_mul, Nat.mul_add] at d
      have d2 : q * m = p * l + 1 := by omega
      have m1 : 0 < m := by omega
      have pm2 : p ≤ m := by
        refine Decidable.byContradiction fun h => ?_
        have a := Nat.mul_le_mul_right l (show m + 1 ≤ p by omega)
        have b := Nat.mul_le_mul_right m ql
        rw [Nat.add_mul] at a
        have e : m * l = l * m := Nat.mul_comm _ _
        omega
      obtain ⟨w, hw, e⟩ := ih ⟨p, m, q, l⟩ ⟨d2, m1, l0, pm2, ql⟩ (by show m + l ≤ N; omega)
      refine ⟨w ++ [114], isWayL_iff.mpr fun x hx => ?_, ?_⟩
      · rcases List.mem_append.mp hx with hx | hx
        · exact isWayL_iff.mp hw x hx
        · exact .inr (List.mem_singleton.mp hx)
      · rw [wpL_snoc, e]
        show (⟨p + q, m + l, q, l⟩ : WS) = ⟨q + p, l + m, q, l⟩
        rw [Nat.add_comm p, Nat.add_comm m]
theorem step_way {l : List Nat} (h : isStepL l = true) (h2 : 2 ≤ l.length) (h60 : l.length ≤ 60) : ∃ w, isWayL w = true ∧ wordW w = l := by
  obtain ⟨m, m0, m1, mo, _⟩ := cut_one h h2 h60
  obtain ⟨e, g⟩ := isStepL_ev h
  have hb : l.count 98 ≤ l.length := List.count_le_length
  generalize l.count 98 = b at *
  generalize hn : l.length = n at *
  have hd := Nat.div_add_mod (b * m) n
  rw [mo] at hd
  generalize b * m / n = p at *
  have pb : p ≤ b := by
    refine Decidable.byContradiction fun h => ?_
    have a := Nat.mul_le_mul_left n (show b + 1 ≤ p by omega)
    have c := Nat.mul_le_mul_left b (Nat.le_of_lt m1)
    rw [Nat.mul_add, Nat.mul_comm n b] at a
    omega
  obtain ⟨q, rfl⟩ := Nat.exists_eq_add_of_le pb
  obtain ⟨l', rfl⟩ := Nat.exists_eq_add_of_le (Nat.le_of_lt m1)
  rw [Nat.add_mul, Nat.add_mul] at hd
  have e1 : m * p = p * m := Nat.mul_comm _ _
  have e2 : l' * p = p * l' := Nat.mul_comm _ _
  have d2 : q * m = p * l' + 1 := by omega
  have pm : p ≤ m := by
    refine Decidable.byContradiction fun h => ?_
    have a := Nat.mul_le_mul_right l' (show m + 1 ≤ p by omega)
    have c : q ≤ l' := by omega
    have c2 := Nat.mul_le_mul_right m c
    rw [Nat.add_mul] at a
    have e3 : m * l' = l' * m := Nat.mul_comm _ _
    omega
  have ql : q ≤ l' := by
    refine Decidable.byContradiction fun h => ?_
    have a := Nat.mul_le_mul_right m (show l' + 1 ≤ q by omega)
    have c := Nat.mul_le_mul_right l' (show p + 1 ≤ m by omega)
    rw [Nat.add_mul] at a c
    have e3 : m * l' = l' * m := Nat.mul_comm _ _
    omega
  obtain ⟨w, hw, ew⟩ := way_ex (m + l') ⟨p, m, q, l'⟩ ⟨d2, by show 0 < m; omega, by show 0 < l'; omega, pm, ql⟩ (Nat.le_refl _)
  refine ⟨w, hw, ?_⟩
  rw [wordW_ev, ew, e]
/-! ### all words of so many letters -/
def AB : Nat → List (List Nat)
  | 0 => [[]]
  | n + 1 => (AB n).flatMap fun l => [l ++ [97], l ++ [98]]
def abD (l : List Nat) : D := .str (ofL l)
def rtL (l : List Nat) (k : Nat) : List Nat := l.drop k ++ l.take k
def stepsN (n : Nat) : List (List Nat) := (AB n).filter isStepL
def cntsN (n : Nat) : List Nat := (List.range (n + 1)).filter fun k => Nat.gcd k n == 1
def lsL (l : List Nat) : List Nat := rotL l (leastT (abD l))
def pairOk (l : List Nat) (s : Nat) : Bool :=
  let a := partL l s (biP true l s)
  let b := partL l s (biP false l s)
  decide (a.length = b.length) && decide ((b.count 98 : Int) + 2 ≤ (a.count 98 : Int)) && hasS (ofL l ++ ofL l) (ofL a) && hasS (ofL l ++ ofL l) (ofL b) && isAB a && isAB b && decide (1 ≤ a.length) && decide (a.length ≤ l.length)
def okE (l : List Nat) : Bool :=
  isAB l && (((List.range l.length).any fun k => decide (rtL l k = evF (l.count 98) l.length)) == evenL l) && ((List.range l.length).all fun s => decide (s = 0) || !decide (unev l s) || pairOk l s)
def okR (n : Nat) (l : List Nat) : Bool :=
  let p := shL l
  decide (1 ≤ p.length) && decide ((List.replicate (l.length / p.length) p).flatten = l) && decide (((AB n).map lsL).count (lsL l) = p.length) && (!isStepL l || evenL l) && decide (l.count 97 + l.count 98 = l.length) && (!isStepL l || decide (evF (l.count 98) l.length = l))
def okT (l : List Nat) : Bool := decide ((tabM l).p + (tabM l).s = 3 * (tabM l).q) && decide ((tabM l).p * (tabM l).s - (tabM l).q * (tabM l).r = 1) && decide ((tabM l).p.natAbs < 2 ^ 60 ∧ (tabM l).q.natAbs < 2 ^ 60 ∧ (tabM l).r.natAbs < 2 ^ 60 ∧ (tabM l).s.natAbs < 2 ^ 60)
theorem okE_all : ((List.range 8).all fun n => n == 0 || (AB n).all okE) = true := by decide +kernel
theorem okR_all : ((List.range 8).all fun n => n == 0 || (AB n).all (okR n)) = true := by decide +kernel
theorem okT_all : ((List.range 8).all fun n => n == 0 || (stepsN n).all okT) = true := by decide +kernel
theorem okC_all : ((List.range 8).all fun n => n == 0 || (decide ((stepsN n).length = (cntsN n).length) && decide (((stepsN n).map (·.count 98)).Perm (cntsN n)) && decide ((cntsN n).length < 60))) = true := by decide +kernel
def tabK (l : List Nat) : NestedKey := .tup [.tup [.num (tabM l).p, .num (tabM l).q], .tup [.num (tabM l).r, .num (tabM l).s]]
def okS (n : Nat) : Bool := match addHs (((AB n).map tabK).map nhash) ([], .fresh 0 0 true) with
  | some q => decide (q.1.length = 2 ^ n) && q.2.fits (2 ^ n)
  | none => false
theorem okS_5 : ((List.range 6).all fun n => okS n) = true := by decide +kernel
theorem addHs_app {a b : List Int} {p q r : List Int × SetTable} (h : addHs a p = some q) (h2 : addHs b q = some r) : addHs (a ++ b) p = some r := by
  induction a generalizing p with
  | nil => rw [addHs] at h; cases h; exact h2
  | cons x a ih =>
    rw [addHs] at h
    obtain ⟨q1, e1, e2⟩ := Option.bind_eq_some_iff.mp h
    rw [List.cons_append, addHs, e1]
    exact ih e2
def hz6_0 : List Int := [-3750482433385161606, -7996581391314571730, -1688741065378772534, 2339512857493621433]
def hz6_1 : List Int := [3645181776778755452, 9042599002521465386, -5181405860439753475, -387129968888728626]
def hz6_2 : List Int := [-500978730578913825, 6878575961947890366, -3497084908799359917, 7035346205536700842]
def hz6_3 : List Int := [5761391946790182301, -6362105057359841294, 2997698712559585010, -5896314055329308895]
def hz6_4 : List Int := [5567482743556380812, 9100923834700591765, 8426788157156845136, -647782557725207597]
def hz6_5 : List Int := [149676162591299804, 8965952644430430049, 4395498172235741870, -6636451740928544511]
def hz6_6 : List Int := [-7469310538886466241, 5480340608146827569, -373300414473610147, -4512108833783874483]
def hz6_7 : List Int := [7129720200274574585, 9133665826482854562, 8783709442552062257, 4825409511458394805]
def hz6_8 : List Int := [7809781864486021847, 4886502027665066599, -3743308498671546671, 288312375785394822]
def hz6_9 : List Int := [-6579176516427730104, -388976579417069004, -2803152530230535736, 8156061523592892800]
def hz6_10 : List Int := [-1195624296935446956, 8181031789126990633, -3612223943606830697, -807351464100300130]
def hz6_11 : List Int := [7332608072516785439, 1683210579740919481, -184326788728994984, -5196891818770231071]
def hz6_12 : List Int := [-8526644654156105477, 2305953392328951585, -8961283015449463162, 9108428626744160418]
def hz6_13 : List Int := [-5912352800372057907, 5841497453696292087, -8327237599880764357, 1419246008797563054]
def hz6_14 : List Int := [3996772726551121939, 7187616108636693451, 1491750218707539892, -8819366615018169445]
def hz6_15 : List Int := [-7410919340103869578, -882681029218350280, -1809161362403109810, -1045735390935373190]
theorem hz6 : ((AB 6).map tabK).map nhash = hz6_0 ++ (hz6_1 ++ (hz6_2 ++ (hz6_3 ++ (hz6_4 ++ (hz6_5 ++ (hz6_6 ++ (hz6_7 ++ (hz6_8 ++ (hz6_9 ++ (hz6_10 ++ (hz6_11 ++ (hz6_12 ++ (hz6_13 ++ (hz6_14 ++ (hz6_15))))))))))))))) := by decide +kernel
def sz6t0 : List Int × SetTable := ([], .fresh 0 0 true)
def sz6t1 : List Int × SetTable := ([-1688741065378772534, -3750482433385161606, 2339512857493621433, -7996581391314571730], ⟨7, (#[1, 2, 3, 6] : Array Nat), #[], 0, true, 0, true⟩)
theorem rz6t0 : addHs hz6_0 sz6t0 = some sz6t1 := by decide +kernel
def sz6t2 : List Int × SetTable := ([-1688741065378772534, 9042599002521465386, -7996581391314571730, -387129968888728626, 2339512857493621433, -3750482433385161606, 3645181776778755452, -5181405860439753475], ⟨31, (#[10, 11, 14, 15, 25, 26, 28, 29] : Array Nat), #[], 0, true, 1, true⟩)
theorem rz6t1 : addHs hz6_1 sz6t1 = some sz6t2 := by decide +kernel
def sz6t3 : List Int × SetTable := ([-1688741065378772534, 9042599002521465386, 7035346205536700842, -7996581391314571730, -387129968888728626, -3497084908799359917, 2339512857493621433, -3750482433385161606, 3645181776778755452, -5181405860439753475, 6878575961947890366, -500978730578913825], ⟨31, (#[10, 11, 12, 14, 15, 19, 25, 26, 28, 29, 30, 31] : Array Nat), #[], 0, true, 1, true⟩)
theorem rz6t2 : addHs hz6_2 sz6t2 = some sz6t3 := by decide +kernel
def sz6t4 : List Int × SetTable := ([-5896314055329308895, -1688741065378772534, 9042599002521465386, 7035346205536700842, 5761391946790182301, -7996581391314571730, -387129968888728626, -6362105057359841294, -3497084908799359917, 2997698712559585010, 2339512857493621433, -3750482433385161606, 3645181776778755452, -5181405860439753475, 6878575961947890366, -500978730578913825], ⟨31, (#[1, 10, 11, 12, 13, 14, 15, 18, 19, 20, 25, 26, 28, 29, 30, 31] : Array Nat), #[], 0, true, 1, true⟩)
theorem rz6t3 : addHs hz6_3 sz6t3 = some sz6t4 := by decide +kernel
def sz6t5 : List Int × SetTable := ([5567482743556380812, 9100923834700591765, 5761391946790182301, -5896314055329308895, 9042599002521465386, 7035346205536700842, -7996581391314571730, 2339512857493621433, 6878575961947890366, -1688741065378772534, -387129968888728626, 8426788157156845136, -3497084908799359917, -647782557725207597, -500978730578913825, -6362105057359841294, 2997698712559585010, -3750482433385161606, 3645181776778755452, -5181405860439753475], ⟨127, (#[12, 21, 29, 33, 42, 43, 46, 57, 62, 74, 78, 80, 83, 84, 95, 114, 115, 122, 124, 125] : Array Nat), #[], 0, true, 2, true⟩)
theorem rz6t4 : addHs hz6_4 sz6t4 = some sz6t5 := by decide +kernel
def sz6t6 : List Int × SetTable := ([-6636451740928544511, 5567482743556380812, 9100923834700591765, 5761391946790182301, -5896314055329308895, 9042599002521465386, 7035346205536700842, -7996581391314571730, 4395498172235741870, 2339512857493621433, 6878575961947890366, -1688741065378772534, -387129968888728626, 8426788157156845136, -3497084908799359917, -647782557725207597, 149676162591299804, -500978730578913825, 8965952644430430049, -6362105057359841294, 2997698712559585010, -3750482433385161606, 3645181776778755452, -5181405860439753475], ⟨127, (#[1, 12, 21, 29, 33, 42, 43, 46, 47, 57, 62, 74, 78, 80, 83, 84, 92, 95, 97, 114, 115, 122, 124, 125] : Array Nat), #[], 0, true, 2, true⟩)
theorem rz6t5 : addHs hz6_5 sz6t5 = some sz6t6 := by decide +kernel
def sz6t7 : List Int × SetTable := ([-6636451740928544511, 5567482743556380812, 9100923834700591765, 5761391946790182301, -5896314055329308895, 9042599002521465386, 7035346205536700842, -7996581391314571730, 4395498172235741870, 5480340608146827569, 2339512857493621433, 6878575961947890366, -7469310538886466241, -1688741065378772534, -4512108833783874483, -387129968888728626, 8426788157156845136, -3497084908799359917, -647782557725207597, 149676162591299804, -373300414473610147, -500978730578913825, 8965952644430430049, -6362105057359841294, 2997698712559585010, -3750482433385161606, 3645181776778755452, -5181405860439753475], ⟨127, (#[1, 12, 21, 29, 33, 42, 43, 46, 47, 49, 57, 62, 63, 74, 77, 78, 80, 83, 84, 92, 93, 95, 97, 114, 115, 122, 124, 125] : Array Nat), #[], 0, true, 2, true⟩)
theorem rz6t6 : addHs hz6_6 sz6t6 = some sz6t7 := by decide +kernel
def sz6t8 : List Int × SetTable := ([-6636451740928544511, 5567482743556380812, 9100923834700591765, 5761391946790182301, -5896314055329308895, 9133665826482854562, 9042599002521465386, 7035346205536700842, -7996581391314571730, 4395498172235741870, 5480340608146827569, 8783709442552062257, 4825409511458394805, 2339512857493621433, 6878575961947890366, -7469310538886466241, -1688741065378772534, -4512108833783874483, -387129968888728626, 8426788157156845136, -3497084908799359917, -647782557725207597, 149676162591299804, -373300414473610147, -500978730578913825, 8965952644430430049, -6362105057359841294, 2997698712559585010, 7129720200274574585, -3750482433385161606, 3645181776778755452, -5181405860439753475], ⟨127, (#[1, 12, 21, 29, 33, 34, 42, 43, 46, 47, 49, 50, 53, 57, 62, 63, 74, 77, 78, 80, 83, 84, 92, 93, 95, 97, 114, 115, 121, 122, 124, 125] : Array Nat), #[], 0, true, 2, true⟩)
theorem rz6t7 : addHs hz6_7 sz6t7 = some sz6t8 := by decide +kernel
def sz6t9 : List Int × SetTable := ([-6636451740928544511, 288312375785394822, 5567482743556380812, 9100923834700591765, 5761391946790182301, -5896314055329308895, 9133665826482854562, 9042599002521465386, 7035346205536700842, -7996581391314571730, 4395498172235741870, 5480340608146827569, 8783709442552062257, 4825409511458394805, 2339512857493621433, 6878575961947890366, -7469310538886466241, -1688741065378772534, -4512108833783874483, -387129968888728626, 8426788157156845136, -3743308498671546671, -3497084908799359917, -647782557725207597, 7809781864486021847, 149676162591299804, -373300414473610147, -500978730578913825, 8965952644430430049, 4886502027665066599, -6362105057359841294, 2997698712559585010, 7129720200274574585, -3750482433385161606, 3645181776778755452, -5181405860439753475], ⟨127, (#[1, 6, 12, 21, 29, 33, 34, 42, 43, 46, 47, 49, 50, 53, 57, 62, 63, 74, 77, 78, 80, 81, 83, 84, 87, 92, 93, 95, 97, 103, 114, 115, 121, 122, 124, 125] : Array Nat), #[], 0, true, 2, true⟩)
theorem rz6t8 : addHs hz6_8 sz6t8 = some sz6t9 := by decide +kernel
def sz6t10 : List Int × SetTable := ([8156061523592892800, -6636451740928544511, 288312375785394822, 5567482743556380812, 9100923834700591765, 5761391946790182301, -5896314055329308895, 9133665826482854562, 9042599002521465386, 7035346205536700842, -7996581391314571730, 4395498172235741870, 5480340608146827569, 8783709442552062257, -388976579417069004, 4825409511458394805, 2339512857493621433, 6878575961947890366, -7469310538886466241, -6579176516427730104, -2803152530230535736, -1688741065378772534, -4512108833783874483, -387129968888728626, 8426788157156845136, -3743308498671546671, -3497084908799359917, -647782557725207597, 7809781864486021847, 149676162591299804, -373300414473610147, -500978730578913825, 8965952644430430049, 4886502027665066599, -6362105057359841294, 2997698712559585010, 7129720200274574585, -3750482433385161606, 3645181776778755452, -5181405860439753475], ⟨127, (#[0, 1, 6, 12, 21, 29, 33, 34, 42, 43, 46, 47, 49, 50, 52, 53, 57, 62, 63, 72, 73, 74, 77, 78, 80, 81, 83, 84, 87, 92, 93, 95, 97, 103, 114, 115, 121, 122, 124, 125] : Array Nat), #[], 0, true, 2, true⟩)
theorem rz6t9 : addHs hz6_9 sz6t9 = some sz6t10 := by decide +kernel
def sz6t11 : List Int × SetTable := ([8156061523592892800, -6636451740928544511, 288312375785394822, 5567482743556380812, 9100923834700591765, -3612223943606830697, 5761391946790182301, -807351464100300130, -5896314055329308895, 9133665826482854562, 8181031789126990633, 9042599002521465386, 7035346205536700842, -7996581391314571730, 4395498172235741870, 5480340608146827569, 8783709442552062257, -388976579417069004, 4825409511458394805, 2339512857493621433, 6878575961947890366, -7469310538886466241, -6579176516427730104, -2803152530230535736, -1688741065378772534, -4512108833783874483, -387129968888728626, 8426788157156845136, -3743308498671546671, -3497084908799359917, -647782557725207597, -1195624296935446956, 7809781864486021847, 149676162591299804, -373300414473610147, -500978730578913825, 8965952644430430049, 4886502027665066599, -6362105057359841294, 2997698712559585010, 7129720200274574585, -3750482433385161606, 3645181776778755452, -5181405860439753475], ⟨127, (#[0, 1, 6, 12, 21, 23, 29, 30, 33, 34, 41, 42, 43, 46, 47, 49, 50, 52, 53, 57, 62, 63, 72, 73, 74, 77, 78, 80, 81, 83, 84, 85, 87, 92, 93, 95, 97, 103, 114, 115, 121, 122, 124, 125] : Array Nat), #[], 0, true, 2, true⟩)
theorem rz6t10 : addHs hz6_10 sz6t10 = some sz6t11 := by decide +kernel
def sz6t12 : List Int × SetTable := ([8156061523592892800, -6636451740928544511, 288312375785394822, 5567482743556380812, 9100923834700591765, -3612223943606830697, 5761391946790182301, -807351464100300130, 7332608072516785439, -5896314055329308895, 9133665826482854562, 8181031789126990633, 9042599002521465386, 7035346205536700842, -7996581391314571730, 4395498172235741870, 5480340608146827569, 8783709442552062257, -388976579417069004, 4825409511458394805, 2339512857493621433, 1683210579740919481, 6878575961947890366, -7469310538886466241, -6579176516427730104, -2803152530230535736, -1688741065378772534, -4512108833783874483, -387129968888728626, 8426788157156845136, -3743308498671546671, -3497084908799359917, -647782557725207597, -1195624296935446956, 7809781864486021847, -184326788728994984, 149676162591299804, -373300414473610147, -500978730578913825, 8965952644430430049, -5196891818770231071, 4886502027665066599, -6362105057359841294, 2997698712559585010, 7129720200274574585, -3750482433385161606, 3645181776778755452, -5181405860439753475], ⟨127, (#[0, 1, 6, 12, 21, 23, 29, 30, 31, 33, 34, 41, 42, 43, 46, 47, 49, 50, 52, 53, 57, 58, 62, 63, 72, 73, 74, 77, 78, 80, 81, 83, 84, 85, 87, 88, 92, 93, 95, 97, 98, 103, 114, 115, 121, 122, 124, 125] : Array Nat), #[], 0, true, 2, true⟩)
theorem rz6t11 : addHs hz6_11 sz6t11 = some sz6t12 := by decide +kernel
def sz6t13 : List Int × SetTable := ([8156061523592892800, -6636451740928544511, 288312375785394822, -8961283015449463162, 5567482743556380812, 9100923834700591765, -3612223943606830697, 5761391946790182301, -807351464100300130, 7332608072516785439, -5896314055329308895, 9133665826482854562, 2305953392328951585, 9108428626744160418, 8181031789126990633, 9042599002521465386, 7035346205536700842, -7996581391314571730, 4395498172235741870, 5480340608146827569, 8783709442552062257, -388976579417069004, 4825409511458394805, 2339512857493621433, 1683210579740919481, 6878575961947890366, -7469310538886466241, -6579176516427730104, -2803152530230535736, -1688741065378772534, -4512108833783874483, -387129968888728626, 8426788157156845136, -3743308498671546671, -3497084908799359917, -647782557725207597, -1195624296935446956, 7809781864486021847, -184326788728994984, 149676162591299804, -373300414473610147, -500978730578913825, 8965952644430430049, -5196891818770231071, 4886502027665066599, -6362105057359841294, 2997698712559585010, 7129720200274574585, -3750482433385161606, -8526644654156105477, 3645181776778755452, -5181405860439753475], ⟨127, (#[0, 1, 6, 7, 12, 21, 23, 29, 30, 31, 33, 34, 35, 36, 41, 42, 43, 46, 47, 49, 50, 52, 53, 57, 58, 62, 63, 72, 73, 74, 77, 78, 80, 81, 83, 84, 85, 87, 88, 92, 93, 95, 97, 98, 103, 114, 115, 121, 122, 123, 124, 125] : Array Nat), #[], 0, true, 2, true⟩)
theorem rz6t12 : addHs hz6_12 sz6t12 = some sz6t13 := by decide +kernel
def sz6t14 : List Int × SetTable := ([8156061523592892800, -6636451740928544511, 288312375785394822, -8961283015449463162, 5567482743556380812, 9100923834700591765, -3612223943606830697, 5761391946790182301, -807351464100300130, 7332608072516785439, -5896314055329308895, 9133665826482854562, 2305953392328951585, 9108428626744160418, 8181031789126990633, 9042599002521465386, 7035346205536700842, -7996581391314571730, 4395498172235741870, 1419246008797563054, 5480340608146827569, 8783709442552062257, -388976579417069004, 4825409511458394805, 2339512857493621433, 1683210579740919481, -8327237599880764357, 6878575961947890366, -7469310538886466241, -6579176516427730104, -2803152530230535736, -1688741065378772534, -4512108833783874483, -387129968888728626, -5912352800372057907, 8426788157156845136, -3743308498671546671, -3497084908799359917, -647782557725207597, -1195624296935446956, 7809781864486021847, -184326788728994984, 149676162591299804, -373300414473610147, -500978730578913825, 8965952644430430049, -5196891818770231071, 4886502027665066599, -6362105057359841294, 2997698712559585010, 5841497453696292087, 7129720200274574585, -3750482433385161606, -8526644654156105477, 3645181776778755452, -5181405860439753475], ⟨127, (#[0, 1, 6, 7, 12, 21, 23, 29, 30, 31, 33, 34, 35, 36, 41, 42, 43, 46, 47, 48, 49, 50, 52, 53, 57, 58, 59, 62, 63, 72, 73, 74, 77, 78, 79, 80, 81, 83, 84, 85, 87, 88, 92, 93, 95, 97, 98, 103, 114, 115, 119, 121, 122, 123, 124, 125] : Array Nat), #[], 0, true, 2, true⟩)
theorem rz6t13 : addHs hz6_13 sz6t13 = some sz6t14 := by decide +kernel
def sz6t15 : List Int × SetTable := ([8156061523592892800, -6636451740928544511, 288312375785394822, -8961283015449463162, 5567482743556380812, 3996772726551121939, 9100923834700591765, -3612223943606830697, -8819366615018169445, 5761391946790182301, -807351464100300130, 7332608072516785439, -5896314055329308895, 9133665826482854562, 2305953392328951585, 9108428626744160418, 8181031789126990633, 9042599002521465386, 7035346205536700842, -7996581391314571730, 4395498172235741870, 1419246008797563054, 5480340608146827569, 8783709442552062257, -388976579417069004, 4825409511458394805, 1491750218707539892, 2339512857493621433, 1683210579740919481, -8327237599880764357, 6878575961947890366, -7469310538886466241, -6579176516427730104, -2803152530230535736, -1688741065378772534, 7187616108636693451, -4512108833783874483, -387129968888728626, -5912352800372057907, 8426788157156845136, -3743308498671546671, -3497084908799359917, -647782557725207597, -1195624296935446956, 7809781864486021847, -184326788728994984, 149676162591299804, -373300414473610147, -500978730578913825, 8965952644430430049, -5196891818770231071, 4886502027665066599, -6362105057359841294, 2997698712559585010, 5841497453696292087, 7129720200274574585, -3750482433385161606, -8526644654156105477, 3645181776778755452, -5181405860439753475], ⟨127, (#[0, 1, 6, 7, 12, 19, 21, 23, 27, 29, 30, 31, 33, 34, 35, 36, 41, 42, 43, 46, 47, 48, 49, 50, 52, 53, 54, 57, 58, 59, 62, 63, 72, 73, 74, 75, 77, 78, 79, 80, 81, 83, 84, 85, 87, 88, 92, 93, 95, 97, 98, 103, 114, 115, 119, 121, 122, 123, 124, 125] : Array Nat), #[], 0, true, 2, true⟩)
theorem rz6t14 : addHs hz6_14 sz6t14 = some sz6t15 := by decide +kernel
def sz6t16 : List Int × SetTable := ([8156061523592892800, -6636451740928544511, 288312375785394822, -8961283015449463162, 5567482743556380812, 3996772726551121939, 9100923834700591765, -3612223943606830697, -8819366615018169445, 5761391946790182301, -807351464100300130, 7332608072516785439, -5896314055329308895, 9133665826482854562, 2305953392328951585, 9108428626744160418, 8181031789126990633, 9042599002521465386, 7035346205536700842, -7996581391314571730, 4395498172235741870, 1419246008797563054, 5480340608146827569, 8783709442552062257, -388976579417069004, 4825409511458394805, 1491750218707539892, -1045735390935373190, -882681029218350280, 2339512857493621433, 1683210579740919481, -8327237599880764357, 6878575961947890366, -7469310538886466241, -6579176516427730104, -2803152530230535736, -1688741065378772534, 7187616108636693451, -4512108833783874483, -387129968888728626, -5912352800372057907, 8426788157156845136, -3743308498671546671, -1809161362403109810, -3497084908799359917, -647782557725207597, -1195624296935446956, 7809781864486021847, -184326788728994984, 149676162591299804, -373300414473610147, -500978730578913825, 8965952644430430049, -5196891818770231071, 4886502027665066599, -6362105057359841294, 2997698712559585010, -7410919340103869578, 5841497453696292087, 7129720200274574585, -3750482433385161606, -8526644654156105477, 3645181776778755452, -5181405860439753475], ⟨127, (#[0, 1, 6, 7, 12, 19, 21, 23, 27, 29, 30, 31, 33, 34, 35, 36, 41, 42, 43, 46, 47, 48, 49, 50, 52, 53, 54, 55, 56, 57, 58, 59, 62, 63, 72, 73, 74, 75, 77, 78, 79, 80, 81, 82, 83, 84, 85, 87, 88, 92, 93, 95, 97, 98, 103, 114, 115, 118, 119, 121, 122, 123, 124, 125] : Array Nat), #[], 0, true, 2, true⟩)
theorem rz6t15 : addHs hz6_15 sz6t15 = some sz6t16 := by decide +kernel
theorem rz6t : addHs (((AB 6).map tabK).map nhash) ([], .fresh 0 0 true) = some sz6t16 := by
  rw [hz6]
  exact addHs_app rz6t0 (addHs_app rz6t1 (addHs_app rz6t2 (addHs_app rz6t3 (addHs_app rz6t4 (addHs_app rz6t5 (addHs_app rz6t6 (addHs_app rz6t7 (addHs_app rz6t8 (addHs_app rz6t9 (addHs_app rz6t10 (addHs_app rz6t11 (addHs_app rz6t12 (addHs_app rz6t13 (addHs_app rz6t14 (rz6t15)))))))))))))))
theorem fz6t : sz6t16.1.length = 64 ∧ sz6t16.2.fits 64 = true := by decide +kernel
def hz7_0 : List Int := [-7081242121602664369, 4113732703721233346, 8075695629611751403, -3244702035163623482]
def hz7_1 : List Int := [-6670944888730591109, 7000220671692907521, -4447176858810468654, -5434999385278539047]
def hz7_2 : List Int := [-4568425266707806548, 789971562615686141, -9095604072402601556, -403131266126422536]
def hz7_3 : List Int := [-3738059117281626249, -5708810149647603591, -4404632067030034768, -6746112217772461238]
def hz7_4 : List Int := [1659115826322437318, -1259317621205516981, -5292800686784885138, -2458796762764932473]
def hz7_5 : List Int := [1330823628478300096, 4236886931311896811, -5927781067064965928, -3741936095389092688]
def hz7_6 : List Int := [4050801002175092953, -2059737081380153068, 6732633512947104632, 3576796256085621962]
def hz7_7 : List Int := [3493127159456972572, -5583984714184051914, 1594597682610980664, -98567129314326200]
def hz7_8 : List Int := [-8317695812617602704, 14704867051645130, 4269102445838893614, -6310087355047049106]
def hz7_9 : List Int := [-2431703499363248860, 6656002846457511195, -712708622242158449, -81066692052738889]
def hz7_10 : List Int := [6976949781247238544, 4736708886672371957, 7868415918912694093, 8916944709627587276]
def hz7_11 : List Int := [-8553663146080044213, -1816846572894204220, 6558071782070867363, 1819205801654329558]
def hz7_12 : List Int := [-6976988600437206012, -7613081743889698987, -4317454368321200891, 3634256694477065721]
def hz7_13 : List Int := [-3178418761212886783, -6742464739161919941, -1885797169422145398, 6144911744930629265]
def hz7_14 : List Int := [-4616885089321963727, 9061999863535920240, 3185315757159083933, 6830464645514470713]
def hz7_15 : List Int := [2941424287624814072, 4699190267620613384, 6552278117579633448, -6254051850367330130]
def hz7_16 : List Int := [9074171212223152256, 3499043976501258092, -7006382847557126502, -4531624546412535375]
def hz7_17 : List Int := [-349394620490518293, 2473418333244292312, -7506312237148760582, -1151707547155793080]
def hz7_18 : List Int := [8611814976852646024, 7175862247468204349, -476603924714473404, 2036110986336041340]
def hz7_19 : List Int := [5261837572744087259, -2409790374776785780, -1356022819708871274, -7611629872615291831]
def hz7_20 : List Int := [8652304868049782052, 2224906394678517733, -2602303017786745945, 870200792808542838]
def hz7_21 : List Int := [-1286883875409788415, -550170466453627849, 1797461313202914101, -2593836049699887684]
def hz7_22 : List Int := [-58150390608917532, -1415851851907484719, 3067552927308124071, -6151471173612349919]
def hz7_23 : List Int := [-6091344283532127305, 8016039842280517242, -2162220522297075968, 8596466855545671300]
def hz7_24 : List Int := [6430838095573028837, -7950680369716898685, 6222674676057299475, 3052574680678087943]
def hz7_25 : List Int := [518243807120089965, 4421021518128716505, 3230136325544659115, 400807172429974187]
def hz7_26 : List Int := [4761370810351693041, -786918058253420130, 1486007308544171666, 3913690686318874249]
def hz7_27 : List Int := [-1815465798587072525, -8582180832109110547, 1632557116215134855, -5550254459671238023]
def hz7_28 : List Int := [-2497966376706185623, 29708973981480638, 3150277404746620821, 375530859910269565]
def hz7_29 : List Int := [6603768772276338597, -4284198635056057556, 1190043433779610266, 1019084228422520104]
def hz7_30 : List Int := [2937287786727353732, 563841089628768253, 8793928680169894735, -3716761498378178809]
def hz7_31 : List Int := [7624065686562449311, -5683552068581005628, 3140294729238531779, 8070112785818529219]
theorem hz7 : ((AB 7).map tabK).map nhash = hz7_0 ++ (hz7_1 ++ (hz7_2 ++ (hz7_3 ++ (hz7_4 ++ (hz7_5 ++ (hz7_6 ++ (hz7_7 ++ (hz7_8 ++ (hz7_9 ++ (hz7_10 ++ (hz7_11 ++ (hz7_12 ++ (hz7_13 ++ (hz7_14 ++ (hz7_15 ++ (hz7_16 ++ (hz7_17 ++ (hz7_18 ++ (hz7_19 ++ (hz7_20 ++ (hz7_21 ++ (hz7_22 ++ (hz7_23 ++ (hz7_24 ++ (hz7_25 ++ (hz7_26 ++ (hz7_27 ++ (hz7_28 ++ (hz7_29 ++ (hz7_30 ++ (hz7_31))))))))))))))))))))))))))))))) := by decide +kernel
def sz7t0 : List Int × SetTable := ([], .fresh 0 0 true)
def sz7t1 : List Int × SetTable := ([4113732703721233346, 8075695629611751403, -3244702035163623482, -7081242121602664369], ⟨7, (#[2, 3, 6, 7] : Array Nat), #[], 0, true, 0, true⟩)
theorem rz7t0 : addHs hz7_0 sz7t0 = some sz7t1 := by decide +kernel
def sz7t2 : List Int × SetTable := ([7000220671692907521, 4113732703721233346, -3244702035163623482, 8075695629611751403, -7081242121602664369, -4447176858810468654, -5434999385278539047, -6670944888730591109], ⟨31, (#[1, 2, 6, 11, 15, 18, 25, 27] : Array Nat), #[], 0, true, 1, true⟩)
theorem rz7t1 : addHs hz7_1 sz7t1 = some sz7t2 := by decide +kernel
def sz7t3 : List Int × SetTable := ([7000220671692907521, 4113732703721233346, -3244702035163623482, 8075695629611751403, -4568425266707806548, -9095604072402601556, -7081242121602664369, -4447176858810468654, -403131266126422536, -5434999385278539047, -6670944888730591109, 789971562615686141], ⟨31, (#[1, 2, 6, 11, 12, 13, 15, 18, 24, 25, 27, 29] : Array Nat), #[], 0, true, 1, true⟩)
theorem rz7t2 : addHs hz7_2 sz7t2 = some sz7t3 := by decide +kernel
def sz7t4 : List Int × SetTable := ([7000220671692907521, 4113732703721233346, -5708810149647603591, -3244702035163623482, -6746112217772461238, 8075695629611751403, -4568425266707806548, -9095604072402601556, -7081242121602664369, -4404632067030034768, -4447176858810468654, -3738059117281626249, -403131266126422536, -5434999385278539047, -6670944888730591109, 789971562615686141], ⟨31, (#[1, 2, 3, 6, 10, 11, 12, 13, 15, 16, 18, 23, 24, 25, 27, 29] : Array Nat), #[], 0, true, 1, true⟩)
theorem rz7t3 : addHs hz7_3 sz7t3 = some sz7t4 := by decide +kernel
def sz7t5 : List Int × SetTable := ([7000220671692907521, -2458796762764932473, -4568425266707806548, -9095604072402601556, -4404632067030034768, 4113732703721233346, -3244702035163623482, 1659115826322437318, -6746112217772461238, -1259317621205516981, -7081242121602664369, -4447176858810468654, -5434999385278539047, 8075695629611751403, -5292800686784885138, -3738059117281626249, -403131266126422536, -5708810149647603591, -6670944888730591109, 789971562615686141], ⟨127, (#[1, 7, 44, 45, 48, 66, 70, 71, 74, 75, 79, 82, 89, 107, 110, 119, 120, 121, 123, 125] : Array Nat), #[], 0, true, 2, true⟩)
theorem rz7t4 : addHs hz7_4 sz7t4 = some sz7t5 := by decide +kernel
def sz7t6 : List Int × SetTable := ([7000220671692907521, -2458796762764932473, -4568425266707806548, -9095604072402601556, -4404632067030034768, -3741936095389092688, 1330823628478300096, 4113732703721233346, -3244702035163623482, 1659115826322437318, -6746112217772461238, -1259317621205516981, -7081242121602664369, -4447176858810468654, -5927781067064965928, -5434999385278539047, 8075695629611751403, 4236886931311896811, -5292800686784885138, -3738059117281626249, -403131266126422536, -5708810149647603591, -6670944888730591109, 789971562615686141], ⟨127, (#[1, 7, 44, 45, 48, 49, 64, 66, 70, 71, 74, 75, 79, 82, 88, 89, 107, 108, 110, 119, 120, 121, 123, 125] : Array Nat), #[], 0, true, 2, true⟩)
theorem rz7t5 : addHs hz7_5 sz7t5 = some sz7t6 := by decide +kernel
def sz7t7 : List Int × SetTable := ([7000220671692907521, -2458796762764932473, -2059737081380153068, -4568425266707806548, -9095604072402601556, -4404632067030034768, -3741936095389092688, 6732633512947104632, 1330823628478300096, 4113732703721233346, -3244702035163623482, 1659115826322437318, -6746112217772461238, -1259317621205516981, 3576796256085621962, -7081242121602664369, -4447176858810468654, -5927781067064965928, -5434999385278539047, 4050801002175092953, 8075695629611751403, 4236886931311896811, -5292800686784885138, -3738059117281626249, -403131266126422536, -5708810149647603591, -6670944888730591109, 789971562615686141], ⟨127, (#[1, 7, 20, 44, 45, 48, 49, 52, 64, 66, 70, 71, 74, 75, 76, 79, 82, 88, 89, 90, 107, 108, 110, 119, 120, 121, 123, 125] : Array Nat), #[], 0, true, 2, true⟩)
theorem rz7t6 : addHs hz7_6 sz7t6 = some sz7t7 := by decide +kernel
def sz7t8 : List Int × SetTable := ([7000220671692907521, -2458796762764932473, -2059737081380153068, 3493127159456972572, -4568425266707806548, -9095604072402601556, -4404632067030034768, -3741936095389092688, 6732633512947104632, -5583984714184051914, 1594597682610980664, 1330823628478300096, 4113732703721233346, -3244702035163623482, 1659115826322437318, -98567129314326200, -6746112217772461238, -1259317621205516981, 3576796256085621962, -7081242121602664369, -4447176858810468654, -5927781067064965928, -5434999385278539047, 4050801002175092953, 8075695629611751403, 4236886931311896811, -5292800686784885138, -3738059117281626249, -403131266126422536, -5708810149647603591, -6670944888730591109, 789971562615686141], ⟨127, (#[1, 7, 20, 28, 44, 45, 48, 49, 52, 54, 56, 64, 66, 70, 71, 72, 74, 75, 76, 79, 82, 88, 89, 90, 107, 108, 110, 119, 120, 121, 123, 125] : Array Nat), #[], 0, true, 2, true⟩)
theorem rz7t7 : addHs hz7_7 sz7t7 = some sz7t8 := by decide +kernel
def sz7t9 : List Int × SetTable := ([7000220671692907521, -2458796762764932473, -2059737081380153068, 3493127159456972572, -4568425266707806548, -9095604072402601556, 4269102445838893614, -4404632067030034768, -3741936095389092688, 6732633512947104632, -5583984714184051914, 1594597682610980664, 1330823628478300096, 4113732703721233346, -3244702035163623482, 1659115826322437318, -98567129314326200, -6746112217772461238, -1259317621205516981, 3576796256085621962, 14704867051645130, -7081242121602664369, -4447176858810468654, -5927781067064965928, -5434999385278539047, 4050801002175092953, 8075695629611751403, 4236886931311896811, -5292800686784885138, -6310087355047049106, -8317695812617602704, -3738059117281626249, -403131266126422536, -5708810149647603591, -6670944888730591109, 789971562615686141], ⟨127, (#[1, 7, 20, 28, 44, 45, 46, 48, 49, 52, 54, 56, 64, 66, 70, 71, 72, 74, 75, 76, 77, 79, 82, 88, 89, 90, 107, 108, 110, 111, 112, 119, 120, 121, 123, 125] : Array Nat), #[], 0, true, 2, true⟩)
theorem rz7t8 : addHs hz7_8 sz7t8 = some sz7t9 := by decide +kernel
def sz7t10 : List Int × SetTable := ([7000220671692907521, -2458796762764932473, -712708622242158449, -2059737081380153068, 6656002846457511195, 3493127159456972572, -2431703499363248860, -4568425266707806548, -9095604072402601556, 4269102445838893614, -4404632067030034768, -3741936095389092688, 6732633512947104632, -5583984714184051914, -81066692052738889, 1594597682610980664, 1330823628478300096, 4113732703721233346, -3244702035163623482, 1659115826322437318, -98567129314326200, -6746112217772461238, -1259317621205516981, 3576796256085621962, 14704867051645130, -7081242121602664369, -4447176858810468654, -5927781067064965928, -5434999385278539047, 4050801002175092953, 8075695629611751403, 4236886931311896811, -5292800686784885138, -6310087355047049106, -8317695812617602704, -3738059117281626249, -403131266126422536, -5708810149647603591, -6670944888730591109, 789971562615686141], ⟨127, (#[1, 7, 15, 20, 27, 28, 36, 44, 45, 46, 48, 49, 52, 54, 55, 56, 64, 66, 70, 71, 72, 74, 75, 76, 77, 79, 82, 88, 89, 90, 107, 108, 110, 111, 112, 119, 120, 121, 123, 125] : Array Nat), #[], 0, true, 2, true⟩)
theorem rz7t9 : addHs hz7_9 sz7t9 = some sz7t10 := by decide +kernel
def sz7t11 : List Int × SetTable := ([7000220671692907521, -2458796762764932473, -712708622242158449, 6976949781247238544, -2059737081380153068, 6656002846457511195, 3493127159456972572, -2431703499363248860, -4568425266707806548, -9095604072402601556, 4269102445838893614, -4404632067030034768, -3741936095389092688, 6732633512947104632, -5583984714184051914, -81066692052738889, 1594597682610980664, 1330823628478300096, 4113732703721233346, -3244702035163623482, 1659115826322437318, -98567129314326200, -6746112217772461238, -1259317621205516981, 3576796256085621962, 14704867051645130, 7868415918912694093, -7081242121602664369, 8916944709627587276, -4447176858810468654, -5927781067064965928, -5434999385278539047, 4050801002175092953, 8075695629611751403, 4236886931311896811, -5292800686784885138, -6310087355047049106, -8317695812617602704, 4736708886672371957, -3738059117281626249, -403131266126422536, -5708810149647603591, -6670944888730591109, 789971562615686141], ⟨127, (#[1, 7, 15, 16, 20, 27, 28, 36, 44, 45, 46, 48, 49, 52, 54, 55, 56, 64, 66, 70, 71, 72, 74, 75, 76, 77, 78, 79, 80, 82, 88, 89, 90, 107, 108, 110, 111, 112, 117, 119, 120, 121, 123, 125] : Array Nat), #[], 0, true, 2, true⟩)
theorem rz7t10 : addHs hz7_10 sz7t10 = some sz7t11 := by decide +kernel
def sz7t12 : List Int × SetTable := ([7000220671692907521, -2458796762764932473, -712708622242158449, 6976949781247238544, -2059737081380153068, 6656002846457511195, 3493127159456972572, 6558071782070867363, -2431703499363248860, -4568425266707806548, -9095604072402601556, 4269102445838893614, -4404632067030034768, -3741936095389092688, 6732633512947104632, -5583984714184051914, -81066692052738889, 1594597682610980664, 1330823628478300096, 4113732703721233346, -1816846572894204220, -3244702035163623482, 1659115826322437318, -98567129314326200, -6746112217772461238, -1259317621205516981, 3576796256085621962, 14704867051645130, 7868415918912694093, -7081242121602664369, 8916944709627587276, -8553663146080044213, -4447176858810468654, 1819205801654329558, -5927781067064965928, -5434999385278539047, 4050801002175092953, 8075695629611751403, 4236886931311896811, -5292800686784885138, -6310087355047049106, -8317695812617602704, 4736708886672371957, -3738059117281626249, -403131266126422536, -5708810149647603591, -6670944888730591109, 789971562615686141], ⟨127, (#[1, 7, 15, 16, 20, 27, 28, 35, 36, 44, 45, 46, 48, 49, 52, 54, 55, 56, 64, 66, 68, 70, 71, 72, 74, 75, 76, 77, 78, 79, 80, 81, 82, 86, 88, 89, 90, 107, 108, 110, 111, 112, 117, 119, 120, 121, 123, 125] : Array Nat), #[], 0, true, 2, true⟩)
theorem rz7t11 : addHs hz7_11 sz7t11 = some sz7t12 := by decide +kernel
def sz7t13 : List Int × SetTable := ([7000220671692907521, -6976988600437206012, -4317454368321200891, -2458796762764932473, -712708622242158449, 6976949781247238544, -2059737081380153068, 6656002846457511195, 3493127159456972572, 6558071782070867363, -2431703499363248860, -4568425266707806548, -9095604072402601556, 4269102445838893614, -4404632067030034768, -3741936095389092688, 6732633512947104632, -5583984714184051914, -81066692052738889, 1594597682610980664, 1330823628478300096, 4113732703721233346, -1816846572894204220, -3244702035163623482, 1659115826322437318, -98567129314326200, -6746112217772461238, -1259317621205516981, 3576796256085621962, 14704867051645130, 7868415918912694093, -7081242121602664369, 8916944709627587276, -8553663146080044213, -4447176858810468654, 3634256694477065721, -7613081743889698987, 1819205801654329558, -5927781067064965928, -5434999385278539047, 4050801002175092953, 8075695629611751403, 4236886931311896811, -5292800686784885138, -6310087355047049106, -8317695812617602704, 4736708886672371957, -3738059117281626249, -403131266126422536, -5708810149647603591, -6670944888730591109, 789971562615686141], ⟨127, (#[1, 4, 5, 7, 15, 16, 20, 27, 28, 35, 36, 44, 45, 46, 48, 49, 52, 54, 55, 56, 64, 66, 68, 70, 71, 72, 74, 75, 76, 77, 78, 79, 80, 81, 82, 83, 85, 86, 88, 89, 90, 107, 108, 110, 111, 112, 117, 119, 120, 121, 123, 125] : Array Nat), #[], 0, true, 2, true⟩)
theorem rz7t12 : addHs hz7_12 sz7t12 = some sz7t13 := by decide +kernel
def sz7t14 : List Int × SetTable := ([7000220671692907521, -3178418761212886783, -6976988600437206012, -4317454368321200891, -2458796762764932473, -1885797169422145398, -712708622242158449, 6976949781247238544, 6144911744930629265, -2059737081380153068, 6656002846457511195, 3493127159456972572, 6558071782070867363, -2431703499363248860, -4568425266707806548, -9095604072402601556, 4269102445838893614, -4404632067030034768, -3741936095389092688, 6732633512947104632, -5583984714184051914, -81066692052738889, 1594597682610980664, -6742464739161919941, 1330823628478300096, 4113732703721233346, -1816846572894204220, -3244702035163623482, 1659115826322437318, -98567129314326200, -6746112217772461238, -1259317621205516981, 3576796256085621962, 14704867051645130, 7868415918912694093, -7081242121602664369, 8916944709627587276, -8553663146080044213, -4447176858810468654, 3634256694477065721, -7613081743889698987, 1819205801654329558, -5927781067064965928, -5434999385278539047, 4050801002175092953, 8075695629611751403, 4236886931311896811, -5292800686784885138, -6310087355047049106, -8317695812617602704, 4736708886672371957, -3738059117281626249, -403131266126422536, -5708810149647603591, -6670944888730591109, 789971562615686141], ⟨127, (#[1, 2, 4, 5, 7, 10, 15, 16, 17, 20, 27, 28, 35, 36, 44, 45, 46, 48, 49, 52, 54, 55, 56, 59, 64, 66, 68, 70, 71, 72, 74, 75, 76, 77, 78, 79, 80, 81, 82, 83, 85, 86, 88, 89, 90, 107, 108, 110, 111, 112, 117, 119, 120, 121, 123, 125] : Array Nat), #[], 0, true, 2, true⟩)
theorem rz7t13 : addHs hz7_13 sz7t13 = some sz7t14 := by decide +kernel
def sz7t15 : List Int × SetTable := ([7000220671692907521, -3178418761212886783, -6976988600437206012, -4317454368321200891, -2458796762764932473, -1885797169422145398, -712708622242158449, 6976949781247238544, 6144911744930629265, -2059737081380153068, 6656002846457511195, 3493127159456972572, 3185315757159083933, 6558071782070867363, -2431703499363248860, -4568425266707806548, -9095604072402601556, 4269102445838893614, -4404632067030034768, -3741936095389092688, -4616885089321963727, 6732633512947104632, -5583984714184051914, -81066692052738889, 1594597682610980664, 6830464645514470713, -6742464739161919941, 1330823628478300096, 4113732703721233346, -1816846572894204220, -3244702035163623482, 1659115826322437318, -98567129314326200, -6746112217772461238, -1259317621205516981, 3576796256085621962, 14704867051645130, 7868415918912694093, -7081242121602664369, 8916944709627587276, -8553663146080044213, -4447176858810468654, 3634256694477065721, -7613081743889698987, 1819205801654329558, -5927781067064965928, -5434999385278539047, 4050801002175092953, 8075695629611751403, 4236886931311896811, -5292800686784885138, -6310087355047049106, -8317695812617602704, 9061999863535920240, 4736708886672371957, -3738059117281626249, -403131266126422536, -5708810149647603591, -6670944888730591109, 789971562615686141], ⟨127, (#[1, 2, 4, 5, 7, 10, 15, 16, 17, 20, 27, 28, 29, 35, 36, 44, 45, 46, 48, 49, 50, 52, 54, 55, 56, 57, 59, 64, 66, 68, 70, 71, 72, 74, 75, 76, 77, 78, 79, 80, 81, 82, 83, 85, 86, 88, 89, 90, 107, 108, 110, 111, 112, 113, 117, 119, 120, 121, 123, 125] : Array Nat), #[], 0, true, 2, true⟩)
theorem rz7t14 : addHs hz7_14 sz7t14 = some sz7t15 := by decide +kernel
def sz7t16 : List Int × SetTable := ([7000220671692907521, -3178418761212886783, -6976988600437206012, -4317454368321200891, -2458796762764932473, 4699190267620613384, -1885797169422145398, -712708622242158449, 6976949781247238544, 6144911744930629265, -2059737081380153068, 6656002846457511195, 3493127159456972572, 3185315757159083933, 6558071782070867363, -2431703499363248860, 6552278117579633448, -4568425266707806548, -9095604072402601556, 4269102445838893614, -6254051850367330130, -4404632067030034768, -3741936095389092688, -4616885089321963727, 6732633512947104632, -5583984714184051914, -81066692052738889, 1594597682610980664, 6830464645514470713, -6742464739161919941, 1330823628478300096, 4113732703721233346, -1816846572894204220, -3244702035163623482, 1659115826322437318, -98567129314326200, 2941424287624814072, -6746112217772461238, -1259317621205516981, 3576796256085621962, 14704867051645130, 7868415918912694093, -7081242121602664369, 8916944709627587276, -8553663146080044213, -4447176858810468654, 3634256694477065721, -7613081743889698987, 1819205801654329558, -5927781067064965928, -5434999385278539047, 4050801002175092953, 8075695629611751403, 4236886931311896811, -5292800686784885138, -6310087355047049106, -8317695812617602704, 9061999863535920240, 4736708886672371957, -3738059117281626249, -403131266126422536, -5708810149647603591, -6670944888730591109, 789971562615686141], ⟨127, (#[1, 2, 4, 5, 7, 8, 10, 15, 16, 17, 20, 27, 28, 29, 35, 36, 40, 44, 45, 46, 47, 48, 49, 50, 52, 54, 55, 56, 57, 59, 64, 66, 68, 70, 71, 72, 73, 74, 75, 76, 77, 78, 79, 80, 81, 82, 83, 85, 86, 88, 89, 90, 107, 108, 110, 111, 112, 113, 117, 119, 120, 121, 123, 125] : Array Nat), #[], 0, true, 2, true⟩)
theorem rz7t15 : addHs hz7_15 sz7t15 = some sz7t16 := by decide +kernel
def sz7t17 : List Int × SetTable := ([9074171212223152256, 7000220671692907521, -3178418761212886783, -6976988600437206012, -4317454368321200891, -2458796762764932473, 4699190267620613384, -1885797169422145398, -712708622242158449, 6976949781247238544, 6144911744930629265, -2059737081380153068, -7006382847557126502, 6656002846457511195, 3493127159456972572, 3185315757159083933, 6558071782070867363, -2431703499363248860, 6552278117579633448, -4568425266707806548, -9095604072402601556, 4269102445838893614, -6254051850367330130, -4404632067030034768, -3741936095389092688, -4616885089321963727, -4531624546412535375, 6732633512947104632, -5583984714184051914, -81066692052738889, 1594597682610980664, 6830464645514470713, -6742464739161919941, 1330823628478300096, 4113732703721233346, -1816846572894204220, -3244702035163623482, 1659115826322437318, -98567129314326200, 2941424287624814072, -6746112217772461238, -1259317621205516981, 3576796256085621962, 14704867051645130, 7868415918912694093, -7081242121602664369, 8916944709627587276, -8553663146080044213, -4447176858810468654, 3634256694477065721, -7613081743889698987, 1819205801654329558, -5927781067064965928, -5434999385278539047, 4050801002175092953, 8075695629611751403, 4236886931311896811, 3499043976501258092, -5292800686784885138, -6310087355047049106, -8317695812617602704, 9061999863535920240, 4736708886672371957, -3738059117281626249, -403131266126422536, -5708810149647603591, -6670944888730591109, 789971562615686141], ⟨127, (#[0, 1, 2, 4, 5, 7, 8, 10, 15, 16, 17, 20, 26, 27, 28, 29, 35, 36, 40, 44, 45, 46, 47, 48, 49, 50, 51, 52, 54, 55, 56, 57, 59, 64, 66, 68, 70, 71, 72, 73, 74, 75, 76, 77, 78, 79, 80, 81, 82, 83, 85, 86, 88, 89, 90, 107, 108, 109, 110, 111, 112, 113, 117, 119, 120, 121, 123, 125] : Array Nat), #[], 0, true, 2, true⟩)
theorem rz7t16 : addHs hz7_16 sz7t16 = some sz7t17 := by decide +kernel
def sz7t18 : List Int × SetTable := ([9074171212223152256, 7000220671692907521, -3178418761212886783, -6976988600437206012, -4317454368321200891, -2458796762764932473, 4699190267620613384, -1885797169422145398, -712708622242158449, 6976949781247238544, 6144911744930629265, -2059737081380153068, -7006382847557126502, 6656002846457511195, 3493127159456972572, 3185315757159083933, 6558071782070867363, -2431703499363248860, 6552278117579633448, -4568425266707806548, -9095604072402601556, 4269102445838893614, -6254051850367330130, -4404632067030034768, -3741936095389092688, -4616885089321963727, -4531624546412535375, 6732633512947104632, -5583984714184051914, -81066692052738889, 1594597682610980664, 6830464645514470713, -6742464739161919941, 1330823628478300096, 4113732703721233346, -1151707547155793080, -1816846572894204220, -3244702035163623482, 1659115826322437318, -98567129314326200, 2941424287624814072, -6746112217772461238, -1259317621205516981, 3576796256085621962, 14704867051645130, 7868415918912694093, -7081242121602664369, 8916944709627587276, -8553663146080044213, -4447176858810468654, 3634256694477065721, -7613081743889698987, 1819205801654329558, -5927781067064965928, -5434999385278539047, 4050801002175092953, 2473418333244292312, 8075695629611751403, 4236886931311896811, 3499043976501258092, -5292800686784885138, -6310087355047049106, -8317695812617602704, 9061999863535920240, -349394620490518293, 4736708886672371957, -3738059117281626249, -403131266126422536, -5708810149647603591, -7506312237148760582, -6670944888730591109, 789971562615686141], ⟨127, (#[0, 1, 2, 4, 5, 7, 8, 10, 15, 16, 17, 20, 26, 27, 28, 29, 35, 36, 40, 44, 45, 46, 47, 48, 49, 50, 51, 52, 54, 55, 56, 57, 59, 64, 66, 67, 68, 70, 71, 72, 73, 74, 75, 76, 77, 78, 79, 80, 81, 82, 83, 85, 86, 88, 89, 90, 91, 107, 108, 109, 110, 111, 112, 113, 114, 117, 119, 120, 121, 122, 123, 125] : Array Nat), #[], 0, true, 2, true⟩)
theorem rz7t17 : addHs hz7_17 sz7t17 = some sz7t18 := by decide +kernel
def sz7t19 : List Int × SetTable := ([9074171212223152256, 7000220671692907521, -3178418761212886783, -6976988600437206012, -4317454368321200891, -2458796762764932473, 4699190267620613384, 8611814976852646024, -1885797169422145398, -712708622242158449, 6976949781247238544, 6144911744930629265, -2059737081380153068, -7006382847557126502, 6656002846457511195, 3493127159456972572, 3185315757159083933, 6558071782070867363, -2431703499363248860, 6552278117579633448, -4568425266707806548, -9095604072402601556, 4269102445838893614, -6254051850367330130, -4404632067030034768, -3741936095389092688, -4616885089321963727, -4531624546412535375, 6732633512947104632, -5583984714184051914, -81066692052738889, 1594597682610980664, 6830464645514470713, -6742464739161919941, 7175862247468204349, 1330823628478300096, 4113732703721233346, -1151707547155793080, -1816846572894204220, -476603924714473404, -3244702035163623482, 1659115826322437318, -98567129314326200, 2941424287624814072, -6746112217772461238, -1259317621205516981, 3576796256085621962, 14704867051645130, 7868415918912694093, -7081242121602664369, 8916944709627587276, -8553663146080044213, -4447176858810468654, 3634256694477065721, -7613081743889698987, 1819205801654329558, -5927781067064965928, -5434999385278539047, 4050801002175092953, 2473418333244292312, 8075695629611751403, 4236886931311896811, 3499043976501258092, -5292800686784885138, -6310087355047049106, -8317695812617602704, 9061999863535920240, -349394620490518293, 4736708886672371957, -3738059117281626249, -403131266126422536, -5708810149647603591, -7506312237148760582, -6670944888730591109, 2036110986336041340, 789971562615686141], ⟨127, (#[0, 1, 2, 4, 5, 7, 8, 9, 10, 15, 16, 17, 20, 26, 27, 28, 29, 35, 36, 40, 44, 45, 46, 47, 48, 49, 50, 51, 52, 54, 55, 56, 57, 59, 61, 64, 66, 67, 68, 69, 70, 71, 72, 73, 74, 75, 76, 77, 78, 79, 80, 81, 82, 83, 85, 86, 88, 89, 90, 91, 107, 108, 109, 110, 111, 112, 113, 114, 117, 119, 120, 121, 122, 123, 124, 125] : Array Nat), #[], 0, true, 2, true⟩)
theorem rz7t18 : addHs hz7_18 sz7t18 = some sz7t19 := by decide +kernel
def sz7t20 : List Int × SetTable := ([7000220671692907521, -6976988600437206012, 4269102445838893614, -6742464739161919941, -476603924714473404, -7611629872615291831, -7081242121602664369, -5292800686784885138, -6310087355047049106, 9061999863535920240, -5708810149647603591, -6670944888730591109, 9074171212223152256, -2458796762764932473, 8611814976852646024, -1885797169422145398, -2409790374776785780, -712708622242158449, 6144911744930629265, -7006382847557126502, -4568425266707806548, -6254051850367330130, -4404632067030034768, -3741936095389092688, -81066692052738889, -1816846572894204220, 1659115826322437318, -403131266126422536, 3576796256085621962, 14704867051645130, 8916944709627587276, -4447176858810468654, 1819205801654329558, -5927781067064965928, -5434999385278539047, 4050801002175092953, 2473418333244292312, 5261837572744087259, 4236886931311896811, -349394620490518293, 4736708886672371957, -3178418761212886783, -4317454368321200891, 4699190267620613384, -2059737081380153068, 6656002846457511195, 3493127159456972572, -2431703499363248860, 6552278117579633448, -4616885089321963727, -5583984714184051914, 1594597682610980664, 6830464645514470713, 7175862247468204349, -1151707547155793080, -98567129314326200, -6746112217772461238, -1259317621205516981, -8553663146080044213, 7868415918912694093, -7613081743889698987, 3499043976501258092, -8317695812617602704, -3738059117281626249, 6732633512947104632, 2036110986336041340, 6976949781247238544, -1356022819708871274, 3185315757159083933, 6558071782070867363, -9095604072402601556, -4531624546412535375, 1330823628478300096, 4113732703721233346, -3244702035163623482, 8075695629611751403, 2941424287624814072, 3634256694477065721, -7506312237148760582, 789971562615686141], ⟨511, (#[1, 4, 46, 59, 68, 73, 79, 110, 111, 112, 121, 123, 128, 135, 136, 138, 140, 143, 145, 154, 172, 174, 176, 177, 183, 196, 198, 200, 202, 203, 204, 210, 214, 216, 217, 218, 219, 220, 235, 236, 245, 257, 261, 264, 276, 283, 284, 292, 296, 305, 310, 312, 313, 317, 328, 329, 330, 331, 332, 333, 341, 364, 368, 375, 376, 380, 400, 406, 413, 419, 428, 433, 448, 450, 454, 491, 504, 505, 506, 509] : Array Nat), #[], 0, true, 3, true⟩)
theorem rz7t19 : addHs hz7_19 sz7t19 = some sz7t20 := by decide +kernel
def sz7t21 : List Int × SetTable := ([7000220671692907521, -6976988600437206012, 4269102445838893614, -6742464739161919941, -476603924714473404, -7611629872615291831, -7081242121602664369, -5292800686784885138, -6310087355047049106, 9061999863535920240, 870200792808542838, -5708810149647603591, -6670944888730591109, 9074171212223152256, -2458796762764932473, 8611814976852646024, -1885797169422145398, -2409790374776785780, -712708622242158449, 6144911744930629265, -7006382847557126502, -4568425266707806548, -6254051850367330130, -4404632067030034768, -3741936095389092688, -81066692052738889, -1816846572894204220, 1659115826322437318, -403131266126422536, 3576796256085621962, 14704867051645130, 8916944709627587276, -4447176858810468654, 1819205801654329558, -5927781067064965928, -5434999385278539047, 4050801002175092953, 2473418333244292312, 5261837572744087259, 4236886931311896811, -349394620490518293, 4736708886672371957, -3178418761212886783, -4317454368321200891, 4699190267620613384, -2059737081380153068, 6656002846457511195, 3493127159456972572, -2431703499363248860, 8652304868049782052, 6552278117579633448, -4616885089321963727, -5583984714184051914, 1594597682610980664, 6830464645514470713, 7175862247468204349, -1151707547155793080, -98567129314326200, -6746112217772461238, -1259317621205516981, -8553663146080044213, 7868415918912694093, -7613081743889698987, 3499043976501258092, -8317695812617602704, -3738059117281626249, 6732633512947104632, 2036110986336041340, 6976949781247238544, -1356022819708871274, 3185315757159083933, 6558071782070867363, -2602303017786745945, -9095604072402601556, -4531624546412535375, 1330823628478300096, 4113732703721233346, -3244702035163623482, 2224906394678517733, 8075695629611751403, 2941424287624814072, 3634256694477065721, -7506312237148760582, 789971562615686141], ⟨511, (#[1, 4, 46, 59, 68, 73, 79, 110, 111, 112, 118, 121, 123, 128, 135, 136, 138, 140, 143, 145, 154, 172, 174, 176, 177, 183, 196, 198, 200, 202, 203, 204, 210, 214, 216, 217, 218, 219, 220, 235, 236, 245, 257, 261, 264, 276, 283, 284, 292, 293, 296, 305, 310, 312, 313, 317, 328, 329, 330, 331, 332, 333, 341, 364, 368, 375, 376, 380, 400, 406, 413, 419, 423, 428, 433, 448, 450, 454, 485, 491, 504, 505, 506, 509] : Array Nat), #[], 0, true, 3, true⟩)
theorem rz7t20 : addHs hz7_20 sz7t20 = some sz7t21 := by decide +kernel
def sz7t22 : List Int × SetTable := ([7000220671692907521, -1286883875409788415, -6976988600437206012, 4269102445838893614, -550170466453627849, -6742464739161919941, -476603924714473404, -7611629872615291831, -7081242121602664369, -5292800686784885138, -6310087355047049106, 9061999863535920240, 870200792808542838, -5708810149647603591, -6670944888730591109, 9074171212223152256, -2458796762764932473, 8611814976852646024, -1885797169422145398, -2409790374776785780, -712708622242158449, 6144911744930629265, -7006382847557126502, -4568425266707806548, -6254051850367330130, -4404632067030034768, -3741936095389092688, -81066692052738889, -1816846572894204220, 1659115826322437318, -403131266126422536, 3576796256085621962, 14704867051645130, 8916944709627587276, -4447176858810468654, 1819205801654329558, -5927781067064965928, -5434999385278539047, 4050801002175092953, 2473418333244292312, 5261837572744087259, 4236886931311896811, -349394620490518293, 4736708886672371957, -3178418761212886783, -4317454368321200891, 4699190267620613384, -2059737081380153068, 6656002846457511195, 3493127159456972572, -2431703499363248860, 8652304868049782052, 6552278117579633448, -4616885089321963727, 1797461313202914101, -5583984714184051914, 1594597682610980664, 6830464645514470713, 7175862247468204349, -1151707547155793080, -98567129314326200, -6746112217772461238, -1259317621205516981, -8553663146080044213, 7868415918912694093, -7613081743889698987, 3499043976501258092, -8317695812617602704, -3738059117281626249, 6732633512947104632, 2036110986336041340, 6976949781247238544, -1356022819708871274, 3185315757159083933, 6558071782070867363, -2602303017786745945, -9095604072402601556, -4531624546412535375, -2593836049699887684, 1330823628478300096, 4113732703721233346, -3244702035163623482, 2224906394678517733, 8075695629611751403, 2941424287624814072, 3634256694477065721, -7506312237148760582, 789971562615686141], ⟨511, (#[1, 2, 4, 46, 55, 59, 68, 73, 79, 110, 111, 112, 118, 121, 123, 128, 135, 136, 138, 140, 143, 145, 154, 172, 174, 176, 177, 183, 196, 198, 200, 202, 203, 204, 210, 214, 216, 217, 218, 219, 220, 235, 236, 245, 257, 261, 264, 276, 283, 284, 292, 293, 296, 305, 309, 310, 312, 313, 317, 328, 329, 330, 331, 332, 333, 341, 364, 368, 375, 376, 380, 400, 406, 413, 419, 423, 428, 433, 444, 448, 450, 454, 485, 491, 504, 505, 506, 509] : Array Nat), #[], 0, true, 3, true⟩)
theorem rz7t21 : addHs hz7_21 sz7t21 = some sz7t22 := by decide +kernel
def sz7t23 : List Int × SetTable := ([7000220671692907521, -1286883875409788415, -6976988600437206012, -6151471173612349919, 4269102445838893614, -550170466453627849, -6742464739161919941, -476603924714473404, -7611629872615291831, -7081242121602664369, -5292800686784885138, -6310087355047049106, 9061999863535920240, 870200792808542838, -5708810149647603591, -6670944888730591109, 9074171212223152256, -2458796762764932473, 8611814976852646024, -1885797169422145398, -2409790374776785780, -712708622242158449, 6144911744930629265, -7006382847557126502, -4568425266707806548, -6254051850367330130, -4404632067030034768, -3741936095389092688, -81066692052738889, -1816846572894204220, 1659115826322437318, -403131266126422536, 3576796256085621962, 14704867051645130, 8916944709627587276, -4447176858810468654, 1819205801654329558, -5927781067064965928, -5434999385278539047, 4050801002175092953, 2473418333244292312, 5261837572744087259, 4236886931311896811, -349394620490518293, 4736708886672371957, -3178418761212886783, -4317454368321200891, 4699190267620613384, -2059737081380153068, 6656002846457511195, 3493127159456972572, -2431703499363248860, 8652304868049782052, 6552278117579633448, -4616885089321963727, 1797461313202914101, -5583984714184051914, 1594597682610980664, 6830464645514470713, 7175862247468204349, -1151707547155793080, -98567129314326200, -6746112217772461238, -1259317621205516981, -8553663146080044213, 7868415918912694093, -7613081743889698987, 3499043976501258092, -8317695812617602704, -3738059117281626249, 6732633512947104632, 2036110986336041340, 6976949781247238544, -1356022819708871274, 3185315757159083933, 6558071782070867363, -2602303017786745945, 3067552927308124071, -9095604072402601556, -4531624546412535375, -2593836049699887684, 1330823628478300096, 4113732703721233346, -3244702035163623482, -1415851851907484719, -58150390608917532, 2224906394678517733, 8075695629611751403, 2941424287624814072, 3634256694477065721, -7506312237148760582, 789971562615686141], ⟨511, (#[1, 2, 4, 33, 46, 55, 59, 68, 73, 79, 110, 111, 112, 118, 121, 123, 128, 135, 136, 138, 140, 143, 145, 154, 172, 174, 176, 177, 183, 196, 198, 200, 202, 203, 204, 210, 214, 216, 217, 218, 219, 220, 235, 236, 245, 257, 261, 264, 276, 283, 284, 292, 293, 296, 305, 309, 310, 312, 313, 317, 328, 329, 330, 331, 332, 333, 341, 364, 368, 375, 376, 380, 400, 406, 413, 419, 423, 424, 428, 433, 444, 448, 450, 454, 465, 484, 485, 491, 504, 505, 506, 509] : Array Nat), #[], 0, true, 3, true⟩)
theorem rz7t22 : addHs hz7_22 sz7t22 = some sz7t23 := by decide +kernel
def sz7t24 : List Int × SetTable := ([7000220671692907521, -1286883875409788415, -6976988600437206012, -6151471173612349919, 4269102445838893614, -550170466453627849, -6742464739161919941, -476603924714473404, -7611629872615291831, -7081242121602664369, -5292800686784885138, -6310087355047049106, 9061999863535920240, 870200792808542838, -5708810149647603591, 8016039842280517242, -6670944888730591109, 9074171212223152256, 8596466855545671300, -2458796762764932473, 8611814976852646024, -1885797169422145398, -2409790374776785780, -712708622242158449, 6144911744930629265, -7006382847557126502, -4568425266707806548, -6254051850367330130, -4404632067030034768, -3741936095389092688, -81066692052738889, -1816846572894204220, 1659115826322437318, -403131266126422536, 3576796256085621962, 14704867051645130, 8916944709627587276, -4447176858810468654, 1819205801654329558, -5927781067064965928, -5434999385278539047, 4050801002175092953, 2473418333244292312, 5261837572744087259, 4236886931311896811, -349394620490518293, 4736708886672371957, -2162220522297075968, -3178418761212886783, -4317454368321200891, 4699190267620613384, -2059737081380153068, 6656002846457511195, 3493127159456972572, -2431703499363248860, 8652304868049782052, 6552278117579633448, -4616885089321963727, 1797461313202914101, -5583984714184051914, 1594597682610980664, 6830464645514470713, 7175862247468204349, -1151707547155793080, -98567129314326200, -6746112217772461238, -1259317621205516981, -8553663146080044213, 7868415918912694093, -7613081743889698987, 3499043976501258092, -8317695812617602704, -3738059117281626249, 6732633512947104632, 2036110986336041340, 6976949781247238544, -1356022819708871274, 3185315757159083933, 6558071782070867363, -2602303017786745945, 3067552927308124071, -9095604072402601556, -4531624546412535375, -6091344283532127305, -2593836049699887684, 1330823628478300096, 4113732703721233346, -3244702035163623482, -1415851851907484719, -58150390608917532, 2224906394678517733, 8075695629611751403, 2941424287624814072, 3634256694477065721, -7506312237148760582, 789971562615686141], ⟨511, (#[1, 2, 4, 33, 46, 55, 59, 68, 73, 79, 110, 111, 112, 118, 121, 122, 123, 128, 132, 135, 136, 138, 140, 143, 145, 154, 172, 174, 176, 177, 183, 196, 198, 200, 202, 203, 204, 210, 214, 216, 217, 218, 219, 220, 235, 236, 245, 256, 257, 261, 264, 276, 283, 284, 292, 293, 296, 305, 309, 310, 312, 313, 317, 328, 329, 330, 331, 332, 333, 341, 364, 368, 375, 376, 380, 400, 406, 413, 419, 423, 424, 428, 433, 439, 444, 448, 450, 454, 465, 484, 485, 491, 504, 505, 506, 509] : Array Nat), #[], 0, true, 3, true⟩)
theorem rz7t23 : addHs hz7_23 sz7t23 = some sz7t24 := by decide +kernel
def sz7t25 : List Int × SetTable := ([7000220671692907521, -1286883875409788415, -6976988600437206012, 6222674676057299475, -6151471173612349919, 4269102445838893614, -550170466453627849, -6742464739161919941, -476603924714473404, -7611629872615291831, -7081242121602664369, -5292800686784885138, -6310087355047049106, 9061999863535920240, 870200792808542838, -5708810149647603591, 8016039842280517242, -6670944888730591109, 9074171212223152256, -7950680369716898685, 8596466855545671300, -2458796762764932473, 8611814976852646024, -1885797169422145398, -2409790374776785780, -712708622242158449, 6144911744930629265, -7006382847557126502, -4568425266707806548, -6254051850367330130, -4404632067030034768, -3741936095389092688, -81066692052738889, -1816846572894204220, 1659115826322437318, -403131266126422536, 3576796256085621962, 14704867051645130, 8916944709627587276, -4447176858810468654, 1819205801654329558, -5927781067064965928, -5434999385278539047, 4050801002175092953, 2473418333244292312, 5261837572744087259, 4236886931311896811, -349394620490518293, 4736708886672371957, -2162220522297075968, -3178418761212886783, -4317454368321200891, 3052574680678087943, 4699190267620613384, -2059737081380153068, 6656002846457511195, 3493127159456972572, -2431703499363248860, 8652304868049782052, 6552278117579633448, -4616885089321963727, 1797461313202914101, -5583984714184051914, 1594597682610980664, 6830464645514470713, 7175862247468204349, -1151707547155793080, -98567129314326200, -6746112217772461238, -1259317621205516981, -8553663146080044213, 7868415918912694093, -7613081743889698987, 3499043976501258092, -8317695812617602704, -3738059117281626249, 6732633512947104632, 2036110986336041340, 6976949781247238544, -1356022819708871274, 3185315757159083933, 6558071782070867363, -2602303017786745945, 3067552927308124071, -9095604072402601556, -4531624546412535375, -6091344283532127305, -2593836049699887684, 1330823628478300096, 4113732703721233346, -3244702035163623482, -1415851851907484719, -58150390608917532, 2224906394678517733, 6430838095573028837, 8075695629611751403, 2941424287624814072, 3634256694477065721, -7506312237148760582, 789971562615686141], ⟨511, (#[1, 2, 4, 19, 33, 46, 55, 59, 68, 73, 79, 110, 111, 112, 118, 121, 122, 123, 128, 131, 132, 135, 136, 138, 140, 143, 145, 154, 172, 174, 176, 177, 183, 196, 198, 200, 202, 203, 204, 210, 214, 216, 217, 218, 219, 220, 235, 236, 245, 256, 257, 261, 263, 264, 276, 283, 284, 292, 293, 296, 305, 309, 310, 312, 313, 317, 328, 329, 330, 331, 332, 333, 341, 364, 368, 375, 376, 380, 400, 406, 413, 419, 423, 424, 428, 433, 439, 444, 448, 450, 454, 465, 484, 485, 486, 491, 504, 505, 506, 509] : Array Nat), #[], 0, true, 3, true⟩)
theorem rz7t24 : addHs hz7_24 sz7t24 = some sz7t25 := by decide +kernel
def sz7t26 : List Int × SetTable := ([7000220671692907521, -1286883875409788415, -6976988600437206012, 6222674676057299475, -6151471173612349919, 4269102445838893614, -550170466453627849, -6742464739161919941, -476603924714473404, -7611629872615291831, -7081242121602664369, -5292800686784885138, -6310087355047049106, 9061999863535920240, 870200792808542838, -5708810149647603591, 8016039842280517242, -6670944888730591109, 9074171212223152256, -7950680369716898685, 8596466855545671300, -2458796762764932473, 8611814976852646024, -1885797169422145398, -2409790374776785780, -712708622242158449, 6144911744930629265, -7006382847557126502, 3230136325544659115, -4568425266707806548, 400807172429974187, -6254051850367330130, -4404632067030034768, -3741936095389092688, -81066692052738889, -1816846572894204220, 1659115826322437318, -403131266126422536, 3576796256085621962, 14704867051645130, 8916944709627587276, -4447176858810468654, 1819205801654329558, -5927781067064965928, -5434999385278539047, 4050801002175092953, 2473418333244292312, 5261837572744087259, 4421021518128716505, 4236886931311896811, -349394620490518293, 4736708886672371957, -2162220522297075968, -3178418761212886783, -4317454368321200891, 3052574680678087943, 4699190267620613384, -2059737081380153068, 6656002846457511195, 3493127159456972572, -2431703499363248860, 8652304868049782052, 6552278117579633448, -4616885089321963727, 1797461313202914101, -5583984714184051914, 1594597682610980664, 6830464645514470713, 7175862247468204349, -1151707547155793080, -98567129314326200, -6746112217772461238, -1259317621205516981, -8553663146080044213, 7868415918912694093, -7613081743889698987, 3499043976501258092, 518243807120089965, -8317695812617602704, -3738059117281626249, 6732633512947104632, 2036110986336041340, 6976949781247238544, -1356022819708871274, 3185315757159083933, 6558071782070867363, -2602303017786745945, 3067552927308124071, -9095604072402601556, -4531624546412535375, -6091344283532127305, -2593836049699887684, 1330823628478300096, 4113732703721233346, -3244702035163623482, -1415851851907484719, -58150390608917532, 2224906394678517733, 6430838095573028837, 8075695629611751403, 2941424287624814072, 3634256694477065721, -7506312237148760582, 789971562615686141], ⟨511, (#[1, 2, 4, 19, 33, 46, 55, 59, 68, 73, 79, 110, 111, 112, 118, 121, 122, 123, 128, 131, 132, 135, 136, 138, 140, 143, 145, 154, 171, 172, 173, 174, 176, 177, 183, 196, 198, 200, 202, 203, 204, 210, 214, 216, 217, 218, 219, 220, 221, 235, 236, 245, 256, 257, 261, 263, 264, 276, 283, 284, 292, 293, 296, 305, 309, 310, 312, 313, 317, 328, 329, 330, 331, 332, 333, 341, 364, 365, 368, 375, 376, 380, 400, 406, 413, 419, 423, 424, 428, 433, 439, 444, 448, 450, 454, 465, 484, 485, 486, 491, 504, 505, 506, 509] : Array Nat), #[], 0, true, 3, true⟩)
theorem rz7t25 : addHs hz7_25 sz7t25 = some sz7t26 := by decide +kernel
def sz7t27 : List Int × SetTable := ([7000220671692907521, -1286883875409788415, -6976988600437206012, 6222674676057299475, -6151471173612349919, 4269102445838893614, -550170466453627849, -6742464739161919941, -476603924714473404, -7611629872615291831, -7081242121602664369, -5292800686784885138, -6310087355047049106, 9061999863535920240, 870200792808542838, -5708810149647603591, 8016039842280517242, -6670944888730591109, 9074171212223152256, -7950680369716898685, 8596466855545671300, -2458796762764932473, 8611814976852646024, 3913690686318874249, -1885797169422145398, -2409790374776785780, -712708622242158449, 6144911744930629265, 1486007308544171666, -7006382847557126502, 3230136325544659115, -4568425266707806548, 400807172429974187, -6254051850367330130, -4404632067030034768, -3741936095389092688, -81066692052738889, -1816846572894204220, 1659115826322437318, -403131266126422536, 3576796256085621962, 14704867051645130, 8916944709627587276, -4447176858810468654, 1819205801654329558, -5927781067064965928, -5434999385278539047, 4050801002175092953, 2473418333244292312, 5261837572744087259, 4421021518128716505, 4236886931311896811, -349394620490518293, 4761370810351693041, 4736708886672371957, -2162220522297075968, -3178418761212886783, -4317454368321200891, 3052574680678087943, 4699190267620613384, -2059737081380153068, 6656002846457511195, 3493127159456972572, -2431703499363248860, 8652304868049782052, 6552278117579633448, -4616885089321963727, 1797461313202914101, -5583984714184051914, 1594597682610980664, 6830464645514470713, 7175862247468204349, -1151707547155793080, -98567129314326200, -6746112217772461238, -1259317621205516981, -8553663146080044213, 7868415918912694093, -7613081743889698987, 3499043976501258092, 518243807120089965, -8317695812617602704, -3738059117281626249, 6732633512947104632, 2036110986336041340, 6976949781247238544, -1356022819708871274, 3185315757159083933, -786918058253420130, 6558071782070867363, -2602303017786745945, 3067552927308124071, -9095604072402601556, -4531624546412535375, -6091344283532127305, -2593836049699887684, 1330823628478300096, 4113732703721233346, -3244702035163623482, -1415851851907484719, -58150390608917532, 2224906394678517733, 6430838095573028837, 8075695629611751403, 2941424287624814072, 3634256694477065721, -7506312237148760582, 789971562615686141], ⟨511, (#[1, 2, 4, 19, 33, 46, 55, 59, 68, 73, 79, 110, 111, 112, 118, 121, 122, 123, 128, 131, 132, 135, 136, 137, 138, 140, 143, 145, 146, 154, 171, 172, 173, 174, 176, 177, 183, 196, 198, 200, 202, 203, 204, 210, 214, 216, 217, 218, 219, 220, 221, 235, 236, 241, 245, 256, 257, 261, 263, 264, 276, 283, 284, 292, 293, 296, 305, 309, 310, 312, 313, 317, 328, 329, 330, 331, 332, 333, 341, 364, 365, 368, 375, 376, 380, 400, 406, 413, 414, 419, 423, 424, 428, 433, 439, 444, 448, 450, 454, 465, 484, 485, 486, 491, 504, 505, 506, 509] : Array Nat), #[], 0, true, 3, true⟩)
theorem rz7t26 : addHs hz7_26 sz7t26 = some sz7t27 := by decide +kernel
def sz7t28 : List Int × SetTable := ([7000220671692907521, -1286883875409788415, -6976988600437206012, 6222674676057299475, -6151471173612349919, 4269102445838893614, -550170466453627849, -6742464739161919941, -476603924714473404, -7611629872615291831, -7081242121602664369, -5292800686784885138, -6310087355047049106, 9061999863535920240, 870200792808542838, -5708810149647603591, 8016039842280517242, -6670944888730591109, -5550254459671238023, 9074171212223152256, -7950680369716898685, 8596466855545671300, -2458796762764932473, 8611814976852646024, 3913690686318874249, -1885797169422145398, 1632557116215134855, -2409790374776785780, -712708622242158449, 6144911744930629265, 1486007308544171666, -7006382847557126502, 3230136325544659115, -4568425266707806548, 400807172429974187, -6254051850367330130, -4404632067030034768, -3741936095389092688, -81066692052738889, -1816846572894204220, 1659115826322437318, -403131266126422536, 3576796256085621962, 14704867051645130, 8916944709627587276, -4447176858810468654, 1819205801654329558, -5927781067064965928, -5434999385278539047, 4050801002175092953, 2473418333244292312, 5261837572744087259, 4421021518128716505, 4236886931311896811, -349394620490518293, -8582180832109110547, 4761370810351693041, 4736708886672371957, -2162220522297075968, -3178418761212886783, -4317454368321200891, 3052574680678087943, 4699190267620613384, -2059737081380153068, 6656002846457511195, 3493127159456972572, -2431703499363248860, 8652304868049782052, 6552278117579633448, -4616885089321963727, 1797461313202914101, -5583984714184051914, 1594597682610980664, 6830464645514470713, 7175862247468204349, -1151707547155793080, -98567129314326200, -6746112217772461238, -1259317621205516981, -8553663146080044213, 7868415918912694093, -7613081743889698987, 3499043976501258092, 518243807120089965, -8317695812617602704, -3738059117281626249, 6732633512947104632, 2036110986336041340, 6976949781247238544, -1356022819708871274, 3185315757159083933, -786918058253420130, 6558071782070867363, -2602303017786745945, 3067552927308124071, -9095604072402601556, -4531624546412535375, -6091344283532127305, -2593836049699887684, 1330823628478300096, 4113732703721233346, -3244702035163623482, -1415851851907484719, -58150390608917532, 2224906394678517733, 6430838095573028837, 8075695629611751403, -1815465798587072525, 2941424287624814072, 3634256694477065721, -7506312237148760582, 789971562615686141], ⟨511, (#[1, 2, 4, 19, 33, 46, 55, 59, 68, 73, 79, 110, 111, 112, 118, 121, 122, 123, 124, 128, 131, 132, 135, 136, 137, 138, 139, 140, 143, 145, 146, 154, 171, 172, 173, 174, 176, 177, 183, 196, 198, 200, 202, 203, 204, 210, 214, 216, 217, 218, 219, 220, 221, 235, 236, 237, 241, 245, 256, 257, 261, 263, 264, 276, 283, 284, 292, 293, 296, 305, 309, 310, 312, 313, 317, 328, 329, 330, 331, 332, 333, 341, 364, 365, 368, 375, 376, 380, 400, 406, 413, 414, 419, 423, 424, 428, 433, 439, 444, 448, 450, 454, 465, 484, 485, 486, 491, 499, 504, 505, 506, 509] : Array Nat), #[], 0, true, 3, true⟩)
theorem rz7t27 : addHs hz7_27 sz7t27 = some sz7t28 := by decide +kernel
def sz7t29 : List Int × SetTable := ([7000220671692907521, -1286883875409788415, -6976988600437206012, 6222674676057299475, -6151471173612349919, 4269102445838893614, -550170466453627849, -6742464739161919941, -476603924714473404, -7611629872615291831, -7081242121602664369, -2497966376706185623, -5292800686784885138, -6310087355047049106, 9061999863535920240, 870200792808542838, -5708810149647603591, 8016039842280517242, -6670944888730591109, -5550254459671238023, 375530859910269565, 9074171212223152256, -7950680369716898685, 8596466855545671300, -2458796762764932473, 8611814976852646024, 3913690686318874249, -1885797169422145398, 1632557116215134855, -2409790374776785780, -712708622242158449, 6144911744930629265, 1486007308544171666, -7006382847557126502, 3230136325544659115, -4568425266707806548, 400807172429974187, -6254051850367330130, -4404632067030034768, -3741936095389092688, -81066692052738889, 29708973981480638, -1816846572894204220, 1659115826322437318, -403131266126422536, 3576796256085621962, 14704867051645130, 8916944709627587276, -4447176858810468654, 1819205801654329558, -5927781067064965928, -5434999385278539047, 4050801002175092953, 2473418333244292312, 5261837572744087259, 4421021518128716505, 4236886931311896811, -349394620490518293, -8582180832109110547, 4761370810351693041, 4736708886672371957, -2162220522297075968, -3178418761212886783, -4317454368321200891, 3052574680678087943, 4699190267620613384, -2059737081380153068, 6656002846457511195, 3493127159456972572, -2431703499363248860, 8652304868049782052, 6552278117579633448, -4616885089321963727, 1797461313202914101, -5583984714184051914, 1594597682610980664, 6830464645514470713, 7175862247468204349, -1151707547155793080, -98567129314326200, -6746112217772461238, -1259317621205516981, -8553663146080044213, 7868415918912694093, -7613081743889698987, 3499043976501258092, 518243807120089965, -8317695812617602704, -3738059117281626249, 6732633512947104632, 2036110986336041340, 6976949781247238544, 3150277404746620821, -1356022819708871274, 3185315757159083933, -786918058253420130, 6558071782070867363, -2602303017786745945, 3067552927308124071, -9095604072402601556, -4531624546412535375, -6091344283532127305, -2593836049699887684, 1330823628478300096, 4113732703721233346, -3244702035163623482, -1415851851907484719, -58150390608917532, 2224906394678517733, 6430838095573028837, 8075695629611751403, -1815465798587072525, 2941424287624814072, 3634256694477065721, -7506312237148760582, 789971562615686141], ⟨511, (#[1, 2, 4, 19, 33, 46, 55, 59, 68, 73, 79, 105, 110, 111, 112, 118, 121, 122, 123, 124, 125, 128, 131, 132, 135, 136, 137, 138, 139, 140, 143, 145, 146, 154, 171, 172, 173, 174, 176, 177, 183, 190, 196, 198, 200, 202, 203, 204, 210, 214, 216, 217, 218, 219, 220, 221, 235, 236, 237, 241, 245, 256, 257, 261, 263, 264, 276, 283, 284, 292, 293, 296, 305, 309, 310, 312, 313, 317, 328, 329, 330, 331, 332, 333, 341, 364, 365, 368, 375, 376, 380, 400, 405, 406, 413, 414, 419, 423, 424, 428, 433, 439, 444, 448, 450, 454, 465, 484, 485, 486, 491, 499, 504, 505, 506, 509] : Array Nat), #[], 0, true, 3, true⟩)
theorem rz7t28 : addHs hz7_28 sz7t28 = some sz7t29 := by decide +kernel
def sz7t30 : List Int × SetTable := ([7000220671692907521, -1286883875409788415, -6976988600437206012, 6222674676057299475, -6151471173612349919, 4269102445838893614, -550170466453627849, -6742464739161919941, -476603924714473404, -7611629872615291831, -7081242121602664369, -2497966376706185623, -5292800686784885138, -6310087355047049106, 9061999863535920240, 870200792808542838, -5708810149647603591, 8016039842280517242, -6670944888730591109, -5550254459671238023, 375530859910269565, 9074171212223152256, -7950680369716898685, 8596466855545671300, -2458796762764932473, 8611814976852646024, 3913690686318874249, -1885797169422145398, 1632557116215134855, -2409790374776785780, -712708622242158449, 6144911744930629265, 1486007308544171666, -7006382847557126502, 1190043433779610266, 3230136325544659115, -4568425266707806548, 400807172429974187, -6254051850367330130, -4404632067030034768, -3741936095389092688, -81066692052738889, 29708973981480638, -1816846572894204220, 1659115826322437318, -403131266126422536, 3576796256085621962, 14704867051645130, 8916944709627587276, -4447176858810468654, 1819205801654329558, -5927781067064965928, -5434999385278539047, 4050801002175092953, 2473418333244292312, 5261837572744087259, 4421021518128716505, 4236886931311896811, -349394620490518293, -8582180832109110547, 4761370810351693041, 4736708886672371957, -2162220522297075968, -3178418761212886783, -4317454368321200891, 3052574680678087943, 4699190267620613384, -2059737081380153068, 6656002846457511195, 3493127159456972572, -2431703499363248860, 8652304868049782052, 6552278117579633448, 1019084228422520104, -4284198635056057556, -4616885089321963727, 1797461313202914101, -5583984714184051914, 1594597682610980664, 6830464645514470713, 7175862247468204349, -1151707547155793080, -98567129314326200, -6746112217772461238, -1259317621205516981, -8553663146080044213, 7868415918912694093, -7613081743889698987, 3499043976501258092, 518243807120089965, -8317695812617602704, -3738059117281626249, 6732633512947104632, 2036110986336041340, 6976949781247238544, 3150277404746620821, -1356022819708871274, 3185315757159083933, -786918058253420130, 6558071782070867363, 6603768772276338597, -2602303017786745945, 3067552927308124071, -9095604072402601556, -4531624546412535375, -6091344283532127305, -2593836049699887684, 1330823628478300096, 4113732703721233346, -3244702035163623482, -1415851851907484719, -58150390608917532, 2224906394678517733, 6430838095573028837, 8075695629611751403, -1815465798587072525, 2941424287624814072, 3634256694477065721, -7506312237148760582, 789971562615686141], ⟨511, (#[1, 2, 4, 19, 33, 46, 55, 59, 68, 73, 79, 105, 110, 111, 112, 118, 121, 122, 123, 124, 125, 128, 131, 132, 135, 136, 137, 138, 139, 140, 143, 145, 146, 154, 155, 171, 172, 173, 174, 176, 177, 183, 190, 196, 198, 200, 202, 203, 204, 210, 214, 216, 217, 218, 219, 220, 221, 235, 236, 237, 241, 245, 256, 257, 261, 263, 264, 276, 283, 284, 292, 293, 296, 297, 300, 305, 309, 310, 312, 313, 317, 328, 329, 330, 331, 332, 333, 341, 364, 365, 368, 375, 376, 380, 400, 405, 406, 413, 414, 419, 421, 423, 424, 428, 433, 439, 444, 448, 450, 454, 465, 484, 485, 486, 491, 499, 504, 505, 506, 509] : Array Nat), #[], 0, true, 3, true⟩)
theorem rz7t29 : addHs hz7_29 sz7t29 = some sz7t30 := by decide +kernel
def sz7t31 : List Int × SetTable := ([7000220671692907521, -1286883875409788415, -6976988600437206012, 6222674676057299475, -6151471173612349919, 4269102445838893614, 563841089628768253, -550170466453627849, -6742464739161919941, -476603924714473404, -7611629872615291831, -7081242121602664369, -2497966376706185623, -5292800686784885138, -6310087355047049106, 9061999863535920240, 870200792808542838, -5708810149647603591, 8016039842280517242, -6670944888730591109, -5550254459671238023, 375530859910269565, 9074171212223152256, -7950680369716898685, 8596466855545671300, -2458796762764932473, 8611814976852646024, 3913690686318874249, -1885797169422145398, 1632557116215134855, -2409790374776785780, -712708622242158449, 6144911744930629265, 1486007308544171666, -7006382847557126502, 1190043433779610266, 3230136325544659115, -4568425266707806548, 400807172429974187, -6254051850367330130, -4404632067030034768, -3741936095389092688, -81066692052738889, 29708973981480638, -1816846572894204220, 1659115826322437318, -403131266126422536, 3576796256085621962, 14704867051645130, 8916944709627587276, -4447176858810468654, 1819205801654329558, -5927781067064965928, -5434999385278539047, 4050801002175092953, 2473418333244292312, 5261837572744087259, 4421021518128716505, 4236886931311896811, -349394620490518293, -8582180832109110547, 4761370810351693041, 4736708886672371957, -2162220522297075968, -3178418761212886783, -4317454368321200891, 3052574680678087943, 4699190267620613384, -3716761498378178809, -2059737081380153068, 6656002846457511195, 3493127159456972572, -2431703499363248860, 8652304868049782052, 6552278117579633448, 1019084228422520104, -4284198635056057556, -4616885089321963727, 1797461313202914101, -5583984714184051914, 1594597682610980664, 6830464645514470713, 7175862247468204349, -1151707547155793080, -98567129314326200, -6746112217772461238, -1259317621205516981, -8553663146080044213, 7868415918912694093, 8793928680169894735, -7613081743889698987, 3499043976501258092, 518243807120089965, -8317695812617602704, -3738059117281626249, 6732633512947104632, 2036110986336041340, 2937287786727353732, 6976949781247238544, 3150277404746620821, -1356022819708871274, 3185315757159083933, -786918058253420130, 6558071782070867363, 6603768772276338597, -2602303017786745945, 3067552927308124071, -9095604072402601556, -4531624546412535375, -6091344283532127305, -2593836049699887684, 1330823628478300096, 4113732703721233346, -3244702035163623482, -1415851851907484719, -58150390608917532, 2224906394678517733, 6430838095573028837, 8075695629611751403, -1815465798587072525, 2941424287624814072, 3634256694477065721, -7506312237148760582, 789971562615686141], ⟨511, (#[1, 2, 4, 19, 33, 46, 49, 55, 59, 68, 73, 79, 105, 110, 111, 112, 118, 121, 122, 123, 124, 125, 128, 131, 132, 135, 136, 137, 138, 139, 140, 143, 145, 146, 154, 155, 171, 172, 173, 174, 176, 177, 183, 190, 196, 198, 200, 202, 203, 204, 210, 214, 216, 217, 218, 219, 220, 221, 235, 236, 237, 241, 245, 256, 257, 261, 263, 264, 265, 276, 283, 284, 292, 293, 296, 297, 300, 305, 309, 310, 312, 313, 317, 328, 329, 330, 331, 332, 333, 335, 341, 364, 365, 368, 375, 376, 380, 388, 400, 405, 406, 413, 414, 419, 421, 423, 424, 428, 433, 439, 444, 448, 450, 454, 465, 484, 485, 486, 491, 499, 504, 505, 506, 509] : Array Nat), #[], 0, true, 3, true⟩)
theorem rz7t30 : addHs hz7_30 sz7t30 = some sz7t31 := by decide +kernel
def sz7t32 : List Int × SetTable := ([7000220671692907521, -1286883875409788415, -6976988600437206012, 6222674676057299475, -6151471173612349919, 4269102445838893614, 563841089628768253, -550170466453627849, -6742464739161919941, -476603924714473404, -7611629872615291831, -7081242121602664369, -2497966376706185623, -5292800686784885138, -6310087355047049106, 9061999863535920240, 870200792808542838, -5708810149647603591, 8016039842280517242, -6670944888730591109, -5550254459671238023, 375530859910269565, 9074171212223152256, -7950680369716898685, 8596466855545671300, -2458796762764932473, 8611814976852646024, 3913690686318874249, -1885797169422145398, 1632557116215134855, -2409790374776785780, -712708622242158449, 6144911744930629265, 1486007308544171666, -7006382847557126502, 1190043433779610266, 3230136325544659115, -4568425266707806548, 400807172429974187, -6254051850367330130, -4404632067030034768, -3741936095389092688, -81066692052738889, 29708973981480638, 3140294729238531779, -1816846572894204220, -5683552068581005628, 1659115826322437318, -403131266126422536, 3576796256085621962, 14704867051645130, 8916944709627587276, -4447176858810468654, 1819205801654329558, -5927781067064965928, -5434999385278539047, 4050801002175092953, 2473418333244292312, 5261837572744087259, 4421021518128716505, 4236886931311896811, -349394620490518293, -8582180832109110547, 4761370810351693041, 4736708886672371957, -2162220522297075968, -3178418761212886783, -4317454368321200891, 3052574680678087943, 4699190267620613384, -3716761498378178809, -2059737081380153068, 6656002846457511195, 3493127159456972572, -2431703499363248860, 8652304868049782052, 6552278117579633448, 1019084228422520104, -4284198635056057556, -4616885089321963727, 1797461313202914101, -5583984714184051914, 1594597682610980664, 6830464645514470713, 7175862247468204349, -1151707547155793080, -98567129314326200, -6746112217772461238, -1259317621205516981, -8553663146080044213, 7868415918912694093, 8793928680169894735, -7613081743889698987, 3499043976501258092, 518243807120089965, -8317695812617602704, -3738059117281626249, 6732633512947104632, 2036110986336041340, 2937287786727353732, 6976949781247238544, 3150277404746620821, -1356022819708871274, 3185315757159083933, -786918058253420130, 7624065686562449311, 6558071782070867363, 6603768772276338597, -2602303017786745945, 3067552927308124071, -9095604072402601556, -4531624546412535375, -6091344283532127305, -2593836049699887684, 1330823628478300096, 4113732703721233346, 8070112785818529219, -3244702035163623482, -1415851851907484719, -58150390608917532, 2224906394678517733, 6430838095573028837, 8075695629611751403, -1815465798587072525, 2941424287624814072, 3634256694477065721, -7506312237148760582, 789971562615686141], ⟨511, (#[1, 2, 4, 19, 33, 46, 49, 55, 59, 68, 73, 79, 105, 110, 111, 112, 118, 121, 122, 123, 124, 125, 128, 131, 132, 135, 136, 137, 138, 139, 140, 143, 145, 146, 154, 155, 171, 172, 173, 174, 176, 177, 183, 190, 195, 196, 197, 198, 200, 202, 203, 204, 210, 214, 216, 217, 218, 219, 220, 221, 235, 236, 237, 241, 245, 256, 257, 261, 263, 264, 265, 276, 283, 284, 292, 293, 296, 297, 300, 305, 309, 310, 312, 313, 317, 328, 329, 330, 331, 332, 333, 335, 341, 364, 365, 368, 375, 376, 380, 388, 400, 405, 406, 413, 414, 415, 419, 421, 423, 424, 428, 433, 439, 444, 448, 450, 451, 454, 465, 484, 485, 486, 491, 499, 504, 505, 506, 509] : Array Nat), #[], 0, true, 3, true⟩)
theorem rz7t31 : addHs hz7_31 sz7t31 = some sz7t32 := by decide +kernel
theorem rz7t : addHs (((AB 7).map tabK).map nhash) ([], .fresh 0 0 true) = some sz7t32 := by
  rw [hz7]
  exact addHs_app rz7t0 (addHs_app rz7t1 (addHs_app rz7t2 (addHs_app rz7t3 (addHs_app rz7t4 (addHs_app rz7t5 (addHs_app rz7t6 (addHs_app rz7t7 (addHs_app rz7t8 (addHs_app rz7t9 (addHs_app rz7t10 (addHs_app rz7t11 (addHs_app rz7t12 (addHs_app rz7t13 (addHs_app rz7t14 (addHs_app rz7t15 (addHs_app rz7t16 (addHs_app rz7t17 (addHs_app rz7t18 (addHs_app rz7t19 (addHs_app rz7t20 (addHs_app rz7t21 (addHs_app rz7t22 (addHs_app rz7t23 (addHs_app rz7t24 (addHs_app rz7t25 (addHs_app rz7t26 (addHs_app rz7t27 (addHs_app rz7t28 (addHs_app rz7t29 (addHs_app rz7t30 (rz7t31)))))))))))))))))))))))))))))))
theorem fz7t : sz7t32.1.length = 128 ∧ sz7t32.2.fits 128 = true := by decide +kernel

/-! ### whether the table was led changes nothing -/
def ledT (b : Bool) (t : SetTable) : SetTable := { t with led := b }
theorem go_led (b : Bool) (t : SetTable) (f : Nat → Int) (h : Int) : ∀ (n : Nat) (p : SetTable.Probe), SetTable.probe.go (ledT b t) f h n p = SetTable.probe.go t f h n p
  | 0, _ => rfl
  | n + 1, p => by
    rw [SetTable.probe.go, SetTable.probe.go]
    rw [show (ledT b t).slot p.j = t.slot p.j from rfl]
    cases t.slot p.j with
    | empty => rfl
    | dummy => exact go_led b t f h n _
    | live i =>
      simp only
      split
      · rfl
      · exact go_led b t f h n _
theorem relaid_led (b : Bool) (t : SetTable) (hs : Array Int) (w : Nat) : (ledT b t).relaid hs w = (t.relaid hs w).map fun r => (ledT b r.1, r.2) := by
  unfold SetTable.relaid SetTable.laid
  show (SetTable.layClean _ hs >>= _) = _
  cases SetTable.layClean (SetTable.sizeAbove w - 1) hs with
  | none => rfl
  | some o => rfl
theorem addH_led (b : Bool) (hs : List Int) (t : SetTable) (h : Int) : addH (hs, ledT b t) h = (addH (hs, t) h).map fun q => (q.1, ledT b q.2) := by
  unfold addH
  simp only
  rw [show (ledT b t).fits = t.fits from rfl, show (ledT b t).gaveWay = t.gaveWay from rfl, show (ledT b t).probeStart h = t.probeStart h from rfl]
  rw [show (ledT b t).probe = fun f h p => SetTable.probe.go (ledT b t) f h (10 * SetTable.turns t.mask) p from rfl]
  simp only [go_led]
  rw [show t.probe (fun i => hs.getD i 0) h (t.probeStart h) = SetTable.probe.go t (fun i => hs.getD i 0) h (10 * SetTable.turns t.mask) (t.probeStart h) from rfl]
  split
  · cases SetTable.probe.go t (fun i => hs.getD i 0) h (10 * SetTable.turns t.mask) (t.probeStart h) with
    | none => rfl
    | some m =>
      cases m with
      | candidate j i nx => rfl
      | empty j d =>
        cases d with
        | some d => rfl
        | none =>
          simp only
          rw [show (ledT b t).put j = (ledT b (t.put j).1, (t.put j).2) from rfl]
          simp only
          rw [show (ledT b (t.put j).1).fits = (t.put j).1.fits from rfl, show (ledT b (t.put j).1).tooFull = (t.put j).1.tooFull from rfl, relaid_led]
          split
          · split
            · cases (t.put j).1.relaid (SetTable.insertAt hs.toArray (t.put j).2 h).toList.toArray (SetTable.grown (SetTable.insertAt hs.toArray (t.put j).2 h).toList.length) with
              | none => rfl
              | some r =>
                simp only [Option.map_some]
                split <;> rfl
            · rfl
          · rfl
  · rfl
theorem addHs_led (b : Bool) : ∀ (l : List Int) (hs : List Int) (t : SetTable) (q : List Int × SetTable), addHs l (hs, t) = some q → addHs l (hs, ledT b t) = some (q.1, ledT b q.2)
  | [], hs, t, q, e => by cases e; rfl
  | h :: l, hs, t, q, e => by
    rw [addHs] at e
    obtain ⟨q1, e1, e2⟩ := Option.bind_eq_some_iff.mp e
    rw [addHs, addH_led, e1]
    exact addHs_led b l q1.1 q1.2 q e2

theorem ab_len : ∀ n, (AB n).length = 2 ^ n
  | 0 => rfl
  | n + 1 => by
    have h : ∀ L : List (List Nat), (L.flatMap fun l => [l ++ [97], l ++ [98]]).length = 2 * L.length := fun L => by
      induction L with
      | nil => rfl
      | cons x L ih => rw [List.flatMap_cons, List.length_append, ih]; simp only [List.length_cons, List.length_nil]; omega
    show ((AB n).flatMap _).length = _
    rw [h, ab_len n, Nat.pow_succ]; omega
theorem set_all {n : Nat} (h : n ≤ 7) : ∃ q : List Int × SetTable, addHs (((AB n).map tabK).map nhash) ([], .fresh 0 0 true) = some q ∧ q.1.length = 2 ^ n ∧ q.2.fits (2 ^ n) = true := by
  by_cases c : n ≤ 5
  · have e := List.all_eq_true.mp okS_5 n (List.mem_range.mpr (by omega))
    unfold okS at e
    split at e
    · rename_i q eq
      obtain ⟨e1, e2⟩ := Bool.and_eq_true_iff.mp e
      exact ⟨q, eq, of_decide_eq_true e1, e2⟩
    · cases e
  · have c2 : n = 6 ∨ n = 7 := by omega
    rcases c2 with rfl | rfl
    · exact ⟨_, rz6t, fz6t⟩
    · exact ⟨_, rz7t, fz7t⟩
theorem set_led {n : Nat} (h : n ≤ 7) : ∃ fq : Bool → List Int × SetTable, ∀ led, addHs (((AB n).map tabK).map nhash) ([], .fresh 0 0 led) = some (fq led) ∧ (fq led).1.length = 2 ^ n ∧ (fq led).2.fits (2 ^ n) = true := by
  obtain ⟨q, e1, e2, e3⟩ := set_all h
  refine ⟨fun led => (q.1, ledT led q.2), fun led => ⟨?_, e2, e3⟩⟩
  exact addHs_led led _ [] (.fresh 0 0 true) q e1
theorem ndS_all : ((List.range 8).all fun n => decide ((stepsN n).Nodup)) = true := by decide +kernel


def sp_is_whole : SpD := fun ds S Q _ => ∃ d, ds = [d] ∧ isData d = true ∧ Q (.bl (isWh d)) S
theorem len_is_whole : ∀ ds S Q E, sp_is_whole ds S Q E → ds.length = 1 := fun _ _ _ _ ⟨_, e, _⟩ => by rw [e]; rfl

def sp_are_wholes : SpD := fun ds S Q _ => ∃ xs n, ds = [.tup xs] ∧ sm n (.tup xs) = true ∧ xs.length ≤ 100000 ∧ Q (.bl (xs.all isWh)) S
theorem len_are_wholes : ∀ ds S Q E, sp_are_wholes ds S Q E → ds.length = 1 := fun _ _ _ _ ⟨_, _, e, _⟩ => by rw [e]; rfl

def sp_shared_by : SpD := fun ds S Q _ => ∃ a b : Int, ds = [.int a, .int b] ∧ Q (.int (Int.gcd a b : Nat)) S
theorem len_shared_by : ∀ ds S Q E, sp_shared_by ds S Q E → ds.length = 2 := fun _ _ _ _ ⟨_, _, e, _⟩ => by rw [e]; rfl

def winD (lo hi : Int) : D → Bool
  | .int a => decide (lo ≤ a ∧ a ≤ hi)
  | _ => false
def sp_is_within : SpD := fun ds S Q _ => ∃ (d : D) (lo hi : Int), ds = [d, .int lo, .int hi] ∧ isData d = true ∧ Q (.bl (winD lo hi d)) S
theorem len_is_within : ∀ ds S Q E, sp_is_within ds S Q E → ds.length = 3 := fun _ _ _ _ ⟨_, _, _, e, _⟩ => by rw [e]; rfl

def rowD (lo hi : Int) : D → Bool
  | .tup xs => decide (lo ≤ (xs.length : Int) ∧ (xs.length : Int) ≤ hi) && xs.all (winD 1 999999)
  | _ => false
def sp_is_row : SpD := fun ds S Q _ => ∃ (d : D) (lo hi : Int) (n : Nat), ds = [d, .int lo, .int hi] ∧ sm n d = true ∧ hi ≤ 1000000 ∧ Q (.bl (rowD lo hi d)) S
theorem len_is_row : ∀ ds S Q E, sp_is_row ds S Q E → ds.length = 3 := fun _ _ _ _ ⟨_, _, _, _, e, _⟩ => by rw [e]; rfl

def sp_is_number_ring : SpD := fun ds S Q _ => ∃ (d : D) (n : Nat), ds = [d] ∧ sm n d = true ∧ Q (.bl (isRingD d)) S
theorem len_is_number_ring : ∀ ds S Q E, sp_is_number_ring ds S Q E → ds.length = 1 := fun _ _ _ _ ⟨_, _, e, _⟩ => by rw [e]; rfl
theorem win_in : ∀ d : D, winD 1 999999 d = inD d := fun d => by cases d <;> rfl
theorem row_ring (d : D) : rowD 1 40 d = isRingD d := by
  cases d with
  | tup xs =>
    show (decide ((1 : Int) ≤ (xs.length : Int) ∧ (xs.length : Int) ≤ 40) && xs.all (winD 1 999999)) = (decide (1 ≤ xs.length ∧ xs.length ≤ 40) && xs.all inD)
    rw [show winD 1 999999 = inD from funext win_in]
    congr 1
    rw [decide_eq_decide]
    omega
  | _ => rfl

def sp_shortest_part : SpD := fun ds S Q _ => ∃ l : List Nat, ds = [.str (ofL l)] ∧ 1 ≤ l.length ∧ l.length ≤ 1000 ∧ Q (.str (ofL (shL l))) S
theorem len_shortest_part : ∀ ds S Q E, sp_shortest_part ds S Q E → ds.length = 1 := fun _ _ _ _ ⟨_, e, _⟩ => by rw [e]; rfl
theorem nat_mod_div {n s : Nat} (s1 : 1 ≤ s) : (n : Int).fmod (s : Int) = ((n % s : Nat) : Int) ∧ (n : Int).fdiv (s : Int) = ((n / s : Nat) : Int) := by
  constructor
  · rw [Int.fmod_eq_emod_of_nonneg _ (by omega)]
    exact (Int.natCast_emod _ _).symm
  · rw [Int.fdiv_eq_ediv_of_nonneg _ (by omega)]
    exact (Int.natCast_ediv _ _).symm
theorem size_goL {l : List Nat} {s : Nat} (s1 : 1 ≤ s) (s2 : s ≤ l.length) (l1 : l.length ≤ 1000) :
    cutS (ofL l) none (some (s : Int)) = ofL (l.take s) ∧ (0 ≤ ((l.length / s : Nat) : Int) ∧ ((ofL (l.take s)).length : Int) * ((l.length / s : Nat) : Int) ≤ 16777216 ∧ ((l.length / s : Nat) : Int) ≤ 16777216) ∧
    (repS (ofL (l.take s)) ((l.length / s : Nat) : Int).toNat = ofL l ↔ toldL (l.take s) (l.length / s) = l) := by
  have hq2 : l.length / s ≤ l.length := Nat.div_le_self _ _
  have hq3 : l.length / s * s ≤ l.length := Nat.div_mul_le_self _ _
  generalize l.length / s = t at *
  refine ⟨by rw [cutS_take (by omega) (by omega), Int.toNat_natCast], ⟨by omega, ?_, by omega⟩, ?_⟩
  · have : ((s * t : Nat) : Int) ≤ 1000 := by rw [Nat.mul_comm]; omega
    rw [Int.natCast_mul] at this
    rw [ofL_len, List.length_take, Nat.min_eq_left s2]
    omega
  · rw [Int.toNat_natCast, repS_ofL]
    exact ofL_inj

def sp_is_word : SpD := fun ds S Q _ => ∃ d n, ds = [d] ∧ sm n d = true ∧ Q (.bl (isWordD d)) S
theorem len_is_word : ∀ ds S Q E, sp_is_word ds S Q E → ds.length = 1 := fun _ _ _ _ ⟨_, _, e, _⟩ => by rw [e]; rfl

def sp_look_word : SpD := fun ds S Q E => ∃ (d : D) (n : Nat), ds = [d] ∧ sm n d = true ∧ (isWordD d = true → Q .non S) ∧ (isWordD d = false → E ⟨"NoWord", [], []⟩ S)
theorem len_look_word : ∀ ds S Q E, sp_look_word ds S Q E → ds.length = 1 := fun _ _ _ _ ⟨_, _, e, _⟩ => by rw [e]; rfl

def sp_Ring___init__ : SpD := fun ds S Q E => ∃ (a : Addr) (d : D) (n : Nat), ds = [.obj a, d] ∧ sm n d = true ∧ S a = some (.ins "Ring" [] []) ∧ (partB d = true → Q .non (upS S a (.ins "Ring" ["held"] [d]))) ∧ (partB d = false → E ⟨"NoRing", [], []⟩ S)
theorem len_Ring___init__ : ∀ ds S Q E, sp_Ring___init__ ds S Q E → ds.length = 2 := fun _ _ _ _ ⟨_, _, _, e, _⟩ => by rw [e]; rfl

def sp_Ring_turned : SpD := fun ds S Q _ => ∃ (d : D) (k : Int), ds = [.inst "Ring" ["held"] [d], .int k] ∧ PartI d ∧ Q (rotD d (k.fmod (lenD d : Nat)).toNat) S
theorem len_Ring_turned : ∀ ds S Q E, sp_Ring_turned ds S Q E → ds.length = 2 := fun _ _ _ _ ⟨_, _, e, _⟩ => by rw [e]; rfl

def sp_Ring_least_turn : SpD := fun ds S Q _ => ∃ d : D, ds = [.inst "Ring" ["held"] [d]] ∧ PartI d ∧ Q (.int (leastT d)) S
theorem len_Ring_least_turn : ∀ ds S Q E, sp_Ring_least_turn ds S Q E → ds.length = 1 := fun _ _ _ _ ⟨_, e, _⟩ => by rw [e]; rfl

def sp_Ring_least : SpD := fun ds S Q _ => ∃ d : D, ds = [.inst "Ring" ["held"] [d]] ∧ PartI d ∧ Q (rotD d (leastT d)) S
theorem len_Ring_least : ∀ ds S Q E, sp_Ring_least ds S Q E → ds.length = 1 := fun _ _ _ _ ⟨_, e, _⟩ => by rw [e]; rfl

def sp_Ring_root : SpD := fun ds S Q _ => ∃ l : List Nat, ds = [.inst "Ring" ["held"] [.str (ofL l)]] ∧ 1 ≤ l.length ∧ l.length ≤ 1000 ∧ Q (.tup [.str (ofL (shL l)), .int ((l.length : Int).fdiv (shL l).length)]) S
theorem len_Ring_root : ∀ ds S Q E, sp_Ring_root ds S Q E → ds.length = 1 := fun _ _ _ _ ⟨_, e, _⟩ => by rw [e]; rfl

def sp_how_many_b : SpD := fun ds S Q _ => ∃ m : List Nat, ds = [.str (ofL m)] ∧ Q (.int (m.count 98 : Nat)) S
theorem len_how_many_b : ∀ ds S Q E, sp_how_many_b ds S Q E → ds.length = 1 := fun _ _ _ _ ⟨_, e, _⟩ => by rw [e]; rfl

def sp_uneven_pair : SpD := fun ds S Q _ => ∃ l : List Nat, ds = [.str (ofL l)] ∧ 1 ≤ l.length ∧ l.length ≤ 1000 ∧ unAns l S Q
theorem len_uneven_pair : ∀ ds S Q E, sp_uneven_pair ds S Q E → ds.length = 1 := fun _ _ _ _ ⟨_, e, _⟩ => by rw [e]; rfl
def prtD (l : List Nat) (s : Nat) : D → D
  | .int k => .str (ofL (partL l s k.toNat))
  | d => d
def prtZ (l : List Nat) (s : Nat) : List Str := (List.range l.length).map fun i => ofL (partL l s i)
theorem prt_map (l : List Nat) (s : Nat) : (rgD 0 l.length).map (prtD l s) = (prtZ l s).map D.str := by
  unfold rgD prtZ
  rw [List.map_map, List.map_map]
  refine List.map_congr_left fun i _ => ?_
  show D.str (ofL (partL l s ((0 : Int) + (i : Int)).toNat)) = _
  rw [show ((0 : Int) + (i : Int)).toNat = i by omega]
  rfl
def kfB (z : Str) : Int := (z.cps.toList.count 98 : Nat)
theorem prt_best {l : List Nat} {s : Nat} {up : Bool} {z : Str} (h0 : 1 ≤ l.length) (h : (prtZ l s)[bestBy up (kfL kfB (prtZ l s)) (prtZ l s).length]? = some z) : z = ofL (partL l s (biP up l s)) := by
  have hl : (prtZ l s).length = l.length := by unfold prtZ; rw [List.length_map, List.length_range]
  have at' : ∀ i, i < l.length → (prtZ l s)[i]? = some (ofL (partL l s i)) := fun i hi => by
    unfold prtZ
    rw [List.getElem?_map, List.getElem?_range hi]
    rfl
  have e : bestBy up (kfL kfB (prtZ l s)) (prtZ l s).length = biP up l s := by
    rw [hl]
    refine best_congr (by omega) fun i hi => ?_
    unfold kfL
    rw [at' i hi]
    rfl
  rw [e, at' _ (biP_lt h0)] at h
  exact (Option.some.inj h).symm

def sp_is_even : SpD := fun ds S Q E => ∃ (d : D) (n : Nat), ds = [d] ∧ sm n d = true ∧ (isWordD d = false → E ⟨"NoWord", [], []⟩ S) ∧ (isWordD d = true → ∃ l, d = .str (ofL l) ∧ unAns l S fun x S' => Q (.bl (match x with | .non => true | _ => false)) S')
theorem len_is_even : ∀ ds S Q E, sp_is_even ds S Q E → ds.length = 1 := fun _ _ _ _ ⟨_, _, e, _⟩ => by rw [e]; rfl

def sp_uneven_parts : SpD := fun ds S Q E => ∃ (d : D) (n : Nat), ds = [d] ∧ sm n d = true ∧ (isWordD d = false → E ⟨"NoWord", [], []⟩ S) ∧ (isWordD d = true → ∃ l, d = .str (ofL l) ∧ unAns l S Q)
theorem len_uneven_parts : ∀ ds S Q E, sp_uneven_parts ds S Q E → ds.length = 1 := fun _ _ _ _ ⟨_, _, e, _⟩ => by rw [e]; rfl

def sp_even_word : SpD := fun ds S Q _ => ∃ b a : Nat, ds = [.int b, .int a] ∧ b + a ≤ 1000000 ∧ Q (.str (ofL (evF b (b + a)))) S
theorem len_even_word : ∀ ds S Q E, sp_even_word ds S Q E → ds.length = 2 := fun _ _ _ _ ⟨_, _, e, _⟩ => by rw [e]; rfl

def sp_is_step_word : SpD := fun ds S Q _ => ∃ d n, ds = [d] ∧ sm n d = true ∧ Q (.bl (isStepD d)) S
theorem len_is_step_word : ∀ ds S Q E, sp_is_step_word ds S Q E → ds.length = 1 := fun _ _ _ _ ⟨_, _, e, _⟩ => by rw [e]; rfl

def sp_look_step_steps : SpD := fun ds S Q E => ∃ (d : D) (n : Nat) (k : Int), ds = [d, .int k] ∧ sm n d = true ∧ (isWordD d = false → E ⟨"NoWord", [], []⟩ S) ∧ ∀ l, d = .str (ofL l) → isWordD d = true →
  (∀ s, 1 ≤ s → s < l.length → unev l s → (∀ t, 1 ≤ t → t < s → ¬ unev l t) → E ⟨"Uneven", ["other", "one"], [.str (ofL (partL l s (biP false l s))), .str (ofL (partL l s (biP true l s)))]⟩ S) ∧
  ((∀ s, 1 ≤ s → s < l.length → ¬ unev l s) → (k ≤ l.length → isStepL l = true → Q .non S) ∧ (¬ (k ≤ l.length ∧ isStepL l = true) → E ⟨"NoStep", [], []⟩ S))
theorem len_look_step_steps : ∀ ds S Q E, sp_look_step_steps ds S Q E → ds.length = 2 := fun _ _ _ _ ⟨_, _, _, e, _⟩ => by rw [e]; rfl

def sp_cut_by : SpD := fun ds S Q _ => ∃ (l : List Nat) (m : Nat), ds = [.str (ofL l)] ∧ isAB l = true ∧ l.length ≤ 60 ∧ 1 ≤ m ∧ m < l.length ∧ (∀ k, 1 ≤ k → k < l.length → ((isStepL (l.take k) && isStepL (l.drop k)) = true ↔ k = m)) ∧ Q (.tup [.str (ofL (l.take m)), .str (ofL (l.drop m))]) S
theorem len_cut_by : ∀ ds S Q E, sp_cut_by ds S Q E → ds.length = 1 := fun _ _ _ _ ⟨_, _, e, _⟩ => by rw [e]; rfl
def cutG (l : List Nat) : D → Bool
  | .int k => isStepL (l.take k.toNat) && isStepL (l.drop k.toNat)
  | _ => false
theorem cutG_list {l : List Nat} {m : Nat} (m0 : 1 ≤ m) (m1 : m < l.length) (hm : ∀ k, 1 ≤ k → k < l.length → ((isStepL (l.take k) && isStepL (l.drop k)) = true ↔ k = m)) : (rgD 1 (l.length - 1)).filter (cutG l) = [.int m] := by
  have e := rg_filter 1 (l.length - 1) (fun k => isStepL (l.take k) && isStepL (l.drop k)) (cutG l) fun i hi => by
    show (isStepL (l.take (((1 : Nat) : Int) + (i : Int)).toNat) && isStepL (l.drop (((1 : Nat) : Int) + (i : Int)).toNat)) = _
    rw [show (((1 : Nat) : Int) + (i : Int)).toNat = 1 + i by omega]
  have e2 : ((List.range (l.length - 1)).map (1 + ·)).filter (fun k => isStepL (l.take k) && isStepL (l.drop k)) = [m] := by
    refine filter_one ?_ ?_ fun k hk => ?_
    · rw [← List.range'_eq_map_range]; exact List.nodup_range'
    · exact List.mem_map.mpr ⟨m - 1, List.mem_range.mpr (by omega), by omega⟩
    · obtain ⟨j, hj, rfl⟩ := List.mem_map.mp hk
      have := List.mem_range.mp hj
      exact hm (1 + j) (by omega) (by omega)
  rw [e2] at e
  exact e
theorem isStepD_L {l : List Nat} (h : isAB l = true) (l0 : 1 ≤ l.length) (l1 : l.length ≤ 60) : isStepD (.str (ofL l)) = isStepL l := by
  show (isWordD _ && _) = _
  rw [isWordD_ofL h l0 l1]; rfl

def sp_cut_of : SpD := fun ds S Q E => ∃ (d : D) (n : Nat), ds = [d] ∧ sm n d = true ∧ (isWordD d = false → E ⟨"NoWord", [], []⟩ S) ∧ ∀ l, d = .str (ofL l) → isWordD d = true →
  (∀ s, 1 ≤ s → s < l.length → unev l s → (∀ t, 1 ≤ t → t < s → ¬ unev l t) → E ⟨"Uneven", ["other", "one"], [.str (ofL (partL l s (biP false l s))), .str (ofL (partL l s (biP true l s)))]⟩ S) ∧
  ((∀ s, 1 ≤ s → s < l.length → ¬ unev l s) → (∀ m, 2 ≤ l.length → isStepL l = true → 1 ≤ m → m < l.length → (∀ k, 1 ≤ k → k < l.length → ((isStepL (l.take k) && isStepL (l.drop k)) = true ↔ k = m)) → Q (.tup [.str (ofL (l.take m)), .str (ofL (l.drop m))]) S) ∧ (¬ (2 ≤ l.length ∧ isStepL l = true) → E ⟨"NoStep", [], []⟩ S))
theorem len_cut_of : ∀ ds S Q E, sp_cut_of ds S Q E → ds.length = 1 := fun _ _ _ _ ⟨_, _, e, _⟩ => by rw [e]; rfl

def sp_way_by_left (n : Nat) : SpD := fun ds S Q _ => ∃ v : List Nat, ds = [.str (ofL (fstW (v ++ [108]))), .str (ofL (sndW (v ++ [108])))] ∧ isWayL v = true ∧ v.length < n ∧ n ≤ 1000 ∧ cnW (v ++ [108]) ≤ 1000 ∧ Q (.str (ofL (v ++ [108]))) S
theorem len_way_by_left : ∀ n ds S Q E, sp_way_by_left n ds S Q E → ds.length = 2 := fun _ _ _ _ _ ⟨_, e, _⟩ => by rw [e]; rfl
theorem none_way_by_left : ∀ ds S Q E, ¬ sp_way_by_left 0 ds S Q E := fun _ _ _ _ ⟨_, _, _, h, _⟩ => by omega
theorem str_l_c : (Str.ofString "l") = ofL [108] := by decide +kernel

def sp_way_by_right (n : Nat) : SpD := fun ds S Q _ => ∃ v : List Nat, ds = [.str (ofL (fstW (v ++ [114]))), .str (ofL (sndW (v ++ [114])))] ∧ isWayL v = true ∧ v.length < n ∧ n ≤ 1000 ∧ cnW (v ++ [114]) ≤ 1000 ∧ Q (.str (ofL (v ++ [114]))) S
theorem len_way_by_right : ∀ n ds S Q E, sp_way_by_right n ds S Q E → ds.length = 2 := fun _ _ _ _ _ ⟨_, e, _⟩ => by rw [e]; rfl
theorem none_way_by_right : ∀ ds S Q E, ¬ sp_way_by_right 0 ds S Q E := fun _ _ _ _ ⟨_, _, _, h, _⟩ => by omega
theorem str_r_c : (Str.ofString "r") = ofL [114] := by decide +kernel

def sp_way_to (n : Nat) : SpD := fun ds S Q _ => ∃ w : List Nat, ds = [.str (ofL (fstW w)), .str (ofL (sndW w))] ∧ isWayL w = true ∧ w.length ≤ n ∧ n ≤ 1000 ∧ cnW w ≤ 1000 ∧ Q (.str (ofL w)) S
theorem len_way_to : ∀ n ds S Q E, sp_way_to n ds S Q E → ds.length = 2 := fun _ _ _ _ _ ⟨_, e, _⟩ => by rw [e]; rfl
theorem way_cases (w : List Nat) (h : isWayL w = true) : w = [] ∨ ∃ v, isWayL v = true ∧ (w = v ++ [108] ∨ w = v ++ [114]) := by
  rcases List.eq_nil_or_concat w with e | ⟨v, c, e⟩
  · exact .inl e
  · rw [List.concat_eq_append] at e
    subst e
    have hv := isWayL_iff.mp h
    refine .inr ⟨v, isWayL_iff.mpr fun d hd => hv d (List.mem_append_left _ hd), ?_⟩
    rcases hv c (List.mem_append_right _ (List.mem_singleton.mpr rfl)) with rfl | rfl
    · exact .inl rfl
    · exact .inr rfl

def sp_way_of_word : SpD := fun ds S Q E => ∃ (d : D) (n : Nat), ds = [d] ∧ sm n d = true ∧ (isWordD d = false → E ⟨"NoWord", [], []⟩ S) ∧ ∀ l, d = .str (ofL l) → isWordD d = true →
  (∀ s, 1 ≤ s → s < l.length → unev l s → (∀ t, 1 ≤ t → t < s → ¬ unev l t) → E ⟨"Uneven", ["other", "one"], [.str (ofL (partL l s (biP false l s))), .str (ofL (partL l s (biP true l s)))]⟩ S) ∧
  ((∀ s, 1 ≤ s → s < l.length → ¬ unev l s) → (2 ≤ l.length → isStepL l = true → ∃ w, isWayL w = true ∧ wordW w = l ∧ Q (.str (ofL w)) S) ∧ (¬ (2 ≤ l.length ∧ isStepL l = true) → E ⟨"NoStep", [], []⟩ S))
theorem len_way_of_word : ∀ ds S Q E, sp_way_of_word ds S Q E → ds.length = 1 := fun _ _ _ _ ⟨_, _, e, _⟩ => by rw [e]; rfl

def sp_look_way : SpD := fun ds S Q E => ∃ (d : D) (n : Nat), ds = [d] ∧ sm n d = true ∧ (isWayD d = true → Q .non S) ∧ (isWayD d = false → E ⟨"NoWay", [], []⟩ S)
theorem len_look_way : ∀ ds S Q E, sp_look_way ds S Q E → ds.length = 1 := fun _ _ _ _ ⟨_, _, e, _⟩ => by rw [e]; rfl
def lrD : D → D
  | .str z => .bl (isWayL z.cps.toList)
  | _ => .non
theorem lrw_cps : (Str.ofString "lr").cps.toList = [108, 114] := by decide +kernel
theorem lrD_comp {i : Nat} {te : TED} {vs : List Nat} {σ : Si} {S : Sd} {Q : DK} {z : Str} (hte : ∀ c S' (Q' : DK), Q' (.bl (decide (c ∈ [108, 114]))) S' → te ((wipeD σ vs).set i (some (.str ⟨#[c]⟩))) S' Q') (hl : z.length ≤ 100000)
    (ti : TID) (hti : ∀ R : List D → Sd → Prop, R (sgD z) S → ti σ S R) (q : Q (.bl (isWayL z.cps.toList)) S) : dComp ti (dName i) dYes te vs σ S fun x S1 => rdAll [x] S1 Q := by
  refine comp_pure lrD (sgD z) S hti (fun x hx S' Q' q' => ?_) (by unfold sgD; rw [List.length_map]; show z.cps.toList.length ≤ _; rw [← x_len_strL]; omega) ?_
  · obtain ⟨c, _, rfl⟩ := List.mem_map.mp hx
    refine hte c S' Q' ?_
    have e : lrD (.str ⟨#[c]⟩) = .bl (decide (c ∈ [108, 114])) := by
      show D.bl (isWayL [c]) = _
      simp [isWayL]
    rw [← e]; exact q'
  · refine x_allb (bs := z.cps.toList.map fun c => isWayL [c]) ?_ ?_
    · unfold sgD
      rw [List.map_map, List.map_map]
      rfl
    · have e : (z.cps.toList.map fun c => isWayL [c]).all id = isWayL z.cps.toList := by
        rw [List.all_map]
        unfold isWayL
        congr 1
        funext c
        simp
      rw [e]; exact q

def sp_word_of_way : SpD := fun ds S Q E => ∃ (d : D) (n : Nat), ds = [d] ∧ sm n d = true ∧ (isWayD d = false → E ⟨"NoWay", [], []⟩ S) ∧ ∀ w, d = .str (ofL w) → isWayL w = true → (cnW w ≤ 60 → Q (.str (ofL (wordW w))) S) ∧ (60 < cnW w → E ⟨"TooMany", ["most"], [.int 60]⟩ S)
theorem len_word_of_way : ∀ ds S Q E, sp_word_of_way ds S Q E → ds.length = 1 := fun _ _ _ _ ⟨_, _, e, _⟩ => by rw [e]; rfl
theorem str1l (c : Nat) : ((⟨#[c]⟩ : Str) = "l") ↔ c = 108 := by
  rw [show (Str.ofString "l") = ⟨#[108]⟩ by decide +kernel]
  constructor
  · intro h; injection h with h; simpa using h
  · rintro rfl; rfl

def sp_is_pair_of : SpD := fun ds S Q _ => ∃ d, ds = [d] ∧ isData d = true ∧ Q (.bl (isPairD d)) S
theorem len_is_pair_of : ∀ ds S Q E, sp_is_pair_of ds S Q E → ds.length = 1 := fun _ _ _ _ ⟨_, e, _⟩ => by rw [e]; rfl

def sp_is_table : SpD := fun ds S Q _ => ∃ d n, ds = [d] ∧ sm n d = true ∧ Q (.bl (isTabD d)) S
theorem len_is_table : ∀ ds S Q E, sp_is_table ds S Q E → ds.length = 1 := fun _ _ _ _ ⟨_, _, e, _⟩ => by rw [e]; rfl

def sp_size_of : SpD := fun ds S Q _ => ∃ m n, ds = [tbD m] ∧ SzM m n ∧ 1 ≤ n ∧ n ≤ 100000 ∧ Q (.int (detM m)) S
theorem len_size_of : ∀ ds S Q E, sp_size_of ds S Q E → ds.length = 1 := fun _ _ _ _ ⟨_, _, e, _⟩ => by rw [e]; rfl

def sp_joined : SpD := fun ds S Q _ => ∃ a b n, ds = [tbD a, tbD b] ∧ SzM a n ∧ SzM b n ∧ 1 ≤ n ∧ n ≤ 100000 ∧ Q (tbD (mulM a b)) S
theorem len_joined : ∀ ds S Q E, sp_joined ds S Q E → ds.length = 2 := fun _ _ _ _ ⟨_, _, _, e, _⟩ => by rw [e]; rfl

def sp_contrary_by : SpD := fun ds S Q _ => ∃ m n, ds = [tbD m] ∧ SzM m n ∧ 1 ≤ n ∧ n ≤ 100000 ∧ Q (tbD (conM m)) S
theorem len_contrary_by : ∀ ds S Q E, sp_contrary_by ds S Q E → ds.length = 1 := fun _ _ _ _ ⟨_, _, e, _⟩ => by rw [e]; rfl
theorem detM_lt {m : M2} {n : Nat} (h : SzM m n) : (detM m).natAbs < 2 ^ (n + n + 1) := by
  have h1 := wide_lt h.1 h.2.2.2
  have h2 := wide_lt h.2.1 h.2.2.1
  have e : 2 ^ (n + n + 1) = 2 * 2 ^ (n + n) := by rw [Nat.pow_succ, Nat.mul_comm]
  unfold detM
  omega

def sp_table_by : SpD := fun ds S Q _ => ∃ l : List Nat, ds = [.str (ofL l)] ∧ isAB l = true ∧ l.length ≤ 1000 ∧ Q (tbD (tabM l)) S
theorem len_table_by : ∀ ds S Q E, sp_table_by ds S Q E → ds.length = 1 := fun _ _ _ _ ⟨_, e, _⟩ => by rw [e]; rfl
theorem str1a (c : Nat) : ((⟨#[c]⟩ : Str) = "a") ↔ c = 97 := by
  rw [str_a]
  constructor
  · intro h; injection h with h; simpa using h
  · rintro rfl; rfl
theorem str1b (c : Nat) : ((⟨#[c]⟩ : Str) = "b") ↔ c = 98 := by
  rw [str_b]
  constructor
  · intro h; injection h with h; simpa using h
  · rintro rfl; rfl
theorem lt_at {c : Nat} (h : c = 97 ∨ c = 98) : k_LETTER_TABLES ⟨#[c]⟩ = some (tbD (ltM c)) := by
  unfold k_LETTER_TABLES
  rcases h with rfl | rfl
  · rw [if_pos ((str1a _).mpr rfl)]; rfl
  · rw [if_neg (fun h => by have := (str1a _).mp h; omega), if_pos ((str1b _).mpr rfl)]; rfl
theorem szM_lt (c : Nat) : SzM (ltM c) 3 := by
  rcases ltM_cases c with ⟨e, _⟩ | ⟨e, _⟩ <;> rw [e] <;> exact ⟨by decide, by decide, by decide, by decide⟩

def sp_table_of : SpD := fun ds S Q E => ∃ (d : D) (n : Nat), ds = [d] ∧ sm n d = true ∧ (∀ l : List Nat, d = .str (ofL l) → isAB l = true → 1 ≤ l.length → l.length ≤ 60 → Q (tbD (tabM l)) S) ∧ (isWordD d = false → E ⟨"NoWord", [], []⟩ S)
theorem len_table_of : ∀ ds S Q E, sp_table_of ds S Q E → ds.length = 1 := fun _ _ _ _ ⟨_, _, e, _⟩ => by rw [e]; rfl

def sp_first_letter : SpD := fun ds S Q _ => ∃ m n, ds = [tbD m] ∧ SzM m n ∧ 1 ≤ n ∧ n ≤ 100000 ∧ Q (.str ⟨#[if m.p > 2 * m.r then 98 else 97]⟩) S
theorem len_first_letter : ∀ ds S Q E, sp_first_letter ds S Q E → ds.length = 1 := fun _ _ _ _ ⟨_, _, e, _⟩ => by rw [e]; rfl

/-- a word's letters -/
def wrdL (l : List Nat) : Prop := isAB l = true ∧ 1 ≤ l.length ∧ l.length ≤ 60
def sp_word_of : SpD := fun ds S Q E => ∃ (d : D) (n : Nat), ds = [d] ∧ sm n d = true ∧ 1 ≤ n ∧ n ≤ 1000 ∧ (∀ l : List Nat, wrdL l → d = tbD (tabM l) → Q (.str (ofL l)) S) ∧ ((∀ l : List Nat, wrdL l → d ≠ tbD (tabM l)) → E ⟨"NoTable", [], []⟩ S)
theorem len_word_of : ∀ ds S Q E, sp_word_of ds S Q E → ds.length = 1 := fun _ _ _ _ ⟨_, _, e, _⟩ => by rw [e]; rfl
theorem unit_tb : k_UNIT = tbD unitM := rfl
theorem szM_ltI (c : Nat) : SzM (ltI c) 3 := by
  unfold ltI
  split <;> exact ⟨by decide, by decide, by decide, by decide⟩
theorem atI_lastN {l : List Nat} {c : Nat} : atI (l ++ [c]) (-1) = some c := by
  unfold atI ixN
  rw [if_neg (by decide)]
  simp only [List.length_append, List.length_singleton]
  rw [if_pos (by omega)]
  show (l ++ [c])[(-1 + ((l.length + 1 : Nat) : Int)).toNat]? = some c
  rw [show (-1 + ((l.length + 1 : Nat) : Int)).toNat = l.length by omega]
  simp
theorem tbD_inj23 {a b : M2} (h : tbD a = tbD b) : a = b := by
  cases a; cases b
  unfold tbD at h
  simp only [D.tup.injEq, List.cons.injEq, D.int.injEq, and_true] at h
  obtain ⟨⟨h1, h2⟩, h3, h4⟩ := h
  subst h1 h2 h3 h4
  rfl
theorem szM_ltImul {m : M2} {n : Nat} (c : Nat) (h : SzM m n) : SzM (mulM (ltI c) m) (n + 3) := by
  obtain ⟨a1, a2, a3, a4⟩ := h
  have e : 2 ^ (n + 3) = 8 * 2 ^ n := by rw [Nat.pow_add, Nat.mul_comm]
  unfold SzM
  rw [e]
  generalize 2 ^ n = N at *
  unfold ltI
  split <;> simp only [mulM] <;> refine ⟨?_, ?_, ?_, ?_⟩ <;> omega
theorem lt_ltI (c : Nat) : mulM (ltM c) (ltI c) = unitM := by
  unfold ltI ltM
  split <;> rfl

def tupOfB : D → Int → Bool
  | .tup xs, n => decide ((xs.length : Int) = n)
  | _, _ => false
def sp_is_tuple_of : SpD := fun ds S Q _ => ∃ (d : D) (n : Int) (m : Nat), ds = [d, .int n] ∧ sm m d = true ∧ Q (.bl (tupOfB d n)) S
theorem len_is_tuple_of : ∀ ds S Q E, sp_is_tuple_of ds S Q E → ds.length = 2 := fun _ _ _ _ ⟨_, _, _, e, _⟩ => by rw [e]; rfl

def sp_is_part_of : SpD := fun ds S Q _ => ∃ (d : D) (w : Str) (m : Nat), ds = [d, .str w] ∧ sm m d = true ∧ w.length ≤ 100000 ∧ Q (.bl (partD w d)) S
theorem len_is_part_of : ∀ ds S Q E, sp_is_part_of ds S Q E → ds.length = 2 := fun _ _ _ _ ⟨_, _, _, e, _⟩ => by rw [e]; rfl

def sp_even_holds : SpD := fun ds S Q _ => ∃ (w p : D) (m : Nat), ds = [w, p] ∧ sm m w = true ∧ sm m p = true ∧ Q (.bl (evB (.tup [.str "even", w]) p)) S
theorem len_even_holds : ∀ ds S Q E, sp_even_holds ds S Q E → ds.length = 2 := fun _ _ _ _ ⟨_, _, _, e, _⟩ => by rw [e]; rfl

def sp_uneven_holds : SpD := fun ds S Q _ => ∃ (w p : D) (m : Nat), ds = [w, p] ∧ sm m w = true ∧ sm m p = true ∧ Q (.bl (unevB w p)) S
theorem len_uneven_holds : ∀ ds S Q E, sp_uneven_holds ds S Q E → ds.length = 2 := fun _ _ _ _ ⟨_, _, _, e, _⟩ => by rw [e]; rfl
theorem partD_str {w : Str} {d : D} (h : partD w d = true) : ∃ z, d = .str z := by
  cases d with
  | str z => exact ⟨z, rfl⟩
  | _ => cases h

def sp_holds : SpD := fun ds S Q E => ∃ (c p : D) (m : Nat), ds = [c, p] ∧ sm m c = true ∧ sm m p = true ∧ clean c p ∧ Q (.bl (evB c p)) S
theorem len_holds : ∀ ds S Q E, sp_holds ds S Q E → ds.length = 2 := fun _ _ _ _ ⟨_, _, _, e, _⟩ => by rw [e]; rfl

def sp_law_urn : SpD := fun ds S Q _ => ∃ (ns : List Int) (at_ : Int), ds = [.lst (ns.map D.int), .int at_] ∧ 0 ≤ at_ ∧ at_ < 100 ∧ ∀ u S', S u = none → Urn S' u 0 → Oth S S' u → Q (.obj u) S'
theorem len_law_urn : ∀ ds S Q E, sp_law_urn ds S Q E → ds.length = 2 := fun _ _ _ _ ⟨_, _, e, _⟩ => by rw [e]; rfl

def sp_law_draw : SpD := fun ds S Q _ => ∃ u w B, ds = [.obj u, .int w] ∧ Urn S u B ∧ B ≤ 2 ^ 100 ∧ 0 < w ∧ w < 2 ^ 1000 ∧ ∀ n S', 0 ≤ n → n < w → Urn S' u (B + 1) → Oth S S' u → Q (.int n) S'
theorem len_law_draw : ∀ ds S Q E, sp_law_draw ds S Q E → ds.length = 2 := fun _ _ _ _ ⟨_, _, _, e, _⟩ => by rw [e]; rfl

def sp_law_shared : SpD := fun ds S Q _ => ∃ a b : Int, ds = [.int a, .int b] ∧ Q (.int (Int.gcd a b : Nat)) S
theorem len_law_shared : ∀ ds S Q E, sp_law_shared ds S Q E → ds.length = 2 := fun _ _ _ _ ⟨_, _, e, _⟩ => by rw [e]; rfl

def sp_law_all_words : SpD := fun ds S Q _ => ∃ n : Nat, ds = [.int n] ∧ n ≤ 7 ∧ Q (.lst ((AB n).map abD)) S
theorem len_law_all_words : ∀ ds S Q E, sp_law_all_words ds S Q E → ds.length = 1 := fun _ _ _ _ ⟨_, e, _⟩ => by rw [e]; rfl
theorem sm2 {n : Nat} {a b : D} (ha : sm n a = true) (hb : sm n b = true) : sm n (.tup [a, b]) = true := smT.mpr fun d hd => by
  simp only [List.mem_cons, List.not_mem_nil, or_false] at hd
  rcases hd with rfl | rfl
  · exact ha
  · exact hb
def lnN (L : List (List Nat)) : List (List Nat) := L.flatMap fun l => [l ++ [97], l ++ [98]]
theorem lnN_app (a b : List (List Nat)) : lnN (a ++ b) = lnN a ++ lnN b := by unfold lnN; rw [List.flatMap_append]
theorem lnN_len (L : List (List Nat)) : (lnN L).length = 2 * L.length := by
  unfold lnN
  induction L with
  | nil => rfl
  | cons x L ih => rw [List.flatMap_cons, List.length_append, ih]; simp only [List.length_cons, List.length_nil]; omega
theorem abD_a (l : List Nat) : ofL l ++ (⟨#[97]⟩ : Str) = ofL (l ++ [97]) := by
  apply str_ext
  show ((ofL l).cps ++ #[97]).toList = _
  simp [ofL]
theorem abD_b (l : List Nat) : ofL l ++ (⟨#[98]⟩ : Str) = ofL (l ++ [98]) := by
  apply str_ext
  show ((ofL l).cps ++ #[98]).toList = _
  simp [ofL]
theorem ab_in : ∀ {n : Nat} {l : List Nat}, l ∈ AB n → l.length = n ∧ isAB l = true
  | 0, l, h => by rw [show l = [] from List.mem_singleton.mp h]; exact ⟨rfl, rfl⟩
  | n + 1, l, h => by
    obtain ⟨x, hx, hl⟩ := List.mem_flatMap.mp (show l ∈ (AB n).flatMap _ from h)
    obtain ⟨e1, e2⟩ := ab_in hx
    simp only [List.mem_cons, List.not_mem_nil, or_false] at hl
    rcases hl with rfl | rfl
    · exact ⟨by rw [List.length_append, e1]; rfl, isAB_iff.mpr fun c hc => by
        rcases List.mem_append.mp hc with hc | hc
        · exact isAB_iff.mp e2 c hc
        · rw [List.mem_singleton] at hc; omega⟩
    · exact ⟨by rw [List.length_append, e1]; rfl, isAB_iff.mpr fun c hc => by
        rcases List.mem_append.mp hc with hc | hc
        · exact isAB_iff.mp e2 c hc
        · rw [List.mem_singleton] at hc; omega⟩
theorem okE_of {n : Nat} {l : List Nat} (n1 : 1 ≤ n) (n7 : n ≤ 7) (h : l ∈ AB n) : okE l = true := by
  have e := List.all_eq_true.mp okE_all n (List.mem_range.mpr (by omega))
  rw [show (n == 0) = false by rw [beq_eq_false_iff_ne]; omega, Bool.false_or] at e
  exact List.all_eq_true.mp e l h
theorem okR_of {n : Nat} {l : List Nat} (n1 : 1 ≤ n) (n7 : n ≤ 7) (h : l ∈ AB n) : okR n l = true := by
  have e := List.all_eq_true.mp okR_all n (List.mem_range.mpr (by omega))
  rw [show (n == 0) = false by rw [beq_eq_false_iff_ne]; omega, Bool.false_or] at e
  exact List.all_eq_true.mp e l h
theorem okT_of {n : Nat} {l : List Nat} (n1 : 1 ≤ n) (n7 : n ≤ 7) (h : l ∈ stepsN n) : okT l = true := by
  have e := List.all_eq_true.mp okT_all n (List.mem_range.mpr (by omega))
  rw [show (n == 0) = false by rw [beq_eq_false_iff_ne]; omega, Bool.false_or] at e
  exact List.all_eq_true.mp e l h
theorem ab_word {n : Nat} {l : List Nat} (n1 : 1 ≤ n) (n7 : n ≤ 7) (h : l ∈ AB n) : isWordD (.str (ofL l)) = true := by
  obtain ⟨e1, e2⟩ := ab_in h
  exact isWordD_ofL e2 (by omega) (by omega)
theorem ab_part {n : Nat} {l : List Nat} (n1 : 1 ≤ n) (n7 : n ≤ 7) (h : l ∈ AB n) : PartI (.str (ofL l)) := by
  obtain ⟨e1, e2⟩ := ab_in h
  exact .word l e2 (by omega) (by omega)

def sp_law_even_right : SpD := fun ds S Q _ => ∃ (n : Nat) (l : List Nat), ds = [.str (ofL l)] ∧ 1 ≤ n ∧ n ≤ 7 ∧ l ∈ AB n ∧ Q (.bl true) S
theorem len_law_even_right : ∀ ds S Q E, sp_law_even_right ds S Q E → ds.length = 1 := fun _ _ _ _ ⟨_, _, e, _⟩ => by rw [e]; rfl
theorem clean_ev (z : Str) (d : D) (h : z = "even" ∨ z = "uneven") (p : D) : clean (.tup [.str z, d]) p := by
  refine ⟨fun _ => ?_, fun h => by simp at h, fun h => by simp at h⟩
  rcases h with rfl | rfl <;> exact ⟨by decide, by decide⟩

def sp_law_step_right : SpD := fun ds S Q _ => ∃ (n : Nat) (l : List Nat), ds = [.str (ofL l)] ∧ 2 ≤ n ∧ n ≤ 7 ∧ l ∈ stepsN n ∧ Q (.bl true) S
theorem len_law_step_right : ∀ ds S Q E, sp_law_step_right ds S Q E → ds.length = 1 := fun _ _ _ _ ⟨_, _, e, _⟩ => by rw [e]; rfl

def sp_law_no_way : SpD := fun ds S Q _ => ∃ (n : Nat) (l : List Nat), ds = [.str (ofL l)] ∧ 1 ≤ n ∧ n ≤ 7 ∧ l ∈ AB n ∧ isStepL l = false ∧ Q (.bl true) S
theorem len_law_no_way : ∀ ds S Q E, sp_law_no_way ds S Q E → ds.length = 1 := fun _ _ _ _ ⟨_, _, e, _⟩ => by rw [e]; rfl

/-! readings, printed by gen.py -/
abbrev N_is_whole : List Str := ["thing"]
def t_is_whole (Ed : XKD) : TSD :=
  (dRet (dAndV (dCB rdIsi (dCons (dVar 0) (dCons (dC (.ty "int")) dNil))) (dNotV (dCB rdIsi (dCons (dVar 0) (dCons (dC (.ty "bool")) dNil))))))
theorem st_is_whole (a0 : D) : startD N_is_whole [a0] = [some a0] := rfl
abbrev N_are_wholes : List Str := ["things", "thing"]
def t_are_wholes (Ed : XKD) : TSD :=
  (dRet (dCB rdAll (dCons (dComp (dItr (dVar 0)) (dName 1) dYes (dCall sp_is_whole [] wd0 (dCons (dVar 1) dNil)) [1]) dNil)))
theorem st_are_wholes (a0 : D) : startD N_are_wholes [a0] = [some a0, none] := rfl
abbrev N_shared_by : List Str := ["one", "other"]
def t_shared_by (Ed : XKD) : TSD :=
  (dSeq (dPar 0 1 (dCons (dCB rdAbs (dCons (dVar 0) dNil)) (dCons (dCB rdAbs (dCons (dVar 1) dNil)) dNil)))
  (dSeq (dWhile (dTest (dOp rdGt (dVar 1) (dC (.int 0))))
  (dPar 0 1 (dCons (dVar 1) (dCons (dOp rdMod (dVar 0) (dVar 1)) dNil))))
  (dRet (dVar 0))))
theorem st_shared_by (a0 a1 : D) : startD N_shared_by [a0, a1] = [some a0, some a1] := rfl
abbrev N_is_within : List Str := ["thing", "least", "most"]
def t_is_within (Ed : XKD) : TSD :=
  (dRet (dAndV (dCall sp_is_whole [] (wd Ed) (dCons (dVar 0) dNil)) (dChain rdLe rdLe (dVar 1) (dVar 0) (dVar 2))))
theorem st_is_within (a0 a1 a2 : D) : startD N_is_within [a0, a1, a2] = [some a0, some a1, some a2] := rfl
abbrev N_is_row : List Str := ["thing", "least", "most", "number"]
def t_is_row (Ed : XKD) : TSD :=
  (dSeq (dIfS (dOr (dNot (dTest (dCB rdIsi (dCons (dVar 0) (dCons (dC (.ty "tuple")) dNil))))) (dNot (dTest (dChain rdLe rdLe (dVar 1) (dCB rdLen (dCons (dVar 0) dNil)) (dVar 2))))) (dRet (dC (.bl false))) dNext)
  (dRet (dCB rdAll (dCons (dComp (dItr (dVar 0)) (dName 3) dYes (dCall sp_is_within [] wd0 (dCons (dVar 3) (dCons (dC (.int 1)) (dCons (dC k_MOST_NUMBER) dNil)))) [3]) dNil))))
theorem st_is_row (a0 a1 a2 : D) : startD N_is_row [a0, a1, a2] = [some a0, some a1, some a2, none] := rfl
abbrev N_is_number_ring : List Str := ["thing"]
def t_is_number_ring (Ed : XKD) : TSD :=
  (dRet (dCall sp_is_row [] (wd Ed) (dCons (dVar 0) (dCons (dC (.int 1)) (dCons (dC k_MOST_RING) dNil)))))
theorem st_is_number_ring (a0 : D) : startD N_is_number_ring [a0] = [some a0] := rfl
abbrev N_shortest_part : List Str := ["parts", "many", "size"]
def t_shortest_part (Ed : XKD) : TSD :=
  (dSeq (dSet 1 (dCB rdLen (dCons (dVar 0) dNil)))
  (dSeq (dFor (dRng2 (dCons (dC (.int 1)) (dCons (dVar 1) dNil))) (dName 2)
  (dIfS (dAnd (dTest (dOp rdEq (dOp rdMod (dVar 1) (dVar 2)) (dC (.int 0)))) (dTest (dOp rdEq (dOp rdMulA (dSl (dVar 0) dNoPart (dPart (dVar 2))) (dOp rdFdiv (dVar 1) (dVar 2))) (dVar 0)))) (dRet (dSl (dVar 0) dNoPart (dPart (dVar 2)))) dNext))
  (dRet (dVar 0))))
theorem st_shortest_part (a0 : D) : startD N_shortest_part [a0] = [some a0, none, none] := rfl
abbrev N_is_word : List Str := ["thing", "letter"]
def t_is_word (Ed : XKD) : TSD :=
  (dSeq (dIfS (dOr (dNot (dTest (dCB rdIsi (dCons (dVar 0) (dCons (dC (.ty "str")) dNil))))) (dNot (dTest (dChain rdLe rdLe (dC (.int 1)) (dCB rdLen (dCons (dVar 0) dNil)) (dC k_MOST_LETTERS))))) (dRet (dC (.bl false))) dNext)
  (dRet (dCB rdAll (dCons (dComp (dItr (dVar 0)) (dName 1) dYes (dOp rdInS (dVar 1) (dC k_LETTERS)) [1]) dNil))))
theorem st_is_word (a0 : D) : startD N_is_word [a0] = [some a0, none] := rfl
abbrev N_look_word : List Str := ["thing"]
def t_look_word (Ed : XKD) : TSD :=
  (dIfS (dNot (dTest (dCall sp_is_word [] (wd Ed) (dCons (dVar 0) dNil)))) (dRaise (wd Ed) ⟨"NoWord", [], []⟩) dNext)
theorem st_look_word (a0 : D) : startD N_look_word [a0] = [some a0] := rfl
abbrev N_Ring___init__ : List Str := ["self", "parts"]
def t_Ring___init__ (Ed : XKD) : TSD :=
  (dSeq (dIfS (dAnd (dNot (dTest (dCall sp_is_word [] (wd Ed) (dCons (dVar 1) dNil)))) (dNot (dTest (dCall sp_is_number_ring [] (wd Ed) (dCons (dVar 1) dNil))))) (dRaise (wd Ed) ⟨"NoRing", [], []⟩) dNext)
  (dPut "Ring" "held" (dVar 0) (dVar 1)))
theorem st_Ring___init__ (a0 a1 : D) : startD N_Ring___init__ [a0, a1] = [some a0, some a1] := rfl
abbrev N_Ring_turned : List Str := ["self", "by", "at"]
def t_Ring_turned (Ed : XKD) : TSD :=
  (dSeq (dSet 2 (dOp rdMod (dVar 1) (dCB rdLen (dCons (dFld "Ring" "held" (dVar 0)) dNil))))
  (dRet (dOp rdAdd (dSl (dFld "Ring" "held" (dVar 0)) (dPart (dVar 2)) dNoPart) (dSl (dFld "Ring" "held" (dVar 0)) dNoPart (dPart (dVar 2))))))
theorem st_Ring_turned (a0 a1 : D) : startD N_Ring_turned [a0, a1] = [some a0, some a1, none] := rfl
abbrev N_Ring_least_turn : List Str := ["self"]
def t_Ring_least_turn (Ed : XKD) : TSD :=
  (dRet (dMinB "Ring" "turned" sp_Ring_turned 0 (dCB rdLen (dCons (dFld "Ring" "held" (dVar 0)) dNil))))
theorem st_Ring_least_turn (a0 : D) : startD N_Ring_least_turn [a0] = [some a0] := rfl
abbrev N_Ring_least : List Str := ["self"]
def t_Ring_least (Ed : XKD) : TSD :=
  (dRet (dMeth "Ring" "turned" sp_Ring_turned [] (wd Ed) (dVar 0) (dCons (dMeth "Ring" "least_turn" sp_Ring_least_turn [] (wd Ed) (dVar 0) dNil) dNil)))
theorem st_Ring_least (a0 : D) : startD N_Ring_least [a0] = [some a0] := rfl
abbrev N_Ring_root : List Str := ["self", "part"]
def t_Ring_root (Ed : XKD) : TSD :=
  (dSeq (dSet 1 (dCall sp_shortest_part [] (wd Ed) (dCons (dFld "Ring" "held" (dVar 0)) dNil)))
  (dRet (dTup (dCons (dVar 1) (dCons (dOp rdFdiv (dCB rdLen (dCons (dFld "Ring" "held" (dVar 0)) dNil)) (dCB rdLen (dCons (dVar 1) dNil))) dNil)))))
theorem st_Ring_root (a0 : D) : startD N_Ring_root [a0] = [some a0, none] := rfl
abbrev N_how_many_b : List Str := ["part"]
def t_how_many_b (Ed : XKD) : TSD :=
  (dRet (dBM "str" rdCount (dVar 0) (dCons (dC (.str "b")) dNil)))
theorem st_how_many_b (a0 : D) : startD N_how_many_b [a0] = [some a0] := rfl
abbrev N_uneven_pair : List Str := ["word", "size", "parts", "pair", "place"]
def t_uneven_pair (Ed : XKD) : TSD :=
  (dSeq (dFor (dRng2 (dCons (dC (.int 1)) (dCons (dCB rdLen (dCons (dVar 0) dNil)) dNil))) (dName 1)
  (dSeq (dSet 2 (dComp (dRng1 (dCons (dCB rdLen (dCons (dVar 0) dNil)) dNil)) (dName 4) dYes (dSl (dOp rdAdd (dVar 0) (dVar 0)) (dPart (dVar 4)) (dPart (dOp rdAdd (dVar 4) (dVar 1)))) [4]))
  (dSeq (dSet 3 (dTup (dCons (dKeyed sp_how_many_b true (dVar 2)) (dCons (dKeyed sp_how_many_b false (dVar 2)) dNil))))
  (dIfS (dTest (dOp rdGt (dOp rdSub (dCall sp_how_many_b [] (wd Ed) (dCons (dOp rdIx (dVar 3) (dC (.int 0))) dNil)) (dCall sp_how_many_b [] (wd Ed) (dCons (dOp rdIx (dVar 3) (dC (.int 1))) dNil))) (dC (.int 1)))) (dRet (dVar 3)) dNext))))
  (dRet (dC .non)))
theorem st_uneven_pair (a0 : D) : startD N_uneven_pair [a0] = [some a0, none, none, none, none] := rfl
abbrev N_is_even : List Str := ["word"]
def t_is_even (Ed : XKD) : TSD :=
  (dSeq (dDrop (dCall sp_look_word [] (wd Ed) (dCons (dVar 0) dNil)))
  (dRet (dOp rdIs (dCall sp_uneven_pair [] (wd Ed) (dCons (dVar 0) dNil)) (dC .non))))
theorem st_is_even (a0 : D) : startD N_is_even [a0] = [some a0] := rfl
abbrev N_uneven_parts : List Str := ["word"]
def t_uneven_parts (Ed : XKD) : TSD :=
  (dSeq (dDrop (dCall sp_look_word [] (wd Ed) (dCons (dVar 0) dNil)))
  (dRet (dCall sp_uneven_pair [] (wd Ed) (dCons (dVar 0) dNil))))
theorem st_uneven_parts (a0 : D) : startD N_uneven_parts [a0] = [some a0] := rfl
abbrev N_even_word : List Str := ["many_b", "many_a", "many", "place"]
def t_even_word (Ed : XKD) : TSD :=
  (dSeq (dSet 2 (dOp rdAdd (dVar 0) (dVar 1)))
  (dRet (dBM "str" rdJoin (dC (.str "")) (dCons (dComp (dRng2 (dCons (dC (.int 1)) (dCons (dOp rdAdd (dVar 2) (dC (.int 1))) dNil))) (dName 3) dYes (dOp rdIx (dC (.str "ab")) (dOp rdSub (dOp rdFdiv (dOp rdMulA (dVar 3) (dVar 0)) (dVar 2)) (dOp rdFdiv (dOp rdMulA (dOp rdSub (dVar 3) (dC (.int 1))) (dVar 0)) (dVar 2)))) [3]) dNil))))
theorem st_even_word (a0 a1 : D) : startD N_even_word [a0, a1] = [some a0, some a1, none, none] := rfl
abbrev N_is_step_word : List Str := ["thing", "many_b"]
def t_is_step_word (Ed : XKD) : TSD :=
  (dSeq (dIfS (dNot (dTest (dCall sp_is_word [] (wd Ed) (dCons (dVar 0) dNil)))) (dRet (dC (.bl false))) dNext)
  (dSeq (dSet 1 (dBM "str" rdCount (dVar 0) (dCons (dC (.str "b")) dNil)))
  (dRet (dAndV (dOp rdEq (dCall sp_shared_by [] (wd Ed) (dCons (dVar 1) (dCons (dCB rdLen (dCons (dVar 0) dNil)) dNil))) (dC (.int 1))) (dOp rdEq (dVar 0) (dCall sp_even_word [] (wd Ed) (dCons (dVar 1) (dCons (dOp rdSub (dCB rdLen (dCons (dVar 0) dNil)) (dVar 1)) dNil))))))))
theorem st_is_step_word (a0 : D) : startD N_is_step_word [a0] = [some a0, none] := rfl
abbrev N_look_step_steps : List Str := ["word", "least", "pair"]
def t_look_step_steps (Ed : XKD) : TSD :=
  (dSeq (dDrop (dCall sp_look_word [] (wd Ed) (dCons (dVar 0) dNil)))
  (dSeq (dSet 2 (dCall sp_uneven_pair [] (wd Ed) (dCons (dVar 0) dNil)))
  (dSeq (dIfS (dTest (dOp rdIsNot (dVar 2) (dC .non))) (dRaiseF2 (wd Ed) "Uneven" "one" "other" (dCons (dOp rdIx (dVar 2) (dC (.int 0))) (dCons (dOp rdIx (dVar 2) (dC (.int 1))) dNil))) dNext)
  (dIfS (dOr (dTest (dOp rdLt (dCB rdLen (dCons (dVar 0) dNil)) (dVar 1))) (dNot (dTest (dCall sp_is_step_word [] (wd Ed) (dCons (dVar 0) dNil))))) (dRaise (wd Ed) ⟨"NoStep", [], []⟩) dNext))))
theorem st_look_step_steps (a0 a1 : D) : startD N_look_step_steps [a0, a1] = [some a0, some a1, none] := rfl
abbrev N_cut_by : List Str := ["word", "places", "at"]
def t_cut_by (Ed : XKD) : TSD :=
  (dSeq (dSet 1 (dComp (dRng2 (dCons (dC (.int 1)) (dCons (dCB rdLen (dCons (dVar 0) dNil)) dNil))) (dName 2) (dAnd (dTest (dCall sp_is_step_word [] wd0 (dCons (dSl (dVar 0) dNoPart (dPart (dVar 2))) dNil))) (dTest (dCall sp_is_step_word [] wd0 (dCons (dSl (dVar 0) (dPart (dVar 2)) dNoPart) dNil)))) (dVar 2) [2]))
  (dRet (dTup (dCons (dSl (dVar 0) dNoPart (dPart (dOp rdIx (dVar 1) (dC (.int 0))))) (dCons (dSl (dVar 0) (dPart (dOp rdIx (dVar 1) (dC (.int 0)))) dNoPart) dNil)))))
theorem st_cut_by (a0 : D) : startD N_cut_by [a0] = [some a0, none, none] := rfl
abbrev N_cut_of : List Str := ["word"]
def t_cut_of (Ed : XKD) : TSD :=
  (dSeq (dDrop (dCall sp_look_step_steps [] (wd Ed) (dCons (dVar 0) (dCons (dC (.int 2)) dNil))))
  (dRet (dCall sp_cut_by [] (wd Ed) (dCons (dVar 0) dNil))))
theorem st_cut_of (a0 : D) : startD N_cut_of [a0] = [some a0] := rfl
abbrev N_way_by_left : List Str := ["first", "second"]
def t_way_by_left (n : Nat) (Ed : XKD) : TSD :=
  (dRet (dOp rdAdd (dCall (sp_way_to n) [] (wd Ed) (dCons (dVar 0) (dCons (dSl (dVar 1) (dPart (dCB rdLen (dCons (dVar 0) dNil))) dNoPart) dNil))) (dC (.str "l"))))
theorem st_way_by_left (a0 a1 : D) : startD N_way_by_left [a0, a1] = [some a0, some a1] := rfl
abbrev N_way_by_right : List Str := ["first", "second"]
def t_way_by_right (n : Nat) (Ed : XKD) : TSD :=
  (dRet (dOp rdAdd (dCall (sp_way_to n) [] (wd Ed) (dCons (dSl (dVar 0) dNoPart (dPart (dOp rdSub (dCB rdLen (dCons (dVar 0) dNil)) (dCB rdLen (dCons (dVar 1) dNil))))) (dCons (dVar 1) dNil))) (dC (.str "r"))))
theorem st_way_by_right (a0 a1 : D) : startD N_way_by_right [a0, a1] = [some a0, some a1] := rfl
abbrev N_way_to : List Str := ["first", "second"]
def t_way_to (n : Nat) (Ed : XKD) : TSD :=
  (dSeq (dIfS (dTest (dOp rdLt (dCB rdLen (dCons (dVar 0) dNil)) (dCB rdLen (dCons (dVar 1) dNil)))) (dRet (dCall (sp_way_by_left n) [] (wd Ed) (dCons (dVar 0) (dCons (dVar 1) dNil)))) dNext)
  (dSeq (dIfS (dTest (dOp rdGt (dCB rdLen (dCons (dVar 0) dNil)) (dCB rdLen (dCons (dVar 1) dNil)))) (dRet (dCall (sp_way_by_right n) [] (wd Ed) (dCons (dVar 0) (dCons (dVar 1) dNil)))) dNext)
  (dRet (dC (.str "")))))
theorem st_way_to (a0 a1 : D) : startD N_way_to [a0, a1] = [some a0, some a1] := rfl
abbrev N_way_of_word : List Str := ["word", "first", "second"]
def t_way_of_word (Ed : XKD) : TSD :=
  (dSeq (dAsg (dCall sp_cut_of [] (wd Ed) (dCons (dVar 0) dNil)) (dTupG 2 (dGCons (dName 1) (dGCons (dName 2) dGNil))))
  (dRet (dCall (sp_way_to 58) [] (wd Ed) (dCons (dVar 1) (dCons (dVar 2) dNil)))))
theorem st_way_of_word (a0 : D) : startD N_way_of_word [a0] = [some a0, none, none] := rfl
abbrev N_look_way : List Str := ["way", "letter"]
def t_look_way (Ed : XKD) : TSD :=
  (dIfS (dOr (dNot (dTest (dCB rdIsi (dCons (dVar 0) (dCons (dC (.ty "str")) dNil))))) (dNot (dTest (dCB rdAll (dCons (dComp (dItr (dVar 0)) (dName 1) dYes (dOp rdInS (dVar 1) (dC k_WAY_LETTERS)) [1]) dNil))))) (dRaise (wd Ed) ⟨"NoWay", [], []⟩) dNext)
theorem st_look_way (a0 : D) : startD N_look_way [a0] = [some a0, none] := rfl
abbrev N_word_of_way : List Str := ["way", "first", "second", "letter", "both"]
def t_word_of_way (Ed : XKD) : TSD :=
  (dSeq (dDrop (dCall sp_look_way [] (wd Ed) (dCons (dVar 0) dNil)))
  (dSeq (dAsg (dTup (dCons (dC (.str "a")) (dCons (dC (.str "b")) dNil))) (dTupG 2 (dGCons (dName 1) (dGCons (dName 2) dGNil))))
  (dSeq (dFor (dItr (dVar 0)) (dName 3)
  (dSeq (dSet 4 (dOp rdAdd (dVar 1) (dVar 2)))
  (dSeq (dIfS (dTest (dOp rdEq (dVar 3) (dC (.str "l")))) (dSet 2 (dVar 4)) (dSet 1 (dVar 4)))
  (dIfS (dTest (dOp rdGt (dOp rdAdd (dCB rdLen (dCons (dVar 1) dNil)) (dCB rdLen (dCons (dVar 2) dNil))) (dC k_MOST_LETTERS))) (dRaiseF1 (wd Ed) "TooMany" "most" (dCons (dC k_MOST_LETTERS) dNil)) dNext))))
  (dRet (dOp rdAdd (dVar 1) (dVar 2))))))
theorem st_word_of_way (a0 : D) : startD N_word_of_way [a0] = [some a0, none, none, none, none] := rfl
abbrev N_is_pair_of : List Str := ["thing"]
def t_is_pair_of (Ed : XKD) : TSD :=
  (dRet (dAndV (dCB rdIsi (dCons (dVar 0) (dCons (dC (.ty "tuple")) dNil))) (dOp rdEq (dCB rdLen (dCons (dVar 0) dNil)) (dC (.int 2)))))
theorem st_is_pair_of (a0 : D) : startD N_is_pair_of [a0] = [some a0] := rfl
abbrev N_is_table : List Str := ["thing", "row"]
def t_is_table (Ed : XKD) : TSD :=
  (dRet (dAndV (dCall sp_is_pair_of [] (wd Ed) (dCons (dVar 0) dNil)) (dCB rdAll (dCons (dComp (dItr (dVar 0)) (dName 1) dYes (dAndV (dCall sp_is_pair_of [] wd0 (dCons (dVar 1) dNil)) (dCall sp_are_wholes [] wd0 (dCons (dVar 1) dNil))) [1]) dNil))))
theorem st_is_table (a0 : D) : startD N_is_table [a0] = [some a0, none] := rfl
abbrev N_size_of : List Str := ["table", "p", "q", "r", "s"]
def t_size_of (Ed : XKD) : TSD :=
  (dSeq (dAsg (dVar 0) (dTupG 2 (dGCons (dTupG 2 (dGCons (dName 1) (dGCons (dName 2) dGNil))) (dGCons (dTupG 2 (dGCons (dName 3) (dGCons (dName 4) dGNil))) dGNil))))
  (dRet (dOp rdSub (dOp rdMulA (dVar 1) (dVar 4)) (dOp rdMulA (dVar 2) (dVar 3)))))
theorem st_size_of (a0 : D) : startD N_size_of [a0] = [some a0, none, none, none, none] := rfl
abbrev N_joined : List Str := ["one", "other", "p", "q", "r", "s", "a", "b", "c", "d"]
def t_joined (Ed : XKD) : TSD :=
  (dSeq (dAsg (dVar 0) (dTupG 2 (dGCons (dTupG 2 (dGCons (dName 2) (dGCons (dName 3) dGNil))) (dGCons (dTupG 2 (dGCons (dName 4) (dGCons (dName 5) dGNil))) dGNil))))
  (dSeq (dAsg (dVar 1) (dTupG 2 (dGCons (dTupG 2 (dGCons (dName 6) (dGCons (dName 7) dGNil))) (dGCons (dTupG 2 (dGCons (dName 8) (dGCons (dName 9) dGNil))) dGNil))))
  (dRet (dTup (dCons (dTup (dCons (dOp rdAdd (dOp rdMulA (dVar 2) (dVar 6)) (dOp rdMulA (dVar 3) (dVar 8))) (dCons (dOp rdAdd (dOp rdMulA (dVar 2) (dVar 7)) (dOp rdMulA (dVar 3) (dVar 9))) dNil))) (dCons (dTup (dCons (dOp rdAdd (dOp rdMulA (dVar 4) (dVar 6)) (dOp rdMulA (dVar 5) (dVar 8))) (dCons (dOp rdAdd (dOp rdMulA (dVar 4) (dVar 7)) (dOp rdMulA (dVar 5) (dVar 9))) dNil))) dNil))))))
theorem st_joined (a0 a1 : D) : startD N_joined [a0, a1] = [some a0, some a1, none, none, none, none, none, none, none, none] := rfl
abbrev N_contrary_by : List Str := ["table", "p", "q", "r", "s", "size"]
def t_contrary_by (Ed : XKD) : TSD :=
  (dSeq (dAsg (dVar 0) (dTupG 2 (dGCons (dTupG 2 (dGCons (dName 1) (dGCons (dName 2) dGNil))) (dGCons (dTupG 2 (dGCons (dName 3) (dGCons (dName 4) dGNil))) dGNil))))
  (dSeq (dSet 5 (dCall sp_size_of [] (wd Ed) (dCons (dVar 0) dNil)))
  (dRet (dTup (dCons (dTup (dCons (dOp rdMulA (dVar 4) (dVar 5)) (dCons (dOp rdSub (dC (.int 0)) (dOp rdMulA (dVar 2) (dVar 5))) dNil))) (dCons (dTup (dCons (dOp rdSub (dC (.int 0)) (dOp rdMulA (dVar 3) (dVar 5))) (dCons (dOp rdMulA (dVar 1) (dVar 5)) dNil))) dNil))))))
theorem st_contrary_by (a0 : D) : startD N_contrary_by [a0] = [some a0, none, none, none, none, none] := rfl
abbrev N_table_by : List Str := ["word", "found", "letter"]
def t_table_by (Ed : XKD) : TSD :=
  (dSeq (dSet 1 (dC k_UNIT))
  (dSeq (dFor (dItr (dVar 0)) (dName 2)
  (dSet 1 (dCall sp_joined [] (wd Ed) (dCons (dVar 1) (dCons (dKix k_LETTER_TABLES (dVar 2)) dNil)))))
  (dRet (dVar 1))))
theorem st_table_by (a0 : D) : startD N_table_by [a0] = [some a0, none, none] := rfl
abbrev N_table_of : List Str := ["word"]
def t_table_of (Ed : XKD) : TSD :=
  (dSeq (dDrop (dCall sp_look_word [] (wd Ed) (dCons (dVar 0) dNil)))
  (dRet (dCall sp_table_by [] (wd Ed) (dCons (dVar 0) dNil))))
theorem st_table_of (a0 : D) : startD N_table_of [a0] = [some a0] := rfl
abbrev N_first_letter : List Str := ["table"]
def t_first_letter (Ed : XKD) : TSD :=
  (dRet (dOp rdIx (dC (.str "ab")) (dCB rdInt (dCons (dOp rdGt (dOp rdIx (dOp rdIx (dVar 0) (dC (.int 0))) (dC (.int 0))) (dOp rdMulA (dC (.int 2)) (dOp rdIx (dOp rdIx (dVar 0) (dC (.int 1))) (dC (.int 0))))) dNil))))
theorem st_first_letter (a0 : D) : startD N_first_letter [a0] = [some a0] := rfl
abbrev N_word_of : List Str := ["table", "word"]
def t_word_of (Ed : XKD) : TSD :=
  (dSeq (dIfS (dOr (dNot (dTest (dCall sp_is_table [] (wd Ed) (dCons (dVar 0) dNil)))) (dTest (dOp rdEq (dVar 0) (dC k_UNIT)))) (dRaise (wd Ed) ⟨"NoTable", [], []⟩) dNext)
  (dSeq (dSet 1 (dC (.str "")))
  (dSeq (dWhile (dTest (dOp rdNe (dVar 0) (dC k_UNIT)))
  (dSeq (dIfS (dTest (dOp rdEq (dCB rdLen (dCons (dVar 1) dNil)) (dC k_MOST_LETTERS))) (dRaise (wd Ed) ⟨"NoTable", [], []⟩) dNext)
  (dSeq (dAug 1 (dCall sp_first_letter [] (wd Ed) (dCons (dVar 0) dNil)) rdIadd)
  (dSet 0 (dCall sp_joined [] (wd Ed) (dCons (dCall sp_contrary_by [] (wd Ed) (dCons (dKix k_LETTER_TABLES (dOp rdIx (dVar 1) (dUn rdNeg (dC (.int 1))))) dNil)) (dCons (dVar 0) dNil)))))))
  (dRet (dVar 1)))))
theorem st_word_of (a0 : D) : startD N_word_of [a0] = [some a0, none] := rfl
abbrev N_is_tuple_of : List Str := ["thing", "many"]
def t_is_tuple_of (Ed : XKD) : TSD :=
  (dRet (dAndV (dCB rdIsi (dCons (dVar 0) (dCons (dC (.ty "tuple")) dNil))) (dOp rdEq (dCB rdLen (dCons (dVar 0) dNil)) (dVar 1))))
theorem st_is_tuple_of (a0 a1 : D) : startD N_is_tuple_of [a0, a1] = [some a0, some a1] := rfl
abbrev N_is_part_of : List Str := ["thing", "word"]
def t_is_part_of (Ed : XKD) : TSD :=
  (dRet (dAndV (dCall sp_is_word [] (wd Ed) (dCons (dVar 0) dNil)) (dAndV (dOp rdLe (dCB rdLen (dCons (dVar 0) dNil)) (dCB rdLen (dCons (dVar 1) dNil))) (dOp rdInT (dVar 0) (dOp rdAdd (dVar 1) (dVar 1))))))
theorem st_is_part_of (a0 a1 : D) : startD N_is_part_of [a0, a1] = [some a0, some a1] := rfl
abbrev N_even_holds : List Str := ["word", "paper"]
def t_even_holds (Ed : XKD) : TSD :=
  (dRet (dAndV (dOp rdIs (dVar 1) (dC .non)) (dAndV (dCall sp_is_word [] (wd Ed) (dCons (dVar 0) dNil)) (dCall sp_is_even [] (wd Ed) (dCons (dVar 0) dNil)))))
theorem st_even_holds (a0 a1 : D) : startD N_even_holds [a0, a1] = [some a0, some a1] := rfl
abbrev N_uneven_holds : List Str := ["word", "paper", "one", "other", "part"]
def t_uneven_holds (Ed : XKD) : TSD :=
  (dSeq (dIfS (dOr (dNot (dTest (dCall sp_is_word [] (wd Ed) (dCons (dVar 0) dNil)))) (dOr (dNot (dTest (dCall sp_is_tuple_of [] (wd Ed) (dCons (dVar 1) (dCons (dC (.int 2)) dNil))))) (dNot (dTest (dCB rdAll (dCons (dComp (dItr (dVar 1)) (dName 4) dYes (dCall sp_is_part_of [] wd0 (dCons (dVar 4) (dCons (dVar 0) dNil))) [4]) dNil)))))) (dRet (dC (.bl false))) dNext)
  (dSeq (dAsg (dVar 1) (dTupG 2 (dGCons (dName 2) (dGCons (dName 3) dGNil))))
  (dRet (dAndV (dOp rdEq (dCB rdLen (dCons (dVar 2) dNil)) (dCB rdLen (dCons (dVar 3) dNil))) (dOp rdGt (dOp rdSub (dBM "str" rdCount (dVar 2) (dCons (dC (.str "b")) dNil)) (dBM "str" rdCount (dVar 3) (dCons (dC (.str "b")) dNil))) (dC (.int 1)))))))
theorem st_uneven_holds (a0 a1 : D) : startD N_uneven_holds [a0, a1] = [some a0, some a1, none, none, none] := rfl
abbrev N_holds : List Str := ["claim", "paper", "word", "many", "look"]
def t_holds (Ed : XKD) : TSD :=
  (dSeq (dIfS (dOr (dNot (dTest (dCB rdIsi (dCons (dVar 0) (dCons (dC (.ty "tuple")) dNil))))) (dOr (dTest (dOp rdEq (dCB rdLen (dCons (dVar 0) dNil)) (dC (.int 0)))) (dNot (dTest (dCB rdIsi (dCons (dOp rdIx (dVar 0) (dC (.int 0))) (dCons (dC (.ty "str")) dNil))))))) (dRet (dC (.bl false))) dNext)
  (dSeq (dPar 2 3 (dCons (dOp rdIx (dVar 0) (dC (.int 0))) (dCons (dOp rdSub (dCB rdLen (dCons (dVar 0) dNil)) (dC (.int 1))) dNil)))
  (dSeq (dIfS (dAnd (dTest (dOp rdEq (dVar 3) (dC (.int 1)))) (dTest (dKin ["even", "uneven", "below", "above"] (dVar 2)))) (dSeq (dSet 4 (dKix k_HOLD (dVar 2)))
  (dRet (dCallV 4 [("even_holds", sp_even_holds), ("uneven_holds", sp_uneven_holds)] (wd Ed) (dCons (dOp rdIx (dVar 0) (dC (.int 1))) (dCons (dVar 1) dNil))))) dNext)
  (dSeq (dIfS (dAnd (dTest (dOp rdEq (dVar 3) (dC (.int 2)))) (dTest (dKin ["same"] (dVar 2)))) (dSeq dNever
  dNever) dNext)
  (dSeq (dIfS (dAnd (dTest (dOp rdEq (dVar 3) (dC (.int 3)))) (dTest (dKin ["triple", "form below", "form above"] (dVar 2)))) (dSeq dNever
  dNever) dNext)
  (dRet (dC (.bl false))))))))
theorem st_holds (a0 a1 : D) : startD N_holds [a0, a1] = [some a0, some a1, none, none, none] := rfl
abbrev N_law_urn : List Str := ["_law_script", "_law_at", "_law_cell", "_law_great"]
def t_law_urn (Ed : XKD) : TSD :=
  (dSeq (dSet 2 (dC (.int 0)))
  (dSeq (dIfS (dTest (dOp rdLt (dVar 1) (dCB rdLen (dCons (dVar 0) dNil)))) (dSet 2 (dOp rdIx (dVar 0) (dVar 1))) dNext)
  (dSeq (dSet 3 (dCB rdAbs (dCons (dVar 2) dNil)))
  (dSeq (dIfS (dTest (dOp rdLt (dVar 3) (dOp rdPow (dC (.int 10)) (dC (.int 18))))) (dSet 3 (dC (.int 0))) dNext)
  (dRet (dLstO (dCons (dVar 3) (dCons (dOp rdAdd (dOp rdAdd (dOp rdAdd (dOp rdMod (dVar 2) (dC (.int 1000000000000000003))) (dOp rdMulA (dOp rdMulA (dC (.int 97)) (dVar 1)) (dVar 1))) (dOp rdMulA (dC (.int 31)) (dVar 1))) (dC (.int 1))) (dCons (dC (.int 0)) dNil)))))))))
theorem st_law_urn (a0 a1 : D) : startD N_law_urn [a0, a1] = [some a0, some a1, none, none] := rfl
abbrev N_law_draw : List Str := ["_law_urn_here", "_law_wide", "_law_digit", "_law_primes", "_law_step", "_law_base", "_law_mixed"]
def t_law_draw (Ed : XKD) : TSD :=
  (dSeq (dIfS (dTest (dOp rdGt (dOp rdIx (dVar 0) (dC (.int 0))) (dC (.int 0)))) (dSeq (dSet 2 (dOp rdMod (dOp rdIx (dVar 0) (dC (.int 0))) (dVar 1)))
  (dSeq (dStore (dVar 0) (dC (.int 0)) (dOp rdFdiv (dOp rdIx (dVar 0) (dC (.int 0))) (dVar 1)))
  (dRet (dVar 2)))) dNext)
  (dSeq (dSet 3 (dTup (dCons (dC (.int 2147483647)) (dCons (dC (.int 2147483629)) (dCons (dC (.int 2147483587)) (dCons (dC (.int 2147483579)) (dCons (dC (.int 2147483563)) (dCons (dC (.int 2147483549)) (dCons (dC (.int 2147483543)) dNil)))))))))
  (dSeq (dStore (dVar 0) (dC (.int 2)) (dOp rdAdd (dOp rdIx (dVar 0) (dC (.int 2))) (dC (.int 1))))
  (dSeq (dSet 4 (dOp rdIx (dVar 0) (dC (.int 2))))
  (dSeq (dSet 5 (dOp rdAdd (dOp rdAdd (dOp rdMulA (dOp rdIx (dVar 0) (dC (.int 1))) (dOp rdAdd (dOp rdMulA (dC (.int 2)) (dVar 4)) (dC (.int 1)))) (dOp rdMulA (dOp rdMulA (dC (.int 6007)) (dVar 4)) (dVar 4))) (dC (.int 53))))
  (dSeq (dSet 6 (dOp rdMod (dOp rdPow (dVar 5) (dC (.int 3))) (dOp rdIx (dVar 3) (dOp rdMod (dVar 4) (dC (.int 7))))))
  (dRet (dOp rdMod (dOp rdFdiv (dOp rdMod (dOp rdMulA (dVar 6) (dOp rdAdd (dOp rdFdiv (dVar 6) (dC (.int 8191))) (dVar 4))) (dOp rdIx (dVar 3) (dOp rdMod (dOp rdAdd (dVar 4) (dC (.int 3))) (dC (.int 7))))) (dC (.int 16))) (dVar 1)))))))))
theorem st_law_draw (a0 a1 : D) : startD N_law_draw [a0, a1] = [some a0, some a1, none, none, none, none, none] := rfl
abbrev N_law_shared : List Str := ["_law_one", "_law_other"]
def t_law_shared (Ed : XKD) : TSD :=
  (dSeq (dPar 0 1 (dCons (dCB rdAbs (dCons (dVar 0) dNil)) (dCons (dCB rdAbs (dCons (dVar 1) dNil)) dNil)))
  (dSeq (dWhile (dTest (dOp rdGt (dVar 1) (dC (.int 0))))
  (dPar 0 1 (dCons (dVar 1) (dCons (dOp rdMod (dVar 0) (dVar 1)) dNil))))
  (dRet (dVar 0))))
theorem st_law_shared (a0 a1 : D) : startD N_law_shared [a0, a1] = [some a0, some a1] := rfl
abbrev N_law_all_words : List Str := ["_law_many", "_law_found", "_law_turn", "_law_longer", "_law_word"]
def t_law_all_words (Ed : XKD) : TSD :=
  (dSeq (dSet 1 (dLst (dCons (dC (.str "")) dNil)))
  (dSeq (dFor (dRng1 (dCons (dVar 0) dNil)) (dName 2)
  (dSeq (dSet 3 (dLstO dNil))
  (dSeq (dFor (dItr (dVar 1)) (dName 4)
  (dDrop (dBM "list" rdExt (dVar 3) (dCons (dLst (dCons (dOp rdAdd (dVar 4) (dC (.str "a"))) (dCons (dOp rdAdd (dVar 4) (dC (.str "b"))) dNil))) dNil))))
  (dFrzV 3 (dSet 1 (dVar 3))))))
  (dRet (dVar 1))))
theorem st_law_all_words (a0 : D) : startD N_law_all_words [a0] = [some a0, none, none, none, none] := rfl
abbrev N_law_even_right : List Str := ["_law_word", "_law_many_b", "_law_due", "_law_even", "_law_pair", "_law_one", "_law_other", "_law_k"]
def t_law_even_right (Ed : XKD) : TSD :=
  (dSeq (dSet 1 (dBM "str" rdCount (dVar 0) (dCons (dC (.str "b")) dNil)))
  (dSeq (dSet 2 (dCall sp_even_word [] (wd Ed) (dCons (dVar 1) (dCons (dOp rdSub (dCB rdLen (dCons (dVar 0) dNil)) (dVar 1)) dNil))))
  (dSeq (dSet 3 (dOp (rdInD false) (dVar 2) (dComp (dRng1 (dCons (dCB rdLen (dCons (dVar 0) dNil)) dNil)) (dName 7) dYes (dOp rdAdd (dSl (dVar 0) (dPart (dVar 7)) dNoPart) (dSl (dVar 0) dNoPart (dPart (dVar 7)))) [7])))
  (dSeq (dSet 4 (dCall sp_uneven_parts [] (wd Ed) (dCons (dVar 0) dNil)))
  (dSeq (dIfS (dOr (dTest (dOp rdNe (dCall sp_is_even [] (wd Ed) (dCons (dVar 0) dNil)) (dVar 3))) (dOr (dTest (dOp rdNe (dOp rdIs (dVar 4) (dC .non)) (dVar 3))) (dTest (dOp rdNe (dCall sp_holds [] (wd Ed) (dCons (dTup (dCons (dC (.str "even")) (dCons (dVar 0) dNil))) (dCons (dC .non) dNil))) (dVar 3))))) (dRet (dC (.bl false))) dNext)
  (dSeq (dIfS (dTest (dOp rdIs (dVar 4) (dC .non))) (dRet (dC (.bl true))) dNext)
  (dSeq (dAsg (dVar 4) (dTupG 2 (dGCons (dName 5) (dGCons (dName 6) dGNil))))
  (dSeq (dIfS (dOr (dTest (dOp rdNe (dCB rdLen (dCons (dVar 5) dNil)) (dCB rdLen (dCons (dVar 6) dNil)))) (dTest (dOp rdLt (dBM "str" rdCount (dVar 5) (dCons (dC (.str "b")) dNil)) (dOp rdAdd (dBM "str" rdCount (dVar 6) (dCons (dC (.str "b")) dNil)) (dC (.int 2)))))) (dRet (dC (.bl false))) dNext)
  (dRet (dAndV (dOp rdInT (dVar 5) (dOp rdAdd (dVar 0) (dVar 0))) (dAndV (dOp rdInT (dVar 6) (dOp rdAdd (dVar 0) (dVar 0))) (dOp rdIs (dCall sp_holds [] (wd Ed) (dCons (dTup (dCons (dC (.str "uneven")) (dCons (dVar 0) dNil))) (dCons (dVar 4) dNil))) (dC (.bl true))))))))))))))
theorem st_law_even_right (a0 : D) : startD N_law_even_right [a0] = [some a0, none, none, none, none, none, none, none] := rfl
abbrev N_law_step_right : List Str := ["_law_word", "_law_way", "_law_first", "_law_second", "_law_p", "_law_q", "_law_r", "_law_s"]
def t_law_step_right (Ed : XKD) : TSD :=
  (dSeq (dAsg (dTup (dCons (dCall sp_way_of_word [] (wd Ed) (dCons (dVar 0) dNil)) (dCons (dCall sp_cut_of [] (wd Ed) (dCons (dVar 0) dNil)) dNil))) (dTupG 2 (dGCons (dName 1) (dGCons (dTupG 2 (dGCons (dName 2) (dGCons (dName 3) dGNil))) dGNil))))
  (dSeq (dIfS (dOr (dTest (dOp rdNe (dOp rdAdd (dVar 2) (dVar 3)) (dVar 0))) (dOr (dNot (dTest (dCall sp_is_step_word [] (wd Ed) (dCons (dVar 2) dNil)))) (dNot (dTest (dCall sp_is_step_word [] (wd Ed) (dCons (dVar 3) dNil)))))) (dRet (dC (.bl false))) dNext)
  (dSeq (dAsg (dCall sp_table_of [] (wd Ed) (dCons (dVar 0) dNil)) (dTupG 2 (dGCons (dTupG 2 (dGCons (dName 4) (dGCons (dName 5) dGNil))) (dGCons (dTupG 2 (dGCons (dName 6) (dGCons (dName 7) dGNil))) dGNil))))
  (dSeq (dIfS (dOr (dTest (dOp rdNe (dOp rdAdd (dVar 4) (dVar 7)) (dOp rdMulA (dC (.int 3)) (dVar 5)))) (dOr (dTest (dOp rdNe (dOp rdSub (dOp rdMulA (dVar 4) (dVar 7)) (dOp rdMulA (dVar 5) (dVar 6))) (dC (.int 1)))) (dTest (dOp rdNe (dCall sp_word_of [] (wd Ed) (dCons (dTup (dCons (dTup (dCons (dVar 4) (dCons (dVar 5) dNil))) (dCons (dTup (dCons (dVar 6) (dCons (dVar 7) dNil))) dNil))) dNil)) (dVar 0))))) (dRet (dC (.bl false))) dNext)
  (dRet (dOp rdEq (dCall sp_word_of_way [] (wd Ed) (dCons (dVar 1) dNil)) (dVar 0)))))))
theorem st_law_step_right (a0 : D) : startD N_law_step_right [a0] = [some a0, none, none, none, none, none, none, none] := rfl
abbrev N_law_no_way : List Str := ["_law_word"]
def t_law_no_way (Ed : XKD) : TSD :=
  (dTry rsX (fun Wd => (dRet (dOp rdIs (dCall sp_way_of_word [] Wd (dCons (dVar 0) dNil)) (dC .non)))) [⟨["Uneven", "NoStep"], none, fun a od x => (dRet (dC (.bl true)))⟩] (wd Ed))
theorem st_law_no_way (a0 : D) : startD N_law_no_way [a0] = [some a0] := rfl
abbrev N_law : List Str := ["_law_script", "_law_at", "_law_urn_here", "_law_many", "_law_words", "_law_steps", "_law_leasts", "_law_counts", "_law_word", "_law_part", "_law_times", "_law_ways", "_law_k"]
def t_law (Ed : XKD) : TSD :=
  (dSeq (dFor (dRng1 (dCons (dCB rdMax2 (dCons (dC (.int 1)) (dCons (dCB rdMin2 (dCons (dC (.int 2)) (dCons (dCB rdLen (dCons (dVar 0) dNil)) dNil))) dNil))) dNil)) (dName 1)
  (dSeq (dSet 2 (dCall sp_law_urn [] (wd Ed) (dCons (dVar 0) (dCons (dVar 1) dNil))))
  (dSeq (dSet 3 (dOp rdAdd (dC (.int 1)) (dCall sp_law_draw [] (wd Ed) (dCons (dVar 2) (dCons (dC (.int 7)) dNil)))))
  (dSeq (dSet 4 (dCall sp_law_all_words [] (wd Ed) (dCons (dVar 3) dNil)))
  (dSeq (dSet 5 (dComp (dItr (dVar 4)) (dName 8) (dTest (dCall sp_is_step_word [] wd0 (dCons (dVar 8) dNil))) (dVar 8) [8]))
  (dSeq (dSet 6 (dComp (dItr (dVar 4)) (dName 8) dYes (dMeth "Ring" "least" sp_Ring_least [] wd0 (dMake "Ring" sp_Ring___init__ [] wd0 (dCons (dVar 8) dNil)) dNil) [8]))
  (dSeq (dSet 7 (dComp (dRng1 (dCons (dOp rdAdd (dVar 3) (dC (.int 1))) dNil)) (dName 12) (dTest (dOp rdEq (dCall sp_law_shared [] wd0 (dCons (dVar 12) (dCons (dVar 3) dNil))) (dC (.int 1)))) (dVar 12) [12]))
  (dSeq (dIfS (dOr (dTest (dOp rdNe (dCB rdLen (dCons (dVar 5) dNil)) (dCB rdLen (dCons (dVar 7) dNil)))) (dTest (dOp rdNe (dCB rdSorted (dCons (dComp (dItr (dVar 5)) (dName 8) dYes (dBM "str" rdCount (dVar 8) (dCons (dC (.str "b")) dNil)) [8]) dNil)) (dVar 7)))) (dRet (dC (.bl false))) dNext)
  (dSeq (dFor (dItr (dVar 4)) (dName 8)
  (dSeq (dIfS (dNot (dTest (dCall sp_law_even_right [] (wd Ed) (dCons (dVar 8) dNil)))) (dRet (dC (.bl false))) dNext)
  (dSeq (dAsg (dMeth "Ring" "root" sp_Ring_root [] (wd Ed) (dMake "Ring" sp_Ring___init__ [] (wd Ed) (dCons (dVar 8) dNil)) dNil) (dTupG 2 (dGCons (dName 9) (dGCons (dName 10) dGNil))))
  (dSeq (dIfS (dOr (dTest (dOp rdNe (dOp rdMulA (dVar 9) (dVar 10)) (dVar 8))) (dTest (dOp rdNe (dBM "list" rdLstCntS (dVar 6) (dCons (dMeth "Ring" "least" sp_Ring_least [] (wd Ed) (dMake "Ring" sp_Ring___init__ [] (wd Ed) (dCons (dVar 8) dNil)) dNil) dNil)) (dCB rdLen (dCons (dVar 9) dNil))))) (dRet (dC (.bl false))) dNext)
  (dSeq (dIfS (dAnd (dTest (dOp (rdInD false) (dVar 8) (dVar 5))) (dTest (dOp rdNe (dCall sp_even_word [] (wd Ed) (dCons (dBM "str" rdCount (dVar 8) (dCons (dC (.str "b")) dNil)) (dCons (dBM "str" rdCount (dVar 8) (dCons (dC (.str "a")) dNil)) dNil))) (dVar 8)))) (dRet (dC (.bl false))) dNext)
  (dIfS (dAnd (dTest (dOp (rdInD true) (dVar 8) (dVar 5))) (dNot (dTest (dCall sp_law_no_way [] (wd Ed) (dCons (dVar 8) dNil))))) (dRet (dC (.bl false))) dNext))))))
  (dSeq (dIfS (dAnd (dTest (dOp rdGt (dVar 3) (dC (.int 1)))) (dNot (dTest (dCB rdAll (dCons (dComp (dItr (dVar 5)) (dName 8) dYes (dCall sp_law_step_right [] wd0 (dCons (dVar 8) dNil)) [8]) dNil))))) (dRet (dC (.bl false))) dNext)
  (dSeq (dSet 11 (dComp (dItr (dVar 5)) (dName 8) (dTest (dOp rdGt (dVar 3) (dC (.int 1)))) (dCall sp_way_of_word [] wd0 (dCons (dVar 8) dNil)) [8]))
  (dIfS (dOr (dTest (dOp rdNe (dLenSetS (dVar 11)) (dCB rdLen (dCons (dVar 11) dNil)))) (dTest (dOp rdNe (dLenSetT (dComp (dItr (dVar 4)) (dName 8) dYes (dCall sp_table_of [] wd0 (dCons (dVar 8) dNil)) [8])) (dCB rdLen (dCons (dVar 4) dNil))))) (dRet (dC (.bl false))) dNext))))))))))))
  (dRet (dC (.bl true))))
theorem st_law (a0 : D) : startD N_law [a0] = [some a0, none, none, none, none, none, none, none, none, none, none, none, none] := rfl

local macro_rules | `(tactic| walk_at "dy") => `(tactic| simp only [dCall, List.append_nil, dSeq, dSet, dIfS, dRet, dNext, dTest, dOp, dCB, dCons, dNil, dC, x_var0, x_varS, dTup, dLst, dLstO, dAndV, dOrV, dNotV, dAnd, dOr, dNot, dIf, dChain, dChain3, dStore, dBM, dDrop, dAsg, dTupG, x_tupL, x_tupX, dPlain, x_mulL, x_eqO_ss, x_neO_ss, dBM0, dGCons, dGNil, dName, dUn, dPar, dPar3, dSl, dPart, dNoPart, dRev, dBk, dFor, dItr, dRng1, dRng2,
  x_add_ii, x_add_ib, x_add_ss, x_add_tt, x_add_ll, x_sub, x_mul, x_mul_s, x_mulA, x_mulA_s, x_mulA_t, dCallK, sel_n1, sel_n2, sel_x2, sel_12, dZip, zipR, x_fdiv, x_mod, x_pow, x_neg, x_lt, x_le, x_gt, x_ge, x_eq_ii, x_eq_ss, x_eq_bb, x_ne_ii, x_ne_ss, x_ne_bb, x_abs, x_str_i, x_str_s, x_divmod, x_max2, x_min2, x_int_i, x_int_b, x_tupA_l, x_tupA_t, x_tupA_s, x_listA_l, x_listA_t, x_listA_s, x_sl_t, x_sl_l, x_sl_s, x_ixs, x_ixQ, x_ixS, atI_0, atI_1, atI_2, atI_3, x_inS, x_inT, x_notInT, dKin, dHT, dKeyed, keyR, dSumT, x_is_bb, x_isNot_bb, x_is_n, x_isNot_n, x_count, tyM,
  x_len_tup, x_len_lst, x_len_str, x_ixt, x_ixl, x_isi, isi_non_int, isi_non_bool, isi_non_str, isi_non_tuple, isi_non_list, isi_bl_int, isi_bl_bool, isi_bl_str, isi_bl_tuple, isi_bl_list, isi_int_int, isi_int_bool, isi_int_str, isi_int_tuple, isi_int_list, isi_str_int, isi_str_bool, isi_str_str, isi_str_tuple, isi_str_list, isi_tup_int, isi_tup_bool, isi_tup_str, isi_tup_tuple, isi_tup_list, isi_lst_int, isi_lst_bool, isi_lst_str, isi_lst_tuple, isi_lst_list,
  List.set_cons_zero, List.set_cons_succ, ite_tt, ite_ff, Bool.not_true, Bool.not_false, List.length_cons, List.length_nil, true_and, and_true, Nat.reduceAdd, Nat.reduceLeDiff, decide_eq_true_eq, Bool.not_eq_true', decide_eq_false_iff_not, reduceCtorEq, eq_self, if_false, if_true])

theorem pure_is_whole : ∀ ds S Q Ed, sp_is_whole ds S Q Ed → t_is_whole Ed { nx := fun _ S' => Q .non S', rt := Q } (startD N_is_whole ds) S := by
  rintro ds S Q Ed ⟨d, rfl, hd, q⟩
  rw [st_is_whole]
  unfold t_is_whole
  cases d <;> first | (walk_at "dy"; exact q) | exact absurd (show false = true from hd) Bool.false_ne_true

theorem pure_are_wholes : ∀ ds S Q Ed, sp_are_wholes ds S Q Ed → t_are_wholes Ed { nx := fun _ S' => Q .non S', rt := Q } (startD N_are_wholes ds) S := by
  rintro ds S Q Ed ⟨xs, n, rfl, hd, hl, q⟩
  rw [st_are_wholes]
  unfold t_are_wholes
  walk_at "dy"
  refine comp_pure (fun d => .bl (isWh d)) xs S (fun R hR => hR) (fun x hx S' Q' q' => ?_) (by omega) ?_
  · exact (⟨x, rfl, sm_data (smT.mp hd x hx), q'⟩ : sp_is_whole [x] S' Q' (fun _ _ => False))
  · refine x_allb (bs := xs.map isWh) (by rw [List.map_map]; rfl) ?_
    rw [List.all_map]
    exact q

theorem pure_shared_by : ∀ ds S Q Ed, sp_shared_by ds S Q Ed → t_shared_by Ed { nx := fun _ S' => Q .non S', rt := Q } (startD N_shared_by ds) S := by
  rintro ds S Q Ed ⟨a, b, rfl, q⟩
  rw [st_shared_by]
  unfold t_shared_by
  walk_at "dy"
  have ab : ∀ x : Int, (if x < 0 then -x else x) = (x.natAbs : Int) := fun x => by split <;> omega
  rw [ab, ab]
  refine while_inv (fun m σ S' => ∃ x y : Nat, σ = [some (.int x), some (.int y)] ∧ S' = S ∧ Nat.gcd x y = Int.gcd a b ∧ m = y) b.natAbs ⟨_, _, rfl, rfl, rfl, rfl⟩ ?_
  rintro m σ S' N ⟨x, y, rfl, rfl, e, rfl⟩ k
  walk_at "dy"
  by_cases c : 0 < (m : Int)
  · rw [if_pos c]
    refine ⟨by omega, ?_⟩
    have e2 : (x : Int).fmod (m : Int) = ((x % m : Nat) : Int) := by rw [Int.fmod_eq_emod_of_nonneg _ (by omega)]; rfl
    rw [e2]
    refine k (x % m) _ _ (Nat.mod_lt _ (by omega)) ⟨m, x % m, rfl, rfl, ?_, rfl⟩
    rw [← e, Nat.gcd_comm x m, Nat.gcd_rec m x, Nat.gcd_comm]
  · rw [if_neg c]
    have e3 : m = 0 := by omega
    subst e3
    rw [Nat.gcd_zero_right] at e
    rw [e]
    exact q

theorem pure_is_within : ∀ ds S Q Ed, sp_is_within ds S Q Ed → t_is_within Ed { nx := fun _ S' => Q .non S', rt := Q } (startD N_is_within ds) S := by
  rintro ds S Q Ed ⟨d, lo, hi, rfl, hd, q⟩
  rw [st_is_within]
  unfold t_is_within
  walk_at "dy"
  refine ⟨d, rfl, hd, ?_⟩
  cases d with
  | int a =>
    have e : isWh (.int a) = true := rfl
    rw [e]
    walk_at "dy"
    have e2 : winD lo hi (.int a) = decide (lo ≤ a ∧ a ≤ hi) := rfl
    rw [e2] at q
    by_cases c : lo ≤ a
    · rw [if_pos c]
      simp only [c, true_and] at q
      exact q
    · rw [if_neg c]
      rw [decide_eq_false (fun h => c h.1)] at q
      exact q
  | _ => exact q

theorem pure_is_row : ∀ ds S Q Ed, sp_is_row ds S Q Ed → t_is_row Ed { nx := fun _ S' => Q .non S', rt := Q } (startD N_is_row ds) S := by
  rintro ds S Q Ed ⟨d, lo, hi, n, rfl, hd, hh, q⟩
  rw [st_is_row]
  unfold t_is_row
  cases d with
  | tup xs =>
    walk_at "dy"
    have e0 : rowD lo hi (.tup xs) = (decide (lo ≤ (xs.length : Int) ∧ (xs.length : Int) ≤ hi) && xs.all (winD 1 999999)) := rfl
    rw [e0] at q
    by_cases c1 : lo ≤ (xs.length : Int)
    · rw [if_pos c1]
      by_cases c2 : (xs.length : Int) ≤ hi
      · rw [if_neg (fun h => h c2)]
        rw [decide_eq_true ⟨c1, c2⟩, Bool.true_and] at q
        refine comp_pure (fun d => .bl (winD 1 999999 d)) xs S (fun R hR => hR) (fun x hx S' Q' q' => ?_) (by omega) ?_
        · exact (⟨x, 1, 999999, rfl, sm_data (smT.mp hd x hx), q'⟩ : sp_is_within [x, .int 1, .int 999999] S' Q' (fun _ _ => False))
        · refine x_allb (bs := xs.map (winD 1 999999)) (by rw [List.map_map]; rfl) ?_
          rw [List.all_map]
          exact q
      · rw [if_pos c2]
        rw [decide_eq_false (fun h => c2 h.2)] at q
        exact q
    · rw [if_neg c1]
      try walk_at "dy"
      rw [decide_eq_false (fun h => c1 h.1)] at q
      exact q
  | _ => first | (walk_at "dy"; exact q) | exact absurd (show false = true from hd) Bool.false_ne_true

theorem pure_is_number_ring : ∀ ds S Q Ed, sp_is_number_ring ds S Q Ed → t_is_number_ring Ed { nx := fun _ S' => Q .non S', rt := Q } (startD N_is_number_ring ds) S := by
  rintro ds S Q Ed ⟨d, n, rfl, hd, q⟩
  rw [st_is_number_ring]
  unfold t_is_number_ring
  walk_at "dy"
  exact ⟨d, 1, 40, n, rfl, hd, by decide, by rw [row_ring]; exact q⟩

theorem pure_shortest_part : ∀ ds S Q Ed, sp_shortest_part ds S Q Ed → t_shortest_part Ed { nx := fun _ S' => Q .non S', rt := Q } (startD N_shortest_part ds) S := by
  rintro ds S Q Ed ⟨l, rfl, h1, h40, q⟩
  rw [st_shortest_part]
  unfold t_shortest_part
  refine seq_step fun r hr => ?_
  walk_at "dy"
  rw [ofL_len]
  refine ⟨by omega, ?_⟩
  subst hr
  refine seq_step fun r hr => ?_
  walk_at "dy"
  refine ⟨by omega, ?_⟩
  refine loop_rng (fun i σ S' => (∃ z, σ = [some (.str (ofL l)), some (.int l.length), z]) ∧ S' = S ∧ ∀ j, j < i → szOk l (j + 1) = false) ⟨⟨_, rfl⟩, rfl, fun j h => by omega⟩ ?_ ?_
  · rintro i σ S' N hi ⟨⟨z, rfl⟩, rfl, hno⟩ k
    have hi' : i < l.length - 1 := by omega
    walk_at "dy"
    refine ⟨by omega, ?_⟩
    have ei : (1 + (i : Int)) = ((i + 1 : Nat) : Int) := by omega
    obtain ⟨em, ed⟩ := nat_mod_div (n := l.length) (show 1 ≤ i + 1 by omega)
    rw [ei, em]
    have next : szOk l (i + 1) = false → N [some (.str (ofL l)), some (.int l.length), some (.int ((i + 1 : Nat) : Int))] S' := fun h => k _ _ ⟨⟨_, rfl⟩, rfl, fun j hj => by
      by_cases e : j = i
      · rw [e]; exact h
      · exact hno j (by omega)⟩
    by_cases c : l.length % (i + 1) = 0
    · rw [if_pos (by omega)]
      refine ⟨by rw [ofL_len]; omega, ?_⟩
      refine ⟨⟨by omega, ?_⟩, ?_⟩
      · have : (((i + 1 : Nat) : Int)).natAbs.log2 ≤ (i + 1) := by
          rw [Int.natAbs_natCast]
          exact Nat.log2_le_self _
        omega
      rw [ed]
      obtain ⟨g1, g2, g3⟩ := size_goL (l := l) (s := i + 1) (by omega) (by omega) h40
      rw [g1]
      refine ⟨g2, ?_⟩
      by_cases c2 : toldL (l.take (i + 1)) (l.length / (i + 1)) = l
      · rw [if_pos (g3.mpr c2)]
        have ho : szOk l (i + 1) = true := by unfold szOk; rw [decide_eq_true c, decide_eq_true c2]; rfl
        have e := shL_first hi' hno ho
        rw [e] at q
        exact ⟨by rw [ofL_len]; omega, q⟩
      · rw [if_neg (fun h => c2 (g3.mp h))]
        exact next (by unfold szOk; rw [decide_eq_false c2, Bool.and_false])
    · rw [if_neg (by omega)]
      exact next (by unfold szOk; rw [decide_eq_false c]; rfl)
  · rintro σ S' ⟨⟨z, rfl⟩, rfl, hno⟩
    subst hr
    walk_at "dy"
    have e := shL_none (l := l) fun j hj => hno j (by omega)
    rw [e] at q
    exact q

theorem pure_is_word : ∀ ds S Q Ed, sp_is_word ds S Q Ed → t_is_word Ed { nx := fun _ S' => Q .non S', rt := Q } (startD N_is_word ds) S := by
  rintro ds S Q Ed ⟨d, n, rfl, hd, q⟩
  rw [st_is_word]
  unfold t_is_word
  cases d with
  | str z =>
    walk_at "dy"
    have hz := sm_str.mp hd
    refine ⟨by omega, ?_⟩
    by_cases c1 : 1 ≤ (z.length : Int)
    · rw [if_pos c1]
      by_cases c2 : (z.length : Int) ≤ 60
      · rw [if_neg (by simp [c2])]
        refine abD_comp (fun c S' Q' q' => ?_) hz _ (fun R hR => hR) ?_
        · show rdInS (.str ⟨#[c]⟩) (.str "ab") S' Q'
          rw [x_inS, ab_cps]
          exact q'
        · have e : isWordD (.str z) = isAB z.cps.toList := by
            show (decide (1 ≤ z.length ∧ z.length ≤ 60) && _) = _
            rw [decide_eq_true ⟨by omega, by omega⟩]
            rfl
          rw [← e]; exact q
      · rw [if_pos (by simp; omega)]
        have e : isWordD (.str z) = false := by
          show (decide (1 ≤ z.length ∧ z.length ≤ 60) && _) = _
          rw [decide_eq_false (by omega)]
          rfl
        rw [← e]; exact q
    · rw [if_neg c1]
      have e : isWordD (.str z) = false := by
        show (decide (1 ≤ z.length ∧ z.length ≤ 60) && _) = _
        rw [decide_eq_false (by omega)]
        rfl
      rw [← e]; exact q
  | _ => first | (walk_at "dy"; exact q) | exact absurd (show false = true from hd) Bool.false_ne_true

theorem pure_look_word : ∀ ds S Q Ed, sp_look_word ds S Q Ed → t_look_word Ed { nx := fun _ S' => Q .non S', rt := Q } (startD N_look_word ds) S := by
  rintro ds S Q Ed ⟨d, n, rfl, hd, q1, q2⟩
  rw [st_look_word]
  unfold t_look_word
  walk_at "dy"
  refine ⟨d, n, rfl, hd, ?_⟩
  cases e : isWordD d with
  | true =>
    walk_at "dy"
    exact q1 e
  | false =>
    walk_at "dy"
    exact q2 e

theorem pure_Ring___init__ : ∀ ds S Q Ed, sp_Ring___init__ ds S Q Ed → t_Ring___init__ Ed { nx := fun _ S' => Q .non S', rt := Q } (startD N_Ring___init__ ds) S := by
  rintro ds S Q Ed ⟨a, d, n, rfl, hd, ha, q1, q2⟩
  rw [st_Ring___init__]
  unfold t_Ring___init__
  refine seq_step fun r hr => ?_
  walk_at "dy"
  refine ⟨d, n, rfl, hd, ?_⟩
  have fin : partB d = true → r { nx := fun _ S' => Q .non S', rt := Q } [some (.obj a), some d] S := fun e => by
    subst hr
    unfold dPut
    walk_at "dy"
    exact ⟨a, [], [], rfl, ha, by simp, by decide, q1 e⟩
  unfold partB at fin q2
  cases e : isWordD d with
  | true =>
    rw [e] at fin
    try walk_at "dy"
    exact fin rfl
  | false =>
    rw [e] at fin q2
    try walk_at "dy"
    refine ⟨d, n, rfl, hd, ?_⟩
    cases e2 : isRingD d with
    | true =>
      rw [e2] at fin
      try walk_at "dy"
      exact fin rfl
    | false =>
      rw [e2] at q2
      try walk_at "dy"
      exact q2 rfl

theorem x_lenP {d : D} {S : Sd} {Q : DK} (h : PartI d) (q : Q (.int (lenD d : Nat)) S) : rdLen [d] S Q := by
  have hl := h.len
  cases h with
  | word l h l0 l1 =>
    have z : (ofL l).length ≤ 16777216 := by rw [ofL_len]; omega
    exact ⟨z, q⟩
  | ring L R => exact q
theorem held_at {d : D} {S : Sd} {Q : DK} {to : TED} {σ : Si} (h : ∀ P : DK, P (.inst "Ring" ["held"] [d]) S → to σ S P) (q : Q d S) : dFld "Ring" "held" to σ S Q := h _ ⟨_, _, _, rfl, rfl, q⟩
theorem rot_add2 {d : D} {S : Sd} {Q : DK} {i : Nat} {F : Sd → DK → Prop} (h : PartI d) (hi : i ≤ lenD d) (hF : ∀ S' Q', Q' d S' → F S' Q') (q : Q (rotD d i) S) : rdSl d (some (i : Int)) none S fun x S1 => F S1 fun z S2 => rdSl z none (some (i : Int)) S2 fun y S3 => rdAdd x y S3 Q := by
  cases h with
  | word l h l0 l1 =>
    rw [lenD_word] at hi
    rw [rotD_word] at q
    walk_at "dy"
    rw [cutS_drop (by omega) (by omega)]
    have e : ((i : Int)).toNat = i := by omega
    simp only [e, ofL_len]
    refine ⟨by omega, hF _ _ ?_⟩
    walk_at "dy"
    rw [cutS_take (by omega) (by omega), ofL_app]
    simp only [e, ofL_len]
    exact ⟨by omega, by rw [List.length_drop, List.length_take]; omega, q⟩
  | ring L R =>
    rw [lenD_ring] at hi
    rw [rotD_ring] at q
    have l1 := R.l1
    unfold ringD at hF ⊢
    walk_at "dy"
    have c1 := cutD_len (xs := L.map D.int) (lo := some (i : Int)) (hi := none)
    have c2 := cutD_len (xs := L.map D.int) (lo := none) (hi := some (i : Int))
    rw [List.length_map] at c1 c2
    refine hF _ _ ?_
    walk_at "dy"
    refine ⟨by omega, ?_⟩
    have e : D.tup (cutD (L.map D.int) (some (i : Int)) none ++ cutD (L.map D.int) none (some (i : Int))) = ringD (rotI L i) := by
      rw [cutD_from (by rw [List.length_map]; exact hi), cutD_to (by rw [List.length_map]; exact hi)]
      unfold ringD rotI
      rw [List.map_append, List.map_drop, List.map_take]
    rw [e]
    exact q
theorem pure_Ring_turned : ∀ ds S Q Ed, sp_Ring_turned ds S Q Ed → t_Ring_turned Ed { nx := fun _ S' => Q .non S', rt := Q } (startD N_Ring_turned ds) S := by
  rintro ds S Q Ed ⟨d, k, rfl, h, q⟩
  rw [st_Ring_turned]
  unfold t_Ring_turned
  obtain ⟨l0, l1⟩ := h.len
  refine seq_step fun r hr => ?_
  walk_at "dy"
  refine held_at (d := d) (fun P h => by walk_at "dy"; exact h) ?_
  refine x_lenP h ?_
  have f := fmod_in (a := k) (b := ((lenD d : Nat) : Int)) (by omega)
  try walk_at "dy"
  refine ⟨by omega, ?_⟩
  subst hr
  obtain ⟨i, hi⟩ := Int.eq_ofNat_of_zero_le f.1
  rw [hi] at f q ⊢
  have e2 : ((i : Int)).toNat = i := by omega
  rw [e2] at q
  have held : ∀ (S' : Sd) (Q' : DK), Q' d S' → dFld "Ring" "held" (dVar 0) [some (D.inst "Ring" ["held"] [d]), some (.int k), some (.int (i : Int))] S' Q' := fun S' Q' h => held_at (d := d) (fun P h => by walk_at "dy"; exact h) h
  simp only [dRet, dOp, dSl, dPart, dNoPart, x_var0, x_varS]
  refine held _ _ ?_
  refine rot_add2 h (by omega) (fun S' Q' => held S' Q') q

theorem pure_Ring_least_turn : ∀ ds S Q Ed, sp_Ring_least_turn ds S Q Ed → t_Ring_least_turn Ed { nx := fun _ S' => Q .non S', rt := Q } (startD N_Ring_least_turn ds) S := by
  rintro ds S Q Ed ⟨d, rfl, h, q⟩
  rw [st_Ring_least_turn]
  unfold t_Ring_least_turn
  obtain ⟨l0, l1⟩ := h.len
  show dMinB "Ring" "turned" sp_Ring_turned 0 (dCB rdLen (dCons (dFld "Ring" "held" (dVar 0)) dNil)) [some (.inst "Ring" ["held"] [d])] S Q
  unfold dMinB
  walk_at "dy"
  refine held_at (d := d) (fun P g => by walk_at "dy"; exact g) ?_
  refine x_lenP h ?_
  refine ⟨lenD d, _, fun j => rotD d j, rfl, by omega, by omega, rfl, ⟨_, _, rfl, by decide⟩, fun j hj Q' q' => ⟨d, j, rfl, h, ?_⟩, fun j hj => (h.rot j).key, fun i j hi hj => h.alike i j, q⟩
  have e : ((j : Nat) : Int).fmod (lenD d : Nat) = j := by
    rw [Int.fmod_eq_emod_of_nonneg _ (by omega)]
    exact Int.emod_eq_of_lt (by omega) (by omega)
  rw [e]
  exact q'

theorem pure_Ring_least : ∀ ds S Q Ed, sp_Ring_least ds S Q Ed → t_Ring_least Ed { nx := fun _ S' => Q .non S', rt := Q } (startD N_Ring_least ds) S := by
  rintro ds S Q Ed ⟨d, rfl, h, q⟩
  rw [st_Ring_least]
  unfold t_Ring_least dMeth
  walk_at "dy"
  refine ⟨⟨_, _, rfl, by decide⟩, ⟨_, _, rfl, by decide⟩, d, rfl, h, ?_⟩
  refine ⟨d, leastT d, rfl, h, ?_⟩
  have := leastT_lt h
  have e : ((leastT d : Nat) : Int).fmod (lenD d : Nat) = leastT d := by
    rw [Int.fmod_eq_emod_of_nonneg _ (by omega)]
    exact Int.emod_eq_of_lt (by omega) (by omega)
  rw [e]
  exact q

theorem pure_Ring_root : ∀ ds S Q Ed, sp_Ring_root ds S Q Ed → t_Ring_root Ed { nx := fun _ S' => Q .non S', rt := Q } (startD N_Ring_root ds) S := by
  rintro ds S Q Ed ⟨l, rfl, h1, h2, q⟩
  rw [st_Ring_root]
  unfold t_Ring_root
  refine seq_step fun r hr => ?_
  walk_at "dy"
  refine ⟨_, _, _, rfl, rfl, ?_⟩
  refine ⟨l, rfl, h1, h2, ?_⟩
  subst hr
  walk_at "dy"
  have hl := shL_len h1
  refine ⟨_, _, _, rfl, rfl, ?_⟩
  walk_at "dy"
  rw [ofL_len, ofL_len]
  refine ⟨by omega, by omega, ⟨by omega, Nat.lt_trans (log2_lt (n := 10) (by omega) (by decide)) (by decide)⟩, q⟩

theorem pure_how_many_b : ∀ ds S Q Ed, sp_how_many_b ds S Q Ed → t_how_many_b Ed { nx := fun _ S' => Q .non S', rt := Q } (startD N_how_many_b ds) S := by
  rintro ds S Q Ed ⟨m, rfl, q⟩
  rw [st_how_many_b]
  unfold t_how_many_b
  walk_at "dy"
  rw [count_b]
  exact q

theorem pure_uneven_pair : ∀ ds S Q Ed, sp_uneven_pair ds S Q Ed → t_uneven_pair Ed { nx := fun _ S' => Q .non S', rt := Q } (startD N_uneven_pair ds) S := by
  rintro ds S Q Ed ⟨l, rfl, l0, l1, qs, qn⟩
  rw [st_uneven_pair]
  unfold t_uneven_pair
  refine seq_step fun r hr => ?_
  walk_at "dy"
  rw [ofL_len]
  refine ⟨by omega, by omega, ?_⟩
  have hn : ((l.length : Int) - 1).toNat = l.length - 1 := by omega
  rw [hn]
  refine loop_rng (fun i σ S' => (∃ a b c d, σ = [some (.str (ofL l)), a, b, c, d]) ∧ S' = S ∧ ∀ t, 1 ≤ t → t < 1 + i → ¬ unev l t) ⟨⟨_, _, _, _, rfl⟩, rfl, fun t h1 h2 => by omega⟩ ?_ ?_
  · rintro i σ S' N hi ⟨⟨a, b, c, d, rfl⟩, rfl, hno⟩ k
    show dSeq (dSet 2 _) _ _ [some (.str (ofL l)), some (.int (1 + i)), b, c, d] S'
    refine seq_step fun r2 hr2 => ?_
    refine seq_set ?_
    refine comp_pure (prtD l (1 + i)) (rgD 0 l.length) S' (fun R hR => ?_) (fun x hx S2 Q' q' => ?_) (by rw [rgD_len]; omega) ?_
    · walk_at "dy"
      rw [ofL_len]
      exact ⟨by omega, by omega, hR⟩
    · obtain ⟨p, t, e1⟩ := List.append_of_mem hx
      obtain ⟨rfl, hp⟩ := rgD_at e1
      generalize p.length = j at hp q'
      show dSl _ _ _ [some (.str (ofL l)), some (.int (1 + i)), b, c, some (.int (0 + (j : Int)))] S2 Q'
      walk_at "dy"
      rw [ofL_app]
      have ej : (0 : Int) + (j : Int) = (j : Int) := by omega
      rw [ej] at q' ⊢
      rw [cutS_mid (by omega) (by rw [List.length_append]; omega) (by omega) (by rw [List.length_append]; omega)]
      have e2 : ((j : Int) + (1 + (i : Int))).toNat - ((j : Int)).toNat = 1 + i := by omega
      rw [e2]
      simp only [ofL_len, List.length_append]
      exact ⟨by omega, by omega, q'⟩
    · subst hr2
      rw [prt_map]
      simp only [List.set_cons_zero, List.set_cons_succ]
      have hl : (prtZ l (1 + i)).length = l.length := by unfold prtZ; rw [List.length_map, List.length_range]
      have hsp : ∀ z ∈ prtZ l (1 + i), ∀ Q' : DK, Q' (.int (kfB z)) S' → sp_how_many_b [.str z] S' Q' fun _ _ => False := fun z hz Q' q' => by
        obtain ⟨j, _, rfl⟩ := List.mem_map.mp hz
        exact ⟨_, rfl, q'⟩
      refine seq_step fun r3 hr3 => ?_
      walk_at "dy"
      refine ⟨prtZ l (1 + i), kfB, rfl, by omega, hsp, fun z1 h1 => ?_⟩
      refine ⟨prtZ l (1 + i), kfB, rfl, by omega, hsp, fun z2 h2 => ?_⟩
      rw [prt_best l0 h1, prt_best l0 h2]
      try walk_at "dy"
      subst hr3
      walk_at "dy"
      refine ⟨_, rfl, ?_⟩
      walk_at "dy"
      refine ⟨_, rfl, ?_⟩
      walk_at "dy"
      by_cases cu : unev l (1 + i)
      · rw [if_pos (by exact cu)]
        exact qs (1 + i) (by omega) (by omega) cu fun t t1 t2 => hno t t1 t2
      · rw [if_neg (by exact cu)]
        refine k _ _ ⟨⟨_, _, _, _, rfl⟩, rfl, fun t t1 t2 => ?_⟩
        by_cases c2 : t = 1 + i
        · rw [c2]; exact cu
        · exact hno t t1 (by omega)
  · rintro σ S' ⟨⟨a, b, c, d, rfl⟩, rfl, hno⟩
    subst hr
    walk_at "dy"
    exact qn fun t t1 t2 => hno t t1 (by omega)

theorem pure_is_even : ∀ ds S Q Ed, sp_is_even ds S Q Ed → t_is_even Ed { nx := fun _ S' => Q .non S', rt := Q } (startD N_is_even ds) S := by
  rintro ds S Q Ed ⟨d, n, rfl, hd, q2, q1⟩
  rw [st_is_even]
  unfold t_is_even
  refine seq_step fun r hr => ?_
  walk_at "dy"
  refine ⟨d, n, rfl, hd, fun e => ?_, q2⟩
  obtain ⟨l, rfl, qs, qn⟩ := q1 e
  obtain ⟨l', e1, l0, l1, hab⟩ := isWordD_str e
  have el : l = l' := ofL_inj.mp (by injection e1)
  subst el
  subst hr
  walk_at "dy"
  refine ⟨l, rfl, l0, by omega, fun s s0 s1 hu hm => ?_, fun hno => ?_⟩
  · exact qs s s0 s1 hu hm
  · walk_at "dy"
    exact qn hno

theorem pure_uneven_parts : ∀ ds S Q Ed, sp_uneven_parts ds S Q Ed → t_uneven_parts Ed { nx := fun _ S' => Q .non S', rt := Q } (startD N_uneven_parts ds) S := by
  rintro ds S Q Ed ⟨d, n, rfl, hd, q2, q1⟩
  rw [st_uneven_parts]
  unfold t_uneven_parts
  refine seq_step fun r hr => ?_
  walk_at "dy"
  refine ⟨d, n, rfl, hd, fun e => ?_, q2⟩
  obtain ⟨l, rfl, qa⟩ := q1 e
  obtain ⟨l', e1, l0, l1, hab⟩ := isWordD_str e
  have el : l = l' := ofL_inj.mp (by injection e1)
  subst el
  subst hr
  walk_at "dy"
  exact ⟨l, rfl, l0, by omega, qa⟩

theorem pure_even_word : ∀ ds S Q Ed, sp_even_word ds S Q Ed → t_even_word Ed { nx := fun _ S' => Q .non S', rt := Q } (startD N_even_word ds) S := by
  rintro ds S Q Ed ⟨b, a, rfl, hl, q⟩
  rw [st_even_word]
  unfold t_even_word
  walk_at "dy"
  have en : ((b : Int) + (a : Int)) = ((b + a : Nat) : Int) := by omega
  rw [en]
  generalize hn : b + a = n at *
  have hb : b ≤ n := by omega
  refine comp_pure (evD b n) (rgD 1 n) S (fun R hR => ?_) (fun x hx S' Q' q' => ?_) (by rw [rgD_len]; omega) ?_
  · walk_at "dy"
    refine ⟨by omega, ?_⟩
    rw [show ((n : Int) + 1 - 1).toNat = n by omega]
    exact hR
  · obtain ⟨k, hk, rfl⟩ := List.mem_map.mp hx
    have hk' := List.mem_range.mp hk
    show (dOp rdIx _ _ ([some (D.int b), some (D.int a), some (D.int n), some (D.int (1 + (k : Int)))]) S' Q')
    walk_at "dy"
    have hn0 : (n : Int) ≠ 0 := by omega
    have l1 : ∀ {x : Int}, 0 ≤ x → x ≤ 1000000 → x.natAbs < 2 ^ 20 := fun h0 h1 => by omega
    have hlog : (n : Int).natAbs.log2 < 9000 := Nat.lt_of_lt_of_le (log2_lt (n := 20) (l1 (by omega) (by omega)) (by decide)) (by decide)
    refine ⟨mulOk 20 20 (l1 (by omega) (by omega)) (l1 (by omega) (by omega)) (by decide) (by decide) (by decide), ⟨hn0, hlog⟩, mulOk 20 20 (l1 (by omega) (by omega)) (l1 (by omega) (by omega)) (by decide) (by decide) (by decide), ⟨hn0, hlog⟩, ?_⟩
    have e1 : ((1 + (k : Int)) * b).fdiv n = (((k + 1) * b / n : Nat) : Int) := by
      rw [Int.fdiv_eq_ediv_of_nonneg _ (by omega), show (1 + (k : Int)) = ((k + 1 : Nat) : Int) by omega]
      rfl
    have e2 : ((1 + (k : Int) - 1) * b).fdiv n = ((k * b / n : Nat) : Int) := by
      rw [Int.fdiv_eq_ediv_of_nonneg _ (by omega), show (1 + (k : Int) - 1) = (k : Int) by omega]
      rfl
    rw [e1, e2, ab_cps]
    refine ⟨by decide +kernel, ?_⟩
    have f := (floor_step (k := k) hb (by omega)).1
    have q2 : Q' (.str ⟨#[if (k + 1) * b / n = k * b / n then 97 else 98]⟩) S' := by
      have e3 : evD b n (.int (1 + (k : Int))) = .str ⟨#[if (k + 1) * b / n = k * b / n then 97 else 98]⟩ := by
        show D.str ⟨#[if (1 + (k : Int)).toNat * b / n = ((1 + (k : Int)).toNat - 1) * b / n then 97 else 98]⟩ = _
        rw [show (1 + (k : Int)).toNat = k + 1 by omega]
        rfl
      rw [← e3]; exact q'
    by_cases c : k * b % n + b < n
    · rw [if_pos c] at f
      rw [f] at q2 ⊢
      rw [if_pos rfl] at q2
      rw [Int.sub_self, atI_0]
      exact q2
    · rw [if_neg c] at f
      rw [f] at q2 ⊢
      rw [if_neg (Nat.succ_ne_self _)] at q2
      rw [show (((k * b / n + 1 : Nat) : Int) - ((k * b / n : Nat) : Int)) = 1 by omega, atI_1]
      exact q2
  · rw [evD_map]
    refine x_join ((List.range n).map fun k => (⟨#[if (k + 1) * b / n = k * b / n then 97 else 98]⟩ : Str)) rfl ?_ ?_
    · rw [sum_ones _ (fun _ => rfl), List.length_range]
      show n + _ * 0 ≤ _
      omega
    · have e : ((List.range n).map fun k => (⟨#[if (k + 1) * b / n = k * b / n then 97 else 98]⟩ : Str)) = (evF b n).map fun c => (⟨#[c]⟩ : Str) := by
        unfold evF
        rw [List.map_map]
        rfl
      rw [e, join_ones]
      exact q

theorem pure_is_step_word : ∀ ds S Q Ed, sp_is_step_word ds S Q Ed → t_is_step_word Ed { nx := fun _ S' => Q .non S', rt := Q } (startD N_is_step_word ds) S := by
  rintro ds S Q Ed ⟨d, n, rfl, hd, q⟩
  rw [st_is_step_word]
  unfold t_is_step_word
  walk_at "dy"
  refine ⟨d, n, rfl, hd, ?_⟩
  walk_at "dy"
  cases cw : isWordD d with
  | false =>
    walk_at "dy"
    have e : isStepD d = false := by
      cases d <;> first | rfl | skip
      show (isWordD _ && _) = false
      rw [cw]; rfl
    rw [e] at q
    exact q
  | true =>
    obtain ⟨l, rfl, l0, l1, la⟩ := isWordD_str cw
    have e : isStepD (.str (ofL l)) = isStepL l := by
      show (isWordD _ && _) = _
      rw [cw]; rfl
    rw [e] at q
    walk_at "dy"
    rw [count_b, ofL_len]
    refine ⟨by omega, ?_⟩
    refine ⟨_, _, rfl, ?_⟩
    walk_at "dy"
    rw [Int.gcd_natCast_natCast]
    have cl : l.count 98 ≤ l.length := List.count_le_length
    by_cases c : Nat.gcd (l.count 98) l.length = 1
    · rw [if_pos (show ((Nat.gcd (l.count 98) l.length : Nat) : Int) = 1 by omega)]
      refine ⟨by omega, ?_⟩
      refine ⟨l.count 98, l.length - l.count 98, by rw [Int.ofNat_sub cl], by omega, ?_⟩
      walk_at "dy"
      rw [show l.count 98 + (l.length - l.count 98) = l.length by omega]
      rw [step_tail (k1 := true) (decide_eq_true c).symm rfl] at q
      have e3 : decide (ofL l = ofL (evF (l.count 98) l.length)) = decide (l = evF (l.count 98) l.length) := by
        rw [decide_eq_decide]; exact ofL_inj
      rw [e3]
      exact q
    · rw [if_neg (show ¬ ((Nat.gcd (l.count 98) l.length : Nat) : Int) = 1 by omega)]
      rw [step_tail (k1 := false) (decide_eq_false c).symm rfl] at q
      exact q

theorem pure_look_step_steps : ∀ ds S Q Ed, sp_look_step_steps ds S Q Ed → t_look_step_steps Ed { nx := fun _ S' => Q .non S', rt := Q } (startD N_look_step_steps ds) S := by
  rintro ds S Q Ed ⟨d, n, k, rfl, hd, qw, ql⟩
  rw [st_look_step_steps]
  unfold t_look_step_steps
  refine seq_step fun r hr => ?_
  walk_at "dy"
  refine ⟨d, n, rfl, hd, fun ew => ?_, qw⟩
  obtain ⟨l, rfl, l0, l1, hab⟩ := isWordD_str ew
  obtain ⟨qu, qe⟩ := ql l rfl ew
  subst hr
  refine seq_step fun r hr => ?_
  walk_at "dy"
  refine ⟨l, rfl, l0, by omega, fun s s0 s1 hu hm => ?_, fun hno => ?_⟩
  · subst hr
    refine seq_step fun r hr => ?_
    unfold pairD
    walk_at "dy"
    exact qu s s0 s1 hu hm
  · obtain ⟨q1, q2⟩ := qe hno
    subst hr
    walk_at "dy"
    rw [ofL_len]
    refine ⟨by omega, ?_⟩
    by_cases c : (l.length : Int) < k
    · rw [if_pos c]
      try walk_at "dy"
      exact q2 fun h => by omega
    · rw [if_neg c]
      try walk_at "dy"
      refine ⟨_, n, rfl, hd, ?_⟩
      have es : isStepD (.str (ofL l)) = isStepL l := by
        show (isWordD _ && _) = _
        rw [ew]; rfl
      rw [es]
      cases e : isStepL l with
      | true =>
        try walk_at "dy"
        exact q1 (by omega) e
      | false =>
        try walk_at "dy"
        exact q2 fun h => by rw [e] at h; cases h.2

theorem pure_cut_by : ∀ ds S Q Ed, sp_cut_by ds S Q Ed → t_cut_by Ed { nx := fun _ S' => Q .non S', rt := Q } (startD N_cut_by ds) S := by
  rintro ds S Q Ed ⟨l, m, rfl, hab, l1, m0, m1, hm, q⟩
  rw [st_cut_by]
  unfold t_cut_by
  refine seq_step fun r hr => ?_
  refine seq_set ?_
  refine comp_filter (fun d => d) (cutG l) (rgD 1 (l.length - 1)) S (fun R hR => ?_) (fun x hx S' Q' q' => ?_) (fun x hx hg S' Q' q' => ?_) (by rw [rgD_len]; omega) ?_
  · walk_at "dy"
    rw [ofL_len]
    refine ⟨by omega, by omega, ?_⟩
    rw [show ((l.length : Int) - 1).toNat = l.length - 1 by omega]
    exact hR
  · obtain ⟨p, t, e1⟩ := List.append_of_mem hx
    obtain ⟨rfl, hp⟩ := rgD_at e1
    generalize p.length = j at hp q'
    have ej : ((1 : Int) + (j : Int)).toNat = 1 + j := by omega
    have eg : cutG l (.int (1 + (j : Int))) = (isStepL (l.take (1 + j)) && isStepL (l.drop (1 + j))) := by
      show (isStepL (l.take ((1 : Int) + (j : Int)).toNat) && isStepL (l.drop ((1 : Int) + (j : Int)).toNat)) = _
      rw [ej]
    rw [eg] at q'
    have tl : (l.take (1 + j)).length = 1 + j := by rw [List.length_take]; omega
    have dl : (l.drop (1 + j)).length = l.length - (1 + j) := by rw [List.length_drop]
    show (dAnd _ _ [some (.str (ofL l)), none, some (.int (1 + (j : Int)))] S' Q')
    walk_at "dy"
    rw [ofL_len]
    refine ⟨by omega, ?_⟩
    rw [cutS_take (by omega) (by omega), cutS_drop (by omega) (by omega), ej]
    refine ⟨_, 20, rfl, sm_str.mpr (by rw [ofL_len]; omega), ?_⟩
    rw [isStepD_L (isAB_take _ hab) (by omega) (by omega)]
    cases c1 : isStepL (l.take (1 + j)) with
    | false =>
      rw [c1] at q'
      walk_at "dy"
      exact q'
    | true =>
      rw [c1, Bool.true_and] at q'
      walk_at "dy"
      refine ⟨by omega, ?_⟩
      refine ⟨_, 20, rfl, sm_str.mpr (by rw [ofL_len]; omega), ?_⟩
      rw [isStepD_L (isAB_drop _ hab) (by omega) (by omega)]
      exact q'
  · obtain ⟨p, t, e1⟩ := List.append_of_mem hx
    obtain ⟨rfl, hp⟩ := rgD_at e1
    show dVar 2 [some (.str (ofL l)), none, some (.int (1 + (p.length : Int)))] S' Q'
    walk_at "dy"
    exact q'
  · rw [cutG_list m0 m1 hm]
    subst hr
    simp only [List.map_cons, List.map_nil, List.set_cons_succ, List.set_cons_zero]
    walk_at "dy"
    rw [ofL_len]
    refine ⟨by omega, by omega, ?_⟩
    rw [cutS_take (by omega) (by omega), cutS_drop (by omega) (by omega), Int.toNat_natCast]
    exact q

theorem pure_cut_of : ∀ ds S Q Ed, sp_cut_of ds S Q Ed → t_cut_of Ed { nx := fun _ S' => Q .non S', rt := Q } (startD N_cut_of ds) S := by
  rintro ds S Q Ed ⟨d, n, rfl, hd, qw, ql⟩
  rw [st_cut_of]
  unfold t_cut_of
  refine seq_step fun r hr => ?_
  walk_at "dy"
  refine ⟨d, n, 2, rfl, hd, qw, fun l el ew => ⟨(ql l el ew).1, fun hno => ⟨fun h2 hs => ?_, fun h => ((ql l el ew).2 hno).2 fun k => h ⟨by omega, k.2⟩⟩⟩⟩
  obtain ⟨l', rfl, l0, l1, hab⟩ := isWordD_str ew
  have e : l' = l := ofL_inj.mp (by injection el)
  subst e
  obtain ⟨m, m0, m1, mo, hm⟩ := cut_one hs (by omega) l1
  subst hr
  walk_at "dy"
  exact ⟨l', m, rfl, hab, l1, m0, m1, hm, ((ql l' rfl ew).2 hno).1 m (by omega) hs m0 m1 hm⟩

theorem pure_way_by_left : ∀ n ds S Q Ed, sp_way_by_left (n + 1) ds S Q Ed → t_way_by_left n Ed { nx := fun _ S' => Q .non S', rt := Q } (startD N_way_by_left ds) S := by
  rintro n ds S Q Ed ⟨v, rfl, hv, vn, n1, hc, q⟩
  rw [st_way_by_left]
  unfold t_way_by_left
  have h1 := fstW_len v
  have h2 := sndW_len v
  have h3 := cnW_eq v
  have h4 := cnW_snoc v 108
  have h5 := cnW_len v
  have tk : (wordW v).take (fstW v).length = fstW v := by unfold wordW; rw [List.take_left]
  have dr : (wordW v).drop (fstW v).length = sndW v := by unfold wordW; rw [List.drop_left]
  have hl := wordW_len v
  rw [fstW_snoc, sndW_snoc]
  rw [if_pos rfl, if_pos rfl]
  walk_at "dy"
  simp only [ofL_len]
  refine ⟨by omega, by omega, ?_⟩
  rw [cutS_drop (by omega) (by omega), Int.toNat_natCast, dr]
  refine ⟨v, rfl, hv, by omega, by omega, by omega, ?_⟩
  walk_at "dy"
  rw [str_l_c, ofL_app]
  exact ⟨by rw [ofL_len, ofL_len]; show v.length + 1 ≤ _; omega, q⟩

theorem pure_way_by_right : ∀ n ds S Q Ed, sp_way_by_right (n + 1) ds S Q Ed → t_way_by_right n Ed { nx := fun _ S' => Q .non S', rt := Q } (startD N_way_by_right ds) S := by
  rintro n ds S Q Ed ⟨v, rfl, hv, vn, n1, hc, q⟩
  rw [st_way_by_right]
  unfold t_way_by_right
  have h1 := fstW_len v
  have h2 := sndW_len v
  have h3 := cnW_eq v
  have h4 := cnW_snoc v 114
  have h5 := cnW_len v
  have tk : (wordW v).take (fstW v).length = fstW v := by unfold wordW; rw [List.take_left]
  have dr : (wordW v).drop (fstW v).length = sndW v := by unfold wordW; rw [List.drop_left]
  have hl := wordW_len v
  rw [fstW_snoc, sndW_snoc]
  rw [if_neg (by decide), if_neg (by decide)]
  walk_at "dy"
  simp only [ofL_len]
  refine ⟨by omega, by omega, by omega, ?_⟩
  rw [show ((wordW v).length : Int) - ((sndW v).length : Int) = ((fstW v).length : Int) by omega, cutS_take (by omega) (by omega), Int.toNat_natCast, tk]
  refine ⟨v, rfl, hv, by omega, by omega, by omega, ?_⟩
  walk_at "dy"
  rw [str_r_c, ofL_app]
  exact ⟨by rw [ofL_len, ofL_len]; show v.length + 1 ≤ _; omega, q⟩

theorem pure_way_to : ∀ n ds S Q Ed, sp_way_to n ds S Q Ed → t_way_to n Ed { nx := fun _ S' => Q .non S', rt := Q } (startD N_way_to ds) S := by
  rintro n ds S Q Ed ⟨w, rfl, hw, wn, n1, hc, q⟩
  rw [st_way_to]
  unfold t_way_to
  have h1 := fstW_len w
  have h2 := sndW_len w
  have h3 := cnW_eq w
  walk_at "dy"
  simp only [ofL_len, h1, h2]
  refine ⟨by omega, by omega, ?_⟩
  rcases way_cases w hw with rfl | ⟨v, hv, rfl | rfl⟩
  · have e1 : (wpL []).m = 1 := rfl
    have e2 : (wpL []).l = 1 := rfl
    rw [e1, e2, if_neg (by decide)]
    refine ⟨by decide, by decide, ?_⟩
    rw [if_neg (by decide)]
    exact q
  · have k := wpL_ok v
    have e1 : (wpL (v ++ [108])).m = (wpL v).m := by rw [wpL_snoc]; rfl
    have e2 : (wpL (v ++ [108])).l = (wpL v).m + (wpL v).l := by rw [wpL_snoc]; rfl
    have := k.m0
    have := k.l0
    rw [if_pos (by omega)]
    rw [List.length_append, List.length_singleton] at wn
    exact ⟨v, rfl, hv, by omega, n1, hc, q⟩
  · have k := wpL_ok v
    have e1 : (wpL (v ++ [114])).m = (wpL v).m + (wpL v).l := by rw [wpL_snoc]; rfl
    have e2 : (wpL (v ++ [114])).l = (wpL v).l := by rw [wpL_snoc]; rfl
    have := k.m0
    have := k.l0
    rw [if_neg (by omega)]
    refine ⟨by omega, by omega, ?_⟩
    rw [if_pos (by omega)]
    rw [List.length_append, List.length_singleton] at wn
    exact ⟨v, rfl, hv, by omega, n1, hc, q⟩

theorem pure_way_of_word : ∀ ds S Q Ed, sp_way_of_word ds S Q Ed → t_way_of_word Ed { nx := fun _ S' => Q .non S', rt := Q } (startD N_way_of_word ds) S := by
  rintro ds S Q Ed ⟨d, n, rfl, hd, qw, ql⟩
  rw [st_way_of_word]
  unfold t_way_of_word
  refine seq_step fun r hr => ?_
  walk_at "dy"
  refine ⟨d, n, rfl, hd, qw, fun l el ew => ⟨(ql l el ew).1, fun hno => ⟨fun m h2 hs m0 m1 hm => ?_, ((ql l el ew).2 hno).2⟩⟩⟩
  obtain ⟨w, hw, rfl, q⟩ := ((ql l el ew).2 hno).1 h2 hs
  subst el
  obtain ⟨l', e1, _, l60, _⟩ := isWordD_str ew
  have e2 : wordW w = l' := ofL_inj.mp (by injection e1)
  rw [← e2] at l60
  have hl := wordW_len w
  have em : m = (wpL w).m := (wordW_cut (by omega) m m0 m1).mp ((hm m m0 m1).mpr rfl)
  rw [em, (wordW_take w).1, (wordW_take w).2]
  subst hr
  have := cnW_len w
  walk_at "dy"
  exact ⟨w, rfl, hw, by omega, by omega, by omega, q⟩

theorem pure_look_way : ∀ ds S Q Ed, sp_look_way ds S Q Ed → t_look_way Ed { nx := fun _ S' => Q .non S', rt := Q } (startD N_look_way ds) S := by
  rintro ds S Q Ed ⟨d, n, rfl, hd, q1, q2⟩
  rw [st_look_way]
  unfold t_look_way
  cases d with
  | str z =>
    walk_at "dy"
    refine lrD_comp (fun c S' Q' q' => ?_) (sm_str.mp hd) _ (fun R hR => hR) ?_
    · show rdInS (.str ⟨#[c]⟩) (.str "lr") S' Q'
      rw [x_inS, lrw_cps]
      exact q'
    · cases e : isWayL z.cps.toList with
      | true =>
        try walk_at "dy"
        exact q1 e
      | false =>
        try walk_at "dy"
        exact q2 e
  | _ => first | (walk_at "dy"; exact q2 rfl) | exact absurd (show false = true from hd) Bool.false_ne_true

theorem pure_word_of_way : ∀ ds S Q Ed, sp_word_of_way ds S Q Ed → t_word_of_way Ed { nx := fun _ S' => Q .non S', rt := Q } (startD N_word_of_way ds) S := by
  rintro ds S Q Ed ⟨d, n, rfl, hd, qn, qw⟩
  rw [st_word_of_way]
  unfold t_word_of_way
  refine seq_step fun r hr => ?_
  walk_at "dy"
  refine ⟨d, n, rfl, hd, fun ew => ?_, qn⟩
  obtain ⟨w, rfl, hw⟩ : ∃ w, d = .str (ofL w) ∧ isWayL w = true := by
    cases d with
    | str z => exact ⟨z.cps.toList, by rw [← ofL_of], ew⟩
    | _ => exact absurd (show false = true from ew) Bool.false_ne_true
  obtain ⟨q1, q2⟩ := qw w rfl hw
  subst hr
  walk_at "dy"
  refine loop_str (fun p σ S' => (∃ a b, σ = [some (.str (ofL w)), some (.str (ofL (fstW p))), some (.str (ofL (sndW p))), a, b]) ∧ S' = S ∧ cnW p ≤ 60) ⟨⟨none, none, by rw [fstW_nil, sndW_nil]; rfl⟩, rfl, by decide⟩ ?_ ?_
  · rintro p c r σ S' N e ⟨⟨a, b, rfl⟩, rfl, hp⟩ k
    have e' : w = p ++ c :: r := e
    have hc : c = 108 ∨ c = 114 := isWayL_iff.mp hw c (by rw [e']; simp)
    have h1 := fstW_len p
    have h2 := sndW_len p
    have h3 : cnW p = (wpL p).m + (wpL p).l := by unfold cnW; rw [cnL_wp]
    have g1 := fstW_len (p ++ [c])
    have g2 := sndW_len (p ++ [c])
    have g3 : cnW (p ++ [c]) = (wpL (p ++ [c])).m + (wpL (p ++ [c])).l := by unfold cnW; rw [cnL_wp]
    have gm := cnW_grow p c hp
    walk_at "dy"
    rw [ofL_app]
    refine ⟨by rw [ofL_len, ofL_len]; omega, ?_⟩
    have fin : ∀ f s, f = ofL (fstW (p ++ [c])) → s = ofL (sndW (p ++ [c])) → (f.length ≤ 16777216 ∧ s.length ≤ 16777216 ∧ if (60 : Int) < (f.length : Int) + (s.length : Int) then Ed ⟨"TooMany", ["most"], [.int 60]⟩ S' else N [some (.str (ofL w)), some (.str f), some (.str s), some (.str ⟨#[c]⟩), some (.str (ofL (fstW p ++ sndW p)))] S') := fun f s ef es => by
      subst ef es
      simp only [ofL_len, g1, g2]
      refine ⟨by omega, by omega, ?_⟩
      by_cases c6 : (60 : Int) < ((wpL (p ++ [c])).m : Int) + ((wpL (p ++ [c])).l : Int)
      · rw [if_pos c6]
        refine q2 ?_
        have hm := cnW_mono (p ++ [c]) r
        rw [show (p ++ [c]) ++ r = w by rw [e']; simp] at hm
        omega
      · rw [if_neg c6]
        exact k _ _ ⟨⟨_, _, rfl⟩, rfl, by omega⟩
    rcases hc with rfl | rfl
    · rw [if_pos ((str1l _).mpr rfl)]
      exact fin _ _ (by rw [fstW_snoc, if_pos rfl]) (by rw [sndW_snoc, if_pos rfl, wordW])
    · rw [if_neg (fun h => by have := (str1l _).mp h; omega)]
      exact fin _ _ (by rw [fstW_snoc, if_neg (by decide), wordW]) (by rw [sndW_snoc, if_neg (by decide)])
  · rintro σ S' ⟨⟨a, b, rfl⟩, rfl, hp⟩
    have e0 : (ofL w).cps.toList = w := rfl
    rw [e0] at hp ⊢
    walk_at "dy"
    have h1 := fstW_len w
    have h2 := sndW_len w
    have h3 : cnW w = (wpL w).m + (wpL w).l := by unfold cnW; rw [cnL_wp]
    rw [ofL_app]
    simp only [ofL_len, h1, h2]
    exact ⟨by omega, q1 hp⟩

theorem isPairD_len {xs : List D} : isPairD (.tup xs) = decide ((xs.length : Int) = 2) := by
  match xs with
  | [] => rfl
  | [a] => rfl
  | [a, b] => rfl
  | a :: b :: c :: r =>
    show false = _
    rw [decide_eq_false (by simp only [List.length_cons]; omega)]
theorem pure_is_pair_of : ∀ ds S Q Ed, sp_is_pair_of ds S Q Ed → t_is_pair_of Ed { nx := fun _ S' => Q .non S', rt := Q } (startD N_is_pair_of ds) S := by
  rintro ds S Q Ed ⟨d, rfl, hd, q⟩
  rw [st_is_pair_of]
  unfold t_is_pair_of
  cases d with
  | tup xs =>
    walk_at "dy"
    rw [isPairD_len] at q
    exact q
  | _ => first | (walk_at "dy"; exact q) | exact absurd (show false = true from hd) Bool.false_ne_true

def rowOk (d : D) : Bool := isPairD d && (match d with | .tup xs => xs.all isWh | _ => false)
theorem isTabD_rows {a b : D} : isTabD (.tup [a, b]) = (rowOk a && (rowOk b && true)) := by
  have row : ∀ d, rowOk d = true → ∃ i j, d = .tup [.int i, .int j] := fun d h => by
    have h' := Bool.and_eq_true_iff.mp h
    unfold isPairD at h'
    cases d with
    | tup xs =>
      match xs, h' with
      | [x, y], h' =>
        simp only [List.all_cons, List.all_nil, Bool.and_true, Bool.and_eq_true] at h'
        obtain ⟨i, rfl⟩ := isWh_int h'.2.1
        obtain ⟨j, rfl⟩ := isWh_int h'.2.2
        exact ⟨i, j, rfl⟩
      | [], h' => exact absurd h'.1 (by simp)
      | [x], h' => exact absurd h'.1 (by simp)
      | x :: y :: z :: r, h' => exact absurd h'.1 (by simp)
    | _ => exact absurd h'.1 (by simp)
  have back : ∀ d e, isTabD (.tup [d, e]) = true → rowOk d = true ∧ rowOk e = true := fun d e h => by
    obtain ⟨m, hm⟩ := isTabD_of h
    unfold tbD at hm
    injection hm with hm
    injection hm with h1 h2
    injection h2 with h2 _
    subst h1 h2
    exact ⟨rfl, rfl⟩
  rw [Bool.and_true, Bool.eq_iff_iff, Bool.and_eq_true]
  constructor
  · exact back a b
  · rintro ⟨h1, h2⟩
    obtain ⟨i, j, rfl⟩ := row a h1
    obtain ⟨k, l, rfl⟩ := row b h2
    rfl
theorem isTabD_pair {d : D} (h : isPairD d = false) : isTabD d = false := by
  cases e : isTabD d with
  | false => rfl
  | true =>
    obtain ⟨m, rfl⟩ := isTabD_of e
    exact absurd (show true = false from h) (by decide)
theorem pure_is_table : ∀ ds S Q Ed, sp_is_table ds S Q Ed → t_is_table Ed { nx := fun _ S' => Q .non S', rt := Q } (startD N_is_table ds) S := by
  rintro ds S Q Ed ⟨d, n, rfl, hd, q⟩
  rw [st_is_table]
  unfold t_is_table
  walk_at "dy"
  refine ⟨d, rfl, sm_data hd, ?_⟩
  walk_at "dy"
  cases e : isPairD d with
  | false =>
    walk_at "dy"
    rw [isTabD_pair e] at q
    exact q
  | true =>
    obtain ⟨a, b, rfl⟩ : ∃ a b, d = .tup [a, b] := by
      unfold isPairD at e
      split at e
      · exact ⟨_, _, rfl⟩
      · cases e
    walk_at "dy"
    have hab := smT.mp hd
    refine comp_pure (fun d => .bl (rowOk d)) [a, b] S (fun R hR => hR) (fun x hx S' Q' q' => ?_) (by show 2 ≤ 16777216; decide) ?_
    · have hx' := hab x hx
      show dAndV _ _ [some (D.tup [a, b]), some x] S' Q'
      walk_at "dy"
      refine ⟨x, rfl, sm_data hx', ?_⟩
      walk_at "dy"
      cases e2 : isPairD x with
      | false =>
        walk_at "dy"
        have e3 : rowOk x = false := by unfold rowOk; rw [e2]; rfl
        rw [e3] at q'
        exact q'
      | true =>
        obtain ⟨a', b', rfl⟩ : ∃ a b, x = .tup [a, b] := by
          unfold isPairD at e2
          split at e2
          · exact ⟨_, _, rfl⟩
          · cases e2
        walk_at "dy"
        refine ⟨[a', b'], n, rfl, hx', by show 2 ≤ 100000; decide, ?_⟩
        exact q'
    · refine x_allb (bs := [rowOk a, rowOk b]) rfl ?_
      have e4 : List.all [rowOk a, rowOk b] id = isTabD (.tup [a, b]) := by rw [isTabD_rows]; rfl
      rw [e4]
      exact q

theorem pure_size_of : ∀ ds S Q Ed, sp_size_of ds S Q Ed → t_size_of Ed { nx := fun _ S' => Q .non S', rt := Q } (startD N_size_of ds) S := by
  rintro ds S Q Ed ⟨m, n, rfl, h, n0, n1, q⟩
  rw [st_size_of]
  unfold t_size_of tbD
  walk_at "dy"
  exact ⟨mulOk n n h.1 h.2.2.2 n0 n0 (by omega), mulOk n n h.2.1 h.2.2.1 n0 n0 (by omega), q⟩

theorem pure_joined : ∀ ds S Q Ed, sp_joined ds S Q Ed → t_joined Ed { nx := fun _ S' => Q .non S', rt := Q } (startD N_joined ds) S := by
  rintro ds S Q Ed ⟨a, b, n, rfl, ha, hb, n0, n1, q⟩
  rw [st_joined]
  unfold t_joined tbD
  walk_at "dy"
  obtain ⟨a1, a2, a3, a4⟩ := ha
  obtain ⟨b1, b2, b3, b4⟩ := hb
  have k : ∀ {x y : Int}, x.natAbs < 2 ^ n → y.natAbs < 2 ^ n → x.natAbs.log2 + y.natAbs.log2 < 1000000 := fun hx hy => mulOk n n hx hy n0 n0 (by omega)
  exact ⟨k a1 b1, k a2 b3, k a1 b2, k a2 b4, k a3 b1, k a4 b3, k a3 b2, k a4 b4, q⟩

theorem pure_contrary_by : ∀ ds S Q Ed, sp_contrary_by ds S Q Ed → t_contrary_by Ed { nx := fun _ S' => Q .non S', rt := Q } (startD N_contrary_by ds) S := by
  rintro ds S Q Ed ⟨m, n, rfl, h, n0, n1, q⟩
  have hd := detM_lt h
  rw [st_contrary_by]
  unfold t_contrary_by
  have e : tbD m = .tup [.tup [.int m.p, .int m.q], .tup [.int m.r, .int m.s]] := rfl
  rw [e]
  walk_at "dy"
  refine ⟨m, n, rfl, h, n0, n1, ?_⟩
  walk_at "dy"
  have k : ∀ {x : Int}, x.natAbs < 2 ^ n → x.natAbs.log2 + (detM m).natAbs.log2 < 1000000 := fun hx => mulOk n (n + n + 1) hx hd n0 (by omega) (by omega)
  exact ⟨k h.2.2.2, k h.2.1, k h.2.2.1, k h.1, q⟩

theorem pure_table_by : ∀ ds S Q Ed, sp_table_by ds S Q Ed → t_table_by Ed { nx := fun _ S' => Q .non S', rt := Q } (startD N_table_by ds) S := by
  rintro ds S Q Ed ⟨l, rfl, hl, ll, q⟩
  rw [st_table_by]
  unfold t_table_by
  walk_at "dy"
  refine loop_str (fun p σ S' => ∃ o, σ = [some (.str (ofL l)), some (tbD (tabM p)), o] ∧ S' = S) ⟨none, rfl, rfl⟩ ?_ ?_
  · rintro p c r σ S' N e ⟨o, rfl, rfl⟩ k
    have e' : l = p ++ c :: r := e
    have hc : c = 97 ∨ c = 98 := isAB_iff.mp hl c (by rw [e']; simp)
    have hp : p.length < 1000 := by
      have := congrArg List.length e'
      rw [List.length_append, List.length_cons] at this
      omega
    walk_at "dy"
    unfold dKix
    walk_at "dy"
    rw [lt_at hc]
    refine ⟨tabM p, ltM c, 3 * p.length + 3, rfl, (szM_tab p).mono (by omega), (szM_lt c).mono (by omega), by omega, by omega, ?_⟩
    walk_at "dy"
    refine k _ _ ⟨some (.str ⟨#[c]⟩), ?_, rfl⟩
    rw [tabM_app, tabM_one]
  · rintro σ S' ⟨o, rfl, rfl⟩
    walk_at "dy"
    exact q

theorem pure_table_of : ∀ ds S Q Ed, sp_table_of ds S Q Ed → t_table_of Ed { nx := fun _ S' => Q .non S', rt := Q } (startD N_table_of ds) S := by
  rintro ds S Q Ed ⟨d, n, rfl, hd, q1, q2⟩
  rw [st_table_of]
  unfold t_table_of
  walk_at "dy"
  refine ⟨d, n, rfl, hd, fun h => ?_, q2⟩
  obtain ⟨l, rfl, l0, l1, hl⟩ := isWordD_str h
  try walk_at "dy"
  exact ⟨l, rfl, hl, by omega, q1 l rfl hl l0 l1⟩

theorem pure_first_letter : ∀ ds S Q Ed, sp_first_letter ds S Q Ed → t_first_letter Ed { nx := fun _ S' => Q .non S', rt := Q } (startD N_first_letter ds) S := by
  rintro ds S Q Ed ⟨m, n, rfl, h, n0, n1, q⟩
  rw [st_first_letter]
  unfold t_first_letter tbD
  walk_at "dy"
  rw [ab_cps]
  refine ⟨mulOk 2 n (by decide) h.2.2.1 (by decide) n0 (by omega), by decide +kernel, ?_⟩
  by_cases c : m.p > 2 * m.r
  · rw [if_pos c] at q
    rw [if_pos c, atI_1]
    exact q
  · rw [if_neg c] at q
    rw [if_neg c, atI_0]
    exact q

theorem pure_word_of : ∀ ds S Q Ed, sp_word_of ds S Q Ed → t_word_of Ed { nx := fun _ S' => Q .non S', rt := Q } (startD N_word_of ds) S := by
  rintro ds S Q Ed ⟨d, n, rfl, hd, n0, n1, q1, q2⟩
  rw [st_word_of]
  unfold t_word_of
  refine seq_step fun r hr => ?_
  walk_at "dy"
  refine ⟨d, n, rfl, hd, ?_⟩
  cases ht : isTabD d with
  | false =>
    try walk_at "dy"
    exact q2 fun l _ e => by rw [e] at ht; exact absurd (ht.symm.trans (show isTabD _ = true from rfl)) (by decide)
  | true =>
    obtain ⟨T, rfl⟩ : ∃ T, d = tbD T := by
      unfold isTabD at ht
      split at ht
      · exact ⟨⟨_, _, _, _⟩, rfl⟩
      · cases ht
    have hd := sm_tb.mp hd
    try walk_at "dy"
    rw [unit_tb, x_eq_tb]
    by_cases c0 : T = unitM
    · rw [decide_eq_true c0]
      try walk_at "dy"
      refine q2 fun l hl e => ?_
      have e2 := tbD_inj23 e
      match l, hl with
      | [], hl => exact absurd hl.2.1 (by decide)
      | c :: l, _ => exact tab_ne_unit (e2.symm.trans c0)
    · rw [decide_eq_false c0]
      try walk_at "dy"
      subst hr
      refine seq_step fun r hr => ?_
      walk_at "dy"
      rw [str_eL]
      subst hr
      refine seq_step fun r hr => ?_
      refine while_inv (fun m σ S' => ∃ (w : List Nat) (x : M2), σ = [some (tbD x), some (.str (ofL w))] ∧ S' = S ∧ isAB w = true ∧ w.length ≤ 60 ∧ T = mulM (tabM w) x ∧ SzM x (n + 3 * w.length) ∧ (∀ l, wrdL l → T = tabM l → ∃ r, l = w ++ r ∧ x = tabM r) ∧ m = 60 - w.length) 60 ⟨[], T, rfl, rfl, rfl, by decide, (unit_mul _).symm, hd, fun l hl e => ⟨l, rfl, e⟩, rfl⟩ ?_
      rintro m σ S' N ⟨w, x, rfl, rfl, hw, lw, hT, hx, hp, rfl⟩ k
      walk_at "dy"
      rw [unit_tb, x_ne_tb]
      by_cases cx : x = unitM
      · rw [decide_eq_true cx]
        try walk_at "dy"
        subst hr
        walk_at "dy"
        have eT : T = tabM w := by rw [hT, cx, mul_unit]
        refine q1 w ⟨hw, ?_, lw⟩ (by rw [eT])
        match w, eT with
        | [], eT => exact absurd eT c0
        | _ :: _, _ => exact Nat.succ_le_succ (Nat.zero_le _)
      · rw [decide_eq_false cx]
        try walk_at "dy"
        rw [ofL_len]
        refine ⟨by omega, ?_⟩
        by_cases c6 : (w.length : Int) = 60
        · rw [if_pos c6]
          try walk_at "dy"
          refine q2 fun l hl e => ?_
          obtain ⟨r', e1, e2⟩ := hp l hl (tbD_inj23 e)
          have := hl.2.2
          rw [e1, List.length_append] at this
          match r', e2, this with
          | [], e2, _ => exact cx e2
          | _ :: _, _, h => rw [List.length_cons] at h; omega
        · rw [if_neg c6]
          refine ⟨x, _, rfl, hx, by omega, by omega, ?_⟩
          have hc : (if x.p > 2 * x.r then 98 else 97) = 97 ∨ (if x.p > 2 * x.r then 98 else 97) = 98 := by split <;> simp
          generalize hcc : (if x.p > 2 * x.r then 98 else 97) = c at *
          walk_at "dy"
          show rdIadd (.str (ofL w)) (.str (ofL [c])) _ _
          unfold rdIadd
          refine ⟨by rw [ofL_len, ofL_len]; show w.length + 1 ≤ _; omega, ?_⟩
          rw [ofL_app]
          walk_at "dy"
          unfold dKix
          walk_at "dy"
          rw [ofL_len, ofL_cps, atI_lastN]
          refine ⟨by rw [List.length_append]; show w.length + 1 ≤ _; omega, ?_⟩
          walk_at "dy"
          rw [lt_at hc]
          refine ⟨ltM c, 3, rfl, szM_lt c, by decide, by decide, ?_⟩
          walk_at "dy"
          refine ⟨conM (ltM c), x, n + 3 * w.length + 3, rfl, ?_, hx.mono (by omega), by omega, by omega, ?_⟩
          · rw [con_lt]; exact (szM_ltI c).mono (by omega)
          · walk_at "dy"
            rw [con_lt]
            have lw1 : (w ++ [c]).length = w.length + 1 := by rw [List.length_append]; rfl
            refine k _ _ _ (by show 60 - (w.length + 1) < _; omega) ⟨w ++ [c], mulM (ltI c) x, rfl, rfl, isAB_app hw (isAB_iff.mpr fun d hd => by rw [List.mem_singleton.mp hd]; exact hc), by omega, ?_, (szM_ltImul c hx).mono (by omega), fun l hl e => ?_, by rw [lw1]⟩
            · rw [tabM_app, tabM_one, mulM_assoc, ← mulM_assoc (ltM c), lt_ltI, unit_mul]
              exact hT
            · obtain ⟨r', e1, e2⟩ := hp l hl e
              match r', e1, e2 with
              | [], _, e2 => exact absurd e2 cx
              | c' :: r2, e1, e2 =>
                have hc' : c' = 97 ∨ c' = 98 := isAB_iff.mp hl.1 c' (by rw [e1]; simp)
                have hf := first_tab (l := r2) hc'
                rw [← e2, hcc] at hf
                subst hf
                refine ⟨r2, by rw [e1]; simp, ?_⟩
                rw [e2]
                show mulM (ltI c) (mulM (ltM c) (tabM r2)) = tabM r2
                rw [← mulM_assoc, ltI_mul, unit_mul]

theorem pure_is_tuple_of : ∀ ds S Q Ed, sp_is_tuple_of ds S Q Ed → t_is_tuple_of Ed { nx := fun _ S' => Q .non S', rt := Q } (startD N_is_tuple_of ds) S := by
  rintro ds S Q Ed ⟨d, n, m, rfl, hs, q⟩
  rw [st_is_tuple_of]
  unfold t_is_tuple_of
  cases d with
  | tup xs => walk_at "dy"; exact q
  | non => walk_at "dy"; exact q
  | bl b => walk_at "dy"; exact q
  | int i => walk_at "dy"; exact q
  | str x => walk_at "dy"; exact q
  | lst xs => walk_at "dy"; exact q
  | _ => unfold sm at hs; cases hs

theorem pure_is_part_of : ∀ ds S Q Ed, sp_is_part_of ds S Q Ed → t_is_part_of Ed { nx := fun _ S' => Q .non S', rt := Q } (startD N_is_part_of ds) S := by
  rintro ds S Q Ed ⟨d, w, m, rfl, hd, hw, q⟩
  rw [st_is_part_of]
  unfold t_is_part_of
  walk_at "dy"
  refine ⟨d, m, rfl, hd, ?_⟩
  cases e : isWordD d with
  | false =>
    try walk_at "dy"
    cases d with
    | str z =>
      have q : Q (.bl (isWordD (.str z) && _)) S := q
      rw [e, Bool.false_and] at q
      exact q
    | _ => exact q
  | true =>
    obtain ⟨l, rfl, l0, l1, _⟩ := isWordD_str e
    have q : Q (.bl (isWordD (.str (ofL l)) && (decide ((ofL l).length ≤ w.length) && hasS (w ++ w) (ofL l)))) S := q
    rw [e, Bool.true_and] at q
    try walk_at "dy"
    rw [ofL_len] at q ⊢
    by_cases c : (l.length : Int) ≤ (w.length : Int)
    · try rw [if_pos (by simpa using c)]
      rw [decide_eq_true (by omega), Bool.true_and] at q
      exact ⟨by omega, by omega, by omega, q⟩
    · try rw [if_neg (by simpa using c)]
      rw [decide_eq_false (by omega), Bool.false_and] at q
      exact ⟨by omega, by omega, q⟩

theorem pure_even_holds : ∀ ds S Q Ed, sp_even_holds ds S Q Ed → t_even_holds Ed { nx := fun _ S' => Q .non S', rt := Q } (startD N_even_holds ds) S := by
  rintro ds S Q Ed ⟨w, p, m, rfl, hw, hp, q⟩
  rw [st_even_holds]
  unfold t_even_holds
  cases p with
  | non =>
    have q : Q (.bl (isWordD w && evenD w)) S := q
    walk_at "dy"
    refine ⟨w, m, rfl, hw, ?_⟩
    cases e : isWordD w with
    | false =>
      rw [e, Bool.false_and] at q
      try walk_at "dy"
      exact q
    | true =>
      rw [e, Bool.true_and] at q
      try walk_at "dy"
      obtain ⟨l, rfl, _⟩ := isWordD_str e
      have q : Q (.bl (evenL l)) S := q
      refine ⟨_, m, rfl, hw, fun h => absurd (h.symm.trans e) (by decide), fun _ => ⟨l, rfl, fun s s0 s1 u _ => ?_, fun h => ?_⟩⟩
      · have : evenL l = false := by
          cases h : evenL l with
          | false => rfl
          | true => exact absurd u (evenL_iff.mp h s s0 s1)
        rw [this] at q
        exact q
      · rw [evenL_iff.mpr h] at q
        exact q
  | _ => first | (walk_at "dy"; exact q) | exact absurd (show false = true from hp) Bool.false_ne_true

theorem pure_uneven_holds : ∀ ds S Q Ed, sp_uneven_holds ds S Q Ed → t_uneven_holds Ed { nx := fun _ S' => Q .non S', rt := Q } (startD N_uneven_holds ds) S := by
  rintro ds S Q Ed ⟨w, p, m, rfl, hw, hp, q⟩
  rw [st_uneven_holds]
  unfold t_uneven_holds
  refine seq_step fun r hr => ?_
  walk_at "dy"
  refine ⟨w, m, rfl, hw, ?_⟩
  cases e : isWordD w with
  | false =>
    try walk_at "dy"
    have e0 : unevB w p = false := by
      unfold unevB
      split
      · rw [e]; rfl
      · rfl
    rw [e0] at q
    exact q
  | true =>
    obtain ⟨l, rfl, l0, l1, hab⟩ := isWordD_str e
    try walk_at "dy"
    refine ⟨p, 2, m, rfl, hp, ?_⟩
    cases e2 : tupOfB p 2 with
    | false =>
      try walk_at "dy"
      have e0 : unevB (.str (ofL l)) p = false := by
        unfold unevB
        split
        · simp [tupOfB] at e2
        · rfl
      rw [e0] at q
      exact q
    | true =>
      match p, e2, hp, q with
      | .tup [a, b], _, hp, q =>
        have ha := smT.mp hp a (by simp)
        have hb := smT.mp hp b (by simp)
        try walk_at "dy"
        refine comp_pureG (fun x => .bl (partD (ofL l) x)) [a, b] S (fun R hR => by walk_at "dy"; exact hR) (fun x hx S' Q' q' => ?_) (by show 2 ≤ 16777216; decide) ?_
        · walk_at "dy"
          exact ⟨x, ofL l, m, rfl, smT.mp hp x hx, by rw [ofL_len]; omega, q'⟩
        refine x_allb (bs := [partD (ofL l) a, partD (ofL l) b]) rfl ?_
        have q : Q (.bl (isWordD (.str (ofL l)) && (partD (ofL l) a && partD (ofL l) b) && cmpD a b)) S := q
        rw [e, Bool.true_and] at q
        rw [show ([partD (ofL l) a, partD (ofL l) b].all id) = (partD (ofL l) a && partD (ofL l) b) by simp]
        cases e3 : (partD (ofL l) a && partD (ofL l) b) with
        | false =>
          rw [e3, Bool.false_and] at q
          try walk_at "dy"
          try rw [if_pos (by simp)]
          exact q
        | true =>
          rw [e3, Bool.true_and] at q
          obtain ⟨e4, e5⟩ := Bool.and_eq_true_iff.mp e3
          obtain ⟨x, rfl⟩ := partD_str e4
          obtain ⟨y, rfl⟩ := partD_str e5
          have q : Q (.bl (decide (x.length = y.length) && decide (cntB x - cntB y > 1))) S := q
          have hx := sm_str.mp ha
          have hy := sm_str.mp hb
          try walk_at "dy"
          try rw [if_neg (by simp)]
          subst hr
          walk_at "dy"
          rw [txt_count_b, txt_count_b]
          by_cases c : x.length = y.length
          · rw [decide_eq_true c, Bool.true_and] at q
            refine ⟨by omega, by omega, ?_⟩
            rw [if_pos (by omega)]
            exact q
          · rw [decide_eq_false c, Bool.false_and] at q
            refine ⟨by omega, by omega, ?_⟩
            rw [if_neg (by omega)]
            exact q

theorem pure_holds : ∀ ds S Q Ed, sp_holds ds S Q Ed → t_holds Ed { nx := fun _ S' => Q .non S', rt := Q } (startD N_holds ds) S := by
  rintro ds S Q Ed ⟨c, p, m, rfl, hc, hp, cl, q⟩
  rw [st_holds]
  unfold t_holds
  cases c with
  | tup xs =>
    cases xs with
    | nil => walk_at "dy"; exact q
    | cons x r =>
      have hx := smT.mp hc x (.head _)
      refine seq_step fun r1 hr => ?_
      walk_at "dy"
      rw [if_neg (by omega)]
      cases x with
      | str z =>
        simp only [isi_str_str, if_true]
        try walk_at "dy"
        subst hr
        refine seq_step fun r1 hr => ?_
        walk_at "dy"
        subst hr
        refine seq_step fun r1 hr => ?_
        walk_at "dy"
        have e1 : ((r.length + 1 : Nat) : Int) - 1 = (r.length : Int) := by omega
        rw [e1]
        have rest : (r.length = 1 → z ≠ "even" ∧ z ≠ "uneven") → r1 { nx := fun _ S' => Q .non S', rt := Q } [some (.tup (.str z :: r)), some p, some (.str z), some (.int (r.length : Int)), none] S := fun hne => by
          have eq0 : evB (.tup (.str z :: r)) p = false := by
            unfold evB
            split
            · rename_i z' w' p' h
              simp only [D.tup.injEq, List.cons.injEq, D.str.injEq] at h
              obtain ⟨rfl, rfl⟩ := h
              obtain ⟨n1, n2⟩ := hne rfl
              rw [if_neg n1, if_neg n2]
            · rfl
          rw [eq0] at q
          subst hr
          refine seq_step fun r1 hr => ?_
          have t2 : r1 { nx := fun _ S' => Q .non S', rt := Q } [some (.tup (.str z :: r)), some p, some (.str z), some (.int (r.length : Int)), none] S := by
            subst hr
            refine seq_step fun r1 hr => ?_
            have t3 : r1 { nx := fun _ S' => Q .non S', rt := Q } [some (.tup (.str z :: r)), some p, some (.str z), some (.int (r.length : Int)), none] S := by
              subst hr
              walk_at "dy"
              exact q
            walk_at "dy"
            by_cases c3 : (r.length : Int) = 3
            · rw [if_pos c3]
              obtain ⟨n1, n2, n3⟩ := cl.2.2 (by omega)
              rw [if_neg (by simp only [List.mem_cons, List.not_mem_nil, or_false, not_or]; exact ⟨n1, n2, n3⟩)]
              exact t3
            · rw [if_neg c3]
              exact t3
          walk_at "dy"
          by_cases c2 : (r.length : Int) = 2
          · rw [if_pos c2]
            rw [if_neg (by simp only [List.mem_cons, List.not_mem_nil, or_false]; exact cl.2.1 (by omega))]
            exact t2
          · rw [if_neg c2]
            exact t2
        by_cases c1 : (r.length : Int) = 1
        · rw [if_pos c1]
          obtain ⟨w, rfl⟩ : ∃ w, r = [w] := by
            match r, c1 with
            | [w], _ => exact ⟨w, rfl⟩
            | [], h => simp at h
            | _ :: _ :: _, h => simp at h; omega
          have hw := smT.mp hc w (by simp)
          obtain ⟨n1, n2⟩ := cl.1 rfl
          by_cases ze : z = "even"
          · subst ze
            rw [if_pos (by simp)]
            have e : k_HOLD "even" = some (.fn "even_holds") := by unfold k_HOLD; rw [if_pos rfl]
            unfold dKix
            rw [dVar_of rfl]
            dsimp only
            rw [e]
            dsimp only
            refine ⟨"even_holds", sp_even_holds, rfl, by simp, ?_⟩
            walk_at "dy"
            exact ⟨w, p, m, rfl, hw, hp, q⟩
          by_cases zu : z = "uneven"
          · subst zu
            rw [if_pos (by simp)]
            have e : k_HOLD "uneven" = some (.fn "uneven_holds") := by unfold k_HOLD; rw [if_neg (by decide), if_pos rfl]
            unfold dKix
            rw [dVar_of rfl]
            dsimp only
            rw [e]
            dsimp only
            refine ⟨"uneven_holds", sp_uneven_holds, rfl, by simp, ?_⟩
            walk_at "dy"
            refine ⟨w, p, m, rfl, hw, hp, ?_⟩
            have e3 : evB (.tup [.str "uneven", w]) p = unevB w p := by
              unfold evB
              dsimp only
              rw [if_neg (by decide), if_pos rfl]
            rw [e3] at q
            exact q
          rw [if_neg (by simp only [List.mem_cons, List.not_mem_nil, or_false, not_or]; exact ⟨ze, zu, n1, n2⟩)]
          exact rest fun _ => ⟨ze, zu⟩
        · rw [if_neg c1]
          exact rest fun h => absurd h (by omega)
      | non => simp only [isi_non_str]; try walk_at "dy"
               exact q
      | bl b => simp only [isi_bl_str]; try walk_at "dy"
                exact q
      | int b => simp only [isi_int_str]; try walk_at "dy"
                 exact q
      | tup b => simp only [isi_tup_str]; try walk_at "dy"
                 exact q
      | lst b => simp only [isi_lst_str]; try walk_at "dy"
                 exact q
      | _ => unfold sm at hx; cases hx
  | _ => first | (walk_at "dy"; exact q) | exact absurd (show false = true from hc) Bool.false_ne_true

theorem pure_law_urn : ∀ ds S Q Ed, sp_law_urn ds S Q Ed → t_law_urn Ed { nx := fun _ S' => Q .non S', rt := Q } (startD N_law_urn ds) S := by
  rintro ds S Q Ed ⟨ns, at_, rfl, h0, h1, q⟩
  rw [st_law_urn]
  unfold t_law_urn
  walk_at "dy"
  have fin : ∀ (g c : Int), 0 ≤ g → ∀ p, S p = none → Q (.obj p) (upS S p (.lst [.int g, .int (c.fmod 1000000000000000003 + 97 * at_ * at_ + 31 * at_ + 1), .int 0])) := fun g c hg p hp => by
    have f := fmod_in (a := c) (b := 1000000000000000003) (by decide)
    have e1 : 0 ≤ 97 * at_ * at_ := Int.mul_nonneg (by omega) h0
    have e2 : 97 * at_ * at_ ≤ 9700 * 100 := Int.mul_le_mul (by omega) (by omega) h0 (by omega)
    exact q p _ hp ⟨g, _, 0, upS_same, hg, by omega, by omega, by decide, by decide⟩ fun a ha => upS_ne ha
  have m1 : (Int.natAbs 97).log2 + at_.natAbs.log2 < 1000000 := mulOk 7 7 (by decide) (by omega) (by decide) (by decide) (by decide)
  have m2 : (97 * at_).natAbs.log2 + at_.natAbs.log2 < 1000000 := mulOk 14 7 (by omega) (by omega) (by decide) (by decide) (by decide)
  have m3 : (Int.natAbs 31).log2 + at_.natAbs.log2 < 1000000 := mulOk 7 7 (by decide) (by omega) (by decide) (by decide) (by decide)
  by_cases c : at_ < ((ns.map D.int).length : Int)
  · rw [if_pos c, atI_lt h0 c, List.getElem?_map]
    rw [List.length_map] at c
    have e : ns[at_.toNat]? = some ns[at_.toNat] := List.getElem?_eq_getElem (by omega)
    rw [e]
    show ixQ S _ (some (D.int ns[at_.toNat]))
    walk_at "dy"
    refine ⟨by decide, ?_⟩
    generalize e2 : (if ns[at_.toNat] < 0 then -ns[at_.toNat] else ns[at_.toNat]) = g
    have hg : 0 ≤ g := by rw [← e2]; split <;> omega
    split
    · exact ⟨by decide, m1, m2, m3, fin _ _ (by decide)⟩
    · exact ⟨by decide, m1, m2, m3, fin _ _ hg⟩
  · rw [if_neg c]
    refine ⟨by decide, ?_⟩
    split
    · exact ⟨by decide, m1, m2, m3, fin _ _ (by decide)⟩
    · exact ⟨by decide, m1, m2, m3, fin _ _ (by decide)⟩

theorem pure_law_draw : ∀ ds S Q Ed, sp_law_draw ds S Q Ed → t_law_draw Ed { nx := fun _ S' => Q .non S', rt := Q } (startD N_law_draw ds) S := by
  rintro ds S Q Ed ⟨u, w, B, rfl, ⟨g, c, n, hu, g0, c0, c1, n0, n1⟩, hB, w0, w1, q⟩
  have lw : w.natAbs.log2 < 9000 := Nat.lt_of_lt_of_le (log2_lt (n := 1000) (abs_lt_of (by omega) w1) (by decide)) (by decide)
  rw [st_law_draw]
  unfold t_law_draw
  walk_at "dy"
  rw [x_ixo hu]
  walk_at "dy"
  by_cases cg : 0 < g
  · rw [if_pos cg, x_ixo hu]
    walk_at "dy"
    refine ⟨by omega, ?_⟩
    rw [x_ixo hu]
    walk_at "dy"
    refine ⟨⟨by omega, lw⟩, ?_⟩
    rw [x_set hu (ixN_0 (by simp))]
    walk_at "dy"
    have f := fmod_in (a := g) w0
    refine q _ _ f.1 f.2 ⟨g.fdiv w, c, n, upS_same, ?_, c0, c1, n0, by omega⟩ fun a ha => upS_ne ha
    rw [Int.fdiv_eq_ediv_of_nonneg g (by omega)]
    exact Int.ediv_nonneg g0 (by omega)
  · rw [if_neg cg]
    rw [x_ixo hu]
    walk_at "dy"
    rw [x_set hu (ixN_2 (by simp))]
    have hu2 : upS S u (.lst [.int g, .int c, .int (n + 1)]) u = some (.lst [.int g, .int c, .int (n + 1)]) := upS_same
    walk_at "dy"
    rw [x_ixo hu2]
    walk_at "dy"
    rw [x_ixo hu2]
    walk_at "dy"
    have hn : n < 2 ^ 100 + 1 := by omega
    have b1 : (n + 1).natAbs < 2 ^ 101 := abs_lt_of (by omega) (by omega)
    have b2 : (2 * (n + 1) + 1).natAbs < 2 ^ 103 := abs_lt_of (by omega) (by omega)
    have b3 : c.natAbs < 2 ^ 70 := abs_lt_of c0 c1
    have b4 : (c * (2 * (n + 1) + 1)).natAbs < 2 ^ (70 + 103) := wide_lt b3 b2
    have b5 : (6007 * (n + 1)).natAbs < 2 ^ (13 + 101) := wide_lt (by decide) b1
    have b6 : (6007 * (n + 1) * (n + 1)).natAbs < 2 ^ (13 + 101 + 101) := wide_lt b5 b1
    have b7 : (c * (2 * (n + 1) + 1) + 6007 * (n + 1) * (n + 1) + 53).natAbs < 2 ^ 220 := by
      have e1 : (2 : Nat) ^ (70 + 103) ≤ 2 ^ 216 := Nat.pow_le_pow_right (by decide) (by decide)
      have e2 : (2 : Nat) ^ (13 + 101 + 101) ≤ 2 ^ 216 := Nat.pow_le_pow_right (by decide) (by decide)
      omega
    refine ⟨mulOk 2 101 (by decide) b1 (by decide) (by decide) (by decide), mulOk 70 103 b3 b2 (by decide) (by decide) (by decide), mulOk 13 101 (by decide) b1 (by decide) (by decide) (by decide), mulOk (13 + 101) 101 b5 b1 (by decide) (by decide) (by decide), powOk 220 3 b7 (by decide) (by decide) (by decide), by decide, ?_⟩
    have f7 := fmod_in (a := n + 1) (b := 7) (by decide)
    obtain ⟨p, ep, p0, p1⟩ := primes_at f7.1 f7.2
    have f8 := fmod_in (a := n + 1 + 3) (b := 7) (by decide)
    obtain ⟨p', ep', p0', p1'⟩ := primes_at f8.1 f8.2
    unfold primes at ep ep'
    rw [ep]
    walk_at "dy"
    have fm := fmod_in (a := (c * (2 * (n + 1) + 1) + 6007 * (n + 1) * (n + 1) + 53) ^ Int.toNat 3) (b := p) (by omega)
    rw [ep']
    walk_at "dy"
    generalize (c * (2 * (n + 1) + 1) + 6007 * (n + 1) * (n + 1) + 53) ^ Int.toNat 3 = big at fm ⊢
    have fd : 0 ≤ (big.fmod p).fdiv 8191 ∧ (big.fmod p).fdiv 8191 < 2 ^ 31 := by
      rw [Int.fdiv_eq_ediv_of_nonneg _ (by decide)]
      omega
    refine ⟨by omega, ⟨by decide, by decide⟩, mulOk 31 102 (abs_lt_of fm.1 (by omega)) (abs_lt_of (by omega) (by omega)) (by decide) (by decide) (by decide), by decide, by omega, ⟨by decide, by decide⟩, by omega, ?_⟩
    exact q _ _ (fmod_in w0).1 (fmod_in w0).2 ⟨g, c, n + 1, upS_same, g0, c0, c1, by omega, by omega⟩ fun a ha => upS_ne ha

theorem pure_law_shared : ∀ ds S Q Ed, sp_law_shared ds S Q Ed → t_law_shared Ed { nx := fun _ S' => Q .non S', rt := Q } (startD N_law_shared ds) S := by
  rintro ds S Q Ed ⟨a, b, rfl, q⟩
  rw [st_law_shared]
  unfold t_law_shared
  walk_at "dy"
  have ab : ∀ x : Int, (if x < 0 then -x else x) = (x.natAbs : Int) := fun x => by split <;> omega
  rw [ab, ab]
  refine while_inv (fun m σ S' => ∃ x y : Nat, σ = [some (.int x), some (.int y)] ∧ S' = S ∧ Nat.gcd x y = Int.gcd a b ∧ m = y) b.natAbs ⟨_, _, rfl, rfl, rfl, rfl⟩ ?_
  rintro m σ S' N ⟨x, y, rfl, rfl, e, rfl⟩ k
  walk_at "dy"
  by_cases c : 0 < (m : Int)
  · rw [if_pos c]
    refine ⟨by omega, ?_⟩
    have e2 : (x : Int).fmod (m : Int) = ((x % m : Nat) : Int) := by rw [Int.fmod_eq_emod_of_nonneg _ (by omega)]; rfl
    rw [e2]
    refine k (x % m) _ _ (Nat.mod_lt _ (by omega)) ⟨m, x % m, rfl, rfl, ?_, rfl⟩
    rw [← e, Nat.gcd_comm x m, Nat.gcd_rec m x, Nat.gcd_comm]
  · rw [if_neg c]
    have e3 : m = 0 := by omega
    subst e3
    rw [Nat.gcd_zero_right] at e
    rw [e]
    exact q

theorem pure_law_all_words : ∀ ds S Q Ed, sp_law_all_words ds S Q Ed → t_law_all_words Ed { nx := fun _ S' => Q .non S', rt := Q } (startD N_law_all_words ds) S := by
  rintro ds S Q Ed ⟨n, rfl, hn, q⟩
  rw [st_law_all_words]
  unfold t_law_all_words
  refine seq_step fun r hr => ?_
  walk_at "dy"
  subst hr
  refine seq_step fun r hr => ?_
  walk_at "dy"
  try refine ⟨by omega, ?_⟩
  try rw [Int.toNat_natCast]
  refine loop_rng (n := n) (fun i σ S' => (∃ a b c, σ = [some (.int n), some (.lst ((AB i).map abD)), a, b, c]) ∧ S' = S) ⟨⟨none, none, none, rfl⟩, rfl⟩ ?_ ?_
  · rintro i σ S' N hi ⟨⟨a, b, c, rfl⟩, rfl⟩ k
    refine seq_step fun r2 hr2 => ?_
    walk_at "dy"
    intro p hp
    subst hr2
    refine seq_step fun r2 hr2 => ?_
    walk_at "dy"
    have l128 : (AB i).length ≤ 64 := by
      rw [ab_len]
      have : 2 ^ i ≤ 2 ^ 6 := Nat.pow_le_pow_right (by decide) (by omega)
      omega
    refine loop_all (fun pre σ S2 => ∃ (l r' : List (List Nat)) (c : Option D), AB i = l ++ r' ∧ pre = l.map abD ∧ σ = [some (.int n), some (.lst ((AB i).map abD)), some (.int (0 + i)), some (.obj p), c] ∧ S2 = upS S' p (.lst ((lnN l).map abD))) ⟨[], AB i, _, rfl, rfl, rfl, rfl⟩ ?_ ?_
    · rintro pre x rest σ S2 N2 ex1 ⟨l, r', c, el, rfl, rfl, rfl⟩ k2
      obtain ⟨kk, r3, rfl, rfl⟩ : ∃ kk r3, r' = kk :: r3 ∧ x = abD kk := by
        rw [el, List.map_append] at ex1
        have e3 := List.append_cancel_left ex1
        cases r' with
        | nil => cases e3
        | cons kk r2 =>
          injection e3 with e3 _
          exact ⟨kk, r2, rfl, e3.symm⟩
      have h3 : (lnN l).length ≤ 128 := by
        rw [lnN_len]
        have := congrArg List.length el
        rw [List.length_append] at this
        omega
      unfold abD
      walk_at "dy"
      have ea : (Str.ofString "a") = ⟨#[97]⟩ := by decide +kernel
      have eb : (Str.ofString "b") = ⟨#[98]⟩ := by decide +kernel
      have la : (ofL kk).length + (Str.ofString "a").length ≤ 16777216 := by
        rw [ofL_len, (ab_in (n := i) (by rw [el]; simp)).1, show (Str.ofString "a").length = 1 from by decide +kernel]; omega
      have lb : (ofL kk).length + (Str.ofString "b").length ≤ 16777216 := by
        rw [ofL_len, (ab_in (n := i) (by rw [el]; simp)).1, show (Str.ofString "b").length = 1 from by decide +kernel]; omega
      refine ⟨⟨_, upS_same⟩, la, lb, p, _, _, rfl, upS_same, .inr rfl, by rw [List.length_map]; show _ + 2 ≤ _; omega, ?_⟩
      rw [upS_upS, ea, eb, abD_a, abD_b]
      refine k2 _ _ ⟨l ++ [kk], r3, _, by rw [el]; simp, by simp, rfl, ?_⟩
      rw [lnN_app, List.map_append]
      rfl
    · rintro σ S2 ⟨l, r', c, el, hl, rfl, rfl⟩
      subst hr2
      dsimp only
      have er : r' = [] := by
        have h1 := congrArg List.length hl
        have h2 := congrArg List.length el
        rw [List.length_map, List.length_map] at h1
        rw [List.length_append] at h2
        exact List.eq_nil_of_length_eq_zero (by omega)
      subst er
      rw [List.append_nil] at el
      subst el
      refine ⟨p, _, rfl, upS_same, ?_⟩
      rw [del_upS hp]
      walk_at "dy"
      exact k _ _ ⟨⟨_, _, _, rfl⟩, rfl⟩
  · rintro σ S' ⟨⟨a, b, c, rfl⟩, rfl⟩
    subst hr
    walk_at "dy"
    exact q

theorem pure_law_even_right : ∀ ds S Q Ed, sp_law_even_right ds S Q Ed → t_law_even_right Ed { nx := fun _ S' => Q .non S', rt := Q } (startD N_law_even_right ds) S := by
  rintro ds S Q Ed ⟨n, l, rfl, n1, n7, hl, q⟩
  rw [st_law_even_right]
  unfold t_law_even_right
  obtain ⟨e1, e2⟩ := ab_in hl
  have hw := ab_word n1 n7 hl
  have hE := okE_of n1 n7 hl
  unfold okE at hE
  simp only [Bool.and_eq_true] at hE
  obtain ⟨⟨_, hrot⟩, hpairs⟩ := hE
  have nw : ∀ {P : Prop}, isWordD (.str (ofL l)) = false → P := fun h => absurd (hw.symm.trans h) (by decide)
  have hsl : sm 20 (.str (ofL l)) = true := sm_str.mpr (by rw [ofL_len]; omega)
  have hcnt : l.count 98 ≤ l.length := List.count_le_length
  refine seq_step fun r hr => ?_
  walk_at "dy"
  subst hr
  refine seq_step fun r hr => ?_
  walk_at "dy"
  rw [count_b]
  refine ⟨by rw [ofL_len]; omega, l.count 98, l.length - l.count 98, ?_, by omega, ?_⟩
  · rw [ofL_len, show ((l.length : Int) - (l.count 98 : Nat)) = ((l.length - l.count 98 : Nat) : Int) by omega]
  rw [show l.count 98 + (l.length - l.count 98) = l.length by omega]
  subst hr
  refine seq_step fun r hr => ?_
  refine seq_set ?_
  unfold dOp
  refine var_go rfl ?_
  refine comp_pure (fun d => match d with | .int k => .str (ofL (rtL l k.toNat)) | _ => .non) (rgD 0 l.length) S (fun R hR => ?_) (fun x hx S4 Q4 q4 => ?_) (by rw [rgD_len]; omega) ?_
  · walk_at "dy"
    rw [ofL_len]
    refine ⟨by omega, by omega, ?_⟩
    try rw [show ((l.length : Nat) : Int).toNat = l.length from Int.toNat_natCast _]
    first | exact hR | exact ⟨by omega, hR⟩ | exact ⟨⟨by omega, by omega⟩, hR⟩
  · unfold rgD at hx
    obtain ⟨j, hj, rfl⟩ := List.mem_map.mp hx
    have hj := List.mem_range.mp hj
    simp only [wipeD, List.set_cons_zero, List.set_cons_succ]
    walk_at "dy"
    rw [cutS_drop (by omega) (by omega), cutS_take (by omega) (by omega), ofL_len, ofL_len, ofL_len, ofL_app, show (0 + (j : Int)).toNat = j by omega]
    refine ⟨by omega, by omega, by rw [List.length_drop, List.length_take]; omega, ?_⟩
    have q5 : Q4 (.str (ofL (rtL l (0 + (j : Int)).toNat))) S4 := q4
    rw [show (0 + (j : Int)).toNat = j by omega] at q5
    exact q5
  have hany : ((List.map (fun d => match d with | .int k => D.str (ofL (rtL l k.toNat)) | _ => .non) (rgD 0 l.length)).any fun z => deq z (.str (ofL (evF (l.count 98) l.length)))) = evenL l := by
    rw [← eq_of_beq hrot]
    unfold rgD
    rw [List.any_map, List.any_map]
    congr 1
    funext k
    show ((ofL (rtL l (0 + (k : Int)).toNat)) == ofL (evF (l.count 98) l.length)) = decide (rtL l k = evF (l.count 98) l.length)
    rw [show (0 + (k : Int)).toNat = k by omega]
    by_cases c : rtL l k = evF (l.count 98) l.length
    · rw [c, decide_eq_true rfl]; exact beq_self_eq_true _
    · rw [decide_eq_false c]; exact beq_eq_false_iff_ne.mpr fun h => c (ofL_inj.mp h)
  have abr : ∀ k, isAB (rtL l k) = true := fun k => isAB_iff.mpr fun c hc => by
    rcases List.mem_append.mp hc with hc | hc
    · exact isAB_iff.mp e2 c (List.mem_of_mem_drop hc)
    · exact isAB_iff.mp e2 c (List.mem_of_mem_take hc)
  have eF : eqOk (.lst (List.map (fun d => match d with | .int k => D.str (ofL (rtL l k.toNat)) | _ => .non) (rgD 0 l.length))) = true := okD_eqOk (k := 1) (okD_lst fun d hd => by
    obtain ⟨x, hx, rfl⟩ := List.mem_map.mp hd
    unfold rgD at hx
    obtain ⟨j, _, rfl⟩ := List.mem_map.mp hx
    exact okD_word (abr _)) (by decide)
  obtain ⟨i3, i4⟩ := Bool.and_eq_true_iff.mp eF
  obtain ⟨i1, i2⟩ := Bool.and_eq_true_iff.mp (okD_eqOk (k := 1) (okD_word (evF_ab (l.count 98) l.length)) (by decide))
  refine ⟨⟨i1, i3, i2, i4⟩, ?_⟩
  rw [hany, Bool.bne_false]
  simp only [List.set_cons_zero, List.set_cons_succ]
  subst hr
  refine seq_step fun r hr => ?_
  walk_at "dy"
  refine ⟨.str (ofL l), 20, rfl, hsl, nw, fun _ => ⟨l, rfl, fun s s1 s2 hu hmin => ?_, fun hno => ?_⟩⟩
  · have hL : evenL l = false := by
      cases h : evenL l with
      | false => rfl
      | true => exact absurd hu (evenL_iff.mp h s s1 s2)
    have hp : pairOk l s = true := by
      have h := List.all_eq_true.mp hpairs s (List.mem_range.mpr s2)
      rw [decide_eq_false (by omega), decide_eq_true hu] at h
      simpa using h
    rw [hL]
    dsimp only
    subst hr
    refine seq_step fun r hr => ?_
    unfold pairD
    walk_at "dy"
    refine ⟨.str (ofL l), 20, rfl, hsl, nw, fun _ => ⟨l, rfl, fun s' _ _ _ _ => ?_, fun hno => absurd hu (hno s s1 s2)⟩⟩
    unfold pairD
    walk_at "dy"
    rw [if_neg (by simp)]
    unfold rdIsN
    dsimp only
    walk_at "dy"
    refine ⟨_, _, 30, rfl, sm2 (sm_str.mpr (by decide +kernel)) (sm_str.mpr (by rw [ofL_len]; omega)), rfl, clean_ev "even" _ (.inl rfl) _, ?_⟩
    have ev : evB (.tup [.str "even", .str (ofL l)]) .non = false := by
      show (if ("even" : Str) = "even" then (isWordD (.str (ofL l)) && evenL (ofL l).cps.toList) else (if ("even" : Str) = "uneven" then unevB (.str (ofL l)) .non else false)) = _
      rw [if_pos rfl, ofL_cps, hw, hL]; rfl
    rw [ev]
    dsimp only
    walk_at "dy"
    rw [if_neg (by simp)]
    subst hr
    refine seq_step fun r hr => ?_
    walk_at "dy"
    unfold rdIsN
    dsimp only
    rw [if_neg (by simp)]
    subst hr
    refine seq_step fun r hr => ?_
    walk_at "dy"
    unfold pairOk at hp
    simp only [Bool.and_eq_true, decide_eq_true_eq] at hp
    obtain ⟨⟨⟨⟨⟨⟨⟨p1, p2⟩, p3⟩, p4⟩, p5⟩, p6⟩, p7⟩, p8⟩ := hp
    have p9 : (partL l s (biP false l s)).length = (partL l s (biP true l s)).length := p1.symm
    subst hr
    refine seq_step fun r hr => ?_
    walk_at "dy"
    rw [count_b, count_b, ofL_len, ofL_len]
    refine ⟨by omega, by omega, ?_⟩
    rw [if_neg (by omega), if_neg (by omega)]
    subst hr
    walk_at "dy"
    rw [ofL_len, p3, p4]
    refine ⟨by omega, ?_⟩
    rw [if_pos rfl]
    refine ⟨by omega, ?_⟩
    rw [if_pos rfl]
    have q2 : (partL l s (biP false l s)).length ≤ l.length := by omega
    have eu : evB (.tup [.str "uneven", .str (ofL l)]) (.tup [.str (ofL (partL l s (biP true l s))), .str (ofL (partL l s (biP false l s)))]) = true := by
      show (if ("uneven" : Str) = "even" then (false : Bool) else (if ("uneven" : Str) = "uneven" then unevB (.str (ofL l)) (.tup [.str (ofL (partL l s (biP true l s))), .str (ofL (partL l s (biP false l s)))]) else false)) = true
      rw [if_neg (by decide +kernel), if_pos rfl]
      show (isWordD (.str (ofL l)) && (partC (ofL (partL l s (biP true l s))) (ofL l) && partC (ofL (partL l s (biP false l s))) (ofL l)) && (decide ((ofL (partL l s (biP true l s))).length = (ofL (partL l s (biP false l s))).length) && decide (cntB (ofL (partL l s (biP true l s))) - cntB (ofL (partL l s (biP false l s))) > 1))) = true
      unfold partC
      rw [hw, isWordD_ofL p5 p7 (by omega), isWordD_ofL p6 (by omega) (by omega), p3, p4]
      simp only [ofL_len, Bool.true_and, Bool.and_true, Bool.and_eq_true, decide_eq_true_eq]
      have c1 : cntB (ofL (partL l s (biP true l s))) = ((partL l s (biP true l s)).count 98 : Nat) := rfl
      have c2 : cntB (ofL (partL l s (biP false l s))) = ((partL l s (biP false l s)).count 98 : Nat) := rfl
      rw [c1, c2]
      exact ⟨⟨p8, q2⟩, p1, by omega⟩
    refine ⟨_, _, 30, rfl, sm2 (sm_str.mpr (by decide +kernel)) (sm_str.mpr (by rw [ofL_len]; omega)), sm2 (sm_str.mpr (by rw [ofL_len]; omega)) (sm_str.mpr (by rw [ofL_len]; omega)), clean_ev "uneven" _ (.inr rfl) _, ?_⟩
    rw [eu]
    walk_at "dy"
    simpa using q
  · have hL : evenL l = true := evenL_iff.mpr hno
    rw [hL]
    dsimp only
    subst hr
    refine seq_step fun r hr => ?_
    walk_at "dy"
    refine ⟨.str (ofL l), 20, rfl, hsl, nw, fun _ => ⟨l, rfl, fun s' a b c _ => absurd c (hno s' a b), fun _ => ?_⟩⟩
    walk_at "dy"
    rw [if_neg (by simp)]
    unfold rdIsN
    dsimp only
    walk_at "dy"
    refine ⟨_, _, 30, rfl, sm2 (sm_str.mpr (by decide +kernel)) (sm_str.mpr (by rw [ofL_len]; omega)), rfl, clean_ev "even" _ (.inl rfl) _, ?_⟩
    have ev : evB (.tup [.str "even", .str (ofL l)]) .non = true := by
      show (if ("even" : Str) = "even" then (isWordD (.str (ofL l)) && evenL (ofL l).cps.toList) else (if ("even" : Str) = "uneven" then unevB (.str (ofL l)) .non else false)) = _
      rw [if_pos rfl, ofL_cps, hw, hL]; rfl
    rw [ev]
    dsimp only
    walk_at "dy"
    rw [if_neg (by simp)]
    subst hr
    refine seq_step fun r hr => ?_
    walk_at "dy"
    unfold rdIsN
    dsimp only
    rw [if_pos rfl]
    exact q

theorem pure_law_step_right : ∀ ds S Q Ed, sp_law_step_right ds S Q Ed → t_law_step_right Ed { nx := fun _ S' => Q .non S', rt := Q } (startD N_law_step_right ds) S := by
  rintro ds S Q Ed ⟨n, l, rfl, n1, n7, hls, q⟩
  rw [st_law_step_right]
  unfold t_law_step_right
  obtain ⟨hl, hs⟩ := List.mem_filter.mp hls
  obtain ⟨e1, e2⟩ := ab_in hl
  have hw := ab_word (by omega) n7 hl
  have nw : ∀ {P : Prop}, isWordD (.str (ofL l)) = false → P := fun h => absurd (hw.symm.trans h) (by decide)
  have elD : ∀ {l' : List Nat}, D.str (ofL l) = D.str (ofL l') → l' = l := fun h => (ofL_inj.mp (by injection h)).symm
  have hev := step_even hs (by omega)
  have hT := okT_of (by omega) n7 hls
  unfold okT at hT
  obtain ⟨hT, t3⟩ := Bool.and_eq_true_iff.mp hT
  obtain ⟨t1, t2⟩ := Bool.and_eq_true_iff.mp hT
  obtain ⟨b1, b2, b3, b4⟩ := of_decide_eq_true t3
  have t1 := of_decide_eq_true t1
  have t2 := of_decide_eq_true t2
  have hsl : sm 20 (.str (ofL l)) = true := sm_str.mpr (by rw [ofL_len]; omega)
  refine seq_step fun r hr => ?_
  walk_at "dy"
  refine ⟨.str (ofL l), 20, rfl, hsl, nw, fun l1 el1 _ => ?_⟩
  obtain rfl := elD el1
  refine ⟨fun s s1 s2 hu _ => absurd hu (hev s s1 s2), fun _ => ⟨fun _ _ => ?_, fun h => absurd ⟨by omega, hs⟩ h⟩⟩
  obtain ⟨w, hwy, ew⟩ := step_way hs (by omega) (by omega)
  subst ew
  refine ⟨w, hwy, rfl, ?_⟩
  refine ⟨.str (ofL (wordW w)), 20, rfl, hsl, nw, fun l1 el1 _ => ?_⟩
  obtain rfl := elD el1
  refine ⟨fun s s1 s2 hu _ => absurd hu (hev s s1 s2), fun _ => ⟨fun m _ _ m0 m1 hm => ?_, fun h => absurd ⟨by omega, hs⟩ h⟩⟩
  have hm2 := (hm m m0 m1).mpr rfl
  obtain ⟨sf, ss⟩ := Bool.and_eq_true_iff.mp hm2
  refine ⟨rfl, ?_⟩
  dsimp only
  have lf := congrArg List.length (List.take_append_drop m (wordW w))
  rw [List.length_append] at lf
  have abf : ∀ {x : List Nat}, isStepL x = true → 1 ≤ x.length → x.length ≤ 60 → isWordD (.str (ofL x)) = true := fun h a b => by
    obtain ⟨_, h⟩ := Bool.and_eq_true_iff.mp h
    have h := of_decide_eq_true h
    exact isWordD_ofL (by rw [h]; exact evF_ab _ _) a b
  subst hr
  refine seq_step fun r hr => ?_
  walk_at "dy"
  rw [ofL_app, List.take_append_drop, ofL_len, ofL_len]
  refine ⟨by omega, ?_⟩
  rw [if_neg (by simp)]
  have lt : (List.take m (wordW w)).length = m := by rw [List.length_take]; omega
  have ld : (List.drop m (wordW w)).length = (wordW w).length - m := List.length_drop
  have isf : ∀ {x : List Nat}, isStepL x = true → 1 ≤ x.length → x.length ≤ 60 → isStepD (.str (ofL x)) = true := fun {x} h a b => by
    show (isWordD (.str (ofL x)) && isStepL (ofL x).cps.toList) = true
    rw [ofL_cps, abf h a b, h]; rfl
  refine ⟨_, 20, rfl, sm_str.mpr (by rw [ofL_len, lt]; omega), ?_⟩
  rw [isf sf (by omega) (by omega)]
  walk_at "dy"
  refine ⟨_, 20, rfl, sm_str.mpr (by rw [ofL_len, ld]; omega), ?_⟩
  rw [isf ss (by omega) (by omega)]
  walk_at "dy"
  subst hr
  refine seq_step fun r hr => ?_
  walk_at "dy"
  refine ⟨_, 20, rfl, hsl, fun l1 el1 hab h1 h2 => ?_, nw⟩
  obtain rfl := elD el1
  unfold tbD
  dsimp only
  refine ⟨rfl, rfl, rfl, ?_⟩
  subst hr
  refine seq_step fun r hr => ?_
  walk_at "dy"
  have lg : ∀ {x : Int}, x.natAbs < 2 ^ 60 → x.natAbs.log2 < 60 := fun h => log2_lt h (by decide)
  have g1 := lg b1
  have g2 := lg b2
  have g3 := lg b3
  have g4 := lg b4
  refine ⟨by have : (Int.natAbs 3).log2 = 1 := by decide +kernel
             omega, ?_⟩
  rw [if_neg (by rw [t1]; simp)]
  refine ⟨by omega, by omega, ?_⟩
  rw [if_neg (by rw [t2]; simp)]
  refine ⟨_, 60, rfl, sm2 (sm2 (sm_int.mpr b1) (sm_int.mpr b2)) (sm2 (sm_int.mpr b3) (sm_int.mpr b4)), by decide, by decide, fun l1 hl1 e => ?_, fun h => absurd rfl (h (wordW w) ⟨e2, by omega, by omega⟩)⟩
  obtain rfl := tab_inj hl1.1 e2 (tbD_inj23 e.symm)
  show rdNe (.str (ofL (wordW w))) (.str (ofL (wordW w))) S _
  walk_at "dy"
  rw [if_neg (by simp)]
  subst hr
  walk_at "dy"
  refine ⟨_, 20, rfl, sm_str.mpr (by rw [ofL_len]; have := cnW_len w; have := wordW_len w; omega), fun h => absurd ((show isWayD (.str (ofL w)) = true by show isWayL (ofL w).cps.toList = true; rw [ofL_cps]; exact hwy).symm.trans h) (by decide), fun w1 ew1 _ => ?_⟩
  obtain rfl := ofL_inj.mp (by injection ew1)
  refine ⟨fun _ => ?_, fun h => ?_⟩
  · walk_at "dy"
    simpa using q
  · exact absurd h (by have := wordW_len w; omega)

theorem pure_law_no_way : ∀ ds S Q Ed, sp_law_no_way ds S Q Ed → t_law_no_way Ed { nx := fun _ S' => Q .non S', rt := Q } (startD N_law_no_way ds) S := by
  rintro ds S Q Ed ⟨n, l, rfl, n1, n7, hl, hs, q⟩
  rw [st_law_no_way]
  unfold t_law_no_way dTry
  obtain ⟨e1, e2⟩ := ab_in hl
  have hw := ab_word n1 n7 hl
  have er : ∀ y : Xd, (y.cls = "Uneven" ∨ y.cls = "NoStep") → wDCl rsX (wd Ed) { nx := fun _ S' => Q .non S', rt := Q } [⟨["Uneven", "NoStep"], none, fun a od x => (dRet (dC (.bl true)))⟩] y [some (.str (ofL l))] S := fun y e => by
    unfold wDCl
    rcases e with e | e
    · rw [e]
      refine ⟨show (Str.ofString "Uneven") ∈ rsX by decide +kernel, ?_⟩
      rw [if_pos (show ([Str.ofString "Uneven", Str.ofString "NoStep"] : List Str).any (excIs (Str.ofString "Uneven")) = true by decide +kernel)]
      intro a od ha
      exact q
    · rw [e]
      refine ⟨show (Str.ofString "NoStep") ∈ rsX by decide +kernel, ?_⟩
      rw [if_pos (show ([Str.ofString "Uneven", Str.ofString "NoStep"] : List Str).any (excIs (Str.ofString "NoStep")) = true by decide +kernel)]
      intro a od ha
      exact q
  walk_at "dy"
  refine ⟨.str (ofL l), 20, rfl, sm_str.mpr (by rw [ofL_len]; omega), fun h => absurd (hw.symm.trans h) (by decide), fun l' el' _ => ?_⟩
  have el : l' = l := (ofL_inj.mp (by injection el')).symm
  subst el
  exact ⟨fun s _ _ _ _ => er _ (.inl rfl), fun _ => ⟨fun _ h => absurd (hs.symm.trans h) (by decide), fun _ => er _ (.inr rfl)⟩⟩

theorem len_law : ∀ ds S Q E, spLawD ds S Q E → ds.length = 1 := fun _ _ _ _ ⟨_, e, _⟩ => by rw [e]; rfl
theorem count_a (l : List Nat) : Txt.count (ofL l) "a" = (l.count 97 : Nat) := count_eq _ _
noncomputable def wayL (l : List Nat) : List Nat := by
  classical exact if h : ∃ w, isWayL w = true ∧ wordW w = l then Classical.choose h else []
theorem wayL_of {l : List Nat} (h : isStepL l = true) (h2 : 2 ≤ l.length) (h60 : l.length ≤ 60) : isWayL (wayL l) = true ∧ wordW (wayL l) = l := by
  have e := step_way h h2 h60
  unfold wayL
  rw [dif_pos e]
  exact Classical.choose_spec e
theorem cnt_ofL (x : List Nat) : ∀ L : List (List Nat), (L.map ofL).count (ofL x) = L.count x
  | [] => rfl
  | a :: L => by
    have e : (ofL a == ofL x) = (a == x) := by
      by_cases c : a = x
      · rw [c, beq_self_eq_true, beq_self_eq_true]
      · rw [beq_eq_false_iff_ne.mpr c, beq_eq_false_iff_ne.mpr fun h => c (ofL_inj.mp h)]
    rw [List.map_cons, List.count_cons, List.count_cons, cnt_ofL x L, e]
theorem pure_law : ∀ ds S Q Ed, spLawD ds S Q Ed → t_law Ed { nx := fun _ S' => Q .non S', rt := Q } (startD N_law ds) S := by
  rintro ds S Q Ed ⟨ns, rfl, hns, q⟩
  rw [st_law]
  unfold t_law
  refine seq_cut (fun σ S' => True) (fun N hN => ?_) (fun σ S' h => by walk_at "dy"; exact q S')
  walk_at "dy"
  have hlen : (List.map D.int ns).length = ns.length := List.length_map _
  refine ⟨by rw [hlen]; constructor <;> (split <;> (try split) <;> omega), ?_⟩
  refine loop_rng (fun i σ S' => ∃ a b c d e f g h j l m n, σ = [some (.lst (ns.map D.int)), a, b, c, d, e, f, g, h, j, l, m, n]) ⟨none, none, none, none, none, none, none, none, none, none, none, none, rfl⟩ ?_ (fun σ S' _ => hN σ S' trivial)
  rintro i σ S' N' hi ⟨a, b, c, d, e, f, g, h, j, l, m, n, rfl⟩ k
  have hl2 : (0 : Int) + i < 2 := by
    rw [hlen] at hi
    split at hi <;> (try split at hi) <;> omega
  refine seq_step fun r hr => ?_
  walk_at "dy"
  refine ⟨ns, _, rfl, by omega, by omega, fun u S1 hu0 hU1 ho1 => ?_⟩
  try walk_at "dy"
  subst hr
  refine seq_step fun r hr => ?_
  walk_at "dy"
  refine ⟨u, 7, 0, rfl, hU1, by omega, by decide, by decide, fun z S2 z0 z1 hU2 ho2 => ?_⟩
  try walk_at "dy"
  obtain ⟨zq, rfl⟩ := Int.eq_ofNat_of_zero_le z0
  rw [show (1 : Int) + ((zq : Nat) : Int) = ((zq + 1 : Nat) : Int) by omega]
  have n7 : zq + 1 ≤ 7 := by omega
  have n1 : 1 ≤ zq + 1 := by omega
  generalize hnn : zq + 1 = nn at *
  subst hr
  refine seq_step fun r hr => ?_
  walk_at "dy"
  refine ⟨nn, rfl, n7, ?_⟩
  try walk_at "dy"
  have hABl : (AB nn).length ≤ 128 := by
    rw [ab_len]
    exact Nat.pow_le_pow_right (n := 2) (by decide) n7
  subst hr
  refine seq_step fun r hr => ?_
  refine seq_set ?_
  have stp : ∀ {l : List Nat}, l ∈ AB nn → isStepD (.str (ofL l)) = isStepL l := fun {l} hl => by
    show (isWordD (.str (ofL l)) && isStepL (ofL l).cps.toList) = _
    rw [ofL_cps, ab_word n1 n7 hl, Bool.true_and]
  refine comp_filter (fun d => d) isStepD ((AB nn).map abD) S2 (fun R hR => ?_) ?_ ?_ (by rw [List.length_map]; omega) ?_
  · walk_at "dy"
    exact hR
  · intro x hx S4 Q4 q4
    obtain ⟨l, hl, rfl⟩ := List.mem_map.mp hx
    simp only [wipeD, List.set_cons_zero, List.set_cons_succ]
    walk_at "dy"
    exact ⟨_, 20, rfl, sm_str.mpr (by rw [ofL_len, (ab_in hl).1]; omega), q4⟩
  · intro x hx _ S4 Q4 q4
    simp only [wipeD, List.set_cons_zero, List.set_cons_succ]
    walk_at "dy"
    exact q4
  have e5 : (((AB nn).map abD).filter isStepD).map (fun d => d) = (stepsN nn).map abD := by
    rw [List.map_id', List.filter_map]
    congr 1
    unfold stepsN
    exact List.filter_congr fun l hl => stp hl
  rw [e5]
  simp only [List.set_cons_zero, List.set_cons_succ]
  subst hr
  refine seq_step fun r hr => ?_
  refine seq_set ?_
  refine comp_pure (fun d => match d with | .str z => abD (lsL z.cps.toList) | _ => .non) ((AB nn).map abD) S2 (fun R hR => ?_) (fun x hx S4 Q4 q4 => ?_) (by rw [List.length_map]; omega) ?_
  · walk_at "dy"
    exact hR
  · obtain ⟨l, hl, rfl⟩ := List.mem_map.mp hx
    simp only [wipeD, List.set_cons_zero, List.set_cons_succ]
    unfold dMeth dMake abD
    walk_at "dy"
    intro p hp
    refine ⟨p, .str (ofL l), 20, rfl, sm_str.mpr (by rw [ofL_len, (ab_in hl).1]; omega), upS_same, fun _ => ?_, fun h => ?_⟩
    · refine ⟨rfl, _, _, upS_same, ?_⟩
      rw [upS_upS, del_upS hp]
      refine ⟨⟨_, _, rfl, by decide⟩, .str (ofL l), rfl, ab_part n1 n7 hl, ?_⟩
      rw [rotD_word]
      have q5 : Q4 (abD (lsL (ofL l).cps.toList)) S4 := q4
      rw [ofL_cps] at q5
      exact q5
    · unfold partB at h
      rw [ab_word n1 n7 hl, Bool.true_or] at h
      cases h
  have e6 : ((AB nn).map abD).map (fun d => match d with | .str z => abD (lsL z.cps.toList) | _ => .non) = ((AB nn).map lsL).map abD := by
    rw [List.map_map, List.map_map]
    refine List.map_congr_left fun l _ => ?_
    show abD (lsL (ofL l).cps.toList) = _
    rw [ofL_cps]
    rfl
  rw [e6]
  simp only [List.set_cons_zero, List.set_cons_succ]
  subst hr
  refine seq_step fun r hr => ?_
  refine seq_set ?_
  refine comp_filter (fun d => d) (fun d => match d with | .int k => decide (Int.gcd k nn = 1) | _ => false) (rgD 0 (nn + 1)) S2 (fun R hR => ?_) ?_ ?_ (by rw [rgD_len]; omega) ?_
  · walk_at "dy"
    refine ⟨by omega, ?_⟩
    first | exact hR | exact ⟨by omega, hR⟩ | (rw [show ((nn : Int) + 1).toNat = nn + 1 by omega]; exact hR)
  · intro x hx S4 Q4 q4
    unfold rgD at hx
    obtain ⟨j, hj, rfl⟩ := List.mem_map.mp hx
    simp only [wipeD, List.set_cons_zero, List.set_cons_succ]
    walk_at "dy"
    refine ⟨_, _, rfl, ?_⟩
    have ec : decide ((((0 + (j : Int)).gcd (nn : Int) : Nat) : Int) = 1) = decide ((0 + (j : Int)).gcd (nn : Int) = 1) := by
      by_cases c : (0 + (j : Int)).gcd (nn : Int) = 1
      · rw [c]; rfl
      · rw [decide_eq_false c, decide_eq_false (by omega)]
    walk_at "dy"
    rw [ec]
    exact q4
  · intro x hx _ S4 Q4 q4
    simp only [wipeD, List.set_cons_zero, List.set_cons_succ]
    walk_at "dy"
    exact q4
  have e7 : ((rgD 0 (nn + 1)).filter (fun d => match d with | .int k => decide (Int.gcd k nn = 1) | _ => false)).map (fun d => d) = (cntsN nn).map fun (k : Nat) => D.int (k : Int) := by
    rw [List.map_id']
    have h := rg_filter 0 (nn + 1) (fun k => Nat.gcd k nn == 1) (fun d => match d with | .int k => decide (Int.gcd k nn = 1) | _ => false) (fun i _ => by
      show decide (Int.gcd (((0 : Nat) : Int) + (i : Int)) nn = 1) = (Nat.gcd (0 + i) nn == 1)
      rw [show (((0 : Nat) : Int) + (i : Int)) = ((0 + i : Nat) : Int) by omega, Int.gcd_natCast_natCast]
      rfl)
    rw [show ((0 : Nat) : Int) = 0 from rfl] at h
    rw [h]
    unfold cntsN
    congr 2
    rw [show (fun x => 0 + x) = (id : Nat → Nat) from funext fun x => Nat.zero_add x, List.map_id]
  rw [e7]
  simp only [List.set_cons_zero, List.set_cons_succ]
  subst hr
  refine seq_step fun r hr => ?_
  walk_at "dy"
  have hC := List.all_eq_true.mp okC_all nn (List.mem_range.mpr (by omega))
  rw [show (nn == 0) = false by rw [beq_eq_false_iff_ne]; omega, Bool.false_or] at hC
  simp only [Bool.and_eq_true, decide_eq_true_eq] at hC
  obtain ⟨⟨c1, c2⟩, c3⟩ := hC
  rw [if_neg (by rw [List.length_map, List.length_map, c1]; simp)]
  refine comp_pure (fun d => match d with | .str z => .int (z.cps.toList.count 98 : Nat) | _ => .non) ((stepsN nn).map abD) S2 (fun R hR => ?_) (fun x hx S4 Q4 q4 => ?_) (by rw [List.length_map]; omega) ?_
  · walk_at "dy"
    exact hR
  · obtain ⟨l, hl, rfl⟩ := List.mem_map.mp hx
    simp only [wipeD, List.set_cons_zero, List.set_cons_succ]
    unfold abD
    walk_at "dy"
    rw [count_b]
    try rw [ofL_len]
    try refine ⟨by rw [(ab_in (List.mem_filter.mp hl).1).1]; omega, ?_⟩
    have q5 : Q4 (.int ((ofL l).cps.toList.count 98 : Nat)) S4 := q4
    rw [ofL_cps] at q5
    exact q5
  have e8 : ((stepsN nn).map abD).map (fun d => match d with | .str z => .int (z.cps.toList.count 98 : Nat) | _ => .non) = (((stepsN nn).map (·.count 98)).map fun k : Nat => (k : Int)).map D.int := by
    rw [List.map_map, List.map_map, List.map_map]
    refine List.map_congr_left fun l _ => ?_
    show D.int ((ofL l).cps.toList.count 98 : Nat) = _
    rw [ofL_cps]
    rfl
  rw [e8]
  refine ⟨_, rfl, by rw [List.length_map, List.length_map]; omega, fun ns' hp hs => ?_⟩
  have e9 : ns' = (cntsN nn).map fun k : Nat => (k : Int) := by
    refine List.Perm.eq_of_pairwise (le := (· ≤ ·)) (fun a b _ _ h1 h2 => Int.le_antisymm h1 h2) hs ?_ (hp.trans (c2.map _))
    unfold cntsN
    exact List.pairwise_map.mpr ((List.Pairwise.filter _ List.pairwise_lt_range).imp fun h => by omega)
  subst e9
  have eL : ((cntsN nn).map fun (k : Nat) => D.int (k : Int)) = ((cntsN nn).map fun k : Nat => (k : Int)).map D.int := by
    rw [List.map_map]
    rfl
  have okL : eqOk (.lst (((cntsN nn).map fun k : Nat => (k : Int)).map D.int)) = true := okD_eqOk (k := 1) (okD_intsL _) (by decide)
  show rdNe (.lst (((cntsN nn).map fun k : Nat => (k : Int)).map D.int)) (.lst ((cntsN nn).map fun (k : Nat) => D.int (k : Int))) S2 _
  rw [eL]
  refine ⟨⟨okL, okL⟩, ?_⟩
  rw [deq_refl (Bool.and_eq_true_iff.mp okL).1]
  dsimp only
  rw [if_neg (by simp)]
  subst hr
  refine seq_step fun r hr => ?_
  walk_at "dy"
  have hlen1 : ∀ {l : List Nat}, l ∈ AB nn → l.length = nn := fun hl => (ab_in hl).1
  refine loop_all (fun pre σ S3 => ∃ (l r' : List (List Nat)) (v8 v9 v10 v11 v12 : Option D), AB nn = l ++ r' ∧ pre = l.map abD ∧ σ = [some (.lst (ns.map D.int)), some (.int (0 + i)), some (.obj u), some (.int nn), some (.lst ((AB nn).map abD)), some (.lst ((stepsN nn).map abD)), some (.lst (((AB nn).map lsL).map abD)), some (.lst (((cntsN nn).map fun k : Nat => (k : Int)).map D.int)), v8, v9, v10, v11, v12] ∧ S3 = S2) ⟨[], AB nn, _, _, _, _, _, rfl, rfl, rfl, rfl⟩ ?_ ?_
  · rintro pre x rest σ S3 N2 ex1 ⟨l0, r', v8, v9, v10, v11, v12, el, rfl, rfl, rfl⟩ k2
    obtain ⟨l, r3, rfl, rfl⟩ : ∃ kk r3, r' = kk :: r3 ∧ x = abD kk := by
      rw [el, List.map_append] at ex1
      have e3 := List.append_cancel_left ex1
      cases r' with
      | nil => cases e3
      | cons kk r2 =>
        injection e3 with e3 _
        exact ⟨kk, r2, rfl, e3.symm⟩
    have hl : l ∈ AB nn := by rw [el]; simp
    have ll := hlen1 hl
    have hR := okR_of n1 n7 hl
    unfold okR at hR
    simp only [Bool.and_eq_true, decide_eq_true_eq] at hR
    obtain ⟨⟨⟨⟨⟨r1, r2⟩, r4⟩, r5⟩, r6⟩, r7⟩ := hR
    unfold abD
    refine seq_step fun rr hrr => ?_
    walk_at "dy"
    refine ⟨nn, l, rfl, n1, n7, hl, ?_⟩
    walk_at "dy"
    subst hrr
    refine seq_step fun rr hrr => ?_
    unfold dMeth dMake
    walk_at "dy"
    intro p hp
    refine ⟨p, .str (ofL l), 20, rfl, sm_str.mpr (by rw [ofL_len]; omega), upS_same, fun _ => ?_, fun h => ?_⟩
    rotate_left
    · unfold partB at h
      rw [ab_word n1 n7 hl, Bool.true_or] at h
      cases h
    refine ⟨rfl, _, _, upS_same, ?_⟩
    rw [upS_upS, del_upS hp]
    refine ⟨⟨_, _, rfl, by decide⟩, l, rfl, by omega, by omega, ?_⟩
    walk_at "dy"
    subst hrr
    refine seq_step fun rr hrr => ?_
    unfold dMeth dMake
    walk_at "dy"
    have efd : ((l.length : Int).fdiv ((shL l).length : Nat)) = ((l.length / (shL l).length : Nat) : Int) := (nat_mod_div r1).2
    have hdl : l.length / (shL l).length ≤ l.length := Nat.div_le_self _ _
    have hsl : (shL l).length ≤ l.length := (shL_len (by omega)).2
    rw [efd, Int.toNat_natCast, repS_ofL, r2, ofL_len]
    have hmul : (shL l).length * (l.length / (shL l).length) ≤ 49 := Nat.le_trans (Nat.mul_le_mul hsl hdl) (by rw [ll]; exact Nat.mul_le_mul n7 n7)
    generalize l.length / (shL l).length = qq at *
    refine ⟨⟨by omega, ?_, by omega⟩, ?_⟩
    · have : (((shL l).length : Nat) : Int) * (qq : Int) = (((shL l).length * qq : Nat) : Int) := by simp
      rw [this]; omega
    rw [if_neg (by simp)]
    intro p2 hp2
    refine ⟨p2, .str (ofL l), 20, rfl, sm_str.mpr (by rw [ofL_len]; omega), upS_same, fun _ => ?_, fun h => ?_⟩
    rotate_left
    · unfold partB at h
      rw [ab_word n1 n7 hl, Bool.true_or] at h
      cases h
    refine ⟨rfl, _, _, upS_same, ?_⟩
    rw [upS_upS, del_upS hp2]
    refine ⟨⟨_, _, rfl, by decide⟩, .str (ofL l), rfl, ab_part n1 n7 hl, ?_⟩
    rw [rotD_word]
    refine ⟨((AB nn).map lsL).map ofL, by simp only [List.map_map]; rfl, ?_⟩
    have ecn : ((((AB nn).map lsL).map ofL).count (ofL (rotL l (leastT (.str (ofL l)))))) = (shL l).length := by
      rw [← r4]
      exact cnt_ofL (lsL l) _
    rw [ecn]
    refine ⟨by omega, ?_⟩
    walk_at "dy"
    rw [if_neg (by simp)]
    have isSt : (((stepsN nn).map fun l => D.str (ofL l)).any fun z => deq z (.str (ofL l))) = isStepL l := by
      rw [List.any_map]
      cases hs : isStepL l with
      | true =>
        rw [List.any_eq_true]
        exact ⟨l, List.mem_filter.mpr ⟨hl, hs⟩, beq_self_eq_true _⟩
      | false =>
        rw [List.any_eq_false]
        intro y hy h
        have e : ofL y = ofL l := eq_of_beq h
        obtain rfl := ofL_inj.mp e
        rw [(List.mem_filter.mp hy).2] at hs
        cases hs
    have okS : eqOk (.lst ((stepsN nn).map fun l => D.str (ofL l))) = true := okD_eqOk (k := 1) (okD_lst fun d hd => by
      obtain ⟨y, hy, rfl⟩ := List.mem_map.mp hd
      exact okD_word (ab_in (List.mem_filter.mp hy).1).2) (by decide)
    obtain ⟨s3, s4⟩ := Bool.and_eq_true_iff.mp okS
    obtain ⟨s1, s2⟩ := Bool.and_eq_true_iff.mp (okD_eqOk (k := 1) (okD_word (ab_in hl).2) (by decide))
    subst hrr
    refine seq_step fun rr hrr => ?_
    walk_at "dy"
    refine ⟨⟨s1, s3, s2, s4⟩, ?_⟩
    rw [isSt, Bool.bne_false]
    have c98 : l.count 98 ≤ l.length := List.count_le_length
    have rest : rr { nx := N2, rt := Q, bk := r { nx := N', rt := Q, bk := N, ct := N' }, ct := N2 } [some (.lst (ns.map D.int)), some (.int (0 + i)), some (.obj u), some (.int nn), some (.lst ((AB nn).map fun l => D.str (ofL l))), some (.lst ((stepsN nn).map fun l => D.str (ofL l))), some (.lst (((AB nn).map lsL).map fun l => D.str (ofL l))), some (.lst (((cntsN nn).map fun k : Nat => (k : Int)).map D.int)), some (.str (ofL l)), some (.str (ofL (shL l))), some (.int (qq : Int)), v11, v12] S3 := by
      subst hrr
      walk_at "dy"
      refine ⟨⟨s1, s3, s2, s4⟩, ?_⟩
      rw [isSt]
      have fin := k2 [some (.lst (ns.map D.int)), some (.int (0 + i)), some (.obj u), some (.int nn), some (.lst ((AB nn).map abD)), some (.lst ((stepsN nn).map abD)), some (.lst (((AB nn).map lsL).map abD)), some (.lst (((cntsN nn).map fun k : Nat => (k : Int)).map D.int)), some (.str (ofL l)), some (.str (ofL (shL l))), some (.int (qq : Int)), v11, v12] S3 ⟨l0 ++ [l], r3, _, _, _, _, _, by rw [el]; simp, by rw [List.map_append]; rfl, rfl, rfl⟩
      cases hs : isStepL l with
      | true => exact fin
      | false =>
        refine ⟨nn, l, rfl, n1, n7, hl, hs, ?_⟩
        exact fin
    cases hs : isStepL l with
    | false => exact rest
    | true =>
      rw [hs] at r7
      dsimp only
      rw [if_pos rfl, count_b, count_a]
      have r7 : evF (l.count 98) l.length = l := by simpa using r7
      refine ⟨l.count 98, l.count 97, rfl, by omega, ?_⟩
      rw [show l.count 98 + l.count 97 = l.length by omega, r7]
      walk_at "dy"
      rw [if_neg (by simp)]
      exact rest
  · rintro σ S3 ⟨l0, r', v8, v9, v10, v11, v12, el, hl, rfl, rfl⟩
    subst hr
    dsimp only
    refine seq_step fun r hr => ?_
    walk_at "dy"
    have rest : r { nx := N', rt := Q, bk := N, ct := N' } [some (.lst (ns.map D.int)), some (.int (0 + i)), some (.obj u), some (.int nn), some (.lst ((AB nn).map abD)), some (.lst ((stepsN nn).map abD)), some (.lst (((AB nn).map lsL).map abD)), some (.lst (((cntsN nn).map fun k : Nat => (k : Int)).map D.int)), v8, v9, v10, v11, v12] S3 := by
      subst hr
      refine seq_step fun r hr => ?_
      refine seq_set ?_
      refine comp_filter (fun d => match d with | .str z => abD (wayL z.cps.toList) | _ => .non) (fun _ => decide (1 < nn)) ((stepsN nn).map abD) S3 (fun R hR => ?_) ?_ ?_ (by rw [List.length_map]; omega) ?_
      · walk_at "dy"
        exact hR
      · intro x hx S4 Q4 q4
        simp only [wipeD, List.set_cons_zero, List.set_cons_succ]
        walk_at "dy"
        have ec : decide ((1 : Int) < (nn : Int)) = decide (1 < nn) := by
          by_cases c : 1 < nn
          · rw [decide_eq_true c, decide_eq_true (by omega)]
          · rw [decide_eq_false c, decide_eq_false (by omega)]
        rw [ec]
        exact q4
      · intro x hx hg S4 Q4 q4
        have hg : 1 < nn := of_decide_eq_true hg
        obtain ⟨l, hls, rfl⟩ := List.mem_map.mp hx
        obtain ⟨hl, hs⟩ := List.mem_filter.mp hls
        have ll := hlen1 hl
        simp only [wipeD, List.set_cons_zero, List.set_cons_succ]
        unfold abD
        walk_at "dy"
        have hw := ab_word n1 n7 hl
        refine ⟨.str (ofL l), 20, rfl, sm_str.mpr (by rw [ofL_len]; omega), fun h => absurd (hw.symm.trans h) (by decide), fun l1 el1 _ => ?_⟩
        obtain rfl : l1 = l := (ofL_inj.mp (by injection el1)).symm
        refine ⟨fun s s1 s2 hu _ => absurd hu (step_even hs (by omega) s s1 s2), fun _ => ⟨fun _ _ => ?_, fun h => absurd ⟨by omega, hs⟩ h⟩⟩
        obtain ⟨w1, w2⟩ := wayL_of hs (by omega) (by omega)
        refine ⟨wayL l1, w1, w2, ?_⟩
        have q5 : Q4 (abD (wayL (ofL l1).cps.toList)) S4 := q4
        rw [ofL_cps] at q5
        exact q5
      have e10 : ((((stepsN nn).map abD).filter fun _ => decide (1 < nn)).map fun d => match d with | .str z => abD (wayL z.cps.toList) | _ => .non) = (((if 1 < nn then (stepsN nn).map wayL else []).map ofL).map D.str) := by
        by_cases c : 1 < nn
        · rw [if_pos c, List.filter_eq_self.mpr fun _ _ => decide_eq_true c]
          simp only [List.map_map]
          refine List.map_congr_left fun l _ => ?_
          show abD (wayL (ofL l).cps.toList) = _
          rw [ofL_cps]
          rfl
        · rw [if_neg c, List.filter_eq_nil_iff.mpr fun _ _ h => c (of_decide_eq_true h)]
          rfl
      rw [e10]
      have ndW : ((if 1 < nn then (stepsN nn).map wayL else []).map ofL).Nodup := by
        by_cases c : 1 < nn
        · rw [if_pos c]
          have nd := of_decide_eq_true (List.all_eq_true.mp ndS_all nn (List.mem_range.mpr (by omega)))
          rw [List.map_map]
          refine List.pairwise_map.mpr (nd.imp_of_mem fun {x y} hx hy hne e => hne ?_)
          have e2 : wayL x = wayL y := ofL_inj.mp e
          obtain ⟨hx1, hx2⟩ := List.mem_filter.mp hx
          obtain ⟨hy1, hy2⟩ := List.mem_filter.mp hy
          rw [← (wayL_of hx2 (by rw [hlen1 hx1]; omega) (by rw [hlen1 hx1]; omega)).2, e2, (wayL_of hy2 (by rw [hlen1 hy1]; omega) (by rw [hlen1 hy1]; omega)).2]
        · rw [if_neg c]
          exact List.Pairwise.nil
      have lW : ((if 1 < nn then (stepsN nn).map wayL else []).map ofL).length < 60 := by
        by_cases c : 1 < nn
        · rw [if_pos c, List.length_map, List.length_map, c1]; exact c3
        · rw [if_neg c]; decide
      generalize (if 1 < nn then (stepsN nn).map wayL else []).map ofL = Wy at *
      simp only [List.set_cons_zero, List.set_cons_succ]
      subst hr
      unfold dLenSetS dLenSetT
      walk_at "dy"
      refine ⟨Wy, rfl, by omega, ndW, ?_⟩
      rw [if_neg (by rw [List.length_map]; simp)]
      refine comp_pure (fun d => match d with | .str z => tbD (tabM z.cps.toList) | _ => .non) ((AB nn).map abD) S3 (fun R hR => ?_) (fun x hx S4 Q4 q4 => ?_) (by rw [List.length_map]; omega) ?_
      · walk_at "dy"
        exact hR
      · obtain ⟨l, hl, rfl⟩ := List.mem_map.mp hx
        have hw := ab_word n1 n7 hl
        have ll := hlen1 hl
        simp only [wipeD, List.set_cons_zero, List.set_cons_succ]
        unfold abD
        walk_at "dy"
        refine ⟨.str (ofL l), 20, rfl, sm_str.mpr (by rw [ofL_len]; omega), fun l1 el1 _ _ _ => ?_, fun h => absurd (hw.symm.trans h) (by decide)⟩
        obtain rfl : l1 = l := (ofL_inj.mp (by injection el1)).symm
        have q5 : Q4 (tbD (tabM (ofL l1).cps.toList)) S4 := q4
        rw [ofL_cps] at q5
        exact q5
      have ek : ∀ L : List (List Nat), (L.map abD).map (fun d => match d with | .str z => tbD (tabM z.cps.toList) | _ => .non) = keyDs (L.map tabK) := fun L => by
        induction L with
        | nil => rfl
        | cons x L ih =>
          rw [List.map_cons, List.map_cons, List.map_cons, ih, keyDs]
          congr 1
      rw [ek]
      obtain ⟨fq, hfq⟩ := set_led n7
      have lK : ((AB nn).map tabK).length = 2 ^ nn := by rw [List.length_map, ab_len]
      refine ⟨(AB nn).map tabK, fq, rfl, fun k hk => ?_, fun led => ?_, by rw [List.length_map]; omega, ?_⟩
      · obtain ⟨l, _, rfl⟩ := List.mem_map.mp hk
        refine ⟨⟨_, rfl⟩, rfl, ?_⟩
        show NestedKey.depth (tabK l) ≤ 8
        unfold tabK
        simp [NestedKey.depth, NestedKey.depthAll]
      · rw [lK]
        exact hfq led
      · rw [if_neg (by rw [List.length_map, List.length_map]; simp)]
        exact k _ _ ⟨_, _, _, _, _, _, _, _, _, _, _, _, rfl⟩
    by_cases c : (1 : Int) < (nn : Int)
    · rw [if_pos c]
      refine comp_pure (fun _ => .bl true) ((stepsN nn).map abD) S3 (fun R hR => ?_) (fun x hx S4 Q4 q4 => ?_) (by rw [List.length_map]; omega) ?_
      · walk_at "dy"
        exact hR
      · obtain ⟨l, hl, rfl⟩ := List.mem_map.mp hx
        simp only [wipeD, List.set_cons_zero, List.set_cons_succ]
        unfold abD
        walk_at "dy"
        exact ⟨nn, l, rfl, by omega, n7, hl, q4⟩
      refine ⟨(stepsN nn).map fun _ => true, by rw [List.map_map, List.map_map]; rfl, ?_⟩
      have ea : ((stepsN nn).map fun _ => true).all id = true := List.all_eq_true.mpr fun x hx => by
        obtain ⟨_, _, rfl⟩ := List.mem_map.mp hx
        rfl
      rw [ea]
      dsimp only
      rw [if_neg (by simp)]
      exact rest
    · rw [if_neg c]
      exact rest


theorem sc_is_whole : FnScope N_is_whole ["thing"] (defScope s_is_whole) := ⟨rfl, rfl, rfl, by decide +kernel, rfl, by decide +kernel, by decide +kernel⟩
theorem sc_are_wholes : FnScope N_are_wholes ["things"] (defScope s_are_wholes) := ⟨rfl, rfl, rfl, by decide +kernel, rfl, by decide +kernel, by decide +kernel⟩
theorem sc_shared_by : FnScope N_shared_by ["one", "other"] (defScope s_shared_by) := ⟨rfl, rfl, rfl, by decide +kernel, rfl, by decide +kernel, by decide +kernel⟩
theorem sc_is_within : FnScope N_is_within ["thing", "least", "most"] (defScope s_is_within) := ⟨rfl, rfl, rfl, by decide +kernel, rfl, by decide +kernel, by decide +kernel⟩
theorem sc_is_row : FnScope N_is_row ["thing", "least", "most"] (defScope s_is_row) := ⟨rfl, rfl, rfl, by decide +kernel, rfl, by decide +kernel, by decide +kernel⟩
theorem sc_is_number_ring : FnScope N_is_number_ring ["thing"] (defScope s_is_number_ring) := ⟨rfl, rfl, rfl, by decide +kernel, rfl, by decide +kernel, by decide +kernel⟩
theorem sc_shortest_part : FnScope N_shortest_part ["parts"] (defScope s_shortest_part) := ⟨rfl, rfl, rfl, by decide +kernel, rfl, by decide +kernel, by decide +kernel⟩
theorem sc_is_word : FnScope N_is_word ["thing"] (defScope s_is_word) := ⟨rfl, rfl, rfl, by decide +kernel, rfl, by decide +kernel, by decide +kernel⟩
theorem sc_look_word : FnScope N_look_word ["thing"] (defScope s_look_word) := ⟨rfl, rfl, rfl, by decide +kernel, rfl, by decide +kernel, by decide +kernel⟩
theorem sc_Ring___init__ : FnScope N_Ring___init__ ["self", "parts"] (defScope s_Ring___init__) := ⟨rfl, rfl, rfl, by decide +kernel, rfl, by decide +kernel, by decide +kernel⟩
theorem sc_Ring_turned : FnScope N_Ring_turned ["self", "by"] (defScope s_Ring_turned) := ⟨rfl, rfl, rfl, by decide +kernel, rfl, by decide +kernel, by decide +kernel⟩
theorem sc_Ring_least_turn : FnScope N_Ring_least_turn ["self"] (defScope s_Ring_least_turn) := ⟨rfl, rfl, rfl, by decide +kernel, rfl, by decide +kernel, by decide +kernel⟩
theorem sc_Ring_least : FnScope N_Ring_least ["self"] (defScope s_Ring_least) := ⟨rfl, rfl, rfl, by decide +kernel, rfl, by decide +kernel, by decide +kernel⟩
theorem sc_Ring_root : FnScope N_Ring_root ["self"] (defScope s_Ring_root) := ⟨rfl, rfl, rfl, by decide +kernel, rfl, by decide +kernel, by decide +kernel⟩
theorem sc_how_many_b : FnScope N_how_many_b ["part"] (defScope s_how_many_b) := ⟨rfl, rfl, rfl, by decide +kernel, rfl, by decide +kernel, by decide +kernel⟩
theorem sc_uneven_pair : FnScope N_uneven_pair ["word"] (defScope s_uneven_pair) := ⟨rfl, rfl, rfl, by decide +kernel, rfl, by decide +kernel, by decide +kernel⟩
theorem sc_is_even : FnScope N_is_even ["word"] (defScope s_is_even) := ⟨rfl, rfl, rfl, by decide +kernel, rfl, by decide +kernel, by decide +kernel⟩
theorem sc_uneven_parts : FnScope N_uneven_parts ["word"] (defScope s_uneven_parts) := ⟨rfl, rfl, rfl, by decide +kernel, rfl, by decide +kernel, by decide +kernel⟩
theorem sc_even_word : FnScope N_even_word ["many_b", "many_a"] (defScope s_even_word) := ⟨rfl, rfl, rfl, by decide +kernel, rfl, by decide +kernel, by decide +kernel⟩
theorem sc_is_step_word : FnScope N_is_step_word ["thing"] (defScope s_is_step_word) := ⟨rfl, rfl, rfl, by decide +kernel, rfl, by decide +kernel, by decide +kernel⟩
theorem sc_look_step_steps : FnScope N_look_step_steps ["word", "least"] (defScope s_look_step_steps) := ⟨rfl, rfl, rfl, by decide +kernel, rfl, by decide +kernel, by decide +kernel⟩
theorem sc_cut_by : FnScope N_cut_by ["word"] (defScope s_cut_by) := ⟨rfl, rfl, rfl, by decide +kernel, rfl, by decide +kernel, by decide +kernel⟩
theorem sc_cut_of : FnScope N_cut_of ["word"] (defScope s_cut_of) := ⟨rfl, rfl, rfl, by decide +kernel, rfl, by decide +kernel, by decide +kernel⟩
theorem sc_way_by_left : FnScope N_way_by_left ["first", "second"] (defScope s_way_by_left) := ⟨rfl, rfl, rfl, by decide +kernel, rfl, by decide +kernel, by decide +kernel⟩
theorem sc_way_by_right : FnScope N_way_by_right ["first", "second"] (defScope s_way_by_right) := ⟨rfl, rfl, rfl, by decide +kernel, rfl, by decide +kernel, by decide +kernel⟩
theorem sc_way_to : FnScope N_way_to ["first", "second"] (defScope s_way_to) := ⟨rfl, rfl, rfl, by decide +kernel, rfl, by decide +kernel, by decide +kernel⟩
theorem sc_way_of_word : FnScope N_way_of_word ["word"] (defScope s_way_of_word) := ⟨rfl, rfl, rfl, by decide +kernel, rfl, by decide +kernel, by decide +kernel⟩
theorem sc_look_way : FnScope N_look_way ["way"] (defScope s_look_way) := ⟨rfl, rfl, rfl, by decide +kernel, rfl, by decide +kernel, by decide +kernel⟩
theorem sc_word_of_way : FnScope N_word_of_way ["way"] (defScope s_word_of_way) := ⟨rfl, rfl, rfl, by decide +kernel, rfl, by decide +kernel, by decide +kernel⟩
theorem sc_is_pair_of : FnScope N_is_pair_of ["thing"] (defScope s_is_pair_of) := ⟨rfl, rfl, rfl, by decide +kernel, rfl, by decide +kernel, by decide +kernel⟩
theorem sc_is_table : FnScope N_is_table ["thing"] (defScope s_is_table) := ⟨rfl, rfl, rfl, by decide +kernel, rfl, by decide +kernel, by decide +kernel⟩
theorem sc_size_of : FnScope N_size_of ["table"] (defScope s_size_of) := ⟨rfl, rfl, rfl, by decide +kernel, rfl, by decide +kernel, by decide +kernel⟩
theorem sc_joined : FnScope N_joined ["one", "other"] (defScope s_joined) := ⟨rfl, rfl, rfl, by decide +kernel, rfl, by decide +kernel, by decide +kernel⟩
theorem sc_contrary_by : FnScope N_contrary_by ["table"] (defScope s_contrary_by) := ⟨rfl, rfl, rfl, by decide +kernel, rfl, by decide +kernel, by decide +kernel⟩
theorem sc_table_by : FnScope N_table_by ["word"] (defScope s_table_by) := ⟨rfl, rfl, rfl, by decide +kernel, rfl, by decide +kernel, by decide +kernel⟩
theorem sc_table_of : FnScope N_table_of ["word"] (defScope s_table_of) := ⟨rfl, rfl, rfl, by decide +kernel, rfl, by decide +kernel, by decide +kernel⟩
theorem sc_first_letter : FnScope N_first_letter ["table"] (defScope s_first_letter) := ⟨rfl, rfl, rfl, by decide +kernel, rfl, by decide +kernel, by decide +kernel⟩
theorem sc_word_of : FnScope N_word_of ["table"] (defScope s_word_of) := ⟨rfl, rfl, rfl, by decide +kernel, rfl, by decide +kernel, by decide +kernel⟩
theorem sc_is_tuple_of : FnScope N_is_tuple_of ["thing", "many"] (defScope s_is_tuple_of) := ⟨rfl, rfl, rfl, by decide +kernel, rfl, by decide +kernel, by decide +kernel⟩
theorem sc_is_part_of : FnScope N_is_part_of ["thing", "word"] (defScope s_is_part_of) := ⟨rfl, rfl, rfl, by decide +kernel, rfl, by decide +kernel, by decide +kernel⟩
theorem sc_even_holds : FnScope N_even_holds ["word", "paper"] (defScope s_even_holds) := ⟨rfl, rfl, rfl, by decide +kernel, rfl, by decide +kernel, by decide +kernel⟩
theorem sc_uneven_holds : FnScope N_uneven_holds ["word", "paper"] (defScope s_uneven_holds) := ⟨rfl, rfl, rfl, by decide +kernel, rfl, by decide +kernel, by decide +kernel⟩
theorem sc_holds : FnScope N_holds ["claim", "paper"] (defScope s_holds) := ⟨rfl, rfl, rfl, by decide +kernel, rfl, by decide +kernel, by decide +kernel⟩
theorem sc_law_urn : FnScope N_law_urn ["_law_script", "_law_at"] (defScope s_law_urn) := ⟨rfl, rfl, rfl, by decide +kernel, rfl, by decide +kernel, by decide +kernel⟩
theorem sc_law_draw : FnScope N_law_draw ["_law_urn_here", "_law_wide"] (defScope s_law_draw) := ⟨rfl, rfl, rfl, by decide +kernel, rfl, by decide +kernel, by decide +kernel⟩
theorem sc_law_shared : FnScope N_law_shared ["_law_one", "_law_other"] (defScope s_law_shared) := ⟨rfl, rfl, rfl, by decide +kernel, rfl, by decide +kernel, by decide +kernel⟩
theorem sc_law_all_words : FnScope N_law_all_words ["_law_many"] (defScope s_law_all_words) := ⟨rfl, rfl, rfl, by decide +kernel, rfl, by decide +kernel, by decide +kernel⟩
theorem sc_law_even_right : FnScope N_law_even_right ["_law_word"] (defScope s_law_even_right) := ⟨rfl, rfl, rfl, by decide +kernel, rfl, by decide +kernel, by decide +kernel⟩
theorem sc_law_step_right : FnScope N_law_step_right ["_law_word"] (defScope s_law_step_right) := ⟨rfl, rfl, rfl, by decide +kernel, rfl, by decide +kernel, by decide +kernel⟩
theorem sc_law_no_way : FnScope N_law_no_way ["_law_word"] (defScope s_law_no_way) := ⟨rfl, rfl, rfl, by decide +kernel, rfl, by decide +kernel, by decide +kernel⟩
theorem sc_law : FnScope N_law ["_law_script"] (defScope s_law) := ⟨rfl, rfl, rfl, by decide +kernel, rfl, by decide +kernel, by decide +kernel⟩
theorem scI_TooMany : FnScope ["self", "most"] ["self", "most"] (defScope sI_TooMany) := ⟨rfl, rfl, rfl, by decide +kernel, rfl, by decide +kernel, by decide +kernel⟩
theorem scI_Uneven : FnScope ["self", "one", "other"] ["self", "one", "other"] (defScope sI_Uneven) := ⟨rfl, rfl, rfl, by decide +kernel, rfl, by decide +kernel, by decide +kernel⟩
section
variable {P : Program} {w : World} {K : PySem.W.Frag} {mg : Str → Option Value} {base : Heap}
theorem in_TooMany (T : Txt w K mg base) : FnG P w K mg base (L2N.CX P w) 1 T.fI_TooMany T.fdI_TooMany ["self", "most"] (spI1 T.C_TooMany "most") := init1_ok T.FI_TooMany scI_TooMany T.X_TooMany.ox (T.X_TooMany.free _ (by decide +kernel)) rfl
theorem in_Uneven (T : Txt w K mg base) : FnG P w K mg base (L2N.CX P w) 1 T.fI_Uneven T.fdI_Uneven ["self", "one", "other"] (spI2 T.C_Uneven "one" "other") := init2_ok T.FI_Uneven scI_Uneven T.X_Uneven.ox (T.X_Uneven.free _ (by decide +kernel)) (T.X_Uneven.free _ (by decide +kernel)) rfl
theorem ok_is_whole (T : Txt w K mg base) : FnG P w K mg base (L2N.CX P w) 1 T.f_is_whole T.fd_is_whole ["thing"] (upF K (sp_is_whole)) := by
  refine okD (k := 0) (t := fun Ed => t_is_whole Ed) T.F_is_whole sc_is_whole (len_is_whole) (fun cdv A outer s H E Ed hr => ?_) (pure_is_whole)
  exact (db_one (ds_ret (de_and (de_callB cd_isi (by rfl) T.n_isinstance (by decide +kernel) (da_cons (dv 0) (da_cons (de_ty (by rfl) T.n_int (by decide +kernel)) da_nil))) (de_one (de_not (de_callB cd_isi (by rfl) T.n_isinstance (by decide +kernel) (da_cons (dv 0) (da_cons (de_ty (by rfl) T.n_bool (by decide +kernel)) da_nil))))))))
theorem ok_are_wholes (T : Txt w K mg base) : FnG P w K mg base (L2N.CX P w) 2 T.f_are_wholes T.fd_are_wholes ["things"] (upF K (sp_are_wholes)) := by
  refine okD (k := 1) (t := fun Ed => t_are_wholes Ed) T.F_are_wholes sc_are_wholes (len_are_wholes) (fun cdv A outer s H E Ed hr => ?_) (pure_are_wholes)
  exact (db_one (ds_ret (de_callB (cd_all rfl) (by rfl) T.n_all (by decide +kernel) (da_cons (de_lc (own := [("thing", 1)]) rfl sc_are_wholes.nd (di_any (dv 0)) (blkOk_by (own := [("thing", 1)]) (N := N_are_wholes) (sc := defScope s_are_wholes) (by decide +kernel)) (fun _ _ _ _ _ => (dg_name (i := 1) sc_are_wholes.nd rfl (by first | exact Or.inl rfl | exact Or.inr rfl) (by decide))) (fun _ _ _ _ _ => dts_nil) (fun _ _ _ _ _ => (de_call (ok_is_whole T) (hr.mono (by decide)) (by rfl) T.m_is_whole T.F_is_whole.kp T.b_is_whole .nil (fun _ _ => rpL_nil) takes0N (da_cons (dv 1) da_nil)))) da_nil))))
theorem ok_shared_by (T : Txt w K mg base) : FnG P w K mg base (L2N.CX P w) 1 T.f_shared_by T.fd_shared_by ["one", "other"] (upF K (sp_shared_by)) := by
  refine okD (k := 0) (t := fun Ed => t_shared_by Ed) T.F_shared_by sc_shared_by (len_shared_by) (fun cdv A outer s H E Ed hr => ?_) (pure_shared_by)
  exact (db_cons (ds_par 0 1 rfl sc_shared_by.nd rfl rfl (by decide) rfl rfl (da_cons (de_callB cd_abs (by rfl) T.n_abs (by decide +kernel) (da_cons (dv 0) da_nil)) (da_cons (de_callB cd_abs (by rfl) T.n_abs (by decide +kernel) (da_cons (dv 1) da_nil)) da_nil)) (by rfl))
  (db_cons (ds_while passB (dt_cmp od_gt (dv 1) de_int (nomark _))
  (db_one (ds_par 0 1 rfl sc_shared_by.nd rfl rfl (by decide) rfl rfl (da_cons (dv 1) (da_cons (de_op od_mod (dv 0) (dv 1)) da_nil)) (by rfl))))
  (db_one (ds_ret (dv 0)))))
theorem ok_is_within (T : Txt w K mg base) : FnG P w K mg base (L2N.CX P w) 2 T.f_is_within T.fd_is_within ["thing", "least", "most"] (upF K (sp_is_within)) := by
  refine okD (k := 1) (t := fun Ed => t_is_within Ed) T.F_is_within sc_is_within (len_is_within) (fun cdv A outer s H E Ed hr => ?_) (pure_is_within)
  exact (db_one (ds_ret (de_and (de_call (ok_is_whole T) (hr.mono (by decide)) (by rfl) T.m_is_whole T.F_is_whole.kp T.b_is_whole .nil (fun _ _ => rpL_nil) takesB (da_cons (dv 0) da_nil)) (de_one (de_chain od_le od_le (dv 1) (dv 0) (dv 2))))))
theorem ok_is_row (T : Txt w K mg base) : FnG P w K mg base (L2N.CX P w) 3 T.f_is_row T.fd_is_row ["thing", "least", "most"] (upF K (sp_is_row)) := by
  refine okD (k := 2) (t := fun Ed => t_is_row Ed) T.F_is_row sc_is_row (len_is_row) (fun cdv A outer s H E Ed hr => ?_) (pure_is_row)
  exact (db_cons (ds_if (DW.pt (dw_or (dt_not (dt_val (de_callB cd_isi (by rfl) T.n_isinstance (by decide +kernel) (da_cons (dv 0) (da_cons (de_ty (by rfl) T.n_tuple (by decide +kernel)) da_nil))))) (dw_or1 (dt_not (dt_chain od_le od_le (dv 1) (de_callB cd_len (by rfl) T.n_len (by decide +kernel) (da_cons (dv 0) da_nil)) (dv 2)))))) (db_one (ds_ret de_bl)) db_nil)
  (db_one (ds_ret (de_callB (cd_all rfl) (by rfl) T.n_all (by decide +kernel) (da_cons (de_lc (own := [("number", 3)]) rfl sc_is_row.nd (di_any (dv 0)) (blkOk_by (own := [("number", 3)]) (N := N_is_row) (sc := defScope s_is_row) (by decide +kernel)) (fun _ _ _ _ _ => (dg_name (i := 3) sc_is_row.nd rfl (by first | exact Or.inl rfl | exact Or.inr rfl) (by decide))) (fun _ _ _ _ _ => dts_nil) (fun _ _ _ _ _ => (de_call (ok_is_within T) (hr.mono (by decide)) (by rfl) T.m_is_within T.F_is_within.kp T.b_is_within .nil (fun _ _ => rpL_nil) takes0N (da_cons (dv 3) (da_cons de_int (da_cons (de_k (by rfl) T.m_MOST_NUMBER T.r_MOST_NUMBER T.k_MOST_NUMBER) da_nil)))))) da_nil)))))
theorem ok_is_number_ring (T : Txt w K mg base) : FnG P w K mg base (L2N.CX P w) 4 T.f_is_number_ring T.fd_is_number_ring ["thing"] (upF K (sp_is_number_ring)) := by
  refine okD (k := 3) (t := fun Ed => t_is_number_ring Ed) T.F_is_number_ring sc_is_number_ring (len_is_number_ring) (fun cdv A outer s H E Ed hr => ?_) (pure_is_number_ring)
  exact (db_one (ds_ret (de_call (ok_is_row T) (hr.mono (by decide)) (by rfl) T.m_is_row T.F_is_row.kp T.b_is_row .nil (fun _ _ => rpL_nil) takesB (da_cons (dv 0) (da_cons de_int (da_cons (de_k (by rfl) T.m_MOST_RING T.r_MOST_RING T.k_MOST_RING) da_nil))))))
theorem ok_shortest_part (T : Txt w K mg base) : FnG P w K mg base (L2N.CX P w) 1 T.f_shortest_part T.fd_shortest_part ["parts"] (upF K (sp_shortest_part)) := by
  refine okD (k := 0) (t := fun Ed => t_shortest_part Ed) T.F_shortest_part sc_shortest_part (len_shortest_part) (fun cdv A outer s H E Ed hr => ?_) (pure_shortest_part)
  exact (db_cons (ds_set 1 sc_shortest_part.nd rfl (by first | exact .inl rfl | exact .inr rfl) (de_callB cd_len (by rfl) T.n_len (by decide +kernel) (da_cons (dv 0) da_nil)))
  (db_cons (ds_for (vs := [2]) passB rfl (di_rng2 (by rfl) T.n_range (da_cons de_int (da_cons (dv 1) da_nil))) (dg_name (i := 2) sc_shortest_part.nd rfl (by first | exact Or.inl rfl | exact Or.inr rfl) (by decide))
  (db_one (ds_if (DW.pt (dw_and (dt_cmp (od_eq hr.units) (de_op od_mod (dv 1) (dv 2)) de_int (nomark _)) (dw_and1 (dt_cmp (od_eq hr.units) (de_op od_mulA (de_slice (dv 0) do_none (do_some (dv 2))) (de_op od_fdiv (dv 1) (dv 2))) (dv 0) (nomark _))))) (db_one (ds_ret (de_slice (dv 0) do_none (do_some (dv 2))))) db_nil)))
  (db_one (ds_ret (dv 0)))))
theorem ok_is_word (T : Txt w K mg base) : FnG P w K mg base (L2N.CX P w) 1 T.f_is_word T.fd_is_word ["thing"] (upF K (sp_is_word)) := by
  refine okD (k := 0) (t := fun Ed => t_is_word Ed) T.F_is_word sc_is_word (len_is_word) (fun cdv A outer s H E Ed hr => ?_) (pure_is_word)
  exact (db_cons (ds_if (DW.pt (dw_or (dt_not (dt_val (de_callB cd_isi (by rfl) T.n_isinstance (by decide +kernel) (da_cons (dv 0) (da_cons (de_ty (by rfl) T.n_str (by decide +kernel)) da_nil))))) (dw_or1 (dt_not (dt_chain od_le od_le de_int (de_callB cd_len (by rfl) T.n_len (by decide +kernel) (da_cons (dv 0) da_nil)) (de_k (by rfl) T.m_MOST_LETTERS T.r_MOST_LETTERS T.k_MOST_LETTERS)))))) (db_one (ds_ret de_bl)) db_nil)
  (db_one (ds_ret (de_callB (cd_all rfl) (by rfl) T.n_all (by decide +kernel) (da_cons (de_lc (own := [("letter", 1)]) rfl sc_is_word.nd (di_any (dv 0)) (blkOk_by (own := [("letter", 1)]) (N := N_is_word) (sc := defScope s_is_word) (by decide +kernel)) (fun _ _ _ _ _ => (dg_name (i := 1) sc_is_word.nd rfl (by first | exact Or.inl rfl | exact Or.inr rfl) (by decide))) (fun _ _ _ _ _ => dts_nil) (fun _ _ _ _ _ => (de_cmp od_inS (dv 1) (de_k (by rfl) T.m_LETTERS T.r_LETTERS T.k_LETTERS) (by with_unfolding_all rfl)))) da_nil)))))
theorem ok_look_word (T : Txt w K mg base) : FnG P w K mg base (L2N.CX P w) 2 T.f_look_word T.fd_look_word ["thing"] (upF K (sp_look_word)) := by
  refine okD (k := 1) (t := fun Ed => t_look_word Ed) T.F_look_word sc_look_word (len_look_word) (fun cdv A outer s H E Ed hr => ?_) (pure_look_word)
  exact (db_one (ds_if (dt_not (dt_val (de_call (ok_is_word T) (hr.mono (by decide)) (by rfl) T.m_is_word T.F_is_word.kp T.b_is_word .nil (fun _ _ => rpL_nil) takesB (da_cons (dv 0) da_nil)))) (db_one (ds_raiseC rfl takesB PySem.F.excBase_ValueError T.R_NoWord T.gc_NoWord (by rfl))) db_nil))
theorem ok_Ring___init__ (T : Txt w K mg base) : FnG P w K mg base (L2N.CX P w) 5 T.f_Ring___init__ T.fd_Ring___init__ ["self", "parts"] (upF K (sp_Ring___init__)) := by
  refine okD (k := 4) (t := fun Ed => t_Ring___init__ Ed) T.F_Ring___init__ sc_Ring___init__ (len_Ring___init__) (fun cdv A outer s H E Ed hr => ?_) (pure_Ring___init__)
  exact (db_cons (ds_if (DW.pt (dw_and (dt_not (dt_val (de_call (ok_is_word T) (hr.mono (by decide)) (by rfl) T.m_is_word T.F_is_word.kp T.b_is_word .nil (fun _ _ => rpL_nil) takesB (da_cons (dv 1) da_nil)))) (dw_and1 (dt_not (dt_val (de_call (ok_is_number_ring T) (hr.mono (by decide)) (by rfl) T.m_is_number_ring T.F_is_number_ring.kp T.b_is_number_ring .nil (fun _ _ => rpL_nil) takesB (da_cons (dv 1) da_nil))))))) (db_one (ds_raiseC rfl takesB PySem.F.excBase_ValueError T.R_NoRing T.gc_NoRing (by rfl))) db_nil)
  (db_one (ds_put T.cl_Ring (noAttrB_ok T.na_Ring (by decide +kernel)) (dv 0) (dv 1) (by rfl))))
theorem ok_Ring_turned (T : Txt w K mg base) : FnG P w K mg base (L2N.CX P w) 1 T.f_Ring_turned T.fd_Ring_turned ["self", "by"] (upF K (sp_Ring_turned)) := by
  refine okDv (k := 0) (t := fun Ed => t_Ring_turned Ed) T.F_Ring_turned sc_Ring_turned (len_Ring_turned) (fun cdv A outer s H E Ed hr => ?_) (pure_Ring_turned)
  exact (db_cons (ds_set 2 sc_Ring_turned.nd rfl (by first | exact .inl rfl | exact .inr rfl) (de_op od_mod (dv 1) (de_callB cd_len (by rfl) T.n_len (by decide +kernel) (da_cons (de_fld T.cl_Ring (noAttrB_ok T.na_Ring (by decide +kernel)) (dv 0)) da_nil))))
  (db_one (ds_ret (de_op od_add (de_slice (de_fld T.cl_Ring (noAttrB_ok T.na_Ring (by decide +kernel)) (dv 0)) (do_some (dv 2)) do_none) (de_slice (de_fld T.cl_Ring (noAttrB_ok T.na_Ring (by decide +kernel)) (dv 0)) do_none (do_some (dv 2)))))))
theorem ok_Ring_least_turn (T : Txt w K mg base) : FnG P w K mg base (L2N.CX P w) 3 T.f_Ring_least_turn T.fd_Ring_least_turn ["self"] (upF K (sp_Ring_least_turn)) := by
  refine okD (k := 2) (t := fun Ed => t_Ring_least_turn Ed) T.F_Ring_least_turn sc_Ring_least_turn (len_Ring_least_turn) (fun cdv A outer s H E Ed hr => ?_) (pure_Ring_least_turn)
  exact (db_one (ds_ret (de_minB rfl hr.units T.cl_Ring T.B_Ring_turned (ok_Ring_turned T) (hr.mono (by decide)) T.b_Ring_turned (by rfl) T.n_min (by decide +kernel) (by rfl) T.n_range rfl (by first | exact .inl rfl | exact .inr rfl) (de_callB cd_len (by rfl) T.n_len (by decide +kernel) (da_cons (de_fld T.cl_Ring (noAttrB_ok T.na_Ring (by decide +kernel)) (dv 0)) da_nil)))))
theorem ok_Ring_least (T : Txt w K mg base) : FnG P w K mg base (L2N.CX P w) 4 T.f_Ring_least T.fd_Ring_least ["self"] (upF K (sp_Ring_least)) := by
  refine okD (k := 3) (t := fun Ed => t_Ring_least Ed) T.F_Ring_least sc_Ring_least (len_Ring_least) (fun cdv A outer s H E Ed hr => ?_) (pure_Ring_least)
  exact (db_one (ds_ret (de_meth T.cl_Ring T.M_Ring_turned (dv 0) (ok_Ring_turned T) (hr.mono (by decide)) T.b_Ring_turned .nil (fun _ _ => rpL_nil) takesB (da_cons (de_meth0 T.cl_Ring T.M_Ring_least_turn (dv 0) (ok_Ring_least_turn T) (hr.mono (by decide)) T.b_Ring_least_turn .nil (fun _ _ => rpL_nil) takesB) da_nil))))
theorem ok_Ring_root (T : Txt w K mg base) : FnG P w K mg base (L2N.CX P w) 2 T.f_Ring_root T.fd_Ring_root ["self"] (upF K (sp_Ring_root)) := by
  refine okD (k := 1) (t := fun Ed => t_Ring_root Ed) T.F_Ring_root sc_Ring_root (len_Ring_root) (fun cdv A outer s H E Ed hr => ?_) (pure_Ring_root)
  exact (db_cons (ds_set 1 sc_Ring_root.nd rfl (by first | exact .inl rfl | exact .inr rfl) (de_call (ok_shortest_part T) (hr.mono (by decide)) (by rfl) T.m_shortest_part T.F_shortest_part.kp T.b_shortest_part .nil (fun _ _ => rpL_nil) takesB (da_cons (de_fld T.cl_Ring (noAttrB_ok T.na_Ring (by decide +kernel)) (dv 0)) da_nil)))
  (db_one (ds_ret (de_tup (da_cons (dv 1) (da_cons (de_op od_fdiv (de_callB cd_len (by rfl) T.n_len (by decide +kernel) (da_cons (de_fld T.cl_Ring (noAttrB_ok T.na_Ring (by decide +kernel)) (dv 0)) da_nil)) (de_callB cd_len (by rfl) T.n_len (by decide +kernel) (da_cons (dv 1) da_nil))) da_nil))))))
theorem ok_how_many_b (T : Txt w K mg base) : FnG P w K mg base (L2N.CX P w) 1 T.f_how_many_b T.fd_how_many_b ["part"] (upF K (sp_how_many_b)) := by
  refine okD (k := 0) (t := fun Ed => t_how_many_b Ed) T.F_how_many_b sc_how_many_b (len_how_many_b) (fun cdv A outer s H E Ed hr => ?_) (pure_how_many_b)
  exact (db_one (ds_ret (de_count (dv 0) (da_cons de_str da_nil))))
theorem ok_uneven_pair (T : Txt w K mg base) : FnG P w K mg base (L2N.CX P w) 3 T.f_uneven_pair T.fd_uneven_pair ["word"] (upF K (sp_uneven_pair)) := by
  refine okD (k := 2) (t := fun Ed => t_uneven_pair Ed) T.F_uneven_pair sc_uneven_pair (len_uneven_pair) (fun cdv A outer s H E Ed hr => ?_) (pure_uneven_pair)
  exact (db_cons (ds_for (vs := [1]) passB rfl (di_rng2 (by rfl) T.n_range (da_cons de_int (da_cons (de_callB cd_len (by rfl) T.n_len (by decide +kernel) (da_cons (dv 0) da_nil)) da_nil))) (dg_name (i := 1) sc_uneven_pair.nd rfl (by first | exact Or.inl rfl | exact Or.inr rfl) (by decide))
  (db_cons (ds_setLc (own := [("place", 4)]) 2 rfl sc_uneven_pair.nd rfl rfl (sw_true rfl rfl rfl (by decide +kernel)) (di_rng1 (by rfl) T.n_range (da_cons (de_callB cd_len (by rfl) T.n_len (by decide +kernel) (da_cons (dv 0) da_nil)) da_nil)) (blkOk_by (own := [("place", 4)]) (N := N_uneven_pair) (sc := defScope s_uneven_pair) (by decide +kernel)) (fun _ _ _ _ _ => (dg_name (i := 4) sc_uneven_pair.nd rfl (by first | exact Or.inl rfl | exact Or.inr rfl) (by decide))) (fun _ _ _ _ _ => dts_nil) (fun _ _ _ _ _ => (de_slice (de_op od_add (dv 0) (dv 0)) (do_some (dv 4)) (do_some (de_op od_add (dv 4) (dv 1))))))
  (db_cons (ds_set 3 sc_uneven_pair.nd rfl (by first | exact .inl rfl | exact .inr rfl) (de_tup (da_cons (de_maxKey rfl (ok_how_many_b T) (hr.mono (by decide)) T.b_how_many_b (by rfl) T.m_how_many_b (by rfl) T.n_max (by decide +kernel) (dv 2)) (da_cons (de_minKey rfl (ok_how_many_b T) (hr.mono (by decide)) T.b_how_many_b (by rfl) T.m_how_many_b (by rfl) T.n_min (by decide +kernel) (dv 2)) da_nil))))
  (db_one (ds_if (dt_cmp od_gt (de_op od_sub (de_call (ok_how_many_b T) (hr.mono (by decide)) (by rfl) T.m_how_many_b T.F_how_many_b.kp T.b_how_many_b .nil (fun _ _ => rpL_nil) takesB (da_cons (de_ix (dv 3) de_int (fun _ _ => rfl)) da_nil)) (de_call (ok_how_many_b T) (hr.mono (by decide)) (by rfl) T.m_how_many_b T.F_how_many_b.kp T.b_how_many_b .nil (fun _ _ => rpL_nil) takesB (da_cons (de_ix (dv 3) de_int (fun _ _ => rfl)) da_nil))) de_int (nomark _)) (db_one (ds_ret (dv 3))) db_nil)))))
  (db_one (ds_ret de_non)))
theorem ok_is_even (T : Txt w K mg base) : FnG P w K mg base (L2N.CX P w) 4 T.f_is_even T.fd_is_even ["word"] (upF K (sp_is_even)) := by
  refine okD (k := 3) (t := fun Ed => t_is_even Ed) T.F_is_even sc_is_even (len_is_even) (fun cdv A outer s H E Ed hr => ?_) (pure_is_even)
  exact (db_cons (ds_expr (de_call (ok_look_word T) (hr.mono (by decide)) (by rfl) T.m_look_word T.F_look_word.kp T.b_look_word .nil (fun _ _ => rpL_nil) takesB (da_cons (dv 0) da_nil)))
  (db_one (ds_ret (de_cmp od_is (de_call (ok_uneven_pair T) (hr.mono (by decide)) (by rfl) T.m_uneven_pair T.F_uneven_pair.kp T.b_uneven_pair .nil (fun _ _ => rpL_nil) takesB (da_cons (dv 0) da_nil)) de_non (nomark _)))))
theorem ok_uneven_parts (T : Txt w K mg base) : FnG P w K mg base (L2N.CX P w) 4 T.f_uneven_parts T.fd_uneven_parts ["word"] (upF K (sp_uneven_parts)) := by
  refine okD (k := 3) (t := fun Ed => t_uneven_parts Ed) T.F_uneven_parts sc_uneven_parts (len_uneven_parts) (fun cdv A outer s H E Ed hr => ?_) (pure_uneven_parts)
  exact (db_cons (ds_expr (de_call (ok_look_word T) (hr.mono (by decide)) (by rfl) T.m_look_word T.F_look_word.kp T.b_look_word .nil (fun _ _ => rpL_nil) takesB (da_cons (dv 0) da_nil)))
  (db_one (ds_ret (de_call (ok_uneven_pair T) (hr.mono (by decide)) (by rfl) T.m_uneven_pair T.F_uneven_pair.kp T.b_uneven_pair .nil (fun _ _ => rpL_nil) takesB (da_cons (dv 0) da_nil)))))
theorem ok_even_word (T : Txt w K mg base) : FnG P w K mg base (L2N.CX P w) 1 T.f_even_word T.fd_even_word ["many_b", "many_a"] (upF K (sp_even_word)) := by
  refine okD (k := 0) (t := fun Ed => t_even_word Ed) T.F_even_word sc_even_word (len_even_word) (fun cdv A outer s H E Ed hr => ?_) (pure_even_word)
  exact (db_cons (ds_set 2 sc_even_word.nd rfl (by first | exact .inl rfl | exact .inr rfl) (de_op od_add (dv 0) (dv 1)))
  (db_one (ds_ret (de_join de_str (da_cons (de_lc (own := [("place", 3)]) rfl sc_even_word.nd (di_rng2 (by rfl) T.n_range (da_cons de_int (da_cons (de_op od_add (dv 2) de_int) da_nil))) (blkOk_by (own := [("place", 3)]) (N := N_even_word) (sc := defScope s_even_word) (by decide +kernel)) (fun _ _ _ _ _ => (dg_name (i := 3) sc_even_word.nd rfl (by first | exact Or.inl rfl | exact Or.inr rfl) (by decide))) (fun _ _ _ _ _ => dts_nil) (fun _ _ _ _ _ => (de_ix de_str (de_op od_sub (de_op od_fdiv (de_op od_mulA (dv 3) (dv 0)) (dv 2)) (de_op od_fdiv (de_op od_mulA (de_op od_sub (dv 3) de_int) (dv 0)) (dv 2))) (fun _ _ => rfl)))) da_nil)))))
theorem ok_is_step_word (T : Txt w K mg base) : FnG P w K mg base (L2N.CX P w) 2 T.f_is_step_word T.fd_is_step_word ["thing"] (upF K (sp_is_step_word)) := by
  refine okD (k := 1) (t := fun Ed => t_is_step_word Ed) T.F_is_step_word sc_is_step_word (len_is_step_word) (fun cdv A outer s H E Ed hr => ?_) (pure_is_step_word)
  exact (db_cons (ds_if (dt_not (dt_val (de_call (ok_is_word T) (hr.mono (by decide)) (by rfl) T.m_is_word T.F_is_word.kp T.b_is_word .nil (fun _ _ => rpL_nil) takesB (da_cons (dv 0) da_nil)))) (db_one (ds_ret de_bl)) db_nil)
  (db_cons (ds_set 1 sc_is_step_word.nd rfl (by first | exact .inl rfl | exact .inr rfl) (de_count (dv 0) (da_cons de_str da_nil)))
  (db_one (ds_ret (de_and (de_cmp (od_eq hr.units) (de_call (ok_shared_by T) (hr.mono (by decide)) (by rfl) T.m_shared_by T.F_shared_by.kp T.b_shared_by .nil (fun _ _ => rpL_nil) takesB (da_cons (dv 1) (da_cons (de_callB cd_len (by rfl) T.n_len (by decide +kernel) (da_cons (dv 0) da_nil)) da_nil))) de_int (nomark _)) (de_one (de_cmp (od_eq hr.units) (dv 0) (de_call (ok_even_word T) (hr.mono (by decide)) (by rfl) T.m_even_word T.F_even_word.kp T.b_even_word .nil (fun _ _ => rpL_nil) takesB (da_cons (dv 1) (da_cons (de_op od_sub (de_callB cd_len (by rfl) T.n_len (by decide +kernel) (da_cons (dv 0) da_nil)) (dv 1)) da_nil))) (nomark _))))))))
theorem ok_look_step_steps (T : Txt w K mg base) : FnG P w K mg base (L2N.CX P w) 4 T.f_look_step_steps T.fd_look_step_steps ["word", "least"] (upF K (sp_look_step_steps)) := by
  refine okD (k := 3) (t := fun Ed => t_look_step_steps Ed) T.F_look_step_steps sc_look_step_steps (len_look_step_steps) (fun cdv A outer s H E Ed hr => ?_) (pure_look_step_steps)
  exact (db_cons (ds_expr (de_call (ok_look_word T) (hr.mono (by decide)) (by rfl) T.m_look_word T.F_look_word.kp T.b_look_word .nil (fun _ _ => rpL_nil) takesB (da_cons (dv 0) da_nil)))
  (db_cons (ds_set 2 sc_look_step_steps.nd rfl (by first | exact .inl rfl | exact .inr rfl) (de_call (ok_uneven_pair T) (hr.mono (by decide)) (by rfl) T.m_uneven_pair T.F_uneven_pair.kp T.b_uneven_pair .nil (fun _ _ => rpL_nil) takesB (da_cons (dv 0) da_nil)))
  (db_cons (ds_if (dt_cmp od_isNot (dv 2) de_non (nomark _)) (db_one (ds_raiseF2 rfl takesB PySem.F.excBase_ValueError T.X_Uneven (in_Uneven T) (hr.mono (by decide)) T.bI_Uneven T.gc_Uneven (by rfl) (da_cons (de_ix (dv 2) de_int (fun _ _ => rfl)) (da_cons (de_ix (dv 2) de_int (fun _ _ => rfl)) da_nil)))) db_nil)
  (db_one (ds_if (DW.pt (dw_or (dt_cmp od_lt (de_callB cd_len (by rfl) T.n_len (by decide +kernel) (da_cons (dv 0) da_nil)) (dv 1) (nomark _)) (dw_or1 (dt_not (dt_val (de_call (ok_is_step_word T) (hr.mono (by decide)) (by rfl) T.m_is_step_word T.F_is_step_word.kp T.b_is_step_word .nil (fun _ _ => rpL_nil) takesB (da_cons (dv 0) da_nil))))))) (db_one (ds_raiseC rfl takesB PySem.F.excBase_ValueError T.R_NoStep T.gc_NoStep (by rfl))) db_nil)))))
theorem ok_cut_by (T : Txt w K mg base) : FnG P w K mg base (L2N.CX P w) 3 T.f_cut_by T.fd_cut_by ["word"] (upF K (sp_cut_by)) := by
  refine okD (k := 2) (t := fun Ed => t_cut_by Ed) T.F_cut_by sc_cut_by (len_cut_by) (fun cdv A outer s H E Ed hr => ?_) (pure_cut_by)
  exact (db_cons (ds_setLc (own := [("at", 2)]) 1 rfl sc_cut_by.nd rfl rfl (sw_true rfl rfl rfl (by decide +kernel)) (di_rng2 (by rfl) T.n_range (da_cons de_int (da_cons (de_callB cd_len (by rfl) T.n_len (by decide +kernel) (da_cons (dv 0) da_nil)) da_nil))) (blkOk_by (own := [("at", 2)]) (N := N_cut_by) (sc := defScope s_cut_by) (by decide +kernel)) (fun _ _ _ _ _ => (dg_name (i := 2) sc_cut_by.nd rfl (by first | exact Or.inl rfl | exact Or.inr rfl) (by decide))) (fun _ _ _ _ _ => (dts_one (DW.pt (dw_and (dt_val (de_call (ok_is_step_word T) (hr.mono (by decide)) (by rfl) T.m_is_step_word T.F_is_step_word.kp T.b_is_step_word .nil (fun _ _ => rpL_nil) takes0N (da_cons (de_slice (dv 0) do_none (do_some (dv 2))) da_nil))) (dw_and1 (dt_val (de_call (ok_is_step_word T) (hr.mono (by decide)) (by rfl) T.m_is_step_word T.F_is_step_word.kp T.b_is_step_word .nil (fun _ _ => rpL_nil) takes0N (da_cons (de_slice (dv 0) (do_some (dv 2)) do_none) da_nil)))))))) (fun _ _ _ _ _ => (dv 2)))
  (db_one (ds_ret (de_tup (da_cons (de_slice (dv 0) do_none (do_some (de_ix (dv 1) de_int (fun _ _ => rfl)))) (da_cons (de_slice (dv 0) (do_some (de_ix (dv 1) de_int (fun _ _ => rfl))) do_none) da_nil))))))
theorem ok_cut_of (T : Txt w K mg base) : FnG P w K mg base (L2N.CX P w) 5 T.f_cut_of T.fd_cut_of ["word"] (upF K (sp_cut_of)) := by
  refine okD (k := 4) (t := fun Ed => t_cut_of Ed) T.F_cut_of sc_cut_of (len_cut_of) (fun cdv A outer s H E Ed hr => ?_) (pure_cut_of)
  exact (db_cons (ds_expr (de_call (ok_look_step_steps T) (hr.mono (by decide)) (by rfl) T.m_look_step_steps T.F_look_step_steps.kp T.b_look_step_steps .nil (fun _ _ => rpL_nil) takesB (da_cons (dv 0) (da_cons de_int da_nil))))
  (db_one (ds_ret (de_call (ok_cut_by T) (hr.mono (by decide)) (by rfl) T.m_cut_by T.F_cut_by.kp T.b_cut_by .nil (fun _ _ => rpL_nil) takesB (da_cons (dv 0) da_nil)))))
theorem okr_way_by_left (T : Txt w K mg base) (n : Nat) (h_way_to : FnG P w K mg base (L2N.CX P w) (2 * n + 2) T.f_way_to T.fd_way_to ["first", "second"] (upF K (sp_way_to (n)))) : FnG P w K mg base (L2N.CX P w) (2 * n + 3) T.f_way_by_left T.fd_way_by_left ["first", "second"] (upF K (sp_way_by_left (n + 1))) := by
  refine okD (k := 2 * n + 2) (t := fun Ed => t_way_by_left n Ed) T.F_way_by_left sc_way_by_left (len_way_by_left (n + 1)) (fun cdv A outer s H E Ed hr => ?_) (pure_way_by_left n)
  exact (db_one (ds_ret (de_op od_add (de_call h_way_to (hr.mono (by omega)) (by rfl) T.m_way_to T.F_way_to.kp T.b_way_to .nil (fun _ _ => rpL_nil) takesB (da_cons (dv 0) (da_cons (de_slice (dv 1) (do_some (de_callB cd_len (by rfl) T.n_len (by decide +kernel) (da_cons (dv 0) da_nil))) do_none) da_nil))) de_str)))
theorem okr_way_by_right (T : Txt w K mg base) (n : Nat) (h_way_to : FnG P w K mg base (L2N.CX P w) (2 * n + 2) T.f_way_to T.fd_way_to ["first", "second"] (upF K (sp_way_to (n)))) : FnG P w K mg base (L2N.CX P w) (2 * n + 3) T.f_way_by_right T.fd_way_by_right ["first", "second"] (upF K (sp_way_by_right (n + 1))) := by
  refine okD (k := 2 * n + 2) (t := fun Ed => t_way_by_right n Ed) T.F_way_by_right sc_way_by_right (len_way_by_right (n + 1)) (fun cdv A outer s H E Ed hr => ?_) (pure_way_by_right n)
  exact (db_one (ds_ret (de_op od_add (de_call h_way_to (hr.mono (by omega)) (by rfl) T.m_way_to T.F_way_to.kp T.b_way_to .nil (fun _ _ => rpL_nil) takesB (da_cons (de_slice (dv 0) do_none (do_some (de_op od_sub (de_callB cd_len (by rfl) T.n_len (by decide +kernel) (da_cons (dv 0) da_nil)) (de_callB cd_len (by rfl) T.n_len (by decide +kernel) (da_cons (dv 1) da_nil))))) (da_cons (dv 1) da_nil))) de_str)))
theorem okr_way_to (T : Txt w K mg base) (n : Nat) (h_way_by_left : FnG P w K mg base (L2N.CX P w) (2 * n + 1) T.f_way_by_left T.fd_way_by_left ["first", "second"] (upF K (sp_way_by_left (n)))) (h_way_by_right : FnG P w K mg base (L2N.CX P w) (2 * n + 1) T.f_way_by_right T.fd_way_by_right ["first", "second"] (upF K (sp_way_by_right (n)))) : FnG P w K mg base (L2N.CX P w) (2 * n + 2) T.f_way_to T.fd_way_to ["first", "second"] (upF K (sp_way_to (n))) := by
  refine okD (k := 2 * n + 1) (t := fun Ed => t_way_to n Ed) T.F_way_to sc_way_to (len_way_to (n)) (fun cdv A outer s H E Ed hr => ?_) (pure_way_to n)
  exact (db_cons (ds_if (dt_cmp od_lt (de_callB cd_len (by rfl) T.n_len (by decide +kernel) (da_cons (dv 0) da_nil)) (de_callB cd_len (by rfl) T.n_len (by decide +kernel) (da_cons (dv 1) da_nil)) (nomark _)) (db_one (ds_ret (de_call h_way_by_left (hr.mono (by omega)) (by rfl) T.m_way_by_left T.F_way_by_left.kp T.b_way_by_left .nil (fun _ _ => rpL_nil) takesB (da_cons (dv 0) (da_cons (dv 1) da_nil))))) db_nil)
  (db_cons (ds_if (dt_cmp od_gt (de_callB cd_len (by rfl) T.n_len (by decide +kernel) (da_cons (dv 0) da_nil)) (de_callB cd_len (by rfl) T.n_len (by decide +kernel) (da_cons (dv 1) da_nil)) (nomark _)) (db_one (ds_ret (de_call h_way_by_right (hr.mono (by omega)) (by rfl) T.m_way_by_right T.F_way_by_right.kp T.b_way_by_right .nil (fun _ _ => rpL_nil) takesB (da_cons (dv 0) (da_cons (dv 1) da_nil))))) db_nil)
  (db_one (ds_ret de_str))))
theorem ok_rec (T : Txt w K mg base) : ∀ n, (FnG P w K mg base (L2N.CX P w) (2 * n + 1) T.f_way_by_left T.fd_way_by_left ["first", "second"] (upF K (sp_way_by_left (n)))) ∧ (FnG P w K mg base (L2N.CX P w) (2 * n + 1) T.f_way_by_right T.fd_way_by_right ["first", "second"] (upF K (sp_way_by_right (n)))) ∧ FnG P w K mg base (L2N.CX P w) (2 * n + 2) T.f_way_to T.fd_way_to ["first", "second"] (upF K (sp_way_to (n)))
  | 0 =>
    have h_way_by_left : FnG P w K mg base (L2N.CX P w) (2 * 0 + 1) T.f_way_by_left T.fd_way_by_left ["first", "second"] (upF K (sp_way_by_left (0))) := fnG_none (len_way_by_left 0) none_way_by_left
    have h_way_by_right : FnG P w K mg base (L2N.CX P w) (2 * 0 + 1) T.f_way_by_right T.fd_way_by_right ["first", "second"] (upF K (sp_way_by_right (0))) := fnG_none (len_way_by_right 0) none_way_by_right
    ⟨h_way_by_left, h_way_by_right, okr_way_to T 0 h_way_by_left h_way_by_right⟩
  | n + 1 =>
    have ih := (ok_rec T n).2.2
    have h_way_by_left := okr_way_by_left T n ih
    have h_way_by_right := okr_way_by_right T n ih
    ⟨h_way_by_left, h_way_by_right, okr_way_to T (n + 1) h_way_by_left h_way_by_right⟩
theorem ok_way_to (T : Txt w K mg base) : FnG P w K mg base (L2N.CX P w) (118) T.f_way_to T.fd_way_to ["first", "second"] (upF K (sp_way_to (58))) := (ok_rec T 58).2.2
theorem ok_way_of_word (T : Txt w K mg base) : FnG P w K mg base (L2N.CX P w) 119 T.f_way_of_word T.fd_way_of_word ["word"] (upF K (sp_way_of_word)) := by
  refine okD (k := 118) (t := fun Ed => t_way_of_word Ed) T.F_way_of_word sc_way_of_word (len_way_of_word) (fun cdv A outer s H E Ed hr => ?_) (pure_way_of_word)
  exact (db_cons (ds_asg (vs := [1, 2]) (de_call (ok_cut_of T) (hr.mono (by decide)) (by rfl) T.m_cut_of T.F_cut_of.kp T.b_cut_of .nil (fun _ _ => rpL_nil) takesB (da_cons (dv 0) da_nil)) (dg_tup rfl (dgs_cons (dg_name (i := 1) sc_way_of_word.nd rfl (by first | exact Or.inl rfl | exact Or.inr rfl) (by decide)) (dgs_cons (dg_name (i := 2) sc_way_of_word.nd rfl (by first | exact Or.inl rfl | exact Or.inr rfl) (by decide)) dgs_nil))))
  (db_one (ds_ret (de_call (ok_way_to T) (hr.mono (by decide)) (by rfl) T.m_way_to T.F_way_to.kp T.b_way_to .nil (fun _ _ => rpL_nil) takesB (da_cons (dv 1) (da_cons (dv 2) da_nil))))))
theorem ok_look_way (T : Txt w K mg base) : FnG P w K mg base (L2N.CX P w) 1 T.f_look_way T.fd_look_way ["way"] (upF K (sp_look_way)) := by
  refine okD (k := 0) (t := fun Ed => t_look_way Ed) T.F_look_way sc_look_way (len_look_way) (fun cdv A outer s H E Ed hr => ?_) (pure_look_way)
  exact (db_one (ds_if (DW.pt (dw_or (dt_not (dt_val (de_callB cd_isi (by rfl) T.n_isinstance (by decide +kernel) (da_cons (dv 0) (da_cons (de_ty (by rfl) T.n_str (by decide +kernel)) da_nil))))) (dw_or1 (dt_not (dt_val (de_callB (cd_all rfl) (by rfl) T.n_all (by decide +kernel) (da_cons (de_lc (own := [("letter", 1)]) rfl sc_look_way.nd (di_any (dv 0)) (blkOk_by (own := [("letter", 1)]) (N := N_look_way) (sc := defScope s_look_way) (by decide +kernel)) (fun _ _ _ _ _ => (dg_name (i := 1) sc_look_way.nd rfl (by first | exact Or.inl rfl | exact Or.inr rfl) (by decide))) (fun _ _ _ _ _ => dts_nil) (fun _ _ _ _ _ => (de_cmp od_inS (dv 1) (de_k (by rfl) T.m_WAY_LETTERS T.r_WAY_LETTERS T.k_WAY_LETTERS) (by with_unfolding_all rfl)))) da_nil))))))) (db_one (ds_raiseC rfl takesB PySem.F.excBase_ValueError T.R_NoWay T.gc_NoWay (by rfl))) db_nil))
theorem ok_word_of_way (T : Txt w K mg base) : FnG P w K mg base (L2N.CX P w) 3 T.f_word_of_way T.fd_word_of_way ["way"] (upF K (sp_word_of_way)) := by
  refine okD (k := 2) (t := fun Ed => t_word_of_way Ed) T.F_word_of_way sc_word_of_way (len_word_of_way) (fun cdv A outer s H E Ed hr => ?_) (pure_word_of_way)
  exact (db_cons (ds_expr (de_call (ok_look_way T) (hr.mono (by decide)) (by rfl) T.m_look_way T.F_look_way.kp T.b_look_way .nil (fun _ _ => rpL_nil) takesB (da_cons (dv 0) da_nil)))
  (db_cons (ds_asg (vs := [1, 2]) (de_tup (da_cons de_str (da_cons de_str da_nil))) (dg_tup rfl (dgs_cons (dg_name (i := 1) sc_word_of_way.nd rfl (by first | exact Or.inl rfl | exact Or.inr rfl) (by decide)) (dgs_cons (dg_name (i := 2) sc_word_of_way.nd rfl (by first | exact Or.inl rfl | exact Or.inr rfl) (by decide)) dgs_nil))))
  (db_cons (ds_for (vs := [3]) passB rfl (di_any (dv 0)) (dg_name (i := 3) sc_word_of_way.nd rfl (by first | exact Or.inl rfl | exact Or.inr rfl) (by decide))
  (db_cons (ds_set 4 sc_word_of_way.nd rfl (by first | exact .inl rfl | exact .inr rfl) (de_op od_add (dv 1) (dv 2)))
  (db_cons (ds_if (dt_cmp (od_eq hr.units) (dv 3) de_str (nomark _)) (db_one (ds_set 2 sc_word_of_way.nd rfl (by first | exact .inl rfl | exact .inr rfl) (dv 4))) (db_one (ds_set 1 sc_word_of_way.nd rfl (by first | exact .inl rfl | exact .inr rfl) (dv 4))))
  (db_one (ds_if (dt_cmp od_gt (de_op od_add (de_callB cd_len (by rfl) T.n_len (by decide +kernel) (da_cons (dv 1) da_nil)) (de_callB cd_len (by rfl) T.n_len (by decide +kernel) (da_cons (dv 2) da_nil))) (de_k (by rfl) T.m_MOST_LETTERS T.r_MOST_LETTERS T.k_MOST_LETTERS) (nomark _)) (db_one (ds_raiseF1 rfl takesB PySem.F.excBase_OverflowError T.X_TooMany (in_TooMany T) (hr.mono (by decide)) T.bI_TooMany T.gc_TooMany (by rfl) (da_cons (de_k (by rfl) T.m_MOST_LETTERS T.r_MOST_LETTERS T.k_MOST_LETTERS) da_nil))) db_nil)))))
  (db_one (ds_ret (de_op od_add (dv 1) (dv 2)))))))
theorem ok_is_pair_of (T : Txt w K mg base) : FnG P w K mg base (L2N.CX P w) 1 T.f_is_pair_of T.fd_is_pair_of ["thing"] (upF K (sp_is_pair_of)) := by
  refine okD (k := 0) (t := fun Ed => t_is_pair_of Ed) T.F_is_pair_of sc_is_pair_of (len_is_pair_of) (fun cdv A outer s H E Ed hr => ?_) (pure_is_pair_of)
  exact (db_one (ds_ret (de_and (de_callB cd_isi (by rfl) T.n_isinstance (by decide +kernel) (da_cons (dv 0) (da_cons (de_ty (by rfl) T.n_tuple (by decide +kernel)) da_nil))) (de_one (de_cmp (od_eq hr.units) (de_callB cd_len (by rfl) T.n_len (by decide +kernel) (da_cons (dv 0) da_nil)) de_int (nomark _))))))
theorem ok_is_table (T : Txt w K mg base) : FnG P w K mg base (L2N.CX P w) 3 T.f_is_table T.fd_is_table ["thing"] (upF K (sp_is_table)) := by
  refine okD (k := 2) (t := fun Ed => t_is_table Ed) T.F_is_table sc_is_table (len_is_table) (fun cdv A outer s H E Ed hr => ?_) (pure_is_table)
  exact (db_one (ds_ret (de_and (de_call (ok_is_pair_of T) (hr.mono (by decide)) (by rfl) T.m_is_pair_of T.F_is_pair_of.kp T.b_is_pair_of .nil (fun _ _ => rpL_nil) takesB (da_cons (dv 0) da_nil)) (de_one (de_callB (cd_all rfl) (by rfl) T.n_all (by decide +kernel) (da_cons (de_lc (own := [("row", 1)]) rfl sc_is_table.nd (di_any (dv 0)) (blkOk_by (own := [("row", 1)]) (N := N_is_table) (sc := defScope s_is_table) (by decide +kernel)) (fun _ _ _ _ _ => (dg_name (i := 1) sc_is_table.nd rfl (by first | exact Or.inl rfl | exact Or.inr rfl) (by decide))) (fun _ _ _ _ _ => dts_nil) (fun _ _ _ _ _ => (de_and (de_call (ok_is_pair_of T) (hr.mono (by decide)) (by rfl) T.m_is_pair_of T.F_is_pair_of.kp T.b_is_pair_of .nil (fun _ _ => rpL_nil) takes0N (da_cons (dv 1) da_nil)) (de_one (de_call (ok_are_wholes T) (hr.mono (by decide)) (by rfl) T.m_are_wholes T.F_are_wholes.kp T.b_are_wholes .nil (fun _ _ => rpL_nil) takes0N (da_cons (dv 1) da_nil)))))) da_nil))))))
theorem ok_size_of (T : Txt w K mg base) : FnG P w K mg base (L2N.CX P w) 1 T.f_size_of T.fd_size_of ["table"] (upF K (sp_size_of)) := by
  refine okD (k := 0) (t := fun Ed => t_size_of Ed) T.F_size_of sc_size_of (len_size_of) (fun cdv A outer s H E Ed hr => ?_) (pure_size_of)
  exact (db_cons (ds_asg (vs := [1, 2, 3, 4]) (dv 0) (dg_tup rfl (dgs_cons (dg_tup rfl (dgs_cons (dg_name (i := 1) sc_size_of.nd rfl (by first | exact Or.inl rfl | exact Or.inr rfl) (by decide)) (dgs_cons (dg_name (i := 2) sc_size_of.nd rfl (by first | exact Or.inl rfl | exact Or.inr rfl) (by decide)) dgs_nil))) (dgs_cons (dg_tup rfl (dgs_cons (dg_name (i := 3) sc_size_of.nd rfl (by first | exact Or.inl rfl | exact Or.inr rfl) (by decide)) (dgs_cons (dg_name (i := 4) sc_size_of.nd rfl (by first | exact Or.inl rfl | exact Or.inr rfl) (by decide)) dgs_nil))) dgs_nil))))
  (db_one (ds_ret (de_op od_sub (de_op od_mulA (dv 1) (dv 4)) (de_op od_mulA (dv 2) (dv 3))))))
theorem ok_joined (T : Txt w K mg base) : FnG P w K mg base (L2N.CX P w) 1 T.f_joined T.fd_joined ["one", "other"] (upF K (sp_joined)) := by
  refine okD (k := 0) (t := fun Ed => t_joined Ed) T.F_joined sc_joined (len_joined) (fun cdv A outer s H E Ed hr => ?_) (pure_joined)
  exact (db_cons (ds_asg (vs := [2, 3, 4, 5]) (dv 0) (dg_tup rfl (dgs_cons (dg_tup rfl (dgs_cons (dg_name (i := 2) sc_joined.nd rfl (by first | exact Or.inl rfl | exact Or.inr rfl) (by decide)) (dgs_cons (dg_name (i := 3) sc_joined.nd rfl (by first | exact Or.inl rfl | exact Or.inr rfl) (by decide)) dgs_nil))) (dgs_cons (dg_tup rfl (dgs_cons (dg_name (i := 4) sc_joined.nd rfl (by first | exact Or.inl rfl | exact Or.inr rfl) (by decide)) (dgs_cons (dg_name (i := 5) sc_joined.nd rfl (by first | exact Or.inl rfl | exact Or.inr rfl) (by decide)) dgs_nil))) dgs_nil))))
  (db_cons (ds_asg (vs := [6, 7, 8, 9]) (dv 1) (dg_tup rfl (dgs_cons (dg_tup rfl (dgs_cons (dg_name (i := 6) sc_joined.nd rfl (by first | exact Or.inl rfl | exact Or.inr rfl) (by decide)) (dgs_cons (dg_name (i := 7) sc_joined.nd rfl (by first | exact Or.inl rfl | exact Or.inr rfl) (by decide)) dgs_nil))) (dgs_cons (dg_tup rfl (dgs_cons (dg_name (i := 8) sc_joined.nd rfl (by first | exact Or.inl rfl | exact Or.inr rfl) (by decide)) (dgs_cons (dg_name (i := 9) sc_joined.nd rfl (by first | exact Or.inl rfl | exact Or.inr rfl) (by decide)) dgs_nil))) dgs_nil))))
  (db_one (ds_ret (de_tup (da_cons (de_tup (da_cons (de_op od_add (de_op od_mulA (dv 2) (dv 6)) (de_op od_mulA (dv 3) (dv 8))) (da_cons (de_op od_add (de_op od_mulA (dv 2) (dv 7)) (de_op od_mulA (dv 3) (dv 9))) da_nil))) (da_cons (de_tup (da_cons (de_op od_add (de_op od_mulA (dv 4) (dv 6)) (de_op od_mulA (dv 5) (dv 8))) (da_cons (de_op od_add (de_op od_mulA (dv 4) (dv 7)) (de_op od_mulA (dv 5) (dv 9))) da_nil))) da_nil)))))))
theorem ok_contrary_by (T : Txt w K mg base) : FnG P w K mg base (L2N.CX P w) 2 T.f_contrary_by T.fd_contrary_by ["table"] (upF K (sp_contrary_by)) := by
  refine okD (k := 1) (t := fun Ed => t_contrary_by Ed) T.F_contrary_by sc_contrary_by (len_contrary_by) (fun cdv A outer s H E Ed hr => ?_) (pure_contrary_by)
  exact (db_cons (ds_asg (vs := [1, 2, 3, 4]) (dv 0) (dg_tup rfl (dgs_cons (dg_tup rfl (dgs_cons (dg_name (i := 1) sc_contrary_by.nd rfl (by first | exact Or.inl rfl | exact Or.inr rfl) (by decide)) (dgs_cons (dg_name (i := 2) sc_contrary_by.nd rfl (by first | exact Or.inl rfl | exact Or.inr rfl) (by decide)) dgs_nil))) (dgs_cons (dg_tup rfl (dgs_cons (dg_name (i := 3) sc_contrary_by.nd rfl (by first | exact Or.inl rfl | exact Or.inr rfl) (by decide)) (dgs_cons (dg_name (i := 4) sc_contrary_by.nd rfl (by first | exact Or.inl rfl | exact Or.inr rfl) (by decide)) dgs_nil))) dgs_nil))))
  (db_cons (ds_set 5 sc_contrary_by.nd rfl (by first | exact .inl rfl | exact .inr rfl) (de_call (ok_size_of T) (hr.mono (by decide)) (by rfl) T.m_size_of T.F_size_of.kp T.b_size_of .nil (fun _ _ => rpL_nil) takesB (da_cons (dv 0) da_nil)))
  (db_one (ds_ret (de_tup (da_cons (de_tup (da_cons (de_op od_mulA (dv 4) (dv 5)) (da_cons (de_op od_sub de_int (de_op od_mulA (dv 2) (dv 5))) da_nil))) (da_cons (de_tup (da_cons (de_op od_sub de_int (de_op od_mulA (dv 3) (dv 5))) (da_cons (de_op od_mulA (dv 1) (dv 5)) da_nil))) da_nil)))))))
theorem ok_table_by (T : Txt w K mg base) : FnG P w K mg base (L2N.CX P w) 2 T.f_table_by T.fd_table_by ["word"] (upF K (sp_table_by)) := by
  refine okD (k := 1) (t := fun Ed => t_table_by Ed) T.F_table_by sc_table_by (len_table_by) (fun cdv A outer s H E Ed hr => ?_) (pure_table_by)
  exact (db_cons (ds_set 1 sc_table_by.nd rfl (by first | exact .inl rfl | exact .inr rfl) (de_k (by rfl) T.m_UNIT T.r_UNIT T.k_UNIT))
  (db_cons (ds_for (vs := [2]) passB rfl (di_any (dv 0)) (dg_name (i := 2) sc_table_by.nd rfl (by first | exact Or.inl rfl | exact Or.inr rfl) (by decide))
  (db_one (ds_set 1 sc_table_by.nd rfl (by first | exact .inl rfl | exact .inr rfl) (de_call (ok_joined T) (hr.mono (by decide)) (by rfl) T.m_joined T.F_joined.kp T.b_joined .nil (fun _ _ => rpL_nil) takesB (da_cons (dv 1) (da_cons (de_kix (by rfl) T.m_LETTER_TABLES T.k_LETTER_TABLES (dv 2) (fun _ _ => rfl)) da_nil))))))
  (db_one (ds_ret (dv 1)))))
theorem ok_table_of (T : Txt w K mg base) : FnG P w K mg base (L2N.CX P w) 3 T.f_table_of T.fd_table_of ["word"] (upF K (sp_table_of)) := by
  refine okD (k := 2) (t := fun Ed => t_table_of Ed) T.F_table_of sc_table_of (len_table_of) (fun cdv A outer s H E Ed hr => ?_) (pure_table_of)
  exact (db_cons (ds_expr (de_call (ok_look_word T) (hr.mono (by decide)) (by rfl) T.m_look_word T.F_look_word.kp T.b_look_word .nil (fun _ _ => rpL_nil) takesB (da_cons (dv 0) da_nil)))
  (db_one (ds_ret (de_call (ok_table_by T) (hr.mono (by decide)) (by rfl) T.m_table_by T.F_table_by.kp T.b_table_by .nil (fun _ _ => rpL_nil) takesB (da_cons (dv 0) da_nil)))))
theorem ok_first_letter (T : Txt w K mg base) : FnG P w K mg base (L2N.CX P w) 1 T.f_first_letter T.fd_first_letter ["table"] (upF K (sp_first_letter)) := by
  refine okD (k := 0) (t := fun Ed => t_first_letter Ed) T.F_first_letter sc_first_letter (len_first_letter) (fun cdv A outer s H E Ed hr => ?_) (pure_first_letter)
  exact (db_one (ds_ret (de_ix de_str (de_callTy cd_int (by rfl) T.n_int (by decide +kernel) (da_cons (de_cmp od_gt (de_ix (de_ix (dv 0) de_int (fun _ _ => rfl)) de_int (fun _ _ => rfl)) (de_op od_mulA de_int (de_ix (de_ix (dv 0) de_int (fun _ _ => rfl)) de_int (fun _ _ => rfl))) (nomark _)) da_nil)) (fun _ _ => rfl))))
theorem ok_word_of (T : Txt w K mg base) : FnG P w K mg base (L2N.CX P w) 4 T.f_word_of T.fd_word_of ["table"] (upF K (sp_word_of)) := by
  refine okD (k := 3) (t := fun Ed => t_word_of Ed) T.F_word_of sc_word_of (len_word_of) (fun cdv A outer s H E Ed hr => ?_) (pure_word_of)
  exact (db_cons (ds_if (DW.pt (dw_or (dt_not (dt_val (de_call (ok_is_table T) (hr.mono (by decide)) (by rfl) T.m_is_table T.F_is_table.kp T.b_is_table .nil (fun _ _ => rpL_nil) takesB (da_cons (dv 0) da_nil)))) (dw_or1 (dt_cmp (od_eq hr.units) (dv 0) (de_k (by rfl) T.m_UNIT T.r_UNIT T.k_UNIT) (nomark _))))) (db_one (ds_raiseC rfl takesB PySem.F.excBase_ValueError T.R_NoTable T.gc_NoTable (by rfl))) db_nil)
  (db_cons (ds_set 1 sc_word_of.nd rfl (by first | exact .inl rfl | exact .inr rfl) de_str)
  (db_cons (ds_while passB (dt_cmp (od_ne hr.units) (dv 0) (de_k (by rfl) T.m_UNIT T.r_UNIT T.k_UNIT) (nomark _))
  (db_cons (ds_if (dt_cmp (od_eq hr.units) (de_callB cd_len (by rfl) T.n_len (by decide +kernel) (da_cons (dv 1) da_nil)) (de_k (by rfl) T.m_MOST_LETTERS T.r_MOST_LETTERS T.k_MOST_LETTERS) (nomark _)) (db_one (ds_raiseC rfl takesB PySem.F.excBase_ValueError T.R_NoTable T.gc_NoTable (by rfl))) db_nil)
  (db_cons (ds_aug 1 sc_word_of.nd rfl (by first | exact .inl rfl | exact .inr rfl) (de_call (ok_first_letter T) (hr.mono (by decide)) (by rfl) T.m_first_letter T.F_first_letter.kp T.b_first_letter .nil (fun _ _ => rpL_nil) takesB (da_cons (dv 0) da_nil)) iod_add)
  (db_one (ds_set 0 sc_word_of.nd rfl (by first | exact .inl rfl | exact .inr rfl) (de_call (ok_joined T) (hr.mono (by decide)) (by rfl) T.m_joined T.F_joined.kp T.b_joined .nil (fun _ _ => rpL_nil) takesB (da_cons (de_call (ok_contrary_by T) (hr.mono (by decide)) (by rfl) T.m_contrary_by T.F_contrary_by.kp T.b_contrary_by .nil (fun _ _ => rpL_nil) takesB (da_cons (de_kix (by rfl) T.m_LETTER_TABLES T.k_LETTER_TABLES (de_ix (dv 1) (de_neg de_int) (fun _ _ => rfl)) (fun _ _ => rfl)) da_nil)) (da_cons (dv 0) da_nil))))))))
  (db_one (ds_ret (dv 1))))))
theorem ok_is_tuple_of (T : Txt w K mg base) : FnG P w K mg base (L2N.CX P w) 1 T.f_is_tuple_of T.fd_is_tuple_of ["thing", "many"] (upF K (sp_is_tuple_of)) := by
  refine okD (k := 0) (t := fun Ed => t_is_tuple_of Ed) T.F_is_tuple_of sc_is_tuple_of (len_is_tuple_of) (fun cdv A outer s H E Ed hr => ?_) (pure_is_tuple_of)
  exact (db_one (ds_ret (de_and (de_callB cd_isi (by rfl) T.n_isinstance (by decide +kernel) (da_cons (dv 0) (da_cons (de_ty (by rfl) T.n_tuple (by decide +kernel)) da_nil))) (de_one (de_cmp (od_eq hr.units) (de_callB cd_len (by rfl) T.n_len (by decide +kernel) (da_cons (dv 0) da_nil)) (dv 1) (nomark _))))))
theorem ok_is_part_of (T : Txt w K mg base) : FnG P w K mg base (L2N.CX P w) 2 T.f_is_part_of T.fd_is_part_of ["thing", "word"] (upF K (sp_is_part_of)) := by
  refine okD (k := 1) (t := fun Ed => t_is_part_of Ed) T.F_is_part_of sc_is_part_of (len_is_part_of) (fun cdv A outer s H E Ed hr => ?_) (pure_is_part_of)
  exact (db_one (ds_ret (de_and (de_call (ok_is_word T) (hr.mono (by decide)) (by rfl) T.m_is_word T.F_is_word.kp T.b_is_word .nil (fun _ _ => rpL_nil) takesB (da_cons (dv 0) da_nil)) (de_and (de_cmp od_le (de_callB cd_len (by rfl) T.n_len (by decide +kernel) (da_cons (dv 0) da_nil)) (de_callB cd_len (by rfl) T.n_len (by decide +kernel) (da_cons (dv 1) da_nil)) (nomark _)) (de_one (de_cmp od_inT (dv 0) (de_op od_add (dv 1) (dv 1)) (by with_unfolding_all rfl)))))))
theorem ok_even_holds (T : Txt w K mg base) : FnG P w K mg base (L2N.CX P w) 5 T.f_even_holds T.fd_even_holds ["word", "paper"] (upF K (sp_even_holds)) := by
  refine okD (k := 4) (t := fun Ed => t_even_holds Ed) T.F_even_holds sc_even_holds (len_even_holds) (fun cdv A outer s H E Ed hr => ?_) (pure_even_holds)
  exact (db_one (ds_ret (de_and (de_cmp od_is (dv 1) de_non (nomark _)) (de_and (de_call (ok_is_word T) (hr.mono (by decide)) (by rfl) T.m_is_word T.F_is_word.kp T.b_is_word .nil (fun _ _ => rpL_nil) takesB (da_cons (dv 0) da_nil)) (de_one (de_call (ok_is_even T) (hr.mono (by decide)) (by rfl) T.m_is_even T.F_is_even.kp T.b_is_even .nil (fun _ _ => rpL_nil) takesB (da_cons (dv 0) da_nil)))))))
theorem ok_uneven_holds (T : Txt w K mg base) : FnG P w K mg base (L2N.CX P w) 3 T.f_uneven_holds T.fd_uneven_holds ["word", "paper"] (upF K (sp_uneven_holds)) := by
  refine okD (k := 2) (t := fun Ed => t_uneven_holds Ed) T.F_uneven_holds sc_uneven_holds (len_uneven_holds) (fun cdv A outer s H E Ed hr => ?_) (pure_uneven_holds)
  exact (db_cons (ds_if (DW.pt (dw_or (dt_not (dt_val (de_call (ok_is_word T) (hr.mono (by decide)) (by rfl) T.m_is_word T.F_is_word.kp T.b_is_word .nil (fun _ _ => rpL_nil) takesB (da_cons (dv 0) da_nil)))) (dw_or (dt_not (dt_val (de_call (ok_is_tuple_of T) (hr.mono (by decide)) (by rfl) T.m_is_tuple_of T.F_is_tuple_of.kp T.b_is_tuple_of .nil (fun _ _ => rpL_nil) takesB (da_cons (dv 1) (da_cons de_int da_nil))))) (dw_or1 (dt_not (dt_val (de_callB (cd_all rfl) (by rfl) T.n_all (by decide +kernel) (da_cons (de_lc (own := [("part", 4)]) rfl sc_uneven_holds.nd (di_any (dv 1)) (blkOk_by (own := [("part", 4)]) (N := N_uneven_holds) (sc := defScope s_uneven_holds) (by decide +kernel)) (fun _ _ _ _ _ => (dg_name (i := 4) sc_uneven_holds.nd rfl (by first | exact Or.inl rfl | exact Or.inr rfl) (by decide))) (fun _ _ _ _ _ => dts_nil) (fun _ _ _ _ _ => (de_call (ok_is_part_of T) (hr.mono (by decide)) (by rfl) T.m_is_part_of T.F_is_part_of.kp T.b_is_part_of .nil (fun _ _ => rpL_nil) takes0N (da_cons (dv 4) (da_cons (dv 0) da_nil))))) da_nil)))))))) (db_one (ds_ret de_bl)) db_nil)
  (db_cons (ds_asg (vs := [2, 3]) (dv 1) (dg_tup rfl (dgs_cons (dg_name (i := 2) sc_uneven_holds.nd rfl (by first | exact Or.inl rfl | exact Or.inr rfl) (by decide)) (dgs_cons (dg_name (i := 3) sc_uneven_holds.nd rfl (by first | exact Or.inl rfl | exact Or.inr rfl) (by decide)) dgs_nil))))
  (db_one (ds_ret (de_and (de_cmp (od_eq hr.units) (de_callB cd_len (by rfl) T.n_len (by decide +kernel) (da_cons (dv 2) da_nil)) (de_callB cd_len (by rfl) T.n_len (by decide +kernel) (da_cons (dv 3) da_nil)) (nomark _)) (de_one (de_cmp od_gt (de_op od_sub (de_count (dv 2) (da_cons de_str da_nil)) (de_count (dv 3) (da_cons de_str da_nil))) de_int (nomark _))))))))
theorem ok_holds (T : Txt w K mg base) : FnG P w K mg base (L2N.CX P w) 6 T.f_holds T.fd_holds ["claim", "paper"] (upF K (sp_holds)) := by
  refine okD (k := 5) (t := fun Ed => t_holds Ed) T.F_holds sc_holds (len_holds) (fun cdv A outer s H E Ed hr => ?_) (pure_holds)
  exact (db_cons (ds_if (DW.pt (dw_or (dt_not (dt_val (de_callB cd_isi (by rfl) T.n_isinstance (by decide +kernel) (da_cons (dv 0) (da_cons (de_ty (by rfl) T.n_tuple (by decide +kernel)) da_nil))))) (dw_or (dt_cmp (od_eq hr.units) (de_callB cd_len (by rfl) T.n_len (by decide +kernel) (da_cons (dv 0) da_nil)) de_int (nomark _)) (dw_or1 (dt_not (dt_val (de_callB cd_isi (by rfl) T.n_isinstance (by decide +kernel) (da_cons (de_ix (dv 0) de_int (fun _ _ => rfl)) (da_cons (de_ty (by rfl) T.n_str (by decide +kernel)) da_nil))))))))) (db_one (ds_ret de_bl)) db_nil)
  (db_cons (ds_par 2 3 rfl sc_holds.nd rfl rfl (by decide) rfl rfl (da_cons (de_ix (dv 0) de_int (fun _ _ => rfl)) (da_cons (de_op od_sub (de_callB cd_len (by rfl) T.n_len (by decide +kernel) (da_cons (dv 0) da_nil)) de_int) da_nil)) (by rfl))
  (db_cons (ds_if (DW.pt (dw_and (dt_cmp (od_eq hr.units) (dv 3) de_int (nomark _)) (dw_and1 (dt_kin (by rfl) T.m_HOLD T.q_HOLD (dv 2) (by with_unfolding_all rfl))))) (db_cons (ds_set 4 sc_holds.nd rfl (by first | exact .inl rfl | exact .inr rfl) (de_kix (by rfl) T.m_HOLD T.k_HOLD (dv 2) (fun _ _ => rfl)))
  (db_one (ds_ret (de_callV (k := 5) (i := 4) (cs := [("even_holds", sp_even_holds), ("uneven_holds", sp_uneven_holds)]) (fnW_cons (fnW_mk (ok_even_holds T) T.gn_even_holds T.F_even_holds.kp T.b_even_holds) (fnW_cons (fnW_mk (ok_uneven_holds T) T.gn_uneven_holds T.F_uneven_holds.kp T.b_uneven_holds) fnW_nil)) (hr.mono (by decide)) rfl (by first | exact Or.inl rfl | exact Or.inr (Or.inl rfl) | exact Or.inr (Or.inr rfl)) takesB (da_cons (de_ix (dv 0) de_int (fun _ _ => rfl)) (da_cons (dv 1) da_nil)))))) db_nil)
  (db_cons (ds_if (DW.pt (dw_and (dt_cmp (od_eq hr.units) (dv 3) de_int (nomark _)) (dw_and1 (dt_kin (by rfl) T.m_HOLD_SAME T.q_HOLD_SAME (dv 2) (by with_unfolding_all rfl))))) (db_cons ds_never
  (db_one ds_never)) db_nil)
  (db_cons (ds_if (DW.pt (dw_and (dt_cmp (od_eq hr.units) (dv 3) de_int (nomark _)) (dw_and1 (dt_kin (by rfl) T.m_HOLD_OF_THREE T.q_HOLD_OF_THREE (dv 2) (by with_unfolding_all rfl))))) (db_cons ds_never
  (db_one ds_never)) db_nil)
  (db_one (ds_ret de_bl)))))))
theorem ok_law_urn (T : Txt w K mg base) : FnG P w K mg base (L2N.CX P w) 1 T.f_law_urn T.fd_law_urn ["_law_script", "_law_at"] (upF K (sp_law_urn)) := by
  refine okD (k := 0) (t := fun Ed => t_law_urn Ed) T.F_law_urn sc_law_urn (len_law_urn) (fun cdv A outer s H E Ed hr => ?_) (pure_law_urn)
  exact (db_cons (ds_set 2 sc_law_urn.nd rfl (by first | exact .inl rfl | exact .inr rfl) de_int)
  (db_cons (ds_if (dt_cmp od_lt (dv 1) (de_callB cd_len (by rfl) T.n_len (by decide +kernel) (da_cons (dv 0) da_nil)) (nomark _)) (db_one (ds_set 2 sc_law_urn.nd rfl (by first | exact .inl rfl | exact .inr rfl) (de_ix (dv 0) (dv 1) (fun _ _ => rfl)))) db_nil)
  (db_cons (ds_set 3 sc_law_urn.nd rfl (by first | exact .inl rfl | exact .inr rfl) (de_callB cd_abs (by rfl) T.n_abs (by decide +kernel) (da_cons (dv 2) da_nil)))
  (db_cons (ds_if (dt_cmp od_lt (dv 3) (de_op od_pow de_int de_int) (nomark _)) (db_one (ds_set 3 sc_law_urn.nd rfl (by first | exact .inl rfl | exact .inr rfl) de_int)) db_nil)
  (db_one (ds_ret (de_lstO (da_cons (dv 3) (da_cons (de_op od_add (de_op od_add (de_op od_add (de_op od_mod (dv 2) de_int) (de_op od_mulA (de_op od_mulA de_int (dv 1)) (dv 1))) (de_op od_mulA de_int (dv 1))) de_int) (da_cons de_int da_nil))))))))))
theorem ok_law_draw (T : Txt w K mg base) : FnG P w K mg base (L2N.CX P w) 1 T.f_law_draw T.fd_law_draw ["_law_urn_here", "_law_wide"] (upF K (sp_law_draw)) := by
  refine okD (k := 0) (t := fun Ed => t_law_draw Ed) T.F_law_draw sc_law_draw (len_law_draw) (fun cdv A outer s H E Ed hr => ?_) (pure_law_draw)
  exact (db_cons (ds_if (dt_cmp od_gt (de_ix (dv 0) de_int (fun _ _ => rfl)) de_int (nomark _)) (db_cons (ds_set 2 sc_law_draw.nd rfl (by first | exact .inl rfl | exact .inr rfl) (de_op od_mod (de_ix (dv 0) de_int (fun _ _ => rfl)) (dv 1)))
  (db_cons (ds_store (dv 0) de_int (de_op od_fdiv (de_ix (dv 0) de_int (fun _ _ => rfl)) (dv 1)))
  (db_one (ds_ret (dv 2))))) db_nil)
  (db_cons (ds_set 3 sc_law_draw.nd rfl (by first | exact .inl rfl | exact .inr rfl) (de_tup (da_cons de_int (da_cons de_int (da_cons de_int (da_cons de_int (da_cons de_int (da_cons de_int (da_cons de_int da_nil)))))))))
  (db_cons (ds_store (dv 0) de_int (de_op od_add (de_ix (dv 0) de_int (fun _ _ => rfl)) de_int))
  (db_cons (ds_set 4 sc_law_draw.nd rfl (by first | exact .inl rfl | exact .inr rfl) (de_ix (dv 0) de_int (fun _ _ => rfl)))
  (db_cons (ds_set 5 sc_law_draw.nd rfl (by first | exact .inl rfl | exact .inr rfl) (de_op od_add (de_op od_add (de_op od_mulA (de_ix (dv 0) de_int (fun _ _ => rfl)) (de_op od_add (de_op od_mulA de_int (dv 4)) de_int)) (de_op od_mulA (de_op od_mulA de_int (dv 4)) (dv 4))) de_int))
  (db_cons (ds_set 6 sc_law_draw.nd rfl (by first | exact .inl rfl | exact .inr rfl) (de_op od_mod (de_op od_pow (dv 5) de_int) (de_ix (dv 3) (de_op od_mod (dv 4) de_int) (fun _ _ => rfl))))
  (db_one (ds_ret (de_op od_mod (de_op od_fdiv (de_op od_mod (de_op od_mulA (dv 6) (de_op od_add (de_op od_fdiv (dv 6) de_int) (dv 4))) (de_ix (dv 3) (de_op od_mod (de_op od_add (dv 4) de_int) de_int) (fun _ _ => rfl))) de_int) (dv 1))))))))))
theorem ok_law_shared (T : Txt w K mg base) : FnG P w K mg base (L2N.CX P w) 1 T.f_law_shared T.fd_law_shared ["_law_one", "_law_other"] (upF K (sp_law_shared)) := by
  refine okD (k := 0) (t := fun Ed => t_law_shared Ed) T.F_law_shared sc_law_shared (len_law_shared) (fun cdv A outer s H E Ed hr => ?_) (pure_law_shared)
  exact (db_cons (ds_par 0 1 rfl sc_law_shared.nd rfl rfl (by decide) rfl rfl (da_cons (de_callB cd_abs (by rfl) T.n_abs (by decide +kernel) (da_cons (dv 0) da_nil)) (da_cons (de_callB cd_abs (by rfl) T.n_abs (by decide +kernel) (da_cons (dv 1) da_nil)) da_nil)) (by rfl))
  (db_cons (ds_while passB (dt_cmp od_gt (dv 1) de_int (nomark _))
  (db_one (ds_par 0 1 rfl sc_law_shared.nd rfl rfl (by decide) rfl rfl (da_cons (dv 1) (da_cons (de_op od_mod (dv 0) (dv 1)) da_nil)) (by rfl))))
  (db_one (ds_ret (dv 0)))))
theorem ok_law_all_words (T : Txt w K mg base) : FnG P w K mg base (L2N.CX P w) 1 T.f_law_all_words T.fd_law_all_words ["_law_many"] (upF K (sp_law_all_words)) := by
  refine okD (k := 0) (t := fun Ed => t_law_all_words Ed) T.F_law_all_words sc_law_all_words (len_law_all_words) (fun cdv A outer s H E Ed hr => ?_) (pure_law_all_words)
  exact (db_cons (ds_set 1 sc_law_all_words.nd rfl (by first | exact .inl rfl | exact .inr rfl) (de_lst (da_cons de_str da_nil)))
  (db_cons (ds_for (vs := [2]) passB rfl (di_rng1 (by rfl) T.n_range (da_cons (dv 0) da_nil)) (dg_name (i := 2) sc_law_all_words.nd rfl (by first | exact Or.inl rfl | exact Or.inr rfl) (by decide))
  (db_cons (ds_set 3 sc_law_all_words.nd rfl (by first | exact .inl rfl | exact .inr rfl) (de_lstO da_nil))
  (db_cons (ds_for (vs := [4]) passB rfl (di_any (dv 1)) (dg_name (i := 4) sc_law_all_words.nd rfl (by first | exact Or.inl rfl | exact Or.inr rfl) (by decide))
  (db_one (ds_expr (de_ext (dv 3) (da_cons (de_lst (da_cons (de_op od_add (dv 4) de_str) (da_cons (de_op od_add (dv 4) de_str) da_nil))) da_nil)))))
  (db_one (ds_frzV 3 (ds_set 1 sc_law_all_words.nd rfl (by first | exact .inl rfl | exact .inr rfl) (dv 3)))))))
  (db_one (ds_ret (dv 1)))))
theorem ok_law_even_right (T : Txt w K mg base) : FnG P w K mg base (L2N.CX P w) 7 T.f_law_even_right T.fd_law_even_right ["_law_word"] (upF K (sp_law_even_right)) := by
  refine okD (k := 6) (t := fun Ed => t_law_even_right Ed) T.F_law_even_right sc_law_even_right (len_law_even_right) (fun cdv A outer s H E Ed hr => ?_) (pure_law_even_right)
  exact (db_cons (ds_set 1 sc_law_even_right.nd rfl (by first | exact .inl rfl | exact .inr rfl) (de_count (dv 0) (da_cons de_str da_nil)))
  (db_cons (ds_set 2 sc_law_even_right.nd rfl (by first | exact .inl rfl | exact .inr rfl) (de_call (ok_even_word T) (hr.mono (by decide)) (by rfl) T.m_even_word T.F_even_word.kp T.b_even_word .nil (fun _ _ => rpL_nil) takesB (da_cons (dv 1) (da_cons (de_op od_sub (de_callB cd_len (by rfl) T.n_len (by decide +kernel) (da_cons (dv 0) da_nil)) (dv 1)) da_nil))))
  (db_cons (ds_set 3 sc_law_even_right.nd rfl (by first | exact .inl rfl | exact .inr rfl) (de_cmp (od_inD (units65 hr)) (dv 2) (de_lc (own := [("_law_k", 7)]) rfl sc_law_even_right.nd (di_rng1 (by rfl) T.n_range (da_cons (de_callB cd_len (by rfl) T.n_len (by decide +kernel) (da_cons (dv 0) da_nil)) da_nil)) (blkOk_by (own := [("_law_k", 7)]) (N := N_law_even_right) (sc := defScope s_law_even_right) (by decide +kernel)) (fun _ _ _ _ _ => (dg_name (i := 7) sc_law_even_right.nd rfl (by first | exact Or.inl rfl | exact Or.inr rfl) (by decide))) (fun _ _ _ _ _ => dts_nil) (fun _ _ _ _ _ => (de_op od_add (de_slice (dv 0) (do_some (dv 7)) do_none) (de_slice (dv 0) do_none (do_some (dv 7)))))) (by with_unfolding_all rfl)))
  (db_cons (ds_set 4 sc_law_even_right.nd rfl (by first | exact .inl rfl | exact .inr rfl) (de_call (ok_uneven_parts T) (hr.mono (by decide)) (by rfl) T.m_uneven_parts T.F_uneven_parts.kp T.b_uneven_parts .nil (fun _ _ => rpL_nil) takesB (da_cons (dv 0) da_nil)))
  (db_cons (ds_if (DW.pt (dw_or (dt_cmp (od_ne hr.units) (de_call (ok_is_even T) (hr.mono (by decide)) (by rfl) T.m_is_even T.F_is_even.kp T.b_is_even .nil (fun _ _ => rpL_nil) takesB (da_cons (dv 0) da_nil)) (dv 3) (nomark _)) (dw_or (dt_cmp (od_ne hr.units) (de_cmp od_is (dv 4) de_non (nomark _)) (dv 3) (nomark _)) (dw_or1 (dt_cmp (od_ne hr.units) (de_call (ok_holds T) (hr.mono (by decide)) (by rfl) T.m_holds T.F_holds.kp T.b_holds .nil (fun _ _ => rpL_nil) takesB (da_cons (de_tup (da_cons de_str (da_cons (dv 0) da_nil))) (da_cons de_non da_nil))) (dv 3) (nomark _)))))) (db_one (ds_ret de_bl)) db_nil)
  (db_cons (ds_if (dt_cmp od_is (dv 4) de_non (nomark _)) (db_one (ds_ret de_bl)) db_nil)
  (db_cons (ds_asg (vs := [5, 6]) (dv 4) (dg_tup rfl (dgs_cons (dg_name (i := 5) sc_law_even_right.nd rfl (by first | exact Or.inl rfl | exact Or.inr rfl) (by decide)) (dgs_cons (dg_name (i := 6) sc_law_even_right.nd rfl (by first | exact Or.inl rfl | exact Or.inr rfl) (by decide)) dgs_nil))))
  (db_cons (ds_if (DW.pt (dw_or (dt_cmp (od_ne hr.units) (de_callB cd_len (by rfl) T.n_len (by decide +kernel) (da_cons (dv 5) da_nil)) (de_callB cd_len (by rfl) T.n_len (by decide +kernel) (da_cons (dv 6) da_nil)) (nomark _)) (dw_or1 (dt_cmp od_lt (de_count (dv 5) (da_cons de_str da_nil)) (de_op od_add (de_count (dv 6) (da_cons de_str da_nil)) de_int) (nomark _))))) (db_one (ds_ret de_bl)) db_nil)
  (db_one (ds_ret (de_and (de_cmp od_inT (dv 5) (de_op od_add (dv 0) (dv 0)) (by with_unfolding_all rfl)) (de_and (de_cmp od_inT (dv 6) (de_op od_add (dv 0) (dv 0)) (by with_unfolding_all rfl)) (de_one (de_cmp od_is (de_call (ok_holds T) (hr.mono (by decide)) (by rfl) T.m_holds T.F_holds.kp T.b_holds .nil (fun _ _ => rpL_nil) takesB (da_cons (de_tup (da_cons de_str (da_cons (dv 0) da_nil))) (da_cons (dv 4) da_nil))) de_bl (nomark _)))))))))))))))
theorem ok_law_step_right (T : Txt w K mg base) : FnG P w K mg base (L2N.CX P w) 120 T.f_law_step_right T.fd_law_step_right ["_law_word"] (upF K (sp_law_step_right)) := by
  refine okD (k := 119) (t := fun Ed => t_law_step_right Ed) T.F_law_step_right sc_law_step_right (len_law_step_right) (fun cdv A outer s H E Ed hr => ?_) (pure_law_step_right)
  exact (db_cons (ds_asg (vs := [1, 2, 3]) (de_tup (da_cons (de_call (ok_way_of_word T) (hr.mono (by decide)) (by rfl) T.m_way_of_word T.F_way_of_word.kp T.b_way_of_word .nil (fun _ _ => rpL_nil) takesB (da_cons (dv 0) da_nil)) (da_cons (de_call (ok_cut_of T) (hr.mono (by decide)) (by rfl) T.m_cut_of T.F_cut_of.kp T.b_cut_of .nil (fun _ _ => rpL_nil) takesB (da_cons (dv 0) da_nil)) da_nil))) (dg_tup rfl (dgs_cons (dg_name (i := 1) sc_law_step_right.nd rfl (by first | exact Or.inl rfl | exact Or.inr rfl) (by decide)) (dgs_cons (dg_tup rfl (dgs_cons (dg_name (i := 2) sc_law_step_right.nd rfl (by first | exact Or.inl rfl | exact Or.inr rfl) (by decide)) (dgs_cons (dg_name (i := 3) sc_law_step_right.nd rfl (by first | exact Or.inl rfl | exact Or.inr rfl) (by decide)) dgs_nil))) dgs_nil))))
  (db_cons (ds_if (DW.pt (dw_or (dt_cmp (od_ne hr.units) (de_op od_add (dv 2) (dv 3)) (dv 0) (nomark _)) (dw_or (dt_not (dt_val (de_call (ok_is_step_word T) (hr.mono (by decide)) (by rfl) T.m_is_step_word T.F_is_step_word.kp T.b_is_step_word .nil (fun _ _ => rpL_nil) takesB (da_cons (dv 2) da_nil)))) (dw_or1 (dt_not (dt_val (de_call (ok_is_step_word T) (hr.mono (by decide)) (by rfl) T.m_is_step_word T.F_is_step_word.kp T.b_is_step_word .nil (fun _ _ => rpL_nil) takesB (da_cons (dv 3) da_nil)))))))) (db_one (ds_ret de_bl)) db_nil)
  (db_cons (ds_asg (vs := [4, 5, 6, 7]) (de_call (ok_table_of T) (hr.mono (by decide)) (by rfl) T.m_table_of T.F_table_of.kp T.b_table_of .nil (fun _ _ => rpL_nil) takesB (da_cons (dv 0) da_nil)) (dg_tup rfl (dgs_cons (dg_tup rfl (dgs_cons (dg_name (i := 4) sc_law_step_right.nd rfl (by first | exact Or.inl rfl | exact Or.inr rfl) (by decide)) (dgs_cons (dg_name (i := 5) sc_law_step_right.nd rfl (by first | exact Or.inl rfl | exact Or.inr rfl) (by decide)) dgs_nil))) (dgs_cons (dg_tup rfl (dgs_cons (dg_name (i := 6) sc_law_step_right.nd rfl (by first | exact Or.inl rfl | exact Or.inr rfl) (by decide)) (dgs_cons (dg_name (i := 7) sc_law_step_right.nd rfl (by first | exact Or.inl rfl | exact Or.inr rfl) (by decide)) dgs_nil))) dgs_nil))))
  (db_cons (ds_if (DW.pt (dw_or (dt_cmp (od_ne hr.units) (de_op od_add (dv 4) (dv 7)) (de_op od_mulA de_int (dv 5)) (nomark _)) (dw_or (dt_cmp (od_ne hr.units) (de_op od_sub (de_op od_mulA (dv 4) (dv 7)) (de_op od_mulA (dv 5) (dv 6))) de_int (nomark _)) (dw_or1 (dt_cmp (od_ne hr.units) (de_call (ok_word_of T) (hr.mono (by decide)) (by rfl) T.m_word_of T.F_word_of.kp T.b_word_of .nil (fun _ _ => rpL_nil) takesB (da_cons (de_tup (da_cons (de_tup (da_cons (dv 4) (da_cons (dv 5) da_nil))) (da_cons (de_tup (da_cons (dv 6) (da_cons (dv 7) da_nil))) da_nil))) da_nil)) (dv 0) (nomark _)))))) (db_one (ds_ret de_bl)) db_nil)
  (db_one (ds_ret (de_cmp (od_eq hr.units) (de_call (ok_word_of_way T) (hr.mono (by decide)) (by rfl) T.m_word_of_way T.F_word_of_way.kp T.b_word_of_way .nil (fun _ _ => rpL_nil) takesB (da_cons (dv 1) da_nil)) (dv 0) (nomark _))))))))
theorem ok_law_no_way (T : Txt w K mg base) : FnG P w K mg base (L2N.CX P w) 120 T.f_law_no_way T.fd_law_no_way ["_law_word"] (upF K (sp_law_no_way)) := by
  refine okD (k := 119) (t := fun Ed => t_law_no_way Ed) T.F_law_no_way sc_law_no_way (len_law_no_way) (fun cdv A outer s H E Ed hr => ?_) (pure_law_no_way)
  exact (db_one (ds_try (rs := rsX) (tb := fun Wd => (dRet (dOp rdIs (dCall sp_way_of_word [] Wd (dCons (dVar 0) dNil)) (dC .non)))) rfl rfl takesB (fun n h => (T.wf n h).2) (fun W' pn xe tk' passB => (db_one (ds_ret (de_cmp od_is (de_call (ok_way_of_word T) (hr.mono (by decide)) (by rfl) T.m_way_of_word T.F_way_of_word.kp T.b_way_of_word .nil (fun _ _ => rpL_nil) tk' (da_cons (dv 0) da_nil)) de_non (nomark _)))))
  (.cons (m := none) ⟨rfl, True.intro⟩ (.many (nmsO (T.own _ (by decide +kernel)) (by rfl) (nmsO (T.own _ (by decide +kernel)) (by rfl) .nil)) (by rw [List.length_map]; decide)) (by decide +kernel) (fun a oe od x pn sf => (db_one (ds_ret de_bl)))
  .nil)))
theorem ok_law (T : Txt w K mg base) : FnG P w K mg base (L2N.CX P w) 121 T.f_law T.fd_law ["_law_script"] (upF K spLawD) := by
  refine okD (k := 120) (t := fun Ed => t_law Ed) T.F_law sc_law (len_law) (fun cdv A outer s H E Ed hr => ?_) (pure_law)
  exact (db_cons (ds_for (vs := [1]) passB rfl (di_rng1 (by rfl) T.n_range (da_cons (de_callB (cd_max2 rfl) (by rfl) T.n_max (by decide +kernel) (da_cons de_int (da_cons (de_callB (cd_min2 rfl) (by rfl) T.n_min (by decide +kernel) (da_cons de_int (da_cons (de_callB cd_len (by rfl) T.n_len (by decide +kernel) (da_cons (dv 0) da_nil)) da_nil))) da_nil))) da_nil)) (dg_name (i := 1) sc_law.nd rfl (by first | exact Or.inl rfl | exact Or.inr rfl) (by decide))
  (db_cons (ds_set 2 sc_law.nd rfl (by first | exact .inl rfl | exact .inr rfl) (de_call (ok_law_urn T) (hr.mono (by decide)) (by rfl) T.m_law_urn T.F_law_urn.kp T.b_law_urn .nil (fun _ _ => rpL_nil) takesB (da_cons (dv 0) (da_cons (dv 1) da_nil))))
  (db_cons (ds_set 3 sc_law.nd rfl (by first | exact .inl rfl | exact .inr rfl) (de_op od_add de_int (de_call (ok_law_draw T) (hr.mono (by decide)) (by rfl) T.m_law_draw T.F_law_draw.kp T.b_law_draw .nil (fun _ _ => rpL_nil) takesB (da_cons (dv 2) (da_cons de_int da_nil)))))
  (db_cons (ds_set 4 sc_law.nd rfl (by first | exact .inl rfl | exact .inr rfl) (de_call (ok_law_all_words T) (hr.mono (by decide)) (by rfl) T.m_law_all_words T.F_law_all_words.kp T.b_law_all_words .nil (fun _ _ => rpL_nil) takesB (da_cons (dv 3) da_nil)))
  (db_cons (ds_setLc (own := [("_law_word", 8)]) 5 rfl sc_law.nd rfl rfl (sw_true rfl rfl rfl (by decide +kernel)) (di_any (dv 4)) (blkOk_by (own := [("_law_word", 8)]) (N := N_law) (sc := defScope s_law) (by decide +kernel)) (fun _ _ _ _ _ => (dg_name (i := 8) sc_law.nd rfl (by first | exact Or.inl rfl | exact Or.inr rfl) (by decide))) (fun _ _ _ _ _ => (dts_one (dt_val (de_call (ok_is_step_word T) (hr.mono (by decide)) (by rfl) T.m_is_step_word T.F_is_step_word.kp T.b_is_step_word .nil (fun _ _ => rpL_nil) takes0N (da_cons (dv 8) da_nil))))) (fun _ _ _ _ _ => (dv 8)))
  (db_cons (ds_setLc (own := [("_law_word", 8)]) 6 rfl sc_law.nd rfl rfl (sw_true rfl rfl rfl (by decide +kernel)) (di_any (dv 4)) (blkOk_by (own := [("_law_word", 8)]) (N := N_law) (sc := defScope s_law) (by decide +kernel)) (fun _ _ _ _ _ => (dg_name (i := 8) sc_law.nd rfl (by first | exact Or.inl rfl | exact Or.inr rfl) (by decide))) (fun _ _ _ _ _ => dts_nil) (fun _ _ _ _ _ => (de_meth0 T.cl_Ring T.M_Ring_least (de_make T.cl_Ring (ok_Ring___init__ T) (hr.mono (by decide)) (by rfl) T.gc_Ring T.b_Ring___init__ .nil (fun _ _ => rpL_nil) takes0N (da_cons (dv 8) da_nil)) (ok_Ring_least T) (hr.mono (by decide)) T.b_Ring_least .nil (fun _ _ => rpL_nil) takes0N)))
  (db_cons (ds_setLc (own := [("_law_k", 12)]) 7 rfl sc_law.nd rfl rfl (sw_true rfl rfl rfl (by decide +kernel)) (di_rng1 (by rfl) T.n_range (da_cons (de_op od_add (dv 3) de_int) da_nil)) (blkOk_by (own := [("_law_k", 12)]) (N := N_law) (sc := defScope s_law) (by decide +kernel)) (fun _ _ _ _ _ => (dg_name (i := 12) sc_law.nd rfl (by first | exact Or.inl rfl | exact Or.inr rfl) (by decide))) (fun _ _ _ _ _ => (dts_one (dt_cmp (od_eq hr.units) (de_call (ok_law_shared T) (hr.mono (by decide)) (by rfl) T.m_law_shared T.F_law_shared.kp T.b_law_shared .nil (fun _ _ => rpL_nil) takes0N (da_cons (dv 12) (da_cons (dv 3) da_nil))) de_int (nomark _)))) (fun _ _ _ _ _ => (dv 12)))
  (db_cons (ds_if (DW.pt (dw_or (dt_cmp (od_ne hr.units) (de_callB cd_len (by rfl) T.n_len (by decide +kernel) (da_cons (dv 5) da_nil)) (de_callB cd_len (by rfl) T.n_len (by decide +kernel) (da_cons (dv 7) da_nil)) (nomark _)) (dw_or1 (dt_cmp (od_ne hr.units) (de_callB cd_sorted (by rfl) T.n_sorted (by decide +kernel) (da_cons (de_lc (own := [("_law_word", 8)]) rfl sc_law.nd (di_any (dv 5)) (blkOk_by (own := [("_law_word", 8)]) (N := N_law) (sc := defScope s_law) (by decide +kernel)) (fun _ _ _ _ _ => (dg_name (i := 8) sc_law.nd rfl (by first | exact Or.inl rfl | exact Or.inr rfl) (by decide))) (fun _ _ _ _ _ => dts_nil) (fun _ _ _ _ _ => (de_count (dv 8) (da_cons de_str da_nil)))) da_nil)) (dv 7) (nomark _))))) (db_one (ds_ret de_bl)) db_nil)
  (db_cons (ds_for (vs := [8]) passB rfl (di_any (dv 4)) (dg_name (i := 8) sc_law.nd rfl (by first | exact Or.inl rfl | exact Or.inr rfl) (by decide))
  (db_cons (ds_if (dt_not (dt_val (de_call (ok_law_even_right T) (hr.mono (by decide)) (by rfl) T.m_law_even_right T.F_law_even_right.kp T.b_law_even_right .nil (fun _ _ => rpL_nil) takesB (da_cons (dv 8) da_nil)))) (db_one (ds_ret de_bl)) db_nil)
  (db_cons (ds_asg (vs := [9, 10]) (de_meth0 T.cl_Ring T.M_Ring_root (de_make T.cl_Ring (ok_Ring___init__ T) (hr.mono (by decide)) (by rfl) T.gc_Ring T.b_Ring___init__ .nil (fun _ _ => rpL_nil) takesB (da_cons (dv 8) da_nil)) (ok_Ring_root T) (hr.mono (by decide)) T.b_Ring_root .nil (fun _ _ => rpL_nil) takesB) (dg_tup rfl (dgs_cons (dg_name (i := 9) sc_law.nd rfl (by first | exact Or.inl rfl | exact Or.inr rfl) (by decide)) (dgs_cons (dg_name (i := 10) sc_law.nd rfl (by first | exact Or.inl rfl | exact Or.inr rfl) (by decide)) dgs_nil))))
  (db_cons (ds_if (DW.pt (dw_or (dt_cmp (od_ne hr.units) (de_op od_mulA (dv 9) (dv 10)) (dv 8) (nomark _)) (dw_or1 (dt_cmp (od_ne hr.units) (de_lstCntS (dv 6) (da_cons (de_meth0 T.cl_Ring T.M_Ring_least (de_make T.cl_Ring (ok_Ring___init__ T) (hr.mono (by decide)) (by rfl) T.gc_Ring T.b_Ring___init__ .nil (fun _ _ => rpL_nil) takesB (da_cons (dv 8) da_nil)) (ok_Ring_least T) (hr.mono (by decide)) T.b_Ring_least .nil (fun _ _ => rpL_nil) takesB) da_nil)) (de_callB cd_len (by rfl) T.n_len (by decide +kernel) (da_cons (dv 9) da_nil)) (nomark _))))) (db_one (ds_ret de_bl)) db_nil)
  (db_cons (ds_if (DW.pt (dw_and (dt_cmp (od_inD (units65 hr)) (dv 8) (dv 5) (by with_unfolding_all rfl)) (dw_and1 (dt_cmp (od_ne hr.units) (de_call (ok_even_word T) (hr.mono (by decide)) (by rfl) T.m_even_word T.F_even_word.kp T.b_even_word .nil (fun _ _ => rpL_nil) takesB (da_cons (de_count (dv 8) (da_cons de_str da_nil)) (da_cons (de_count (dv 8) (da_cons de_str da_nil)) da_nil))) (dv 8) (nomark _))))) (db_one (ds_ret de_bl)) db_nil)
  (db_one (ds_if (DW.pt (dw_and (dt_cmp (od_notInD (units65 hr)) (dv 8) (dv 5) (by with_unfolding_all rfl)) (dw_and1 (dt_not (dt_val (de_call (ok_law_no_way T) (hr.mono (by decide)) (by rfl) T.m_law_no_way T.F_law_no_way.kp T.b_law_no_way .nil (fun _ _ => rpL_nil) takesB (da_cons (dv 8) da_nil))))))) (db_one (ds_ret de_bl)) db_nil)))))))
  (db_cons (ds_if (DW.pt (dw_and (dt_cmp od_gt (dv 3) de_int (nomark _)) (dw_and1 (dt_not (dt_val (de_callB (cd_all rfl) (by rfl) T.n_all (by decide +kernel) (da_cons (de_lc (own := [("_law_word", 8)]) rfl sc_law.nd (di_any (dv 5)) (blkOk_by (own := [("_law_word", 8)]) (N := N_law) (sc := defScope s_law) (by decide +kernel)) (fun _ _ _ _ _ => (dg_name (i := 8) sc_law.nd rfl (by first | exact Or.inl rfl | exact Or.inr rfl) (by decide))) (fun _ _ _ _ _ => dts_nil) (fun _ _ _ _ _ => (de_call (ok_law_step_right T) (hr.mono (by decide)) (by rfl) T.m_law_step_right T.F_law_step_right.kp T.b_law_step_right .nil (fun _ _ => rpL_nil) takes0N (da_cons (dv 8) da_nil)))) da_nil))))))) (db_one (ds_ret de_bl)) db_nil)
  (db_cons (ds_setLc (own := [("_law_word", 8)]) 11 rfl sc_law.nd rfl rfl (sw_true rfl rfl rfl (by decide +kernel)) (di_any (dv 5)) (blkOk_by (own := [("_law_word", 8)]) (N := N_law) (sc := defScope s_law) (by decide +kernel)) (fun _ _ _ _ _ => (dg_name (i := 8) sc_law.nd rfl (by first | exact Or.inl rfl | exact Or.inr rfl) (by decide))) (fun _ _ _ _ _ => (dts_one (dt_cmp od_gt (dv 3) de_int (nomark _)))) (fun _ _ _ _ _ => (de_call (ok_way_of_word T) (hr.mono (by decide)) (by rfl) T.m_way_of_word T.F_way_of_word.kp T.b_way_of_word .nil (fun _ _ => rpL_nil) takes0N (da_cons (dv 8) da_nil))))
  (db_one (ds_if (DW.pt (dw_or (dt_cmp (od_ne hr.units) (de_lenSetS rfl (by rfl) T.n_len (by rfl) T.n_set (dv 11)) (de_callB cd_len (by rfl) T.n_len (by decide +kernel) (da_cons (dv 11) da_nil)) (nomark _)) (dw_or1 (dt_cmp (od_ne hr.units) (de_lenSetT rfl hr.units (by rfl) T.n_len (by rfl) T.n_set (de_lc (own := [("_law_word", 8)]) rfl sc_law.nd (di_any (dv 4)) (blkOk_by (own := [("_law_word", 8)]) (N := N_law) (sc := defScope s_law) (by decide +kernel)) (fun _ _ _ _ _ => (dg_name (i := 8) sc_law.nd rfl (by first | exact Or.inl rfl | exact Or.inr rfl) (by decide))) (fun _ _ _ _ _ => dts_nil) (fun _ _ _ _ _ => (de_call (ok_table_of T) (hr.mono (by decide)) (by rfl) T.m_table_of T.F_table_of.kp T.b_table_of .nil (fun _ _ => rpL_nil) takes0N (da_cons (dv 8) da_nil))))) (de_callB cd_len (by rfl) T.n_len (by decide +kernel) (da_cons (dv 4) da_nil)) (nomark _))))) (db_one (ds_ret de_bl)) db_nil)))))))))))))
  (db_one (ds_ret de_bl)))
end
end K77
open PySem PySem.W PyProof.Rows
set_option maxRecDepth 100000 in
set_option maxHeartbeats 0 in
theorem PySem.Challenge.cw_nearthrees_k77_whole_all_words_of_so_man_holds : PySem.Challenge.rw_nearthrees_k77_whole_all_words_of_so_man.Holds := by
  w_on
  refine HeadQ.early.2 fun _ => ?_
  unfold HeadQ.early
  dsimp only
  k_fill
  refine Hx.lawG_end (l := PySem.Challenge.rw_nearthrees_k77_whole_all_words_of_so_man) (n := 63) (k := 121) (x := "_law_script") (CX := fun w => L2N.CX (PySem.Challenge.rw_nearthrees_k77_whole_all_words_of_so_man).prog w) rfl (by decide) rfl ⟨⟨rfl, by decide, by decide⟩, rfl⟩ (fun w h Y => PySem.W.kIn_of Y) ?F fun _ _ _ _ _ z => Dv.CX_no z
  case F =>
    intro w mg fa h Y KX G hmg
    refine' K77.all_mk (fun T => K77.ok_law T) KX G hmg ?vg_Ring ?a0 ?l0 ?c0 ?k0 ?a1 ?l1 ?c1 ?k1 ?a2 ?l2 ?c2 ?k2 ?a3 ?l3 ?c3 ?k3 ?a4 ?l4 ?c4 ?k4 ?a5 ?l5 ?c5 ?k5 ?a6 ?l6 ?c6 ?k6 ?a7 ?l7 ?c7 ?k7 ?a8 ?l8 ?c8 ?k8 ?a9 ?l9 ?c9 ?k9 ?a10 ?l10 ?c10 ?k10 ?a11 ?l11 ?c11 ?k11 ?a12 ?l12 ?c12 ?k12 ?a13 ?l13 ?c13 ?k13 ?a14 ?l14 ?c14 ?k14 ?a15 ?l15 ?c15 ?k15 ?a16 ?l16 ?c16 ?k16 ?a17 ?l17 ?c17 ?k17 ?a18 ?l18 ?c18 ?k18 ?a19 ?l19 ?c19 ?k19 ?a20 ?l20 ?c20 ?k20 ?a21 ?l21 ?c21 ?k21 ?a22 ?l22 ?c22 ?k22 ?a23 ?l23 ?c23 ?k23 ?a24 ?l24 ?c24 ?k24 ?a25 ?l25 ?c25 ?k25 ?a26 ?l26 ?c26 ?k26 ?a27 ?l27 ?c27 ?k27 ?a28 ?l28 ?c28 ?k28 ?a29 ?l29 ?c29 ?k29 ?a30 ?l30 ?c30 ?k30 ?a31 ?l31 ?c31 ?k31 ?a32 ?l32 ?c32 ?k32 ?a33 ?l33 ?c33 ?k33 ?a34 ?l34 ?c34 ?k34 ?a35 ?l35 ?c35 ?k35 ?a36 ?l36 ?c36 ?k36 ?a37 ?l37 ?c37 ?k37 ?a38 ?l38 ?c38 ?k38 ?a39 ?l39 ?c39 ?k39 ?a40 ?l40 ?c40 ?k40 ?a41 ?l41 ?c41 ?k41 ?a42 ?l42 ?c42 ?k42 ?a43 ?l43 ?c43 ?k43 ?a44 ?l44 ?c44 ?k44 ?a45 ?l45 ?c45 ?k45 ?a46 ?l46 ?c46 ?k46 ?vc_Ring ?vn_Ring ?a47 ?l47 ?dt47 ?c47 ?k47 ?vm47 ?vb47 ?a48 ?l48 ?c48 ?k48 ?vm48 ?a49 ?l49 ?c49 ?k49 ?vm49 ?a50 ?l50 ?c50 ?k50 ?vm50 ?gl ?wh ?xg_TooMany ?xi_TooMany ?xl_TooMany ?xc_TooMany ?xk_TooMany ?xf_TooMany ?xg_Uneven ?xi_Uneven ?xl_Uneven ?xc_Uneven ?xk_Uneven ?xf_Uneven ?rs_NoRing ?rs_NoStep ?rs_NoTable ?rs_NoWay ?rs_NoWord ?g_HOLD ?l_HOLD ?y_HOLD ?e0_HOLD ?e1_HOLD ?e2_HOLD ?fa_below_holds ?e3_HOLD ?fa_above_holds ?s_HOLD ?sk_HOLD ?g_HOLD_OF_THREE ?l_HOLD_OF_THREE ?y_HOLD_OF_THREE ?e0_HOLD_OF_THREE ?fa_triple_holds ?e1_HOLD_OF_THREE ?fa_form_below_holds ?e2_HOLD_OF_THREE ?fa_form_above_holds ?s_HOLD_OF_THREE ?sk_HOLD_OF_THREE ?g_HOLD_SAME ?l_HOLD_SAME ?y_HOLD_SAME ?e0_HOLD_SAME ?fa_same_holds ?s_HOLD_SAME ?sk_HOLD_SAME ?g_LETTERS ?g_LETTER_TABLES ?l_LETTER_TABLES ?y_LETTER_TABLES ?e0_LETTER_TABLES ?lp_LETTER_TABLES_0 ?lp_LETTER_TABLES_0_0 ?lp_LETTER_TABLES_0_1 ?e1_LETTER_TABLES ?lp_LETTER_TABLES_1 ?lp_LETTER_TABLES_1_0 ?lp_LETTER_TABLES_1_1 ?g_MOST_LETTERS ?g_MOST_NUMBER ?g_MOST_RING ?g_UNIT ?lp_UNIT ?lp_UNIT_0 ?lp_UNIT_1 ?g_WAY_LETTERS ?z_abs ?z_all ?z_bool ?z_int ?z_isinstance ?z_len ?z_max ?z_min ?z_range ?z_set ?z_sorted ?z_str ?z_tuple
    (case vg_Ring => as_aux_lemma => k_is)
    (case a0 => as_aux_lemma => k_is)
    (case l0 => as_aux_lemma => k_is)
    (case c0 => as_aux_lemma => k_is)
    (case k0 => as_aux_lemma => k_is)
    (case a1 => as_aux_lemma => k_is)
    (case l1 => as_aux_lemma => k_is)
    (case c1 => as_aux_lemma => k_is)
    (case k1 => as_aux_lemma => k_is)
    (case a2 => as_aux_lemma => k_is)
    (case l2 => as_aux_lemma => k_is)
    (case c2 => as_aux_lemma => k_is)
    (case k2 => as_aux_lemma => k_is)
    (case a3 => as_aux_lemma => k_is)
    (case l3 => as_aux_lemma => k_is)
    (case c3 => as_aux_lemma => k_is)
    (case k3 => as_aux_lemma => k_is)
    (case a4 => as_aux_lemma => k_is)
    (case l4 => as_aux_lemma => k_is)
    (case c4 => as_aux_lemma => k_is)
    (case k4 => as_aux_lemma => k_is)
    (case a5 => as_aux_lemma => k_is)
    (case l5 => as_aux_lemma => k_is)
    (case c5 => as_aux_lemma => k_is)
    (case k5 => as_aux_lemma => k_is)
    (case a6 => as_aux_lemma => k_is)
    (case l6 => as_aux_lemma => k_is)
    (case c6 => as_aux_lemma => k_is)
    (case k6 => as_aux_lemma => k_is)
    (case a7 => as_aux_lemma => k_is)
    (case l7 => as_aux_lemma => k_is)
    (case c7 => as_aux_lemma => k_is)
    (case k7 => as_aux_lemma => k_is)
    (case a8 => as_aux_lemma => k_is)
    (case l8 => as_aux_lemma => k_is)
    (case c8 => as_aux_lemma => k_is)
    (case k8 => as_aux_lemma => k_is)
    (case a9 => as_aux_lemma => k_is)
    (case l9 => as_aux_lemma => k_is)
    (case c9 => as_aux_lemma => k_is)
    (case k9 => as_aux_lemma => k_is)
    (case a10 => as_aux_lemma => k_is)
    (case l10 => as_aux_lemma => k_is)
    (case c10 => as_aux_lemma => k_is)
    (case k10 => as_aux_lemma => k_is)
    (case a11 => as_aux_lemma => k_is)
    (case l11 => as_aux_lemma => k_is)
    (case c11 => as_aux_lemma => k_is)
    (case k11 => as_aux_lemma => k_is)
    (case a12 => as_aux_lemma => k_is)
    (case l12 => as_aux_lemma => k_is)
    (case c12 => as_aux_lemma => k_is)
    (case k12 => as_aux_lemma => k_is)
    (case a13 => as_aux_lemma => k_is)
    (case l13 => as_aux_lemma => k_is)
    (case c13 => as_aux_lemma => k_is)
    (case k13 => as_aux_lemma => k_is)
    (case a14 => as_aux_lemma => k_is)
    (case l14 => as_aux_lemma => k_is)
    (case c14 => as_aux_lemma => k_is)
    (case k14 => as_aux_lemma => k_is)
    (case a15 => as_aux_lemma => k_is)
    (case l15 => as_aux_lemma => k_is)
    (case c15 => as_aux_lemma => k_is)
    (case k15 => as_aux_lemma => k_is)
    (case a16 => as_aux_lemma => k_is)
    (case l16 => as_aux_lemma => k_is)
    (case c16 => as_aux_lemma => k_is)
    (case k16 => as_aux_lemma => k_is)
    (case a17 => as_aux_lemma => k_is)
    (case l17 => as_aux_lemma => k_is)
    (case c17 => as_aux_lemma => k_is)
    (case k17 => as_aux_lemma => k_is)
    (case a18 => as_aux_lemma => k_is)
    (case l18 => as_aux_lemma => k_is)
    (case c18 => as_aux_lemma => k_is)
    (case k18 => as_aux_lemma => k_is)
    (case a19 => as_aux_lemma => k_is)
    (case l19 => as_aux_lemma => k_is)
    (case c19 => as_aux_lemma => k_is)
    (case k19 => as_aux_lemma => k_is)
    (case a20 => as_aux_lemma => k_is)
    (case l20 => as_aux_lemma => k_is)
    (case c20 => as_aux_lemma => k_is)
    (case k20 => as_aux_lemma => k_is)
    (case a21 => as_aux_lemma => k_is)
    (case l21 => as_aux_lemma => k_is)
    (case c21 => as_aux_lemma => k_is)
    (case k21 => as_aux_lemma => k_is)
    (case a22 => as_aux_lemma => k_is)
    (case l22 => as_aux_lemma => k_is)
    (case c22 => as_aux_lemma => k_is)
    (case k22 => as_aux_lemma => k_is)
    (case a23 => as_aux_lemma => k_is)
    (case l23 => as_aux_lemma => k_is)
    (case c23 => as_aux_lemma => k_is)
    (case k23 => as_aux_lemma => k_is)
    (case a24 => as_aux_lemma => k_is)
    (case l24 => as_aux_lemma => k_is)
    (case c24 => as_aux_lemma => k_is)
    (case k24 => as_aux_lemma => k_is)
    (case a25 => as_aux_lemma => k_is)
    (case l25 => as_aux_lemma => k_is)
    (case c25 => as_aux_lemma => k_is)
    (case k25 => as_aux_lemma => k_is)
    (case a26 => as_aux_lemma => k_is)
    (case l26 => as_aux_lemma => k_is)
    (case c26 => as_aux_lemma => k_is)
    (case k26 => as_aux_lemma => k_is)
    (case a27 => as_aux_lemma => k_is)
    (case l27 => as_aux_lemma => k_is)
    (case c27 => as_aux_lemma => k_is)
    (case k27 => as_aux_lemma => k_is)
    (case a28 => as_aux_lemma => k_is)
    (case l28 => as_aux_lemma => k_is)
    (case c28 => as_aux_lemma => k_is)
    (case k28 => as_aux_lemma => k_is)
    (case a29 => as_aux_lemma => k_is)
    (case l29 => as_aux_lemma => k_is)
    (case c29 => as_aux_lemma => k_is)
    (case k29 => as_aux_lemma => k_is)
    (case a30 => as_aux_lemma => k_is)
    (case l30 => as_aux_lemma => k_is)
    (case c30 => as_aux_lemma => k_is)
    (case k30 => as_aux_lemma => k_is)
    (case a31 => as_aux_lemma => k_is)
    (case l31 => as_aux_lemma => k_is)
    (case c31 => as_aux_lemma => k_is)
    (case k31 => as_aux_lemma => k_is)
    (case a32 => as_aux_lemma => k_is)
    (case l32 => as_aux_lemma => k_is)
    (case c32 => as_aux_lemma => k_is)
    (case k32 => as_aux_lemma => k_is)
    (case a33 => as_aux_lemma => k_is)
    (case l33 => as_aux_lemma => k_is)
    (case c33 => as_aux_lemma => k_is)
    (case k33 => as_aux_lemma => k_is)
    (case a34 => as_aux_lemma => k_is)
    (case l34 => as_aux_lemma => k_is)
    (case c34 => as_aux_lemma => k_is)
    (case k34 => as_aux_lemma => k_is)
    (case a35 => as_aux_lemma => k_is)
    (case l35 => as_aux_lemma => k_is)
    (case c35 => as_aux_lemma => k_is)
    (case k35 => as_aux_lemma => k_is)
    (case a36 => as_aux_lemma => k_is)
    (case l36 => as_aux_lemma => k_is)
    (case c36 => as_aux_lemma => k_is)
    (case k36 => as_aux_lemma => k_is)
    (case a37 => as_aux_lemma => k_is)
    (case l37 => as_aux_lemma => k_is)
    (case c37 => as_aux_lemma => k_is)
    (case k37 => as_aux_lemma => k_is)
    (case a38 => as_aux_lemma => k_is)
    (case l38 => as_aux_lemma => k_is)
    (case c38 => as_aux_lemma => k_is)
    (case k38 => as_aux_lemma => k_is)
    (case a39 => as_aux_lemma => k_is)
    (case l39 => as_aux_lemma => k_is)
    (case c39 => as_aux_lemma => k_is)
    (case k39 => as_aux_lemma => k_is)
    (case a40 => as_aux_lemma => k_is)
    (case l40 => as_aux_lemma => k_is)
    (case c40 => as_aux_lemma => k_is)
    (case k40 => as_aux_lemma => k_is)
    (case a41 => as_aux_lemma => k_is)
    (case l41 => as_aux_lemma => k_is)
    (case c41 => as_aux_lemma => k_is)
    (case k41 => as_aux_lemma => k_is)
    (case a42 => as_aux_lemma => k_is)
    (case l42 => as_aux_lemma => k_is)
    (case c42 => as_aux_lemma => k_is)
    (case k42 => as_aux_lemma => k_is)
    (case a43 => as_aux_lemma => k_is)
    (case l43 => as_aux_lemma => k_is)
    (case c43 => as_aux_lemma => k_is)
    (case k43 => as_aux_lemma => k_is)
    (case a44 => as_aux_lemma => k_is)
    (case l44 => as_aux_lemma => k_is)
    (case c44 => as_aux_lemma => k_is)
    (case k44 => as_aux_lemma => k_is)
    (case a45 => as_aux_lemma => k_is)
    (case l45 => as_aux_lemma => k_is)
    (case c45 => as_aux_lemma => k_is)
    (case k45 => as_aux_lemma => k_is)
    (case a46 => as_aux_lemma => k_is)
    (case l46 => as_aux_lemma => k_is)
    (case c46 => as_aux_lemma => k_is)
    (case k46 => as_aux_lemma => k_is)
    (case vc_Ring => as_aux_lemma => kernel_rfl)
    (case vn_Ring => as_aux_lemma => kernel_rfl)
    (case a47 => as_aux_lemma => k_is)
    (case l47 => as_aux_lemma => k_is)
    (case dt47 => as_aux_lemma => k_is)
    (case c47 => as_aux_lemma => k_is)
    (case k47 => as_aux_lemma => k_is)
    (case vm47 => as_aux_lemma => kernel_rfl)
    (case vb47 => as_aux_lemma => kernel_rfl)
    (case a48 => as_aux_lemma => k_is)
    (case l48 => as_aux_lemma => k_is)
    (case c48 => as_aux_lemma => k_is)
    (case k48 => as_aux_lemma => k_is)
    (case vm48 => as_aux_lemma => kernel_rfl)
    (case a49 => as_aux_lemma => k_is)
    (case l49 => as_aux_lemma => k_is)
    (case c49 => as_aux_lemma => k_is)
    (case k49 => as_aux_lemma => k_is)
    (case vm49 => as_aux_lemma => kernel_rfl)
    (case a50 => as_aux_lemma => k_is)
    (case l50 => as_aux_lemma => k_is)
    (case c50 => as_aux_lemma => k_is)
    (case k50 => as_aux_lemma => k_is)
    (case vm50 => as_aux_lemma => kernel_rfl)
    (case gl => as_aux_lemma => kernel_rfl)
    (case wh => as_aux_lemma => kernel_rfl)
    (case xg_TooMany => as_aux_lemma => k_is)
    (case xi_TooMany => as_aux_lemma => k_is)
    (case xl_TooMany => as_aux_lemma => k_is)
    (case xc_TooMany => as_aux_lemma => k_is)
    (case xk_TooMany => as_aux_lemma => k_is)
    (case xf_TooMany => as_aux_lemma => kernel_rfl)
    (case xg_Uneven => as_aux_lemma => k_is)
    (case xi_Uneven => as_aux_lemma => k_is)
    (case xl_Uneven => as_aux_lemma => k_is)
    (case xc_Uneven => as_aux_lemma => k_is)
    (case xk_Uneven => as_aux_lemma => k_is)
    (case xf_Uneven => as_aux_lemma => kernel_rfl)
    (case rs_NoRing => as_aux_lemma => kernel_rfl)
    (case rs_NoStep => as_aux_lemma => kernel_rfl)
    (case rs_NoTable => as_aux_lemma => kernel_rfl)
    (case rs_NoWay => as_aux_lemma => kernel_rfl)
    (case rs_NoWord => as_aux_lemma => kernel_rfl)
    (case g_HOLD => as_aux_lemma => k_is)
    (case l_HOLD => as_aux_lemma => k_is)
    (case y_HOLD => exact ⟨⟨_, _, rfl, rfl⟩, ⟨_, _, rfl, rfl⟩, ⟨_, _, rfl, rfl⟩, ⟨_, _, rfl, rfl⟩, trivial⟩)
    (case e0_HOLD => as_aux_lemma => k_is)
    (case e1_HOLD => as_aux_lemma => k_is)
    (case e2_HOLD => as_aux_lemma => k_is)
    (case fa_below_holds => as_aux_lemma => k_is)
    (case e3_HOLD => as_aux_lemma => k_is)
    (case fa_above_holds => as_aux_lemma => k_is)
    (case s_HOLD => first | rfl | kernel_rfl | decide +kernel)
    (case sk_HOLD => first | rfl | kernel_rfl)
    (case g_HOLD_OF_THREE => as_aux_lemma => k_is)
    (case l_HOLD_OF_THREE => as_aux_lemma => k_is)
    (case y_HOLD_OF_THREE => exact ⟨⟨_, _, rfl, rfl⟩, ⟨_, _, rfl, rfl⟩, ⟨_, _, rfl, rfl⟩, trivial⟩)
    (case e0_HOLD_OF_THREE => as_aux_lemma => k_is)
    (case fa_triple_holds => as_aux_lemma => k_is)
    (case e1_HOLD_OF_THREE => as_aux_lemma => k_is)
    (case fa_form_below_holds => as_aux_lemma => k_is)
    (case e2_HOLD_OF_THREE => as_aux_lemma => k_is)
    (case fa_form_above_holds => as_aux_lemma => k_is)
    (case s_HOLD_OF_THREE => first | rfl | kernel_rfl | decide +kernel)
    (case sk_HOLD_OF_THREE => first | rfl | kernel_rfl)
    (case g_HOLD_SAME => as_aux_lemma => k_is)
    (case l_HOLD_SAME => as_aux_lemma => k_is)
    (case y_HOLD_SAME => exact ⟨⟨_, _, rfl, rfl⟩, trivial⟩)
    (case e0_HOLD_SAME => as_aux_lemma => k_is)
    (case fa_same_holds => as_aux_lemma => k_is)
    (case s_HOLD_SAME => first | rfl | kernel_rfl | decide +kernel)
    (case sk_HOLD_SAME => first | rfl | kernel_rfl)
    (case g_LETTERS => as_aux_lemma => k_is)
    (case g_LETTER_TABLES => as_aux_lemma => k_is)
    (case l_LETTER_TABLES => as_aux_lemma => k_is)
    (case y_LETTER_TABLES => exact ⟨⟨_, _, rfl, rfl⟩, ⟨_, _, rfl, rfl⟩, trivial⟩)
    (case e0_LETTER_TABLES => as_aux_lemma => k_is)
    (case lp_LETTER_TABLES_0 => as_aux_lemma => k_is)
    (case lp_LETTER_TABLES_0_0 => as_aux_lemma => k_is)
    (case lp_LETTER_TABLES_0_1 => as_aux_lemma => k_is)
    (case e1_LETTER_TABLES => as_aux_lemma => k_is)
    (case lp_LETTER_TABLES_1 => as_aux_lemma => k_is)
    (case lp_LETTER_TABLES_1_0 => as_aux_lemma => k_is)
    (case lp_LETTER_TABLES_1_1 => as_aux_lemma => k_is)
    (case g_MOST_LETTERS => as_aux_lemma => k_is)
    (case g_MOST_NUMBER => as_aux_lemma => k_is)
    (case g_MOST_RING => as_aux_lemma => k_is)
    (case g_UNIT => as_aux_lemma => k_is)
    (case lp_UNIT => as_aux_lemma => k_is)
    (case lp_UNIT_0 => as_aux_lemma => k_is)
    (case lp_UNIT_1 => as_aux_lemma => k_is)
    (case g_WAY_LETTERS => as_aux_lemma => k_is)
    (case z_abs => as_aux_lemma => k_is)
    (case z_all => as_aux_lemma => k_is)
    (case z_bool => as_aux_lemma => k_is)
    (case z_int => as_aux_lemma => k_is)
    (case z_isinstance => as_aux_lemma => k_is)
    (case z_len => as_aux_lemma => k_is)
    (case z_max => as_aux_lemma => k_is)
    (case z_min => as_aux_lemma => k_is)
    (case z_range => as_aux_lemma => k_is)
    (case z_set => as_aux_lemma => k_is)
    (case z_sorted => as_aux_lemma => k_is)
    (case z_str => as_aux_lemma => k_is)
    (case z_tuple => as_aux_lemma => k_is)
#print axioms PySem.Challenge.cw_nearthrees_k77_whole_all_words_of_so_man_holds
