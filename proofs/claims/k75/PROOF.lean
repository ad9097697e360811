import PyProof.Rows.All
import Wide.All
import OpenK.AllK
import Wide.FinOn
import HandS.CallSlots
import HandS.EndTab
import HandS.EndBits
import HandS.Words
import HandS.WordsExc
import HandS.HotCalls
import HandS.ExcCtx
import HandS.Lambda
import HandS.Comp
import KE.KExcIs
import KE.KTryMore
import HandS.IsInst
import HandS.ExcIs
import HandS.Codes
import HandS.Defaults
import HandS.TupMul
import HandS.SortKw
import HandS.FltList
import HandS.Iter
import KE.DataMinKey
import PyProof.WalkInts
import HandS.TupAny
import PyProof.SumAnyB
import PyProof.InstSpecial
import HandS.Rev
import HandS.MapObj
import HandS.MapJoin
import KE.DataMinMax
import HandS.List
import KE.SortData
import HandS.ForMost
import HandS.Exc
import HandS.ExcOwn
import HandS.Wide
import HandS.Style
import HandS.Conv
import HandS.More
import KE.KNestM
import HandS.WideBits
import HandS.Zip
import PyProof.StrLawsIn
import HandS.Dict
import PyProof.StrLawsRepr
import PyProof.FitsInt
import PyProof.Rows.RegStrFacts
import PyProof.ReprRoads
import HandS.ExcInit
import HandS.ExcField
import HandS.Strs
import HandS.Deep
import PyProof.P3In
import PyProof.TupleKey
import PyProof.DictRoadsH
import PyProof.DictKinds
import HandS.FStr
import KE.LtData
import KE.KSuperObj
import HandS.IntHex
import HandS.ReplaceLit
import PyProof.StrLawsReplace
import KE.GoesEnumKw
import PyProof.Rows.CountFlat
import PyProof.InstNe
import HandS.SlotsOwn
import KE.KCallOwn
import HandS.RaiseMore
import PyProof.EqKinds
import PyProof.FactsAll.bool_1
import PyProof.FactsAll.NoneType_1
import HandS.OwnEq
import PyProof.Rows.ReprOcc
import PySem.Challenge.RW_nearthrees_k75_whole_numbers_and_stairs
set_option Elab.async false
set_option linter.all false
set_option maxRecDepth 100000
set_option maxHeartbeats 4000000
/-! Promises of defs that are called where nothing is being shown (repr): calls, bodies, the law's end. -/
namespace Hx
open PySem PySem.Spec PyProof.Rows L2
/-- room for k calls, and no repr is under way -/
structure RoomG (k : Nat) (A : Around) : Prop where
  rm : Room k A
  gd : A.guards = some []
section
variable {j k : Nat} {A : Around}
theorem RoomG.mono (r : RoomG k A) (h : j ≤ k) : RoomG j A := ⟨r.rm.mono h, r.gd⟩
theorem RoomG.deeper (r : RoomG (k + 1) A) (env : Env) : RoomG k (A.deeper env) := ⟨r.rm.deeper env, r.gd⟩
theorem RoomG.in1 (r : RoomG (k + 1) A) : RoomG k A.in1 := ⟨r.rm.in1, r.gd⟩
theorem RoomG.depth (r : RoomG k A) : A.depth < recursionLimit := r.rm.depth
theorem RoomG.units (r : RoomG k A) : A.units + 64 < cLine := r.rm.units
theorem RoomG.hd (r : RoomG k A) : A.handled = none := r.rm.hd
end
structure FnG (P : Program) (w : World) (K : PySem.W.Frag) (mg : Str → Option Value) (base : Heap) (CX : CXT) (k : Nat) (f : Addr) (fd : FuncData) (ps : List Str) (sp : Sp) : Prop where
  len : ∀ vs H Q E, sp vs H Q E → vs.length = ps.length
  run : ∀ (A : Around) (outer : List Env) (s : Shared) (H : Hp) (args : Args) (us : List Value) (vs : List V) (Q : VK) (E : XK), RoomG k A → Env0 P w K mg base A outer s H → BindsTo s fd args (ps.zip us) → Vals vs us → sp vs H Q E →
    codeAny (model P w) A (.call (.ref f) args) (CR CX outer P w H s Q E) s
section
variable {X : Cx} {CX : CXT} {k : Nat} {f : Addr} {fd : FuncData} {ps : List Str} {sp : Sp} {dvs : List V} {ds : List Value} {E : L2.St → XK} {x : Str} {p pos : Pos} {e : Expr} {es : List Expr} {t : TA}
theorem fnG_run {pins : List (Addr × Obj)} {σ : L2.St} {H : Hp} {s : Shared} {Q : VK} {us : List Value} {vs : List V} (F : FnG X.prog X.w X.K X.mg X.base CX k f fd ps sp) (hr : RoomG k X.A) (hb : Binds X.K fd ps ds) (hd : Vals dvs ds) (hx : PassesAt CX X σ (E σ))
    (I : Inv X pins σ H s) (r : Vals vs us) (h : sp (vs ++ dvs) H Q (E σ)) : wpAny (model X.prog X.w) X.A (call (.ref f) us) (EP X pins σ Q) X.xe s := by
  have all : Vals (vs ++ dvs) (us ++ ds) := r.append hd
  have bind := hb s us I.kIn (by rw [← all.length]; exact F.len _ _ _ _ h)
  refine wpAny_call (codeAny_mono (F.run X.A X.stack s H _ _ _ Q (E σ) hr I.env0 bind all h) fun out s' got => ?_)
  match out, got with
  | .error e, got => exact hx pins H s e s' I got
  | .ok (.ret u), got => exact I.after got
/-- f(e, ..) -/
theorem pe_callG (F : FnG X.prog X.w X.K X.mg X.base CX k f fd ps sp) (hr : RoomG k X.A) (hg : Gl X x) (hm : X.mg x = some (.ref f)) (hk : PySem.W.keepIn X.K (.ref f) = true) (hb : Binds X.K fd ps ds) (hd : Vals dvs ds) (hx : ∀ σ, PassesAt CX X σ (E σ))
    (ha : PA X (e :: es) t) (hdb : (x == ("__debug__" : Str)) = false := by decide) (he : starEach (e :: es) X.env = (false, eval e X.env) :: starEach es X.env := by rfl) (hpl : (backTo pos (starEach es X.env)).any (·.1) = false := by rfl) :
    PE X (.Call (.Name x p) (e :: es) [] pos) (tCallSD sp dvs E t) :=
  ⟨fun pins s σ H Q I h => wpAny_Call_Name_kw (ld_glob I hg hm (PySem.W.callWith_K (h₀ := X.base) I.ok.mod.kin hk (thn (ha.run pos pins s σ H _ I h) fun us s1 ⟨vs, H1, I1, r, q⟩ => ⟨I1.kIn, fnG_run F hr hb hd (hx σ) I1 r q⟩) he hpl) hdb)⟩
end
/-- a def by its body -/
theorem fnG_of {CX : CXT} {P : Program} {w : World} {K : PySem.W.Frag} {mg : Str → Option Value} {base : Heap} {k : Nat} {f : Addr} {x qual : Str} {st : Stmt} {fd : FuncData} {N ps : List Str} {sp : Sp} (F : L2.Fun K x qual st f fd) (S : FnScope N ps (defScope st)) (len : ∀ vs H Q E, sp vs H Q E → vs.length = ps.length)
    (body : ∀ (cdv : Value), cdv = fd.code → ∀ (A : Around) (outer : List Env) (s : Shared) (H : Hp) (vs : List V) (Q : VK) (E : XK), RoomG k (A.deeper (envOfC qual (defScope st) s.heap.objs.size f cdv)) → sp vs H Q E →
      ∃ t, PSs (cxOf CX P w K mg base N qual (defScope st) f cdv A outer s H E) (defBody st) t ∧ t { nx := fun _ H' => Q .non H', rt := Q } (L2.start N vs) H) : FnG P w K mg base CX (k + 1) f fd ps sp := by
  refine ⟨len, fun A outer s H args us vs Q E room e0 bind r q => ?_⟩
  obtain ⟨oc, od, kV, doc, pm, an, cdv, ct, osl, rfl, lk, code⟩ := F.ex
  have KX : K.In s.heap := e0.mod.kin.keeps fun b o e => (e0.bs b o e).1
  have lim : s.heap.NoLimit := e0.mod.nolimit.keeps fun b o e => (e0.bs b o e).1
  have known : ∀ y ∈ ps.zip us, (defScope st).names.lookup y.1 = some .local ∨ ((defScope st).names.lookup y.1 = some .cell ∧ ((cellsFrom (s.heap.objs.size + 1) (defScope st).names []).lookup y.1).isSome = true) := fun y hy =>
    (S.par y.1 (List.of_mem_zip (a := y.1) (b := y.2) hy).1).imp id fun z => ⟨z, PySem.W.cellsFrom_some _ _ _ (.inl z)⟩
  refine codeAny_call_function room.depth (KX _ _ lk) rfl S.co S.gen rfl (PySem.W.codeRec_of KX code) (bind _ _ _ _ (wpAny_newFunctionEnv_cells S.kind known fun env he s1 y => ?_))
  subst he
  obtain ⟨t, ht, hq⟩ := body cdv rfl A outer s H vs Q E (room.deeper _) q
  have I : Inv (cxOf CX P w K mg base N qual (defScope st) f cdv A outer s H E) [] (L2.start N vs) H s1 := inv_start S room.hd e0 (len _ _ _ _ q) r y
  refine ⟨lim.keeps y.toInCall.keep, codeAny_func (wpAny_mono (ht.run [] s1 _ H _ I hq) (fun fl s' z => ?_) fun e s' z => z)⟩
  match fl, z with
  | .ret u, ⟨v, σ', H', J, rv, z⟩ => exact ⟨v, H', J.os, J.bare, J.base, J.hok, rv, z⟩
  | .next, ⟨σ', H', J, z⟩ => exact ⟨.non, H', J.os, J.bare, J.base, J.hok, rfl, z⟩
  | .brk, ⟨_, _, _, z⟩ => exact z.elim
  | .cont, ⟨_, _, _, z⟩ => exact z.elim
/-! ### the law -/
section
variable {P : Program} {w : World} {K : PySem.W.Frag} {mg mb : Str → Option Value} {CX : CXT} {k : Nat} {fa a : Addr} {cs : List (Addr × Addr)} {fd : FuncData} {x : Str} {sp : Sp} {s : Shared} {vs : List Value} {ns : List Int}
abbrev tblO : Obj := { cls := .none, data := .fields #[] }
abbrev scrO (vs : List Value) : Obj := { cls := .type "list", data := .seq vs.toArray }
/-- the heap at the law's start: its tables, and the script where the written part has it not -/
def lawH (K : PySem.W.Frag) (cs : List (Addr × Addr)) (a : Addr) (vs : List Value) (ns : List Int) : Hp := fun b => if b ∈ cs.map (·.2) then some (.tbl #[]) else if b = a ∧ K.lookup a = none then some (.frz (scrO vs) (.lst (ns.map V.int))) else none
theorem lawH_tab {b : Addr} (h : b ∈ cs.map (·.2)) : lawH K cs a vs ns b = some (.tbl #[]) := if_pos h
theorem lawH_cases (b : Addr) : (b ∈ cs.map (·.2) ∧ lawH K cs a vs ns b = some (.tbl #[])) ∨ (b ∉ cs.map (·.2) ∧ (b = a ∧ K.lookup a = none) ∧ lawH K cs a vs ns b = some (.frz (scrO vs) (.lst (ns.map V.int)))) ∨ (b ∉ cs.map (·.2) ∧ ¬ (b = a ∧ K.lookup a = none) ∧ lawH K cs a vs ns b = none) := by
  unfold lawH
  by_cases h : b ∈ cs.map (·.2)
  · exact .inl ⟨h, if_pos h⟩
  · by_cases g : b = a ∧ K.lookup a = none
    · exact .inr (.inl ⟨h, g, (if_neg h).trans (if_pos g)⟩)
    · exact .inr (.inr ⟨h, g, (if_neg h).trans (if_neg g)⟩)
theorem lawG_call (KX : K.In s.heap) (hm : s.heap.Ns mainGlobals mg) (hb : s.heap.Ns builtinsNs mb) (hbo : ∀ x : Str, x ≠ "__name__" → mb x = bootBuiltins x) (hn : s.heap.NoLimit) (hgen : s.gens = #[])
    (hT : ∀ p ∈ cs, s.heap.get? p.2 = some tblO) (nT : ∀ p ∈ cs, K.lookup p.2 = none) (hC : ∀ p ∈ cs, PySem.W.CodeHd s.heap p.1 p.2)
    (hbm : ∃ (bm : Addr) (ob : Obj), mg "__builtins__" = some (.ref bm) ∧ bm ≠ builtinsNs ∧ s.heap.get? bm = some ob ∧ ob.cls = .type "module" ∧ ob.dict = some builtinsNs ∧ ob.data = .plain)
    (ha : s.heap.get? a = some (scrO vs)) (hi : IntsAre vs ns) (hl : ns.length ≤ sizeLine) (hr : RoomG k callerA)
    (F : ∀ base : Heap, K.In base → base.Ns mainGlobals mg → (∀ p ∈ cs, LamX.TabB base mg p.1 p.2) → FnG P w K mg base CX k fa fd [x] sp) (bind : ∀ (s : Shared) (u : Value), BindsTo s fd ⟨[u], []⟩ [(x, u)])
    (hsp : ∀ H : Hp, (∀ p ∈ cs, H p.2 = some (.tbl #[])) → SqL K H a (ns.map V.int) → sp [.ref a] H (fun v _ => v = .bl true) fun _ _ _ => False)
    (hCX : ∀ H e s', CX [] H s (fun _ _ _ => False) e s' → False) :
    codeAny (model P w) callerA (.call (.ref fa) ⟨[.ref a], []⟩) (fun r s' => r = .ok (.ret (.bool true)) ∧ OldK s.heap s'.heap ∧ s'.os = s.os ∧ AllBare s'.gens) s := by
  have tabAt : ∀ b, b ∈ cs.map (·.2) → s.heap.get? b = some tblO := fun b h => by
    obtain ⟨p, hp, e⟩ := List.mem_map.mp h
    exact e ▸ hT p hp
  have tabK : ∀ b, b ∈ cs.map (·.2) → K.lookup b = none := fun b h => by
    obtain ⟨p, hp, e⟩ := List.mem_map.mp h
    exact e ▸ nT p hp
  have inT : ∀ p ∈ cs, p.2 ∈ cs.map (·.2) := fun p hp => List.mem_map.mpr ⟨p, hp, rfl⟩
  have aT : a ∉ cs.map (·.2) := fun h => by
    have z := ha.symm.trans (tabAt a h)
    cases z
  -- what is neither a list nor an empty record isn't tracked
  have out : ∀ {b : Addr} {o : Obj}, s.heap.get? b = some o → (∀ us n, o.data ≠ .seq us n) → o.data ≠ .fields #[] → lawH K cs a vs ns b = none := fun {b o} e h1 h2 => by
    rcases lawH_cases (K := K) (cs := cs) (a := a) (vs := vs) (ns := ns) b with ⟨z, _⟩ | ⟨_, z, _⟩ | ⟨_, _, z⟩
    · rw [tabAt b z] at e
      cases e
      exact absurd rfl h2
    · rw [z.1, ha] at e
      cases e
      exact absurd rfl (h1 _ _)
    · exact z
  have seen : ∀ {b : Addr} {o : Obj}, s.heap.get? b = some o → (∀ us n, o.data ≠ .seq us n) → o.data ≠ .fields #[] → (hidT s.heap (lawH K cs a vs ns)).get? b = some o := fun e h1 h2 => hidT_get e (out e h1 h2)
  have space : ∀ {b : Addr} {m : Str → Option Value}, s.heap.Ns b m → (hidT s.heap (lawH K cs a vs ns)).Ns b m := fun ⟨o, es, ep, e, d, r⟩ => ⟨o, es, ep, seen e (fun us n z => by rw [d] at z; cases z) (fun z => by rw [d] at z; cases z), d, r⟩
  have KB : K.In (hidT s.heap (lawH K cs a vs ns)) := fun b o e => hidT_get (KX b o e) (by
    rcases lawH_cases (K := K) (cs := cs) (a := a) (vs := vs) (ns := ns) b with ⟨z, _⟩ | ⟨_, z, _⟩ | ⟨_, _, z⟩
    · rw [tabK b z] at e
      cases e
    · rw [z.1, z.2] at e
      cases e
    · exact z)
  have hmod : L2.Mod K mg (hidT s.heap (lawH K cs a vs ns)) := ⟨KB, space hm, ⟨mb, space hb, hbo⟩, hn.imp fun _ h => ⟨space h.1, h.2⟩⟩
  have TB : ∀ p ∈ cs, LamX.TabB (hidT s.heap (lawH K cs a vs ns)) mg p.1 p.2 := fun p hp => by
    have tp := hT p hp
    refine ⟨?_, ?_, fun z => ?_⟩
    · obtain ⟨o, us, c1, c2, c3, c4, c5, c6, c7, e1, r1, r2, r3, rest⟩ := hC p hp
      refine ⟨o, us, c1, c2, c3, c4, c5, c6, c7, seen e1 (fun vs n z => by rw [r2] at z; cases z) (fun z => ?_), r1, r2, r3, rest⟩
      rw [r2] at z
      cases z
      simp at r3
    · obtain ⟨bm, ob, b1, b2, b3, b4, b5, b6⟩ := hbm
      have n1 : bm ≠ mainGlobals := fun q => by
        obtain ⟨o, es, ep, e, d, _⟩ := hm
        rw [← q, b3] at e
        cases e
        rw [b6] at d
        cases d
      have n2 : bm ≠ p.2 := fun q => by
        rw [q, tp] at b3
        cases b3
        cases b6
      exact ⟨bm, ob, b1, b2, n1, n2, seen b3 (fun vs n z => by rw [b6] at z; cases z) (fun z => by rw [b6] at z; cases z), b4, b5, b6⟩
    · obtain ⟨o, es, ep, e, d, _⟩ := hm
      rw [z, tp] at e
      cases e
      cases d
  have hok : HOk P w (lawH K cs a vs ns) s.heap := fun b u e => by
    rcases lawH_cases (K := K) (cs := cs) (a := a) (vs := vs) (ns := ns) b with ⟨z, q⟩ | ⟨_, z, q⟩ | ⟨_, _, q⟩
    · cases q.symm.trans e
      exact tabAt b z
    · cases q.symm.trans e
      rw [z.1]
      exact ⟨ha, by rw [List.length_map]; exact hl, vs, _, vals_ints hi, ha⟩
    · cases q.symm.trans e
  have e0 : Env0 P w K mg (hidT s.heap (lawH K cs a vs ns)) callerA [] s (lawH K cs a vs ns) := ⟨rfl, hmod, fun b o e => of_hidT e, Nat.le_of_eq (hidT_size _ _), trivial, fun b z => (nomatch (show b ∈ ([] : List Addr) from z)), hok, .of_eq hgen⟩
  have list : SqL K (lawH K cs a vs ns) a (ns.map V.int) := by
    cases q : K.lookup a with
    | some o =>
      cases ha.symm.trans (KX a o q)
      exact .inr ⟨_, vs.toArray, _, q, rfl, rfl, rfl, by rw [List.size_toArray, hi.length]; exact hl, by simpa using vals_ints hi⟩
    | none => exact .inl (.inr ⟨scrO vs, (if_neg aT).trans (if_pos ⟨rfl, q⟩)⟩)
  refine codeAny_mono ((F _ KB (space hm) TB).run callerA [] s (lawH K cs a vs ns) ⟨[.ref a], []⟩ [.ref a] [.ref a] _ _ hr e0 (bind s (.ref a)) (.cons rfl .nil) (hsp _ (fun p hp => lawH_tab (inT p hp)) list)) fun r s' got => ?_
  match r, got with
  | .error e, got => exact (hCX _ e s' got).elim
  | .ok (.ret u), ⟨v, H', os, bare, un, hok', rv, q⟩ =>
    have q' : v = .bl true := q
    subst q'
    obtain rfl : u = Value.bool true := rv
    have kept : ∀ b o, b ∉ cs.map (·.2) → s.heap.get? b = some o → s'.heap.get? b = some o := fun b o nb e => by
      rcases lawH_cases (K := K) (cs := cs) (a := a) (vs := vs) (ns := ns) b with ⟨z, _⟩ | ⟨_, z, q⟩ | ⟨_, _, q⟩
      · exact absurd z nb
      · have h1 := (hok b _ q).1
        rw [e] at h1
        cases h1
        exact (hok' b _ (un.frzs b _ _ q)).1
      · exact un.keep b o e q (fun z => (nomatch (show b ∈ ([] : List Addr) from z))) (fun z => (nomatch z))
    have grown : ∀ p ∈ cs, ∃ more : Array Value, s'.heap.get? p.2 = some { cls := .none, data := .fields more } := fun p hp => by
      obtain ⟨more, z⟩ := un.tbls p.2 #[] (lawH_tab (inT p hp))
      exact ⟨_, hok' p.2 _ z⟩
    refine ⟨rfl, ⟨fun b o e => ?_, fun b o e => ?_⟩, os, bare⟩
    · by_cases hb : b ∈ cs.map (·.2)
      · obtain ⟨p, hp, rfl⟩ := List.mem_map.mp hb
        obtain ⟨more, hmo⟩ := grown p hp
        cases (hT p hp).symm.trans e
        exact .inr (.inl ⟨((hC p hp).tab (hT p hp)).isCodeTable, rfl, #[], more, rfl, by rw [Array.empty_append]; exact hmo⟩)
      · exact .inl (kept b o hb e)
    · by_cases hb : b ∈ cs.map (·.2)
      · obtain ⟨p, hp, rfl⟩ := List.mem_map.mp hb
        obtain ⟨more, hmo⟩ := grown p hp
        exact ⟨_, hmo⟩
      · exact ⟨o, kept b o hb e⟩
end
/-- what is known of the law at the head's heap -/
def LawG (l : PySem.W.OpenLaw) (w : World) (K : PySem.W.Frag) (CX : CXT) (k n : Nat) (x : Str) (mg : Str → Option Value) (fa : Addr) (h : Heap) : Prop :=
  ∃ (fd : FuncData) (cs : List (Addr × Addr)) (sp : Sp), (∀ p ∈ cs, h.get? p.2 = some tblO) ∧ (∀ p ∈ cs, K.lookup p.2 = none) ∧ (∀ p ∈ cs, PySem.W.CodeHd h p.1 p.2) ∧ (∀ (s : Shared) (u : Value), BindsTo s fd ⟨[u], []⟩ [(x, u)]) ∧
    (∀ (H : Hp) (a : Addr) (ns : List Int), ns.length ≤ n → (∀ z ∈ ns, Builtin.Int.intBits z ≤ 1048576) → (∀ p ∈ cs, H p.2 = some (.tbl #[])) → SqL K H a (ns.map V.int) → sp [.ref a] H (fun v _ => v = .bl true) fun _ _ _ => False) ∧
    ∀ base : Heap, K.In base → base.Ns mainGlobals mg → (∀ p ∈ cs, LamX.TabB base mg p.1 p.2) → FnG l.prog w K mg base CX k fa fd [x] sp
theorem lawG_end {l : PySem.W.OpenLaw} {n k : Nat} {q : Program} {loose : List Str} {XP : (Str → Option Value) → Heap → Prop} {YP : World → Heap → Prop} {d : DefRec} {K : Params → PySem.W.Frag} {CX : World → CXT} {x : Str}
    (hn : l.most = some n) (hn2 : n ≤ sizeLine) (hdf : d.params.defaults = []) (hr : RoomG k callerA) (hY : ∀ (w : World) (h : Heap), YP w h → (K w.params).In h)
    (F : ∀ (w : World) (mg : Str → Option Value) (fa : Addr) (h : Heap), YP w h → (K w.params).In h → h.Ns mainGlobals mg → mg d.name = some (.ref fa) → LawG l w (K w.params) (CX w) k n x mg fa h)
    (hCX : ∀ (w : World) (H : Hp) (s : Shared) (e : Value) (s' : Shared), CX w [] H s (fun _ _ _ => False) e s' → False) :
    PySem.W.WalkO q loose XP YP l.row.toRowW d [] (fun f vs => PySem.call f vs) :=
  Att.attach_callB hn hdf fun w s₀ s₁ mg mb fa o pm cd doc a vs ns G Y ho hd hcd hmg hobj hints hlen hbits hg =>
    let KX := hY w _ Y
    let ⟨_, _, _, hT, nT, hC, hb, hsp, hF⟩ := F w mg fa _ Y KX G.T.g hmg
    lawG_call KX G.T.g G.T.b G.T.builtins G.T.nolimit hg hT nT hC G.T.bmain hobj hints (Nat.le_trans hlen hn2) hr hF hb (fun H hH hS => hsp H a ns hlen hbits hH hS) fun H e s' => hCX w H s₁ e s'
end Hx

/-! loops and stores while an exception is handled -/
namespace Hx
open PySem PySem.Spec PyProof.Rows L2 HotX
section
variable {prog : Program} {w : World} {A : Around} {E : Value → Shared → Prop} {s : Shared}
end
section
variable {X : Cx} {pos : Pos}
end
end Hx

/-! a comprehension while an exception is handled -/
namespace Hx
open PySem PySem.Spec PyProof.Rows L2 HotX
section
variable {X : Cx} {pins : List (Addr × Obj)} {σ : L2.St} {H : Hp} {s : Shared}
end
end Hx

/-! calls within an except suite; several clauses that name the exception; a lambda handed to a def -/
namespace Hx
open PySem PySem.Spec PyProof.Rows L2 HotX
/-! ### a def called within an except suite -/
section
variable {X : Cx}
end
end Hx

/-! try: several clauses, each of one class or of a tuple of classes, with a name or without -/
namespace Hx
open PySem PySem.Spec PyProof.Rows L2 HotX
/-! ### the tests -/
section
variable {M : Model} {K : PySem.W.Frag}
open PySem.W
end
section
variable {X : Cx} {a : Addr} {pn pins : List (Addr × Obj)} {σ : L2.St} {H : Hp} {s : Shared}
end
/-! ### the clauses -/
structure Cl where
  cs : List Value
  n : Option (Str × Nat)
  ts : Addr → Value → Option Addr → TS
section
variable {X : Cx} {Wout : WX} {a : Addr} {B : Heap} {pins : List (Addr × Obj)} {σ : L2.St} {H : Hp} {cls : Value} {d : Option Addr} {D : Ends} {sI s' : Shared}
/-- what stands of a caught exception -/
structure Cgt (X : Cx) (a : Addr) (B : Heap) (pins : List (Addr × Obj)) (σ : L2.St) (H : Hp) (cls : Value) (d : Option Addr) (sI s : Shared) : Prop where
  inv : Inv X pins σ H sI
  nb : ∀ b o, sI.heap.get? b = some o → b ∉ frs X.stack → B.get? b = some o
  up : sI.heap.UpToSlots s.heap
  fl : HandSPX.FlyingZ B X.stack a (L2N.Zn cls d) s.heap
  na : H a = none
  os : s.os = sI.os
  ag : AllBare s.gens
theorem Cgt.step {h' : Heap} (c : Cgt X a B pins σ H cls d sI s') (fl : HandSPX.FlyingZ B X.stack a (L2N.Zn cls d) h') (up : s'.heap.UpToSlots h') : Cgt X a B pins σ H cls d sI { s' with heap := h' } := ⟨c.inv, c.nb, c.up.trans up, fl, c.na, c.os, c.ag⟩
theorem Cgt.here (c : Cgt X a B pins σ H cls d sI s') : Inv X pins σ H s' := c.inv.landed c.nb c.fl.1 c.up c.os c.ag
theorem Cgt.obj (c : Cgt X a B pins σ H cls d sI s') (hs : X.stack = X.env :: X.outer) (hf : X.env.frame = some X.env.locals) : ∃ oe vs, s'.heap.get? a = some oe ∧ L2N.Zn cls d oe ∧ oe.data = .fields vs ∧ Inv (X.suite a ((a, oe) :: (X.pn ++ pins))) [] σ H s' := by
  obtain ⟨oe, vs, he, hz, hd⟩ := c.fl.there
  have nfr : a ∉ frs X.stack := fun hm => by
    obtain ⟨_, o, e, hnf⟩ := c.fl.2.2.1.mem hm
    rw [he] at e
    cases e
    exact hnf _ hd
  rw [hs] at nfr
  refine ⟨oe, vs, he, hz, hd, c.here.suite he hd c.na (fun z => nfr ?_) fun hm => nfr ?_⟩
  · exact List.mem_filterMap.mpr ⟨X.env, .head _, by rw [hf, z]⟩
  · obtain ⟨e, he, q⟩ := List.mem_filterMap.mp hm
    exact List.mem_filterMap.mpr ⟨e, .tail _ he, q⟩
end
end Hx

/-! a lambda without parameters handed to a def that calls it within a try -/
namespace Hx
open PySem PySem.Spec PyProof.Rows L2 HotX LamX
section
variable {X : Cx} {pins : List (Addr × Obj)} {σ : L2.St} {H HZ : Hp} {s : Shared}
end
end Hx

/-! A def called with keywords, where what it raises is wished for at the caller's slots. -/
namespace Hx
open PySem PySem.Spec PyProof.Rows L2
/-- the things at these places -/
def sel {α : Type} (idx : List Nat) (l : List α) : List α := idx.filterMap fun i => l[i]?
section
variable {X : Cx} {CX : CXT} {k n : Nat} {f : Addr} {fd : FuncData} {ps ks : List Str} {sp : Sp} {idx : List Nat} {dvs : List V} {E : L2.St → XK} {x : Str} {p pos : Pos} {e : Expr} {es : List Expr} {kws : List Keyword} {t tk : TA}
end
end Hx

/-! A tuple told once. -/
namespace Hx
open PySem PySem.Spec PyProof.Rows L2
theorem once_tuple (l : Addr) (items : Array Value) (n : Nat) (dd : Option Addr) (sl : Array (Option Value)) (u : Tok) :
    Meets (Builtin.«tuple.__mul__» ⟨[.ref l, .int 1 u], []⟩) (fun _ R s => s.heap.get? l = some { cls := .type "tuple", dict := dd, data := .seq items n, slots := sl } ∧ R (.ok (.ret (Value.ref l))) s) :=
  .of_wp fun prog w A R s h => by
    obtain ⟨hp, g, d, tk, os⟩ := s
    obtain ⟨hl, h⟩ := h
    have f1 := AutoSeq1.idx_int
    have c0 : (decide ((1 : Int) < -(2 ^ 63)) || decide ((1 : Int) ≥ 2 ^ 63)) = false := by decide
    have c1 : (items.isEmpty || (1 : Int) == 1) = true := by rw [show ((1 : Int) == 1) = true from rfl, Bool.or_true]
    wp_walk using wpAny_loadPart' hl
    repeat (first
      | (refine wpAny_ite_false (decide_eq_false (by rw [c0]; exact Bool.false_ne_true)) ?_; wp_walk using wpAny_loadPart' hl)
      | (refine wpAny_ite_true (decide_eq_true (by exact c1)) ?_; wp_walk using wpAny_loadPart' hl))
    exact ⟨_, rfl, h⟩
section
variable {X : Cx}
def rOnce (K : PySem.W.Frag) : R2 := fun x y H Q => ∃ l xs, x = .ref l ∧ y = .int 1 ∧ SqT K H l xs ∧ Q (.ref l) H
theorem op_once : OpR X (binaryOp .Mult) (rOnce X.K) := by
  intro pins s σ H x y v u Q I rx ry h
  obtain ⟨l, xs, rfl, rfl, hT, q⟩ := h
  cases rx
  obtain ⟨t, rfl⟩ := ry
  obtain ⟨its, r, ⟨⟨cls, dd, data, sl⟩, ho, hc, n, hd⟩, hs⟩ := I.tuple hT
  simp only at hc hd
  subst hc hd
  refine wpAny_binaryOp_repeat_ref (T := "tuple") (U := "int") (by decide) ⟨_, ho, rfl⟩ (fun s' => typeIs_int s' 1 t) noFill_tuple_mul F.fills_int_mul F.slot_int_rmul repeat_tuple F.slot_int_index.lookup
    (call_meets F.slot_int_rmul (typeIs_int s 1 t) F.entry_int_rmul (F.args_int_rmul_2 _ _) (int_rmul_tuple 1 t l its.toArray n dd sl)
      ⟨ho, rfl, ⟨_, ho, rfl⟩, call_meets F.slot_tuple_mul ⟨_, ho, rfl⟩ F.entry_tuple_mul (F.args_tuple_mul_2 _ _) (once_tuple l its.toArray n dd sl t) ⟨ho, ?_⟩⟩)
  exact ⟨.ref l, H, I, rfl, q⟩
end
end Hx

/-! max and min of a list by a def that tells an int of each. -/
namespace Hx
open PySem PySem.Spec PyProof.Rows L2
section
variable {X : Cx} {k : Nat} {f : Addr} {fd : FuncData} {p : Str} {sp : Sp} {pins : List (Addr × Obj)} {σ : L2.St}
end
end Hx
namespace Hx
open PySem PySem.Spec PyProof.Rows L2
/-! ### max, min of a list of ints -/
section
variable {X : Cx}
end
end Hx

/-! sum of a list of tuples, from a tuple on. -/
namespace Hx
open PySem PySem.Spec PyProof.Rows L2 HT
section
variable {X : Cx} {pins : List (Addr × Obj)} {σ : L2.St}
end
end Hx

/-! Own classes over promises of defs that are called where nothing is being shown: an instance is made, its methods are called. -/
namespace Hx
open PySem PySem.Spec PyProof.Rows L2
theorem RoomG.make {k : Nat} {A : Around} (r : RoomG (k + 1) A) (C : Addr) (us : List Value) (kw : List (Str × Value)) : RoomG k (A.under (.builtin "type.__call__" ⟨.ref C :: us, kw⟩)) := ⟨r.rm.make C us kw, r.gd⟩
/-- C(e, ..): what __init__ is handed is the new instance and the arguments -/
def tMakeS (C : Addr) (sp : Sp) (dvs : List V) (E : L2.St → XK) (t : TA) : TE := fun σ H Q => t σ H fun vs H1 => ∀ x dx, H1 x = none → H1 dx = none → dx ≠ x →
  sp (.ref x :: (vs ++ dvs)) (upd (upd H1 dx (.own x)) x (.ins C dx [])) (fun v H2 => v = .non ∧ Q (.ref x) H2) (E σ)
def tMethS (C : Addr) (m : Str) (sp : Sp) (dvs : List V) (E : L2.St → XK) (ta : TE) (t : TA) : TE := fun σ H Q => ta σ H fun x H1 => ∃ a dx fs, x = .ref a ∧ H1 a = some (.ins C dx fs) ∧ fs.lookup m = none ∧
  t σ H1 fun vs H2 => sp (x :: (vs ++ dvs)) H2 Q (E σ)
section
variable {X : Cx} {CX : CXT} {k : Nat} {f C : Addr} {fd : FuncData} {ps : List Str} {sp : Sp} {dvs : List V} {ds : List Value} {E : L2.St → XK} {x m : Str} {p pos apos : Pos} {o e : Expr} {es : List Expr} {t : TA} {ta : TE}
theorem makeG_run {pins : List (Addr × Obj)} {σ : L2.St} {H : Hp} {s : Shared} {Q : VK} {us : List Value} {vs : List V} (M : Mk X.K C f) (F : FnG X.prog X.w X.K X.mg X.base CX k f fd ps sp) (hr : RoomG (k + 1) X.A) (hb : Binds X.K fd ps ds) (hd : Vals dvs ds) (hx : PassesAt CX X σ (E σ))
    (I : Inv X pins σ H s) (r : Vals vs us)
    (h : ∀ x dx, H x = none → H dx = none → dx ≠ x → sp (.ref x :: (vs ++ dvs)) (upd (upd H dx (.own x)) x (.ins C dx [])) (fun v H2 => v = .non ∧ Q (.ref x) H2) (E σ)) :
    wpAny (model X.prog X.w) X.A (call (.ref C) us) (EP X pins σ Q) X.xe s := by
  have ready := Inv.made (C := C) I
  have spun := h (s.heap.objs.size + 1) s.heap.objs.size (I.hok.fresh (Nat.le_succ _)) (I.hok.fresh (Nat.le_refl _)) (Nat.ne_of_lt (Nat.lt_succ_self _))
  have all : Vals (V.ref (s.heap.objs.size + 1) :: (vs ++ dvs)) (Value.ref (s.heap.objs.size + 1) :: (us ++ ds)) := .cons rfl (r.append hd)
  have many : (Value.ref (s.heap.objs.size + 1) :: us ++ ds).length = ps.length := (show _ = _ from all.length.symm).trans (F.len _ _ _ _ spun)
  refine wpAny_call (make_map (f := f) I.kIn M.makes M.init (beq_iff_eq.mp M.fn) (codeAny_mono (F.run _ X.stack _ _ ⟨Value.ref (s.heap.objs.size + 1) :: us, []⟩ (Value.ref (s.heap.objs.size + 1) :: (us ++ ds)) _ _ (E σ) (hr.make C us [])
    (ready.env0.make C us []) (hb _ (Value.ref (s.heap.objs.size + 1) :: us) ready.kIn many) all spun) fun out s' got => ?_))
  match out, got with
  | .error e, got => exact hx pins _ _ e s' ready got
  | .ok (.ret u), got =>
    obtain ⟨v, H', J, rv, ev, q⟩ := ready.after got
    subst ev
    exact ⟨rv, V.ref (s.heap.objs.size + 1), H', J, rfl, q⟩
theorem pe_makeG (M : Mk X.K C f) (F : FnG X.prog X.w X.K X.mg X.base CX k f fd ps sp) (hr : RoomG (k + 1) X.A) (hg : Gl X x) (hm : X.mg x = some (.ref C)) (hb : Binds X.K fd ps ds) (hd : Vals dvs ds) (hx : ∀ σ, PassesAt CX X σ (E σ))
    (ha : PA X (e :: es) t) (hdb : (x == ("__debug__" : Str)) = false := by decide) (he : starEach (e :: es) X.env = (false, eval e X.env) :: starEach es X.env := by rfl) (hpl : (backTo pos (starEach es X.env)).any (·.1) = false := by rfl) :
    PE X (.Call (.Name x p) (e :: es) [] pos) (tMakeS C sp dvs E t) :=
  ⟨fun pins s σ H Q I h => wpAny_Call_Name_kw (ld_glob I hg hm (PySem.W.callWith_K (h₀ := X.base) I.ok.mod.kin M.kp (thn (ha.run pos pins s σ H _ I h) fun us s1 ⟨vs, H1, I1, r, q⟩ => ⟨I1.kIn, makeG_run M F hr hb hd (hx σ) I1 r q⟩) he hpl) hdb)⟩
/-- o.m(e, ..) -/
theorem pe_methG {pl : Sem Bool} (he : PE X o ta) (c : Cls X.K C) (hm : Meth X.K C m f) (F : FnG X.prog X.w X.K X.mg X.base CX k f fd ps sp) (hr : RoomG k X.A) (hb : Binds X.K fd ps ds) (hd : Vals dvs ds) (hx : ∀ σ, PassesAt CX X σ (E σ)) (ha : PA X (e :: es) t)
    (hst : starEach (e :: es) X.env = (false, eval e X.env) :: starEach es X.env := by rfl) (hpl : (backTo pos (starEach es X.env)).any (·.1) = false := by rfl)
    (ht : eval (.Call (.Attribute o m apos) (e :: es) [] pos) X.env = (do
      let ov ← eval o X.env
      standAt apos.atName
      let (f, first) ← holding [ov] (getMethod ov m pl)
      callWith pos f first (backTo pos (starEach (e :: es) X.env)) (backToKw pos (keywordEach [] X.env))) := by rfl) :
    PE X (.Call (.Attribute o m apos) (e :: es) [] pos) (tMethS C m sp dvs E ta t) := by
  refine ⟨fun pins s σ H Q I h => PySem.W.methodCall_KW (pl := pl) (thn (he.run pins s σ H _ I h) fun u s1 ⟨x, H1, I1, rx, a, dx, fs, ex, ea, l, q⟩ => ?_) ht⟩
  subst ex
  cases rx
  exact getmeth_ok I1 ea c hm l (PySem.W.callWith_K (first := [.ref a]) (h₀ := X.base) I.ok.mod.kin hm.kp (thn (ha.run pos pins s1 σ H1 _ I1 q) fun us s2 ⟨vs, H2, I2, r, q2⟩ => ⟨I2.kIn, fnG_run (us := .ref a :: us) (vs := .ref a :: vs) F hr hb hd (hx σ) I2 (.cons rfl r) q2⟩) hst hpl)
/-- o.m() -/
theorem pe_methG0 {pl : Sem Bool} (he : PE X o ta) (c : Cls X.K C) (hm : Meth X.K C m f) (F : FnG X.prog X.w X.K X.mg X.base CX k f fd ps sp) (hr : RoomG k X.A) (hb : Binds X.K fd ps ds) (hd : Vals dvs ds) (hx : ∀ σ, PassesAt CX X σ (E σ))
    (ht : eval (.Call (.Attribute o m apos) [] [] pos) X.env = (do
      let ov ← eval o X.env
      standAt apos.atName
      let (f, first) ← holding [ov] (getMethod ov m pl)
      callWith pos f first (backTo pos (starEach [] X.env)) (backToKw pos (keywordEach [] X.env))) := by rfl) :
    PE X (.Call (.Attribute o m apos) [] [] pos) (tMethS C m sp dvs E ta tNil) := by
  refine ⟨fun pins s σ H Q I h => PySem.W.methodCall_KW (pl := pl) (thn (he.run pins s σ H _ I h) fun u s1 ⟨x, H1, I1, rx, a, dx, fs, ex, ea, l, q⟩ => ?_) ht⟩
  subst ex
  cases rx
  exact getmeth_ok I1 ea c hm l (PySem.W.callWith_K0 (first := [.ref a]) I1.kIn hm.kp (fnG_run (us := [.ref a]) (vs := [.ref a]) F hr hb hd (hx σ) I1 (.cons rfl .nil) q))
end
end Hx
namespace Hx
open PySem PySem.Spec PyProof.Rows L2
end Hx

/-! Defs with defaults whose promises are called where nothing is being shown. -/
namespace Hx
open PySem PySem.Spec PyProof.Rows L2
/-- a def whose defaults are the items of the tuple at T -/
structure FunV (K : PySem.W.Frag) (x qual : Str) (st : Stmt) (f : Addr) (fd : FuncData) (T : Addr) (its : Array Value) : Prop where
  ex : ∃ (oc : Value) (od : Option Addr) (kV doc pm : Value) (an : Option Addr) (cdv ct : Value) (osl : Array (Option Value)),
    fd = PySem.W.fnOf x qual (defArgs st) (defBody st) (defScope st) (.ref T) kV doc pm an cdv ct ∧ K.lookup f = some ⟨oc, od, .func fd, osl⟩ ∧ PySem.W.codeIn K cdv qual = true
  dfl : ∃ (o : Obj) (n : Nat), K.lookup T = some o ∧ o.data = .seq its n
  kp : PySem.W.keepIn K (.ref f) = true
theorem funV_mk {K : PySem.W.Frag} {x qual : Str} {st : Stmt} {f T : Addr} {its : Array Value} {oc oc2 kV doc pm cdv ct : Value} {od od2 an : Option Addr} {osl osl2 : Array (Option Value)} {n : Nat}
    (l : K.lookup f = some ⟨oc, od, .func (PySem.W.fnOf x qual (defArgs st) (defBody st) (defScope st) (.ref T) kV doc pm an cdv ct), osl⟩) (c : PySem.W.codeIn K cdv qual = true) (k : PySem.W.keepIn K (.ref f) = true) (t : K.lookup T = some ⟨oc2, od2, .seq its n, osl2⟩) :
    FunV K x qual st f (PySem.W.fnOf x qual (defArgs st) (defBody st) (defScope st) (.ref T) kV doc pm an cdv ct) T its := ⟨⟨oc, od, kV, doc, pm, an, cdv, ct, osl, rfl, l, c⟩, ⟨_, n, t, rfl⟩, k⟩
/-- what a call binds, where the defaults are looked at -/
theorem FunV.to {K : PySem.W.Frag} {x qual : Str} {st : Stmt} {f T : Addr} {its : Array Value} {fd : FuncData} {args : Args} {bs : List (Str × Value)} {s : Shared} (F : FunV K x qual st f fd T its) (X : K.In s.heap)
    (h : ∃ k, bindArgs fd args = seqItems? (.ref T) >>= k ∧ k (some its) = pure bs) : BindsTo s fd args bs := by
  obtain ⟨o, n, lT, oT⟩ := F.dfl
  obtain ⟨k, e1, e2⟩ := h
  refine BindsTo.of_looks fun M => ?_
  rw [e1]
  exact looks_items X lT oT (.of_pure e2)
/-- such a def by its body -/
theorem fnG_ofV {CX : CXT} {P : Program} {w : World} {K : PySem.W.Frag} {mg : Str → Option Value} {base : Heap} {k : Nat} {f T : Addr} {its : Array Value} {x qual : Str} {st : Stmt} {fd : FuncData} {N ps : List Str} {sp : Sp} (F : FunV K x qual st f fd T its) (S : FnScope N ps (defScope st)) (len : ∀ vs H Q E, sp vs H Q E → vs.length = ps.length)
    (body : ∀ (cdv : Value), cdv = fd.code → ∀ (A : Around) (outer : List Env) (s : Shared) (H : Hp) (vs : List V) (Q : VK) (E : XK), RoomG k (A.deeper (envOfC qual (defScope st) s.heap.objs.size f cdv)) → sp vs H Q E →
      ∃ t, PSs (cxOf CX P w K mg base N qual (defScope st) f cdv A outer s H E) (defBody st) t ∧ t { nx := fun _ H' => Q .non H', rt := Q } (L2.start N vs) H) : FnG P w K mg base CX (k + 1) f fd ps sp := by
  refine ⟨len, fun A outer s H args us vs Q E room e0 bind r q => ?_⟩
  obtain ⟨oc, od, kV, doc, pm, an, cdv, ct, osl, rfl, lk, code⟩ := F.ex
  have KX : K.In s.heap := e0.mod.kin.keeps fun b o e => (e0.bs b o e).1
  have lim : s.heap.NoLimit := e0.mod.nolimit.keeps fun b o e => (e0.bs b o e).1
  have known : ∀ y ∈ ps.zip us, (defScope st).names.lookup y.1 = some .local ∨ ((defScope st).names.lookup y.1 = some .cell ∧ ((cellsFrom (s.heap.objs.size + 1) (defScope st).names []).lookup y.1).isSome = true) := fun y hy =>
    (S.par y.1 (List.of_mem_zip (a := y.1) (b := y.2) hy).1).imp id fun z => ⟨z, PySem.W.cellsFrom_some _ _ _ (.inl z)⟩
  refine codeAny_call_function room.depth (KX _ _ lk) rfl S.co S.gen rfl (PySem.W.codeRec_of KX code) (bind _ _ _ _ (wpAny_newFunctionEnv_cells S.kind known fun env he s1 y => ?_))
  subst he
  obtain ⟨t, ht, hq⟩ := body cdv rfl A outer s H vs Q E (room.deeper _) q
  have I : Inv (cxOf CX P w K mg base N qual (defScope st) f cdv A outer s H E) [] (L2.start N vs) H s1 := inv_start S room.hd e0 (len _ _ _ _ q) r y
  refine ⟨lim.keeps y.toInCall.keep, codeAny_func (wpAny_mono (ht.run [] s1 _ H _ I hq) (fun fl s' z => ?_) fun e s' z => z)⟩
  match fl, z with
  | .ret u, ⟨v, σ', H', J, rv, z⟩ => exact ⟨v, H', J.os, J.bare, J.base, J.hok, rv, z⟩
  | .next, ⟨σ', H', J, z⟩ => exact ⟨.non, H', J.os, J.bare, J.base, J.hok, rfl, z⟩
  | .brk, ⟨_, _, _, z⟩ => exact z.elim
  | .cont, ⟨_, _, _, z⟩ => exact z.elim
end Hx

/-! len of an instance whose class has a __len__ of its own. -/
namespace Hx
open PySem PySem.Spec PyProof.Rows L2
open Builtin
end Hx

/-! sep.join(reversed(xs)), xs a list of texts -/
namespace Hx
open PySem PySem.Spec PyProof.Rows L2 Builtin Builtin.Str
section
variable {prog : Program} {w : World} {A : Around} {E : Value → Shared → Prop} {s : Shared}
end
section
variable {X : Cx}
end
end Hx

/-! min of four ints; min of a list of ints with default. -/
namespace Hx
open PySem PySem.Spec PyProof.Rows L2
section
variable {prog : Program} {w : World} {A : Around} {E : Value → Shared → Prop} {s : Shared}
end
section
variable {X : Cx}
end
end Hx

/-! sorted and min of a list of data of one make. -/
namespace Hx
open PySem PySem.Spec PyProof.Rows L2
section
variable {X : Cx}
end
end Hx

/-! A layer of readings by value over the hand layer: tuples, frozen lists, frozen instances are values; owned lists and instances stand in a store. -/
namespace Dv
open PySem L2

inductive D where
  | non | bl (b : Bool) | int (i : Int) | str (x : Str)
  | tup (xs : List D) | lst (xs : List D) | tupX (xs : List D)
  | inst (C : Str) (ns : List Str) (xs : List D)
  | obj (a : Addr) | ty (n : String)
  | exc (a : Addr) (od : Option Addr) (ns : List Str) (xs : List D)
  | fn (x : Str)

inductive SO where
  | lst (xs : List D)
  | ins (C : Str) (ns : List Str) (xs : List D)
  | tab (q : Str)

abbrev Sd := Addr → Option SO
def upS (S : Sd) (a : Addr) (o : SO) : Sd := fun b => if b = a then some o else S b
def del (S : Sd) (a : Addr) : Sd := fun b => if b = a then none else S b
theorem upS_same {S : Sd} {a : Addr} {o : SO} : upS S a o a = some o := by unfold upS; rw [if_pos rfl]
theorem upS_ne {S : Sd} {a b : Addr} {o : SO} (h : b ≠ a) : upS S a o b = S b := by unfold upS; rw [if_neg h]
theorem upS_upS {S : Sd} {a : Addr} {o u : SO} : upS (upS S a o) a u = upS S a u := by
  funext b; unfold upS; split <;> rfl
theorem del_same {S : Sd} {a : Addr} : del S a a = none := by unfold del; rw [if_pos rfl]
theorem del_ne {S : Sd} {a b : Addr} (h : b ≠ a) : del S a b = S b := by unfold del; rw [if_neg h]
theorem del_upS {S : Sd} {a : Addr} {o : SO} (h : S a = none) : del (upS S a o) a = S := by
  funext b
  by_cases e : b = a
  · rw [e, del_same, h]
  · rw [del_ne e, upS_ne e]

/-- a list of the written part -/
def KL (K : PySem.W.Frag) (a : Addr) (xs : List V) : Prop :=
  ∃ (o : Obj) (its : Array Value) (n : Nat), K.lookup a = some o ∧ o.cls = .type "list" ∧ o.dict = none ∧ o.data = .seq its n ∧ its.size ≤ sizeLine ∧ Vals xs its.toList

/-- the class that a global of the text names -/
def ClsAt (K : PySem.W.Frag) (n : Str) (C : Addr) : Prop := PySem.W.nsIn K mainGlobals n = some (some (.ref C))
theorem ClsAt.one {K : PySem.W.Frag} {n : Str} {C D : Addr} (h : ClsAt K n C) (g : ClsAt K n D) : C = D := by
  unfold ClsAt at h g
  rw [h] at g
  cases g
  rfl
mutual
def Rp (K : PySem.W.Frag) (H : Hp) (S : Sd) : D → V → Prop
  | .non, v => v = .non
  | .bl b, v => v = .bl b
  | .int i, v => v = .int i
  | .str x, v => v = .str x
  | .tup ds, v => ∃ a vs, v = .ref a ∧ SqT K H a vs ∧ RpL K H S ds vs
  | .lst ds, v => ∃ a vs, v = .ref a ∧ ((Rd H a (.lst vs) ∧ S a = none) ∨ KL K a vs) ∧ RpL K H S ds vs
  | .inst n ns ds, v => ∃ C a dx fs, ClsAt K n C ∧ v = .ref a ∧ H a = some (.ins C dx fs) ∧ S a = none ∧ fs.map Prod.fst = ns ∧ RpL K H S ds (fs.map Prod.snd)
  | .tupX ds, v => ∃ a o vs, v = .ref a ∧ H a = some (.frz o (.tup vs)) ∧ o.dict = none ∧ RpL K H S ds vs
  | .obj a, v => v = .ref a
  | .ty n, v => v = .ty n
  | .fn x, v => ∃ f, v = .ref f ∧ PySem.W.nsIn K mainGlobals x = some (some (.ref f))
  | .exc a od ns ds, v => v = .ref a ∧ (od = none → ns = []) ∧ (∀ dx, od = some dx → ∃ fs, H dx = some (.xd fs) ∧ S dx = none ∧ (ns = [] ∨ (fs.map Prod.fst = ns ∧ RpL K H S ds (fs.map Prod.snd))))
def RpL (K : PySem.W.Frag) (H : Hp) (S : Sd) : List D → List V → Prop
  | [], vs => vs = []
  | d :: ds, vs => ∃ v r, vs = v :: r ∧ Rp K H S d v ∧ RpL K H S ds r
end

def SoOk (K : PySem.W.Frag) (H : Hp) (S : Sd) (a : Addr) : SO → Prop
  | .lst ds => ∃ vs, H a = some (.lst vs) ∧ RpL K H S ds vs
  | .ins n ns ds => ∃ C dx fs, ClsAt K n C ∧ H a = some (.ins C dx fs) ∧ fs.map Prod.fst = ns ∧ RpL K H S ds (fs.map Prod.snd)
  | .tab q => LamX.TabS H a q
def RelS (K : PySem.W.Frag) (H : Hp) (S : Sd) : Prop := ∀ a o, S a = some o → SoOk K H S a o
/-- what is not owned stays, and stays not owned -/
def Step (H : Hp) (S : Sd) (H' : Hp) (S' : Sd) : Prop := ∀ a o, H a = some o → S a = none → H' a = some o ∧ S' a = none

section
variable {K : PySem.W.Frag} {H H' H2 : Hp} {S S' S2 : Sd} {a p : Addr} {ds es : List D} {vs ws : List V} {d : D} {v : V}

theorem RelS.some_h (R : RelS K H S) {o : SO} (h : S a = some o) : (∃ vs, H a = some (.lst vs)) ∨ (∃ C dx fs, H a = some (.ins C dx fs)) ∨ ∃ ps, H a = some (.tbl ps) := by
  have x := R a o h
  cases o with
  | lst ds => obtain ⟨vs, e, _⟩ := x; exact .inl ⟨vs, e⟩
  | ins C ns ds => obtain ⟨C, dx, fs, _, e, _⟩ := x; exact .inr (.inl ⟨C, dx, fs, e⟩)
  | tab q => obtain ⟨ps, e, _⟩ := x; exact .inr (.inr ⟨ps, e⟩)
theorem RelS.freeOf (R : RelS K H S) (h1 : ∀ vs, H a ≠ some (.lst vs)) (h2 : ∀ C dx fs, H a ≠ some (.ins C dx fs)) (h3 : ∀ ps, H a ≠ some (.tbl ps)) : S a = none := by
  cases e : S a with
  | none => rfl
  | some o =>
    rcases R.some_h e with ⟨vs, q⟩ | ⟨C, dx, fs, q⟩ | ⟨ps, q⟩
    · exact absurd q (h1 vs)
    · exact absurd q (h2 C dx fs)
    · exact absurd q (h3 ps)
theorem RelS.free (R : RelS K H S) (h : H a = none) : S a = none := R.freeOf (fun _ q => by rw [h] at q; cases q) (fun _ _ _ q => by rw [h] at q; cases q) fun _ q => by rw [h] at q; cases q
theorem RelS.tupFree (R : RelS K H S) (h : H a = some (.tup vs)) : S a = none := R.freeOf (fun _ q => by rw [h] at q; cases q) (fun _ _ _ q => by rw [h] at q; cases q) fun _ q => by rw [h] at q; cases q
theorem RelS.frzFree {o : Obj} {u : HO} (R : RelS K H S) (h : H a = some (.frz o u)) : S a = none := R.freeOf (fun _ q => by rw [h] at q; cases q) (fun _ _ _ q => by rw [h] at q; cases q) fun _ q => by rw [h] at q; cases q
theorem RelS.codeFree {q : Str} (R : RelS K H S) (h : H a = some (LamX.CodeO a q)) : S a = none := R.freeOf (fun _ z => by rw [h] at z; cases z) (fun _ _ _ z => by rw [h] at z; cases z) fun ps z => by rw [h] at z; exact LamX.codeO_ne ps (Option.some.inj z)

theorem Step.refl : Step H S H S := fun _ _ h1 h2 => ⟨h1, h2⟩
theorem Step.trans (s1 : Step H S H' S') (s2 : Step H' S' H2 S2) : Step H S H2 S2 := fun b o h1 h2 =>
  let ⟨q1, q2⟩ := s1 b o h1 h2
  s2 b o q1 q2
theorem step_rdT (R : RelS K H S) (s : Step H S H' S') (h : Rd H a (.tup vs)) : Rd H' a (.tup vs) := by
  rcases h with h | ⟨o, h⟩
  · exact .inl (s a _ h (R.tupFree h)).1
  · exact .inr ⟨o, (s a _ h (R.frzFree h)).1⟩
theorem step_sqT (R : RelS K H S) (s : Step H S H' S') (h : SqT K H a vs) : SqT K H' a vs := by
  rcases h with h | h
  · exact .inl (step_rdT R s h)
  · exact .inr h
theorem step_rdL (s : Step H S H' S') (h : Rd H a (.lst vs)) (n : S a = none) : Rd H' a (.lst vs) ∧ S' a = none := by
  rcases h with h | ⟨o, h⟩
  · exact ⟨.inl (s a _ h n).1, (s a _ h n).2⟩
  · exact ⟨.inr ⟨o, (s a _ h n).1⟩, (s a _ h n).2⟩

mutual
theorem rp_step (R : RelS K H S) (s : Step H S H' S') : ∀ (d : D) (v : V), Rp K H S d v → Rp K H' S' d v
  | .non, v, h => h
  | .bl _, v, h => h
  | .int _, v, h => h
  | .str _, v, h => h
  | .tup ds, v, h => by
    obtain ⟨a, vs, e, q, r⟩ := h
    exact ⟨a, vs, e, step_sqT R s q, rpL_step R s ds vs r⟩
  | .lst ds, v, h => by
    obtain ⟨a, vs, e, q, r⟩ := h
    refine ⟨a, vs, e, ?_, rpL_step R s ds vs r⟩
    rcases q with ⟨q, n⟩ | q
    · exact .inl (step_rdL s q n)
    · exact .inr q
  | .inst C ns ds, v, h => by
    obtain ⟨C, a, dx, fs, c, e, q, n, hn, r⟩ := h
    exact ⟨C, a, dx, fs, c, e, (s a _ q n).1, (s a _ q n).2, hn, rpL_step R s ds _ r⟩
  | .tupX ds, v, h => by
    obtain ⟨a, o, vs, e, q, n, r⟩ := h
    exact ⟨a, o, vs, e, (s a _ q (R.frzFree q)).1, n, rpL_step R s ds vs r⟩
  | .obj _, v, h => h
  | .ty _, v, h => h
  | .fn _, v, h => h
  | .exc a od ns ds, v, h => by
    obtain ⟨e, h0, h1⟩ := h
    refine ⟨e, h0, fun dx ed => ?_⟩
    obtain ⟨fs, q, n, r⟩ := h1 dx ed
    exact ⟨fs, (s dx _ q n).1, (s dx _ q n).2, r.imp id fun ⟨e1, r1⟩ => ⟨e1, rpL_step R s ds _ r1⟩⟩
theorem rpL_step (R : RelS K H S) (s : Step H S H' S') : ∀ (ds : List D) (vs : List V), RpL K H S ds vs → RpL K H' S' ds vs
  | [], vs, h => h
  | d :: ds, vs, h => by
    obtain ⟨v, r, e, h1, h2⟩ := h
    exact ⟨v, r, e, rp_step R s d v h1, rpL_step R s ds r h2⟩
end

theorem rpL_nil : RpL K H S [] [] := rfl
theorem rpL_cons (h : Rp K H S d v) (r : RpL K H S ds vs) : RpL K H S (d :: ds) (v :: vs) := ⟨v, vs, rfl, h, r⟩
theorem rpL_len : ∀ {ds : List D} {vs : List V}, RpL K H S ds vs → ds.length = vs.length
  | [], vs, h => by
    have e : vs = [] := h
    rw [e]; rfl
  | d :: ds, vs, h => by
    obtain ⟨v, r, e, _, h2⟩ := h
    rw [e, List.length_cons, List.length_cons, rpL_len h2]
theorem rpL_get : ∀ {ds : List D} {vs : List V} {i : Nat} {d : D}, RpL K H S ds vs → ds[i]? = some d → ∃ v, vs[i]? = some v ∧ Rp K H S d v
  | [], _, i, d, _, e => by simp at e
  | d0 :: ds, vs, 0, d, h, e => by
    obtain ⟨v, r, e1, h1, h2⟩ := h
    simp at e
    subst e e1
    exact ⟨v, by simp, h1⟩
  | d0 :: ds, vs, i + 1, d, h, e => by
    obtain ⟨v, r, e1, h1, h2⟩ := h
    subst e1
    obtain ⟨w, q1, q2⟩ := rpL_get (i := i) h2 (by simpa using e)
    exact ⟨w, by simpa using q1, q2⟩
theorem rpL_app : ∀ {ds : List D} {vs : List V}, RpL K H S ds vs → RpL K H S es ws → RpL K H S (ds ++ es) (vs ++ ws)
  | [], vs, h, k => by
    have e : vs = [] := h
    subst e
    exact k
  | d :: ds, vs, h, k => by
    obtain ⟨v, r, e, h1, h2⟩ := h
    subst e
    exact ⟨v, r ++ ws, rfl, h1, rpL_app h2 k⟩
theorem rpL_take : ∀ {ds : List D} {vs : List V} (n : Nat), RpL K H S ds vs → RpL K H S (ds.take n) (vs.take n)
  | [], vs, n, h => by
    have e : vs = [] := h
    subst e
    simp [RpL]
  | d :: ds, vs, 0, h => by simp [RpL]
  | d :: ds, vs, n + 1, h => by
    obtain ⟨v, r, e, h1, h2⟩ := h
    subst e
    exact ⟨v, r.take n, rfl, h1, rpL_take n h2⟩
theorem rpL_drop : ∀ {ds : List D} {vs : List V} (n : Nat), RpL K H S ds vs → RpL K H S (ds.drop n) (vs.drop n)
  | [], vs, n, h => by
    have e : vs = [] := h
    subst e
    simp [RpL]
  | d :: ds, vs, 0, h => h
  | d :: ds, vs, n + 1, h => by
    obtain ⟨v, r, e, h1, h2⟩ := h
    subst e
    exact rpL_drop n h2
theorem rpL_set : ∀ {ds : List D} {vs : List V} (n : Nat), RpL K H S ds vs → Rp K H S d v → RpL K H S (ds.set n d) (vs.set n v)
  | [], vs, n, h, k => by
    have e : vs = [] := h
    subst e
    simp [RpL]
  | d0 :: ds, vs, 0, h, k => by
    obtain ⟨w, r, e, h1, h2⟩ := h
    subst e
    exact ⟨v, r, rfl, k, h2⟩
  | d0 :: ds, vs, n + 1, h, k => by
    obtain ⟨w, r, e, h1, h2⟩ := h
    subst e
    exact ⟨w, r.set n v, rfl, h1, rpL_set n h2 k⟩
theorem rpL_rev : ∀ {ds : List D} {vs : List V}, RpL K H S ds vs → RpL K H S ds.reverse vs.reverse
  | [], vs, h => by
    have e : vs = [] := h
    subst e
    simp [RpL]
  | d :: ds, vs, h => by
    obtain ⟨v, r, e, h1, h2⟩ := h
    subst e
    rw [List.reverse_cons, List.reverse_cons]
    exact rpL_app (rpL_rev h2) (rpL_cons h1 rpL_nil)

theorem soOk_step (R : RelS K H S) (s : Step H S H' S') {o : SO} (h : SoOk K H S a o) (k : ∀ u, H a = some u → H' a = some u) : SoOk K H' S' a o := by
  cases o with
  | lst ds => obtain ⟨vs, e, r⟩ := h; exact ⟨vs, k _ e, rpL_step R s _ _ r⟩
  | ins C ns ds => obtain ⟨C, dx, fs, c, e, n, r⟩ := h; exact ⟨C, dx, fs, c, k _ e, n, rpL_step R s _ _ r⟩
  | tab q =>
    obtain ⟨ps, e, t, c⟩ := h
    refine ⟨ps, k _ e, t, fun pos cv hc => ?_⟩
    obtain ⟨c', e1, e2⟩ := c pos cv hc
    exact ⟨c', e1, (s c' _ e2 (R.codeFree e2)).1⟩

/-- a new object, not owned -/
theorem step_new {o : HO} (h : H p = none) : Step H S (upd H p o) S := fun b u h1 h2 => ⟨by rw [upd_ne (ne_of_none h1 h)]; exact h1, h2⟩
theorem rel_new {o : HO} (R : RelS K H S) (h : H p = none) : RelS K (upd H p o) S := fun b u e =>
  soOk_step R (step_new h) (R b u e) fun w hw => by rw [upd_ne (ne_of_none hw h)]; exact hw
/-- a new object, owned -/
theorem step_own {o : HO} {u : SO} (h : H p = none) : Step H S (upd H p o) (upS S p u) := fun b w h1 h2 => by
  have n := ne_of_none h1 h
  exact ⟨by rw [upd_ne n]; exact h1, by rw [upS_ne n]; exact h2⟩
theorem rel_own {o : HO} {u : SO} (R : RelS K H S) (h : H p = none) (k : SoOk K (upd H p o) (upS S p u) p u) : RelS K (upd H p o) (upS S p u) := fun b w e => by
  by_cases hb : b = p
  · subst hb
    rw [upS_same] at e
    cases e
    exact k
  · rw [upS_ne hb] at e
    exact soOk_step R (step_own h) (R b w e) fun x hx => by rw [upd_ne hb]; exact hx
/-- an owned object is changed -/
theorem step_set {o : HO} {u u0 : SO} (h : S a = some u0) : Step H S (upd H a o) (upS S a u) := fun b w h1 h2 => by
  have n : b ≠ a := fun e => by rw [e, h] at h2; cases h2
  exact ⟨by rw [upd_ne n]; exact h1, by rw [upS_ne n]; exact h2⟩
theorem rel_set {o : HO} {u u0 : SO} (R : RelS K H S) (h : S a = some u0) (k : SoOk K (upd H a o) (upS S a u) a u) : RelS K (upd H a o) (upS S a u) := fun b w e => by
  by_cases hb : b = a
  · subst hb
    rw [upS_same] at e
    cases e
    exact k
  · rw [upS_ne hb] at e
    exact soOk_step R (step_set h) (R b w e) fun x hx => by rw [upd_ne hb]; exact hx
/-- an owned object is let go -/
theorem step_del : Step H S H (del S a) := fun b w h1 h2 => ⟨h1, by
  by_cases e : b = a
  · rw [e]; exact del_same
  · rw [del_ne e]; exact h2⟩
theorem rel_del (R : RelS K H S) : RelS K H (del S a) := fun b w e => by
  by_cases hb : b = a
  · rw [hb, del_same] at e; cases e
  · rw [del_ne hb] at e
    exact soOk_step R step_del (R b w e) fun x hx => hx
theorem rp_frozen (R : RelS K H S) (h : S a = some (.lst ds)) : Rp K H (del S a) (.lst ds) (.ref a) := by
  obtain ⟨vs, e, r⟩ := R a _ h
  exact ⟨a, vs, rfl, .inl ⟨.inl e, del_same⟩, rpL_step R step_del _ _ r⟩
theorem rp_frozenI {C : Str} {ns : List Str} (R : RelS K H S) (h : S a = some (.ins C ns ds)) : Rp K H (del S a) (.inst C ns ds) (.ref a) := by
  obtain ⟨C, dx, fs, c, e, n, r⟩ := R a _ h
  exact ⟨C, a, dx, fs, c, rfl, e, del_same, n, rpL_step R step_del _ _ r⟩
end

/-! ### the state by values -/
abbrev Si := List (Option D)
abbrev DK := D → Sd → Prop
abbrev TED := Si → Sd → DK → Prop
abbrev TTD := Si → Sd → (Bool → Sd → Prop) → Prop
abbrev TAD := Si → Sd → (List D → Sd → Prop) → Prop
structure EndsD where
  nx : Si → Sd → Prop
  rt : DK
  bk : Si → Sd → Prop := fun _ _ => False
  ct : Si → Sd → Prop := fun _ _ => False
abbrev TSD := EndsD → Si → Sd → Prop
/-- an exception by values: its class, its own fields -/
structure Xd where
  cls : Str
  ns : List Str
  xs : List D
abbrev XKD := Xd → Sd → Prop
abbrev WXD := Xd → Si → Sd → Prop

structure Ok (K : PySem.W.Frag) (H : Hp) (S : Sd) (fr : List (V × D)) (σd : Si) (σ : L2.St) : Prop where
  rel : RelS K H S
  fr : ∀ p ∈ fr, Rp K H S p.2 p.1
  len : σd.length = σ.length
  si : ∀ (i : Nat) (d : D), σd[i]? = some (some d) → ∃ v, σ[i]? = some (some v) ∧ Rp K H S d v
/-- the exception's object: its class by the module's name, its own dict bears its fields -/
def RpX (K : PySem.W.Frag) (H : Hp) (S : Sd) (x : Xd) (cls : Value) (od : Option Addr) : Prop :=
  PySem.W.nsIn K mainGlobals x.cls = some (some cls) ∧ (od = none → x.ns = []) ∧ (∀ dx, od = some dx → ∃ fs, H dx = some (.xd fs) ∧ S dx = none ∧ (x.ns = [] ∨ (fs.map Prod.fst = x.ns ∧ RpL K H S x.xs (fs.map Prod.snd))))
/-- what is wished of exceptions: by the heap, by values -/
structure Wi where
  V : L2.WX
  D : WXD
abbrev W0 : Wi := ⟨fun _ _ _ _ => False, fun _ _ _ => False⟩
def Cl (K : PySem.W.Frag) (W : Wi) (fr : List (V × D)) : Prop := ∀ σd σ H S cls od x, Ok K H S fr σd σ → RpX K H S x cls od → W.D x σd S → W.V cls od σ H
theorem Cl.zero {K : PySem.W.Frag} {fr : List (V × D)} : Cl K W0 fr := fun _ _ _ _ _ _ _ _ _ h => h

section
variable {K : PySem.W.Frag} {H H' : Hp} {S S' : Sd} {fr : List (V × D)} {σd : Si} {σ : L2.St} {d : D} {v : V} {W : Wi}
theorem Ok.step (o : Ok K H S fr σd σ) (s : Step H S H' S') (r : RelS K H' S') : Ok K H' S' fr σd σ :=
  ⟨r, fun p hp => rp_step o.rel s _ _ (o.fr p hp), o.len, fun i d e => let ⟨v, h1, h2⟩ := o.si i d e; ⟨v, h1, rp_step o.rel s _ _ h2⟩⟩
theorem Ok.cons (o : Ok K H S fr σd σ) (h : Rp K H S d v) : Ok K H S ((v, d) :: fr) σd σ :=
  ⟨o.rel, fun p hp => by
    rcases List.mem_cons.mp hp with e | hp
    · rw [e]; exact h
    · exact o.fr p hp, o.len, o.si⟩
theorem Ok.tail {q : V × D} (o : Ok K H S (q :: fr) σd σ) : Ok K H S fr σd σ := ⟨o.rel, fun p hp => o.fr p (List.mem_cons_of_mem _ hp), o.len, o.si⟩
theorem Ok.head {q : V × D} (o : Ok K H S (q :: fr) σd σ) : Rp K H S q.2 q.1 := o.fr q List.mem_cons_self
theorem Ok.set (o : Ok K H S fr σd σ) (h : Rp K H S d v) (i : Nat) : Ok K H S fr (σd.set i (some d)) (σ.set i (some v)) := by
  refine ⟨o.rel, o.fr, by rw [List.length_set, List.length_set]; exact o.len, fun j e q => ?_⟩
  by_cases hj : i = j
  · subst hj
    have hl : i < σd.length := by
      rcases Nat.lt_or_ge i σd.length with z | z
      · exact z
      · have w : (σd.set i (some d))[i]? = none := List.getElem?_eq_none (by rw [List.length_set]; exact z)
        rw [w] at q; cases q
    rw [List.getElem?_set_self hl] at q
    cases q
    exact ⟨v, List.getElem?_set_self (by rw [← o.len]; exact hl), h⟩
  · rw [List.getElem?_set_ne hj] at q
    obtain ⟨w, h1, h2⟩ := o.si j e q
    exact ⟨w, by rw [List.getElem?_set_ne hj]; exact h1, h2⟩
theorem Ok.gone (o : Ok K H S fr σd σ) (i : Nat) (w : Option V) : Ok K H S fr (σd.set i none) (σ.set i w) := by
  refine ⟨o.rel, o.fr, by rw [List.length_set, List.length_set]; exact o.len, fun j e q => ?_⟩
  by_cases hj : i = j
  · subst hj
    rcases Nat.lt_or_ge i σd.length with z | z
    · rw [List.getElem?_set_self z] at q; cases q
    · have w : (σd.set i none)[i]? = none := List.getElem?_eq_none (by rw [List.length_set]; exact z)
      rw [w] at q; cases q
  · rw [List.getElem?_set_ne hj] at q
    obtain ⟨w, h1, h2⟩ := o.si j e q
    exact ⟨w, by rw [List.getElem?_set_ne hj]; exact h1, h2⟩
theorem Cl.tail {q : V × D} (c : Cl K W fr) : Cl K W (q :: fr) := fun σd σ H S cls od x o => c σd σ H S cls od x o.tail

/-! ### readings by values, lifted -/
def upE (K : PySem.W.Frag) (W : Wi) (t : TED) : TE := fun σ H Qv => ∃ σd S fr Qd, Ok K H S fr σd σ ∧ Cl K W fr ∧ t σd S Qd ∧ ∀ v d H' S', Ok K H' S' fr σd σ → Rp K H' S' d v → Qd d S' → Qv v H'
def upT (K : PySem.W.Frag) (W : Wi) (t : TTD) : TT := fun σ H Qv => ∃ σd S fr Qd, Ok K H S fr σd σ ∧ Cl K W fr ∧ t σd S Qd ∧ ∀ b H' S', Ok K H' S' fr σd σ → Qd b S' → Qv b H'
def upA (K : PySem.W.Frag) (W : Wi) (t : TAD) : TA := fun σ H Qv => ∃ σd S fr Qd, Ok K H S fr σd σ ∧ Cl K W fr ∧ t σd S Qd ∧ ∀ vs ds H' S', Ok K H' S' fr σd σ → RpL K H' S' ds vs → Qd ds S' → Qv vs H'
structure EndOk (K : PySem.W.Frag) (fr : List (V × D)) (Dd : EndsD) (D : Ends) : Prop where
  nx : ∀ σd σ H S, Ok K H S fr σd σ → Dd.nx σd S → D.nx σ H
  rt : ∀ v d σd σ H S, Ok K H S fr σd σ → Rp K H S d v → Dd.rt d S → D.rt v H
  bk : ∀ σd σ H S, Ok K H S fr σd σ → Dd.bk σd S → D.bk σ H
  ct : ∀ σd σ H S, Ok K H S fr σd σ → Dd.ct σd S → D.ct σ H
def upSt (K : PySem.W.Frag) (W : Wi) (t : TSD) : TS := fun D σ H => ∃ σd S fr Dd, Ok K H S fr σd σ ∧ Cl K W fr ∧ t Dd σd S ∧ EndOk K fr Dd D
end

theorem PE.imp {X : Cx} {e : Expr} {t t' : TE} (h : PE X e t) (k : ∀ σ H Q, t' σ H Q → t σ H Q) : PE X e t' := ⟨fun pins s σ H Q I q => h.run pins s σ H Q I (k _ _ _ q)⟩
theorem PT.imp {X : Cx} {e : Expr} {t t' : TT} (h : PT X e t) (k : ∀ σ H Q, t' σ H Q → t σ H Q) : PT X e t' := ⟨fun pins s σ H Q I q => h.run pins s σ H Q I (k _ _ _ q)⟩
theorem PW.imp {X : Cx} {e : Expr} {t t' : TT} (h : PW X e t) (k : ∀ σ H Q, t' σ H Q → t σ H Q) : PW X e t' := ⟨fun wh pins s σ H Q I q => h.run wh pins s σ H Q I (k _ _ _ q)⟩
theorem PA.imp {X : Cx} {e : List Expr} {t t' : TA} (h : PA X e t) (k : ∀ σ H Q, t' σ H Q → t σ H Q) : PA X e t' := ⟨fun pos pins s σ H Q I q => h.run pos pins s σ H Q I (k _ _ _ q)⟩
theorem PS.imp {X : Cx} {e : Stmt} {t t' : TS} (h : PS X e t) (k : ∀ D σ H, t' D σ H → t D σ H) : PS X e t' := ⟨fun pins s σ H D I q => h.run pins s σ H D I (k _ _ _ q)⟩
theorem PSs.imp {X : Cx} {e : List Stmt} {t t' : TS} (h : PSs X e t) (k : ∀ D σ H, t' D σ H → t D σ H) : PSs X e t' := ⟨fun pins s σ H D I q => h.run pins s σ H D I (k _ _ _ q)⟩

structure DE (X : Cx) (W : Wi) (e : Expr) (t : TED) : Prop where
  p : PE X e (upE X.K W t)
structure DT (X : Cx) (W : Wi) (e : Expr) (t : TTD) : Prop where
  p : PT X e (upT X.K W t)
structure DW (X : Cx) (W : Wi) (e : Expr) (t : TTD) : Prop where
  p : PW X e (upT X.K W t)
structure DA (X : Cx) (W : Wi) (es : List Expr) (t : TAD) : Prop where
  p : PA X es (upA X.K W t)
structure DS (X : Cx) (W : Wi) (s : Stmt) (t : TSD) : Prop where
  p : PS X s (upSt X.K W t)
structure DB (X : Cx) (W : Wi) (s : List Stmt) (t : TSD) : Prop where
  p : PSs X s (upSt X.K W t)
end Dv

/-! Readings by value, 1: expressions, tests, operators, displays, subscripts. -/
namespace Dv
open PySem L2 PyProof.Rows

theorem sl_eq : sizeLine = 16777216 := sizeLine_eq
theorem sz_le {n : Nat} (h : n ≤ 16777216) : n ≤ sizeLine := by rw [sl_eq]; exact h
theorem sz_lt' {n : Nat} (h : n < 16777216) : n < sizeLine := by rw [sl_eq]; exact h

section
variable {X : Cx} {W : Wi} {a b c e : Expr} {ta tb tc : TED} {tA tB : TTD} {pos : Pos} {es : List Expr}

/-! ### names, constants -/
def dVar (i : Nat) : TED := fun σ S Q => match σ[i]? with
  | some (some d) => Q d S
  | _ => False
theorem dVar_of {i : Nat} {σ : Si} {S : Sd} {Q : DK} {d : D} (h : σ[i]? = some (some d)) : dVar i σ S Q = Q d S := by unfold dVar; rw [h]
theorem dVar_inv {i : Nat} {σ : Si} {S : Sd} {Q : DK} (h : dVar i σ S Q) : ∃ d, σ[i]? = some (some d) ∧ Q d S := by
  unfold dVar at h
  split at h
  · exact ⟨_, by assumption, h⟩
  · exact h.elim
theorem dv (i : Nat) {x : Str} {pos : Pos} (hN : X.N[i]? = some x := by rfl) (hv : Vis X.env.scope x := by first | exact Or.inl rfl | exact Or.inr (Or.inl rfl) | exact Or.inr (Or.inr rfl)) (hd : (x == ("__debug__" : Str)) = false := by decide)
    (hcd : (x == ("__classdict__" : Str)) = false := by decide) : DE X W (.Name x pos) (dVar i) :=
  ⟨PE.imp (pe_var hN hv hd hcd) fun σ H Q ⟨σd, S, fr, Qd, ok, cl, h, k⟩ => by
    obtain ⟨d, e, q⟩ := dVar_inv h
    obtain ⟨v, e2, r⟩ := ok.si i d e
    exact ⟨v, e2, k v d H S ok r q⟩⟩
def dC (d : D) : TED := fun _ S Q => Q d S
theorem de_c {v : V} {d : D} (h : PE X e (tC v)) (r : ∀ H S, Rp X.K H S d v) : DE X W e (dC d) :=
  ⟨PE.imp h fun σ H Q ⟨σd, S, fr, Qd, ok, cl, q, k⟩ => k v d H S ok (r H S) q⟩
theorem de_int {i j pos} : DE X W (.Constant (.int i) j pos) (dC (.int i)) := de_c pe_int fun _ _ => rfl
theorem de_bl {i j pos} : DE X W (.Constant (.bool i) j pos) (dC (.bl i)) := de_c pe_bl fun _ _ => rfl
theorem de_non {j pos} : DE X W (.Constant .none j pos) (dC .non) := de_c pe_non fun _ _ => rfl
/-- a module's constant -/
theorem de_k {x : Str} {v : V} {d : D} {u : Value} {pos : Pos} (hg : Gl X x) (hm : X.mg x = some u) (r : RelV v u) (kr : ∀ H S, Rp X.K H S d v) (hd : (x == ("__debug__" : Str)) = false := by decide) : DE X W (.Name x pos) (dC d) := de_c (pe_glob hg hm r hd) kr
/-- a built-in class as a value -/
theorem de_ty {x : Str} {n : String} {pos : Pos} (hg : Gl X x) (hm : X.mg x = none) (hv : bootBuiltins x = some (.type n)) (hn : x ≠ "__name__" := by decide) (hd : (x == ("__debug__" : Str)) = false := by decide) : DE X W (.Name x pos) (dC (.ty n)) :=
  de_c (pe_bltn (v := .ty n) hg hm hv rfl hn hd) fun _ _ => rfl

/-! ### operators -/
abbrev RD2 := D → D → Sd → DK → Prop
def Lift2 (K : PySem.W.Frag) (r : R2) (rd : RD2) : Prop := ∀ H S fr σd σ x y dx dy Qv Qd, Ok K H S fr σd σ → Rp K H S dx x → Rp K H S dy y → rd dx dy S Qd →
  (∀ v d H' S', Ok K H' S' fr σd σ → Rp K H' S' d v → Qd d S' → Qv v H') → r x y H Qv
def OpD (X : Cx) (f : Value → Value → Sem Value) (rd : RD2) : Prop := ∃ r : R2, OpR X f r ∧ Lift2 X.K r rd
def dOp (rd : RD2) (ta tb : TED) : TED := fun σ S Q => ta σ S fun x S1 => tb σ S1 fun y S2 => rd x y S2 Q
theorem op2_lift {r : R2} {rd : RD2} (l : Lift2 X.K r rd) (σ : L2.St) (H : Hp) (Q : VK) (h : upE X.K W (dOp rd ta tb) σ H Q) : tOp r (upE X.K W ta) (upE X.K W tb) σ H Q := by
  obtain ⟨σd, S, fr, Qd, ok, cl, h, k⟩ := h
  refine ⟨σd, S, fr, _, ok, cl, h, fun x dx H1 S1 ok1 r1 h1 => ?_⟩
  refine ⟨σd, S1, (x, dx) :: fr, _, ok1.cons r1, cl.tail, h1, fun y dy H2 S2 ok2 r2 h2 => ?_⟩
  exact l H2 S2 fr σd σ x y dx dy Q Qd ok2.tail ok2.head r2 h2 k
theorem de_op {op : Operator} {rd : RD2} (ho : OpD X (binaryOp op) rd) (ha : DE X W a ta) (hb : DE X W b tb) : DE X W (.BinOp a op b pos) (dOp rd ta tb) := by
  obtain ⟨r, ho, l⟩ := ho
  exact ⟨PE.imp (pe_op ho ha.p hb.p) (op2_lift l)⟩
theorem de_cmp {op : CmpOp} {rd : RD2} (ho : OpD X (compareOp op) rd) (ha : DE X W a ta) (hb : DE X W b tb) (hm : behindInMarks op b = false) : DE X W (.Compare a [op] [b] pos) (dOp rd ta tb) := by
  obtain ⟨r, ho, l⟩ := ho
  exact ⟨PE.imp (pe_cmpR ho ha.p hb.p hm) (op2_lift l)⟩
/-- a value that is a truth, as a test -/
def dTest (t : TED) : TTD := fun σ S Q => t σ S fun x S1 => match x with
  | .bl k => Q k S1
  | _ => False
theorem test_lift {t : TED} (σ : L2.St) (H : Hp) (Q : Bool → Hp → Prop) (h : upT X.K W (dTest t) σ H Q) : tTest (upE X.K W t) σ H Q := by
  obtain ⟨σd, S, fr, Qd, ok, cl, h, k⟩ := h
  refine ⟨σd, S, fr, _, ok, cl, h, fun x dx H1 S1 ok1 r1 h1 => ?_⟩
  cases dx with
  | bl b => exact ⟨b, r1, k b H1 S1 ok1 h1⟩
  | _ => exact (show False from h1).elim
theorem tTest_mono {t t' : TE} (h : ∀ σ H Q, t' σ H Q → t σ H Q) (σ : L2.St) (H : Hp) (Q : Bool → Hp → Prop) (q : tTest t' σ H Q) : tTest t σ H Q := h σ H _ q
theorem dt_cmp {op : CmpOp} {rd : RD2} (ho : OpD X (compareOp op) rd) (ha : DE X W a ta) (hb : DE X W b tb) (hm : behindInMarks op b = false) : DT X W (.Compare a [op] [b] pos) (dTest (dOp rd ta tb)) := by
  obtain ⟨r, ho, l⟩ := ho
  exact ⟨PT.imp (pt_cmpR ho ha.p hb.p hm) fun σ H Q h => tTest_mono (op2_lift l) σ H Q (test_lift σ H Q h)⟩
/-- an expression whose value is a truth, as a test -/
theorem dt_val {t : TED} (h : DE X W e t) (he : ∀ whole, isTrue e X.env whole = (do let v ← whole; standAt e.pos; holding [v] (truthy v)) := by intro _; rfl) : DT X W e (dTest t) :=
  ⟨PT.imp (pt_val h.p he) fun σ H Q q => test_lift σ H Q q⟩
def dUn (rd : D → Sd → DK → Prop) (ta : TED) : TED := fun σ S Q => ta σ S fun x S1 => rd x S1 Q
def Lift1 (K : PySem.W.Frag) (r : V → Hp → VK → Prop) (rd : D → Sd → DK → Prop) : Prop := ∀ H S fr σd σ x dx Qv Qd, Ok K H S fr σd σ → Rp K H S dx x → rd dx S Qd →
  (∀ v d H' S', Ok K H' S' fr σd σ → Rp K H' S' d v → Qd d S' → Qv v H') → r x H Qv
theorem de_un {op : UnaryOp} {r : V → Hp → VK → Prop} {rd : D → Sd → DK → Prop} (ho : UnR X (unaryOp op) r) (l : Lift1 X.K r rd) (ha : DE X W a ta) : DE X W (.UnaryOp op a pos) (dUn rd ta) :=
  ⟨PE.imp (pe_un ho ha.p) fun σ H Q ⟨σd, S, fr, Qd, ok, cl, h, k⟩ => ⟨σd, S, fr, _, ok, cl, h, fun x dx H1 S1 ok1 r1 h1 => l H1 S1 fr σd σ x dx Q Qd ok1 r1 h1 k⟩⟩
def rdNeg : D → Sd → DK → Prop
  | .int i, S, Q => Q (.int (-i)) S
  | _, _, _ => False
theorem de_neg (ha : DE X W a ta) : DE X W (.UnaryOp .USub a pos) (dUn rdNeg ta) := de_un un_neg (fun H S fr σd σ x dx Qv Qd ok r h k => by
  cases dx with
  | int i => exact ⟨i, r, k _ (.int (-i)) H S ok rfl h⟩
  | _ => exact (show False from h).elim) ha

/-! ### and, or, not -/
def dAndV (ta tb : TED) : TED := fun σ S Q => ta σ S fun x S1 => match x with
  | .bl k => if k = true then tb σ S1 Q else Q (.bl false) S1
  | _ => False
def dOrV (ta tb : TED) : TED := fun σ S Q => ta σ S fun x S1 => match x with
  | .bl k => if k = true then Q (.bl true) S1 else tb σ S1 Q
  | _ => False
def dNotV (ta : TED) : TED := fun σ S Q => ta σ S fun x S1 => match x with
  | .bl k => Q (.bl (!k)) S1
  | _ => False
theorem de_one {op : BoolOp} (h : DE X W a ta) : DE X W (.BoolOp op [a] pos) ta := ⟨pe_one h.p⟩
theorem de_and {rest : List Expr} (ha : DE X W a ta) (hb : DE X W (.BoolOp .And (b :: rest) pos) tb) : DE X W (.BoolOp .And (a :: b :: rest) pos) (dAndV ta tb) :=
  ⟨PE.imp (pe_and ha.p hb.p) fun σ H Q ⟨σd, S, fr, Qd, ok, cl, h, k⟩ => ⟨σd, S, fr, _, ok, cl, h, fun x dx H1 S1 ok1 r1 h1 => by
    cases dx with
    | bl b =>
      refine ⟨b, r1, ?_⟩
      cases b with
      | true => exact (if_pos rfl : _ = _) ▸ ⟨σd, S1, fr, Qd, ok1, cl, (show tb σd S1 Qd from by simpa using h1), k⟩
      | false => exact (show Q (.bl false) H1 from k _ (.bl false) H1 S1 ok1 rfl (by simpa using h1))
    | _ => exact (show False from h1).elim⟩⟩
theorem de_not (ha : DE X W a ta) : DE X W (.UnaryOp .Not a pos) (dNotV ta) :=
  ⟨PE.imp (pe_not ha.p) fun σ H Q ⟨σd, S, fr, Qd, ok, cl, h, k⟩ => ⟨σd, S, fr, _, ok, cl, h, fun x dx H1 S1 ok1 r1 h1 => by
    cases dx with
    | bl b => exact ⟨b, r1, k _ (.bl (!b)) H1 S1 ok1 rfl h1⟩
    | _ => exact (show False from h1).elim⟩⟩
def dAnd (t u : TTD) : TTD := fun σ S Q => t σ S fun k S1 => if k = true then u σ S1 Q else Q false S1
def dOr (t u : TTD) : TTD := fun σ S Q => t σ S fun k S1 => if k = true then Q true S1 else u σ S1 Q
def dNot (t : TTD) : TTD := fun σ S Q => t σ S fun k S1 => Q (!k) S1
theorem DW.pt (h : DW X W e tA) : DT X W e tA := ⟨h.p.pt⟩
theorem dw_and1 (ha : DT X W a tA) : DW X W (.BoolOp .And [a] pos) tA := ⟨pw_and1 ha.p⟩
theorem dw_or1 (ha : DT X W a tA) : DW X W (.BoolOp .Or [a] pos) tA := ⟨pw_or1 ha.p⟩
theorem dw_and {rest : List Expr} (ha : DT X W a tA) (hb : DW X W (.BoolOp .And (b :: rest) pos) tB) : DW X W (.BoolOp .And (a :: b :: rest) pos) (dAnd tA tB) :=
  ⟨PW.imp (pw_and ha.p hb.p) fun σ H Q ⟨σd, S, fr, Qd, ok, cl, h, k⟩ => ⟨σd, S, fr, _, ok, cl, h, fun c H1 S1 ok1 h1 => by
    cases c with
    | true => exact (show upT X.K W tB σ H1 Q from ⟨σd, S1, fr, Qd, ok1, cl, (show tB σd S1 Qd from by simpa using h1), k⟩)
    | false => exact (show Q false H1 from k false H1 S1 ok1 (by simpa using h1))⟩⟩
theorem dw_or {rest : List Expr} (ha : DT X W a tA) (hb : DW X W (.BoolOp .Or (b :: rest) pos) tB) : DW X W (.BoolOp .Or (a :: b :: rest) pos) (dOr tA tB) :=
  ⟨PW.imp (pw_or ha.p hb.p) fun σ H Q ⟨σd, S, fr, Qd, ok, cl, h, k⟩ => ⟨σd, S, fr, _, ok, cl, h, fun c H1 S1 ok1 h1 => by
    cases c with
    | false => exact (show upT X.K W tB σ H1 Q from ⟨σd, S1, fr, Qd, ok1, cl, (show tB σd S1 Qd from by simpa using h1), k⟩)
    | true => exact (show Q true H1 from k true H1 S1 ok1 (by simpa using h1))⟩⟩
theorem dt_not (ha : DT X W a tA) : DT X W (.UnaryOp .Not a pos) (dNot tA) :=
  ⟨PT.imp (pt_not ha.p) fun σ H Q ⟨σd, S, fr, Qd, ok, cl, h, k⟩ => ⟨σd, S, fr, _, ok, cl, h, fun c H1 S1 ok1 h1 => k (!c) H1 S1 ok1 h1⟩⟩
def dIf (t : TTD) (ta tb : TED) : TED := fun σ S Q => t σ S fun k S1 => if k = true then ta σ S1 Q else tb σ S1 Q
/-! ### arguments, displays -/
def dNil : TAD := fun _ S Q => Q [] S
def dCons (ta : TED) (tr : TAD) : TAD := fun σ S Q => ta σ S fun x S1 => tr σ S1 fun xs S2 => Q (x :: xs) S2
theorem da_nil : DA X W [] dNil := ⟨PA.imp pa_nil fun σ H Q ⟨σd, S, fr, Qd, ok, cl, h, k⟩ => k [] [] H S ok rfl h⟩
theorem da_cons {tr : TAD} (ha : DE X W a ta) (hr : DA X W es tr) (hs : starEach (a :: es) X.env = (false, eval a X.env) :: starEach es X.env := by rfl) : DA X W (a :: es) (dCons ta tr) :=
  ⟨PA.imp (pa_cons ha.p hr.p hs) fun σ H Q ⟨σd, S, fr, Qd, ok, cl, h, k⟩ => ⟨σd, S, fr, _, ok, cl, h, fun x dx H1 S1 ok1 r1 h1 =>
    ⟨σd, S1, (x, dx) :: fr, _, ok1.cons r1, cl.tail, h1, fun vs ds H2 S2 ok2 r2 h2 => k (x :: vs) (dx :: ds) H2 S2 ok2.tail (rpL_cons ok2.head r2) h2⟩⟩⟩
def dTup (t : TAD) : TED := fun σ S Q => t σ S fun ds S1 => ds.length ≤ 16777216 ∧ Q (.tup ds) S1
def dLst (t : TAD) : TED := fun σ S Q => t σ S fun ds S1 => ds.length ≤ 16777216 ∧ Q (.lst ds) S1
/-- an owned list -/
def dLstO (t : TAD) : TED := fun σ S Q => t σ S fun ds S1 => ds.length ≤ 16777216 ∧ ∀ p, S1 p = none → Q (.obj p) (upS S1 p (.lst ds))
theorem rp_tupNew {K : PySem.W.Frag} {H : Hp} {S : Sd} {p : Addr} {vs : List V} {ds : List D} (R : RelS K H S) (hp : H p = none) (r : RpL K H S ds vs) : Rp K (upd H p (.tup vs)) S (.tup ds) (.ref p) :=
  ⟨p, vs, rfl, SqT.of upd_same, rpL_step R (step_new hp) _ _ r⟩
theorem rp_lstNew {K : PySem.W.Frag} {H : Hp} {S : Sd} {p : Addr} {vs : List V} {ds : List D} (R : RelS K H S) (hp : H p = none) (r : RpL K H S ds vs) : Rp K (upd H p (.lst vs)) S (.lst ds) (.ref p) :=
  ⟨p, vs, rfl, .inl ⟨.inl upd_same, R.free hp⟩, rpL_step R (step_new hp) _ _ r⟩
theorem Ok.new {K : PySem.W.Frag} {H : Hp} {S : Sd} {fr : List (V × D)} {σd : Si} {σ : L2.St} {p : Addr} {o : HO} (ok : Ok K H S fr σd σ) (hp : H p = none) : Ok K (upd H p o) S fr σd σ := ok.step (step_new hp) (rel_new ok.rel hp)
theorem soOk_new {K : PySem.W.Frag} {H : Hp} {S : Sd} {p : Addr} {vs : List V} {ds : List D} (R : RelS K H S) (hp : H p = none) (r : RpL K H S ds vs) : SoOk K (upd H p (.lst vs)) (upS S p (.lst ds)) p (.lst ds) :=
  ⟨vs, upd_same, rpL_step R (step_own hp) _ _ r⟩
theorem Ok.own {K : PySem.W.Frag} {H : Hp} {S : Sd} {fr : List (V × D)} {σd : Si} {σ : L2.St} {p : Addr} {vs : List V} {ds : List D} (ok : Ok K H S fr σd σ) (hp : H p = none) (r : RpL K H S ds vs) :
    Ok K (upd H p (.lst vs)) (upS S p (.lst ds)) fr σd σ := ok.step (step_own hp) (rel_own ok.rel hp (soOk_new ok.rel hp r))
theorem de_tup {x1 : Nat} {t : TAD} (h : DA X W es t) : DE X W (.Tuple es x1 pos) (dTup t) :=
  ⟨PE.imp (pe_tup h.p) fun σ H Q ⟨σd, S, fr, Qd, ok, cl, h, k⟩ => ⟨σd, S, fr, _, ok, cl, h, fun vs ds H1 S1 ok1 r1 h1 => ⟨sz_le (by rw [← rpL_len r1]; exact h1.1), fun p hp =>
    k (.ref p) (.tup ds) _ S1 (ok1.new hp) (rp_tupNew ok1.rel hp r1) h1.2⟩⟩⟩
theorem de_lst {t : TAD} (h : DA X W es t) : DE X W (.List es pos) (dLst t) :=
  ⟨PE.imp (pe_lst h.p) fun σ H Q ⟨σd, S, fr, Qd, ok, cl, h, k⟩ => ⟨σd, S, fr, _, ok, cl, h, fun vs ds H1 S1 ok1 r1 h1 => ⟨sz_le (by rw [← rpL_len r1]; exact h1.1), fun p hp =>
    k (.ref p) (.lst ds) _ S1 (ok1.new hp) (rp_lstNew ok1.rel hp r1) h1.2⟩⟩⟩
theorem de_lstO {t : TAD} (h : DA X W es t) : DE X W (.List es pos) (dLstO t) :=
  ⟨PE.imp (pe_lst h.p) fun σ H Q ⟨σd, S, fr, Qd, ok, cl, h, k⟩ => ⟨σd, S, fr, _, ok, cl, h, fun vs ds H1 S1 ok1 r1 h1 => ⟨sz_le (by rw [← rpL_len r1]; exact h1.1), fun p hp =>
    k (.ref p) (.obj p) _ (upS S1 p (.lst ds)) (ok1.own hp r1) rfl (h1.2 p (ok1.rel.free hp))⟩⟩⟩
end

/-! ### the arithmetic operators -/
/-- the items of a sequence -/
def itemsD (S : Sd) : D → Option (List D)
  | .tup ds => some ds
  | .lst ds => some ds
  | .obj a => match S a with
    | some (.lst ds) => some ds
    | _ => none
  | _ => none
section
variable {K : PySem.W.Frag} {H : Hp} {S : Sd} {fr : List (V × D)} {σd : Si} {σ : L2.St} {d : D} {v : V} {ds : List D}
/-- a list's items by the heap -/
theorem rp_list (R : RelS K H S) (h : Rp K H S (.lst ds) v) : ∃ a vs, v = .ref a ∧ SqL K H a vs ∧ RpL K H S ds vs := by
  obtain ⟨a, vs, e, q, r⟩ := h
  refine ⟨a, vs, e, ?_, r⟩
  rcases q with ⟨q, _⟩ | q
  · exact .inl q
  · exact .inr q
theorem rp_obj (R : RelS K H S) {a : Addr} (e : S a = some (.lst ds)) : ∃ vs, H a = some (.lst vs) ∧ RpL K H S ds vs := R a _ e
theorem rp_items (R : RelS K H S) (h : Rp K H S d v) (e : itemsD S d = some ds) : ∃ a vs, v = .ref a ∧ (SqL K H a vs ∨ SqT K H a vs) ∧ RpL K H S ds vs := by
  cases d with
  | tup xs =>
    cases e
    obtain ⟨a, vs, e, q, r⟩ := h
    exact ⟨a, vs, e, .inr q, r⟩
  | lst xs =>
    cases e
    obtain ⟨a, vs, e, q, r⟩ := rp_list R h
    exact ⟨a, vs, e, .inl q, r⟩
  | obj a =>
    have e' : (match S a with | some (.lst ds) => some ds | _ => none) = some ds := e
    split at e'
    · rename_i xs q
      cases e'
      obtain ⟨vs, q1, q2⟩ := rp_obj R q
      exact ⟨a, vs, h, .inl (.inl (.inl q1)), q2⟩
    · cases e'
  | _ => cases e
end

/-- the items of a list -/
def lstD (S : Sd) : D → Option (List D)
  | .lst ds => some ds
  | .obj a => match S a with
    | some (.lst ds) => some ds
    | _ => none
  | _ => none
theorem rp_lstD {K : PySem.W.Frag} {H : Hp} {S : Sd} {d : D} {v : V} {ds : List D} (R : RelS K H S) (h : Rp K H S d v) (e : lstD S d = some ds) : ∃ a vs, v = .ref a ∧ SqL K H a vs ∧ RpL K H S ds vs := by
  cases d with
  | lst xs =>
    cases e
    exact rp_list R h
  | obj a =>
    have e' : (match S a with | some (.lst ds) => some ds | _ => none) = some ds := e
    split at e'
    · rename_i xs q
      cases e'
      obtain ⟨vs, q1, q2⟩ := rp_obj R q
      exact ⟨a, vs, h, .inl (.inl q1), q2⟩
    · cases e'
  | _ => cases e
def catD (Q : DK) (S : Sd) : Option (List D) → Option (List D) → Prop
  | some a, some b => a.length + b.length ≤ 16777216 ∧ Q (.lst (a ++ b)) S
  | _, _ => False
theorem catD_inv {Q : DK} {S : Sd} : ∀ {o u : Option (List D)}, catD Q S o u → ∃ a b, o = some a ∧ u = some b ∧ a.length + b.length ≤ 16777216 ∧ Q (.lst (a ++ b)) S
  | some a, some b, h => ⟨a, b, rfl, rfl, h.1, h.2⟩
  | none, _, h => h.elim
  | some _, none, h => h.elim
def rdAdd : RD2 := fun x y S Q => match x, y with
  | .int i, .int j => Q (.int (i + j)) S
  | .int i, .bl k => Q (.int (i + b2i k)) S
  | .str x, .str y => x.length + y.length ≤ 16777216 ∧ Q (.str (x ++ y)) S
  | .tup x, .tup y => x.length + y.length ≤ 16777216 ∧ Q (.tup (x ++ y)) S
  | x, y => catD Q S (lstD S x) (lstD S y)
def rdSub : RD2
  | .int i, .int j, S, Q => Q (.int (i - j)) S
  | _, _, _, _ => False
def rdFdiv : RD2
  | .int i, .int j, S, Q => (j ≠ 0 ∧ j.natAbs.log2 < 9000) ∧ Q (.int (i.fdiv j)) S
  | _, _, _, _ => False
def rdMod : RD2
  | .int i, .int j, S, Q => j ≠ 0 ∧ Q (.int (i.fmod j)) S
  | _, _, _, _ => False
def rdPow : RD2
  | .int i, .int j, S, Q => (0 ≤ j ∧ ((i.natAbs.log2 : Int) + 1) * j ≤ 134217728) ∧ Q (.int (i ^ j.toNat)) S
  | _, _, _, _ => False
def rdShl : RD2
  | .int i, .int j, S, Q => (0 ≤ j ∧ j ≤ 1000000 ∧ i.natAbs < 2 ^ 64) ∧ Q (.int (i * 2 ^ j.toNat)) S
  | _, _, _, _ => False
section
variable {X : Cx}
theorem od_sub : OpD X (binaryOp .Sub) rdSub := ⟨_, op_sub, fun H S fr σd σ x y dx dy Qv Qd ok rx ry h k => by
  cases dx with
  | int i =>
    cases dy with
    | int j => exact ⟨i, j, rx, ry, k _ (.int (i - j)) H S ok rfl h⟩
    | _ => exact (show False from h).elim
  | _ => cases dy <;> exact (show False from h).elim⟩
theorem od_fdiv : OpD X (binaryOp .FloorDiv) rdFdiv := ⟨rI (fun _ j => j ≠ 0 ∧ j.natAbs.log2 < 9000) fun i j => .int (i.fdiv j), opI (fun i j t u s Q E hc q => floordiv_int hc.1 q (.inl (PyProof.noPylong_of_log2 hc.2))), fun H S fr σd σ x y dx dy Qv Qd ok rx ry h k => by
  cases dx with
  | int i =>
    cases dy with
    | int j => exact ⟨i, j, rx, ry, h.1, k _ (.int (i.fdiv j)) H S ok rfl h.2⟩
    | _ => exact (show False from h).elim
  | _ => cases dy <;> exact (show False from h).elim⟩
theorem od_mod : OpD X (binaryOp .Mod) rdMod := ⟨_, op_modN, fun H S fr σd σ x y dx dy Qv Qd ok rx ry h k => by
  cases dx with
  | int i =>
    cases dy with
    | int j => exact ⟨i, j, rx, ry, h.1, k _ (.int (i.fmod j)) H S ok rfl h.2⟩
    | _ => exact (show False from h).elim
  | _ => cases dy <;> exact (show False from h).elim⟩
theorem bits_le (x : Int) : Builtin.Int.intBits x ≤ x.natAbs.log2 + 1 := by
  unfold Builtin.Int.intBits
  split <;> omega
theorem od_pow : OpD X (binaryOp .Pow) rdPow := ⟨rI (fun i j => 0 ≤ j ∧ ((i.natAbs.log2 : Int) + 1) * j ≤ 134217728) fun i j => .int (i ^ j.toNat), opI (fun i j t u s Q E hc q => pow_int hc.1 (by
    have h1 := bits_le i
    have h2 : (Builtin.Int.intBits i : Int) * j ≤ ((i.natAbs.log2 : Int) + 1) * j := Int.mul_le_mul_of_nonneg_right (by omega) hc.1
    have h3 := hc.2
    have h4 : (2 : Int) ^ 27 = 134217728 := by decide
    omega) q), fun H S fr σd σ x y dx dy Qv Qd ok rx ry h k => by
  cases dx with
  | int i =>
    cases dy with
    | int j => exact ⟨i, j, rx, ry, h.1, k _ (.int (i ^ j.toNat)) H S ok rfl h.2⟩
    | _ => exact (show False from h).elim
  | _ => cases dy <;> exact (show False from h).elim⟩
theorem od_shl : OpD X (binaryOp .LShift) rdShl := ⟨_, op_shl, fun H S fr σd σ x y dx dy Qv Qd ok rx ry h k => by
  cases dx with
  | int i =>
    cases dy with
    | int j => exact ⟨i, j, rx, ry, h.1, k _ (.int (i * 2 ^ j.toNat)) H S ok rfl h.2⟩
    | _ => exact (show False from h).elim
  | _ => cases dy <;> exact (show False from h).elim⟩
/-- two lists, tracked or not -/
def rCatL (K : PySem.W.Frag) : R2 := fun x y H Q => ∃ l b xs zs, x = .ref l ∧ y = .ref b ∧ SqL K H l xs ∧ SqL K H b zs ∧ xs.length + zs.length ≤ sizeLine ∧ ∀ p, H p = none → Q (.ref p) (upd H p (.lst (xs ++ zs)))
theorem op_catL : OpR X (binaryOp .Add) (rCatL X.K) := by
  intro pins s σ H x y v u Q I rx ry h
  obtain ⟨l, b, xs, zs, rfl, rfl, hH, hB, hz, q⟩ := h
  cases rx
  cases ry
  obtain ⟨its, r, ⟨o1, n1, e1, c1, d1, f1⟩, z1⟩ := I.list hH
  obtain ⟨its2, r2, ⟨o2, n2, e2, c2, d2, f2⟩, z2⟩ := I.list hB
  obtain ⟨cls, dd, data, sl⟩ := o1
  obtain ⟨cls2, dd2, data2, sl2⟩ := o2
  simp only at c1 d1 f1 c2 d2 f2
  subst c1 d1 f1 c2 d2 f2
  have ea : its.toArray ++ its2.toArray = (its ++ its2).toArray := by simp
  have l1 := r.length
  have l2 := r2.length
  refine concat_meets ⟨_, e1, rfl⟩ ⟨_, e2, rfl⟩ noFill_list_add seq_list_add PySem.F.slot_list_add PySem.F.entry_list_add (PySem.F.args_list_add_2 _ _) (list_addW l b its.toArray its2.toArray n1 n2 none none sl sl2 (by simp only [List.size_toArray]; omega)) ⟨e1, e2, ?_⟩
  rw [ea]
  exact ⟨.ref _, _, I.lnew (t' := s.toks) (r.append r2) (by rw [List.length_append]; omega), rfl, q _ I.fresh⟩
theorem od_add : OpD X (binaryOp .Add) rdAdd := by
  refine ⟨_, (op_add (X := X)).or (op_add_ib.or (op_add_str.or (op_catA.or op_catL))), fun H S fr σd σ x y dx dy Qv Qd ok rx ry h k => ?_⟩
  have lists : catD Qd S (lstD S dx) (lstD S dy) → rCatL X.K x y H Qv := fun q => by
    obtain ⟨a, b, h1, h2, h3⟩ := catD_inv q
    obtain ⟨p, vs, e1, q1, r1⟩ := rp_lstD ok.rel rx h1
    obtain ⟨q, ws, e2, q2, r2⟩ := rp_lstD ok.rel ry h2
    exact ⟨p, q, vs, ws, e1, e2, q1, q2, by rw [← rpL_len r1, ← rpL_len r2, sl_eq]; exact h3.1, fun l hl => k _ (.lst (a ++ b)) _ S (ok.new hl) (rp_lstNew ok.rel hl (rpL_app r1 r2)) h3.2⟩
  cases dx with
  | int i =>
    cases dy with
    | int j => exact .inl ⟨i, j, rx, ry, k _ (.int (i + j)) H S ok rfl h⟩
    | bl j => exact .inr (.inl ⟨i, j, rx, ry, k _ (.int (i + b2i j)) H S ok rfl h⟩)
    | _ => exact (show False from h).elim
  | str i =>
    cases dy with
    | str j => exact .inr (.inr (.inl ⟨i, j, rx, ry, by rw [sl_eq]; exact h.1, k _ (.str (i ++ j)) H S ok rfl h.2⟩))
    | _ => exact (show False from h).elim
  | tup xs =>
    cases dy with
    | tup ys =>
      obtain ⟨p, vs, e1, q1, r1⟩ := rx
      obtain ⟨q, ws, e2, q2, r2⟩ := ry
      have h' : xs.length + ys.length ≤ 16777216 ∧ Qd (.tup (xs ++ ys)) S := h
      refine .inr (.inr (.inr (.inl ⟨p, q, vs, ws, e1, e2, q1, q2, by rw [← rpL_len r1, ← rpL_len r2, sl_eq]; exact h'.1, fun e => ?_, fun _ e => ?_, fun _ _ l hl => ?_⟩)))
      · subst e
        have e3 : xs = [] := List.length_eq_zero_iff.mp (rpL_len r1)
        subst e3
        exact k _ (.tup ys) H S ok ⟨q, ws, rfl, q2, r2⟩ h'.2
      · subst e
        have e3 : ys = [] := List.length_eq_zero_iff.mp (rpL_len r2)
        subst e3
        have q := h'.2
        rw [List.append_nil] at q
        exact k _ (.tup xs) H S ok ⟨p, vs, rfl, q1, r1⟩ q
      · exact k _ (.tup (xs ++ ys)) _ S (ok.new hl) (rp_tupNew ok.rel hl (rpL_app r1 r2)) h'.2
    | _ => exact (show False from h).elim
  | lst xs => exact .inr (.inr (.inr (.inr (lists (by cases dy <;> exact h)))))
  | obj p => exact .inr (.inr (.inr (.inr (lists (by cases dy <;> exact h)))))
  | non => exact (by cases dy <;> exact h : False).elim
  | bl b => exact (by cases dy <;> exact h : False).elim
  | tupX ds => exact (by cases dy <;> exact h : False).elim
  | inst C ns ds => exact (by cases dy <;> exact h : False).elim
  | ty n => exact (by cases dy <;> exact h : False).elim
  | exc a od ns xs => exact (by cases dy <;> exact h : False).elim
  | fn x => exact (by cases dy <;> exact h : False).elim
end
end Dv

/-! Readings by value, 2: equality, order, chains, in, subscripts, slices, calls, built-ins. -/
namespace Dv
open PySem L2 PyProof.Rows

/-! ### plain data -/
mutual
def isData : D → Bool
  | .non => true | .bl _ => true | .int _ => true | .str _ => true
  | .tup ds => isDataL ds
  | .lst ds => isDataL ds
  | _ => false
def isDataL : List D → Bool
  | [] => true
  | d :: ds => isData d && isDataL ds
end
mutual
def pd : D → PyData
  | .bl b => .bool b | .int i => .int i | .str x => .str x
  | .tup ds => .tuple (pdL ds)
  | .lst ds => .list (pdL ds)
  | _ => .none
def pdL : List D → List PyData
  | [] => []
  | d :: ds => pd d :: pdL ds
end
mutual
/-- == of data -/
def deq : D → D → Bool
  | .non, .non => true
  | .bl a, .bl b => a == b
  | .bl a, .int j => (if a then 1 else 0) == j
  | .int i, .bl b => i == (if b then 1 else 0)
  | .int i, .int j => i == j
  | .str x, .str y => x == y
  | .tup xs, .tup ys => deqL xs ys
  | .lst xs, .lst ys => deqL xs ys
  | _, _ => false
def deqL : List D → List D → Bool
  | [], [] => true
  | x :: xs, y :: ys => deq x y && deqL xs ys
  | _, _ => false
end
mutual
theorem eqv_pd : ∀ (x y : D), isData x = true → isData y = true → PyData.eqv (pd x) (pd y) = deq x y
  | .tup xs, y, hx, hy => by
    cases y with
    | tup ys =>
      have h1 : isDataL xs = true := hx
      have h2 : isDataL ys = true := hy
      show PyData.eqvAll (pdL xs) (pdL ys) = deqL xs ys
      exact eqv_pdL xs ys h1 h2
    | tupX _ => exact absurd (show false = true from hy) Bool.false_ne_true
    | inst _ _ _ => exact absurd (show false = true from hy) Bool.false_ne_true
    | obj _ => exact absurd (show false = true from hy) Bool.false_ne_true
    | ty _ => exact absurd (show false = true from hy) Bool.false_ne_true
    | exc _ _ _ _ => exact absurd (show false = true from hy) Bool.false_ne_true
    | fn _ => exact absurd (show false = true from hy) Bool.false_ne_true
    | _ => rfl
  | .lst xs, y, hx, hy => by
    cases y with
    | lst ys =>
      have h1 : isDataL xs = true := hx
      have h2 : isDataL ys = true := hy
      show PyData.eqvAll (pdL xs) (pdL ys) = deqL xs ys
      exact eqv_pdL xs ys h1 h2
    | tupX _ => exact absurd (show false = true from hy) Bool.false_ne_true
    | inst _ _ _ => exact absurd (show false = true from hy) Bool.false_ne_true
    | obj _ => exact absurd (show false = true from hy) Bool.false_ne_true
    | ty _ => exact absurd (show false = true from hy) Bool.false_ne_true
    | exc _ _ _ _ => exact absurd (show false = true from hy) Bool.false_ne_true
    | fn _ => exact absurd (show false = true from hy) Bool.false_ne_true
    | _ => rfl
  | .non, y, hx, hy => by
    cases y with
    | tupX _ => exact absurd (show false = true from hy) Bool.false_ne_true
    | inst _ _ _ => exact absurd (show false = true from hy) Bool.false_ne_true
    | obj _ => exact absurd (show false = true from hy) Bool.false_ne_true
    | ty _ => exact absurd (show false = true from hy) Bool.false_ne_true
    | exc _ _ _ _ => exact absurd (show false = true from hy) Bool.false_ne_true
    | fn _ => exact absurd (show false = true from hy) Bool.false_ne_true
    | _ => rfl
  | .bl _, y, hx, hy => by
    cases y with
    | tupX _ => exact absurd (show false = true from hy) Bool.false_ne_true
    | inst _ _ _ => exact absurd (show false = true from hy) Bool.false_ne_true
    | obj _ => exact absurd (show false = true from hy) Bool.false_ne_true
    | ty _ => exact absurd (show false = true from hy) Bool.false_ne_true
    | exc _ _ _ _ => exact absurd (show false = true from hy) Bool.false_ne_true
    | fn _ => exact absurd (show false = true from hy) Bool.false_ne_true
    | _ => rfl
  | .int _, y, hx, hy => by
    cases y with
    | tupX _ => exact absurd (show false = true from hy) Bool.false_ne_true
    | inst _ _ _ => exact absurd (show false = true from hy) Bool.false_ne_true
    | obj _ => exact absurd (show false = true from hy) Bool.false_ne_true
    | ty _ => exact absurd (show false = true from hy) Bool.false_ne_true
    | exc _ _ _ _ => exact absurd (show false = true from hy) Bool.false_ne_true
    | fn _ => exact absurd (show false = true from hy) Bool.false_ne_true
    | _ => rfl
  | .str _, y, hx, hy => by
    cases y with
    | tupX _ => exact absurd (show false = true from hy) Bool.false_ne_true
    | inst _ _ _ => exact absurd (show false = true from hy) Bool.false_ne_true
    | obj _ => exact absurd (show false = true from hy) Bool.false_ne_true
    | ty _ => exact absurd (show false = true from hy) Bool.false_ne_true
    | exc _ _ _ _ => exact absurd (show false = true from hy) Bool.false_ne_true
    | fn _ => exact absurd (show false = true from hy) Bool.false_ne_true
    | _ => rfl
  | .tupX _, y, hx, hy => absurd (show false = true from hx) Bool.false_ne_true
  | .inst _ _ _, y, hx, hy => absurd (show false = true from hx) Bool.false_ne_true
  | .obj _, y, hx, hy => absurd (show false = true from hx) Bool.false_ne_true
  | .ty _, y, hx, hy => absurd (show false = true from hx) Bool.false_ne_true
  | .exc _ _ _ _, y, hx, hy => absurd (show false = true from hx) Bool.false_ne_true
theorem eqv_pdL : ∀ (xs ys : List D), isDataL xs = true → isDataL ys = true → PyData.eqvAll (pdL xs) (pdL ys) = deqL xs ys
  | [], [], _, _ => rfl
  | [], y :: ys, _, _ => rfl
  | x :: xs, [], _, _ => rfl
  | x :: xs, y :: ys, hx, hy => by
    have h1 := Bool.and_eq_true_iff.mp (show (isData x && isDataL xs) = true from hx)
    have h2 := Bool.and_eq_true_iff.mp (show (isData y && isDataL ys) = true from hy)
    show (PyData.eqv (pd x) (pd y) && PyData.eqvAll (pdL xs) (pdL ys)) = (deq x y && deqL xs ys)
    rw [eqv_pd x y h1.1 h2.1, eqv_pdL xs ys h1.2 h2.2]
end
section
variable {K : PySem.W.Frag} {H : Hp} {S : Sd}
mutual
theorem dp_of (R : RelS K H S) : ∀ (d : D) (v : V), isData d = true → Rp K H S d v → Dp K H v (pd d)
  | .non, v, _, h => by
    have e : v = .non := h
    subst e; exact .non
  | .bl b, v, _, h => by
    have e : v = .bl b := h
    subst e; exact .bl b
  | .int i, v, _, h => by
    have e : v = .int i := h
    subst e; exact .int i
  | .str x, v, _, h => by
    have e : v = .str x := h
    subst e; exact .str x
  | .tup ds, v, k, h => by
    obtain ⟨a, vs, e, q, r⟩ := h
    subst e
    exact .tup q (dp_ofL R ds vs k r)
  | .lst ds, v, k, h => by
    obtain ⟨a, vs, e, q, r⟩ := rp_list R h
    subst e
    exact .lst q (dp_ofL R ds vs k r)
  | .tupX _, v, k, _ => absurd (show false = true from k) Bool.false_ne_true
  | .inst _ _ _, v, k, _ => absurd (show false = true from k) Bool.false_ne_true
  | .obj _, v, k, _ => absurd (show false = true from k) Bool.false_ne_true
  | .ty _, v, k, _ => absurd (show false = true from k) Bool.false_ne_true
  | .exc _ _ _ _, v, k, _ => absurd (show false = true from k) Bool.false_ne_true
theorem dp_ofL (R : RelS K H S) : ∀ (ds : List D) (vs : List V), isDataL ds = true → RpL K H S ds vs → DpAll K H vs (pdL ds)
  | [], vs, _, h => by
    have e : vs = [] := h
    subst e; exact .nil
  | d :: ds, vs, k, h => by
    obtain ⟨v, r, e, h1, h2⟩ := h
    subst e
    have k' := Bool.and_eq_true_iff.mp (show (isData d && isDataL ds) = true from k)
    exact .cons (dp_of R d v k'.1 h1) (dp_ofL R ds r k'.2 h2)
end
end
/-- what == may be asked of -/
def eqOk (d : D) : Bool := isData d && SeqAt.shaped (pd d)
def rdEq : RD2 := fun x y S Q => match x, y with
  | .int i, .int j => Q (.bl (decide (i = j))) S
  | .str i, .str j => Q (.bl (decide (i = j))) S
  | .bl i, .bl j => Q (.bl (decide (i = j))) S
  | x, y => (eqOk x = true ∧ eqOk y = true) ∧ Q (.bl (deq x y)) S
def rdNe : RD2 := fun x y S Q => match x, y with
  | .int i, .int j => Q (.bl (!decide (i = j))) S
  | .str i, .str j => Q (.bl (!decide (i = j))) S
  | .bl i, .bl j => Q (.bl (!decide (i = j))) S
  | x, y => (eqOk x = true ∧ eqOk y = true) ∧ Q (.bl (!deq x y)) S
def rdLt : RD2
  | .int i, .int j, S, Q => Q (.bl (decide (i < j))) S
  | _, _, _, _ => False
def rdLe : RD2
  | .int i, .int j, S, Q => Q (.bl (decide (i ≤ j))) S
  | _, _, _, _ => False
def rdGt : RD2
  | .int i, .int j, S, Q => Q (.bl (decide (j < i))) S
  | _, _, _, _ => False
def rdGe : RD2
  | .int i, .int j, S, Q => Q (.bl (decide (j ≤ i))) S
  | _, _, _, _ => False
def rdIsN : RD2
  | x, .non, S, Q => Q (.bl (match x with | .non => true | _ => false)) S
  | _, _, _, _ => False
def rdNotN : RD2
  | x, .non, S, Q => Q (.bl (match x with | .non => false | _ => true)) S
  | _, _, _, _ => False
section
variable {X : Cx}
theorem ordI {f : Value → Value → Sem Value} {g : Int → Int → Bool} {rd : RD2} (ho : OpR X f (rI0 fun i j => .bl (g i j))) (h : ∀ x y S Q, rd x y S Q → ∃ i j, x = .int i ∧ y = .int j ∧ Q (.bl (g i j)) S) : OpD X f rd :=
  ⟨_, ho, fun H S fr σd σ x y dx dy Qv Qd ok rx ry q k => by
    obtain ⟨i, j, rfl, rfl, q'⟩ := h dx dy S Qd q
    exact ⟨i, j, rx, ry, k _ (.bl (g i j)) H S ok rfl q'⟩⟩
theorem od_lt : OpD X (compareOp .Lt) rdLt := ordI op_lt fun x y S Q h => by
  cases x with
  | int i => cases y with
    | int j => exact ⟨i, j, rfl, rfl, h⟩
    | _ => exact (show False from h).elim
  | _ => cases y <;> exact (show False from h).elim
theorem od_le : OpD X (compareOp .LtE) rdLe := ordI op_le fun x y S Q h => by
  cases x with
  | int i => cases y with
    | int j => exact ⟨i, j, rfl, rfl, h⟩
    | _ => exact (show False from h).elim
  | _ => cases y <;> exact (show False from h).elim
theorem od_gt : OpD X (compareOp .Gt) rdGt := ordI op_gt fun x y S Q h => by
  cases x with
  | int i => cases y with
    | int j => exact ⟨i, j, rfl, rfl, h⟩
    | _ => exact (show False from h).elim
  | _ => cases y <;> exact (show False from h).elim
theorem od_ge : OpD X (compareOp .GtE) rdGe := ordI op_ge fun x y S Q h => by
  cases x with
  | int i => cases y with
    | int j => exact ⟨i, j, rfl, rfl, h⟩
    | _ => exact (show False from h).elim
  | _ => cases y <;> exact (show False from h).elim
theorem eq_lift {K : PySem.W.Frag} : Lift2 K (fun x y H Q => rEq x y H Q ∨ rEqD K x y H Q) rdEq := fun H S fr σd σ x y dx dy Qv Qd ok rx ry h k => by
  have gen : (eqOk dx = true ∧ eqOk dy = true) ∧ Qd (.bl (deq dx dy)) S → rEqD K x y H Qv := fun ⟨⟨h1, h2⟩, q⟩ => by
    have a1 := Bool.and_eq_true_iff.mp h1
    have a2 := Bool.and_eq_true_iff.mp h2
    refine ⟨pd dx, pd dy, dp_of ok.rel dx x a1.1 rx, dp_of ok.rel dy y a2.1 ry, a1.2, a2.2, ?_⟩
    rw [eqv_pd dx dy a1.1 a2.1]
    exact k _ (.bl (deq dx dy)) H S ok rfl q
  cases dx with
  | int i => cases dy with
    | int j =>
      have e1 : x = .int i := rx
      have e2 : y = .int j := ry
      subst e1 e2
      refine .inl ⟨rfl, ?_⟩
      refine k _ (.bl (decide (i = j))) H S ok ?_ h
      show V.bl _ = V.bl _
      congr 1
      simp
    | _ => exact .inr (gen h)
  | str i => cases dy with
    | str j =>
      have e1 : x = .str i := rx
      have e2 : y = .str j := ry
      subst e1 e2
      refine .inl ⟨rfl, ?_⟩
      refine k _ (.bl (decide (i = j))) H S ok ?_ h
      show V.bl _ = V.bl _
      congr 1
      simp
    | _ => exact .inr (gen h)
  | bl i => cases dy with
    | bl j =>
      have e1 : x = .bl i := rx
      have e2 : y = .bl j := ry
      subst e1 e2
      refine .inl ⟨rfl, ?_⟩
      refine k _ (.bl (decide (i = j))) H S ok ?_ h
      show V.bl _ = V.bl _
      congr 1
      simp
    | _ => exact .inr (gen h)
  | _ => exact .inr (gen (by cases dy <;> exact h))
theorem ne_lift {K : PySem.W.Frag} : Lift2 K (fun x y H Q => rNe x y H Q ∨ rNeD K x y H Q) rdNe := fun H S fr σd σ x y dx dy Qv Qd ok rx ry h k => by
  have gen : (eqOk dx = true ∧ eqOk dy = true) ∧ Qd (.bl (!deq dx dy)) S → rNeD K x y H Qv := fun ⟨⟨h1, h2⟩, q⟩ => by
    have a1 := Bool.and_eq_true_iff.mp h1
    have a2 := Bool.and_eq_true_iff.mp h2
    refine ⟨pd dx, pd dy, dp_of ok.rel dx x a1.1 rx, dp_of ok.rel dy y a2.1 ry, a1.2, a2.2, ?_⟩
    rw [eqv_pd dx dy a1.1 a2.1]
    exact k _ (.bl (!deq dx dy)) H S ok rfl q
  cases dx with
  | int i => cases dy with
    | int j =>
      have e1 : x = .int i := rx
      have e2 : y = .int j := ry
      subst e1 e2
      refine .inl ⟨rfl, ?_⟩
      refine k _ (.bl (!decide (i = j))) H S ok ?_ h
      show V.bl _ = V.bl _
      congr 1
      simp
    | _ => exact .inr (gen h)
  | str i => cases dy with
    | str j =>
      have e1 : x = .str i := rx
      have e2 : y = .str j := ry
      subst e1 e2
      refine .inl ⟨rfl, ?_⟩
      refine k _ (.bl (!decide (i = j))) H S ok ?_ h
      show V.bl _ = V.bl _
      congr 1
      simp
    | _ => exact .inr (gen h)
  | bl i => cases dy with
    | bl j =>
      have e1 : x = .bl i := rx
      have e2 : y = .bl j := ry
      subst e1 e2
      refine .inl ⟨rfl, ?_⟩
      refine k _ (.bl (!decide (i = j))) H S ok ?_ h
      show V.bl _ = V.bl _
      congr 1
      simp
    | _ => exact .inr (gen h)
  | _ => exact .inr (gen (by cases dy <;> exact h))
theorem od_eq (hu : X.A.units + 64 < cLine) : OpD X (compareOp .Eq) rdEq := ⟨_, op_eq.or (op_eqD hu), eq_lift⟩
theorem od_ne (hu : X.A.units + 64 < cLine) : OpD X (compareOp .NotEq) rdNe := ⟨_, op_ne.or (op_neD hu), ne_lift⟩
end

/-! ### chains of comparisons -/
section
variable {X : Cx} {W : Wi} {a b c d e : Expr} {ta tb tc td : TED} {pos : Pos}
def dChain (r r' : RD2) (ta tb tc : TED) : TED := fun σ S Q => ta σ S fun x S1 => tb σ S1 fun y S2 => r x y S2 fun z S3 => match z with
  | .bl k => if k = true then tc σ S3 fun w S4 => r' y w S4 Q else Q (.bl false) S3
  | _ => False
theorem chain_lift {r r' : R2} {rd rd' : RD2} (l : Lift2 X.K r rd) (l' : Lift2 X.K r' rd') (σ : L2.St) (H : Hp) (Q : VK) (h : upE X.K W (dChain rd rd' ta tb tc) σ H Q) : tChain r r' (upE X.K W ta) (upE X.K W tb) (upE X.K W tc) σ H Q := by
  obtain ⟨σd, S, fr, Qd, ok, cl, h, k⟩ := h
  refine ⟨σd, S, fr, _, ok, cl, h, fun x dx H1 S1 ok1 r1 h1 => ?_⟩
  refine ⟨σd, S1, (x, dx) :: fr, _, ok1.cons r1, cl.tail, h1, fun y dy H2 S2 ok2 r2 h2 => ?_⟩
  refine l H2 S2 ((y, dy) :: fr) σd σ x y dx dy _ _ (ok2.tail.cons r2) ok2.head r2 h2 fun z dz H3 S3 ok3 r3 h3 => ?_
  cases dz with
  | bl k0 =>
    refine ⟨k0, r3, ?_⟩
    cases k0 with
    | true =>
      exact (show upE X.K W tc σ H3 (fun w' H4 => r' y w' H4 Q) from ⟨σd, S3, (y, dy) :: fr, _, ok3, cl.tail, (show tc σd S3 _ from by simpa using h3), fun w dw H4 S4 ok4 r4 h4 =>
        l' H4 S4 fr σd σ y w dy dw Q Qd ok4.tail ok4.head r4 h4 k⟩)
    | false => exact (show Q (.bl false) H3 from k _ (.bl false) H3 S3 ok3.tail rfl (by simpa using h3))
  | _ => exact (show False from h3).elim
theorem de_chain {op op' : CmpOp} {rd rd' : RD2} (ho : OpD X (compareOp op) rd) (ho' : OpD X (compareOp op') rd') (ha : DE X W a ta) (hb : DE X W b tb) (hc : DE X W c tc)
    (hm : lastMarks [op, op'] [b, c] = false := by with_unfolding_all rfl) : DE X W (.Compare a [op, op'] [b, c] pos) (dChain rd rd' ta tb tc) := by
  obtain ⟨r, ho, l⟩ := ho
  obtain ⟨r', ho', l'⟩ := ho'
  exact ⟨PE.imp (pe_chain ho ho' ha.p hb.p hc.p hm) (chain_lift l l')⟩
theorem dt_chain {op op' : CmpOp} {rd rd' : RD2} (ho : OpD X (compareOp op) rd) (ho' : OpD X (compareOp op') rd') (ha : DE X W a ta) (hb : DE X W b tb) (hc : DE X W c tc)
    (hm : lastMarks [op, op'] [b, c] = false := by with_unfolding_all rfl) : DT X W (.Compare a [op, op'] [b, c] pos) (dTest (dChain rd rd' ta tb tc)) := by
  obtain ⟨r, ho, l⟩ := ho
  obtain ⟨r', ho', l'⟩ := ho'
  exact ⟨PT.imp (pt_chain ho ho' ha.p hb.p hc.p hm) fun σ H Q h => tTest_mono (chain_lift l l') σ H Q (test_lift σ H Q h)⟩
def dChain3 (r r' r2 : RD2) (ta tb tc td : TED) : TED := fun σ S Q => ta σ S fun x S1 => tb σ S1 fun y S2 => r x y S2 fun z S3 => match z with
  | .bl k => if k = true then tc σ S3 fun w S4 => r' y w S4 fun z2 S5 => match z2 with
      | .bl k2 => if k2 = true then td σ S5 fun w2 S6 => r2 w w2 S6 Q else Q (.bl false) S5
      | _ => False
    else Q (.bl false) S3
  | _ => False
end

/-! ### subscripts, slices -/
def ixQ (S : Sd) (Q : DK) : Option D → Prop
  | some d => Q d S
  | none => False
def ixS (S : Sd) (Q : DK) : Option Nat → Prop
  | some c => Q (.str ⟨#[c]⟩) S
  | none => False
def rdIx : RD2
  | .tup ds, .int i, S, Q => ixQ S Q (atI ds i)
  | .lst ds, .int i, S, Q => ixQ S Q (atI ds i)
  | .obj a, .int i, S, Q => match S a with
    | some (.lst ds) => ixQ S Q (atI ds i)
    | _ => False
  | .str z, .int i, S, Q => z.length ≤ 16777216 ∧ ixS S Q (atI z.cps.toList i)
  | _, _, _, _ => False
theorem ixQ_inv {S : Sd} {Q : DK} {o : Option D} (h : ixQ S Q o) : ∃ d, o = some d ∧ Q d S := by
  cases o with
  | none => exact h.elim
  | some d => exact ⟨d, rfl, h⟩
theorem atI_rp {K : PySem.W.Frag} {H : Hp} {S : Sd} {ds : List D} {vs : List V} {i : Int} {d : D} (r : RpL K H S ds vs) (h : atI ds i = some d) : ∃ v, atI vs i = some v ∧ Rp K H S d v := by
  unfold atI at h ⊢
  rw [← rpL_len r]
  cases e : ixN ds.length i with
  | none => rw [e] at h; cases h
  | some j =>
    rw [e] at h
    exact rpL_get r h
section
variable {X : Cx} {W : Wi} {a b e : Expr} {ta tb te : TED} {pos p2 : Pos}
theorem ix_lift {K : PySem.W.Frag} : Lift2 K (rIx K) rdIx := fun H S fr σd σ x y dx dy Qv Qd ok rx ry h k => by
  cases dy with
  | int i =>
    cases dx with
    | tup ds =>
      obtain ⟨d, e, q⟩ := ixQ_inv h
      obtain ⟨p, vs, e1, q1, r1⟩ := rx
      obtain ⟨v, e2, r2⟩ := atI_rp r1 e
      exact .inr (.inl ⟨p, vs, i, v, e1, ry, q1, e2, k v d H S ok r2 q⟩)
    | lst ds =>
      obtain ⟨d, e, q⟩ := ixQ_inv h
      obtain ⟨p, vs, e1, q1, r1⟩ := rp_list ok.rel rx
      obtain ⟨v, e2, r2⟩ := atI_rp r1 e
      exact .inl ⟨p, vs, i, v, e1, ry, q1, e2, k v d H S ok r2 q⟩
    | obj p =>
      have h' : (match S p with | some (.lst ds) => ixQ S Qd (atI ds i) | _ => False) := h
      split at h'
      · rename_i ds q0
        obtain ⟨d, e, q⟩ := ixQ_inv h'
        obtain ⟨vs, q1, r1⟩ := rp_obj ok.rel q0
        obtain ⟨v, e2, r2⟩ := atI_rp r1 e
        exact .inl ⟨p, vs, i, v, rx, ry, SqL.of q1, e2, k v d H S ok r2 q⟩
      · exact h'.elim
    | str z =>
      have h' : z.length ≤ 16777216 ∧ ixS S Qd (atI z.cps.toList i) := h
      cases e : atI z.cps.toList i with
      | none => rw [e] at h'; exact h'.2.elim
      | some c =>
        rw [e] at h'
        exact .inr (.inr ⟨z, i, c, rx, ry, sz_le h'.1, e, k _ (.str ⟨#[c]⟩) H S ok rfl h'.2⟩)
    | _ => exact (show False from h).elim
  | _ => cases dx <;> exact (show False from h).elim
theorem de_ix (ha : DE X W a ta) (hb : DE X W b tb) (hs : PlainIx b) : DE X W (.Subscript a b pos) (dOp rdIx ta tb) := ⟨PE.imp (pe_ix ix_seq ha.p hb.p hs) (op2_lift ix_lift)⟩
abbrev TOD := Si → Sd → (Option Int → Sd → Prop) → Prop
def upO (K : PySem.W.Frag) (W : Wi) (t : TOD) : TO := fun σ H Qv => ∃ σd S fr Qd, Ok K H S fr σd σ ∧ Cl K W fr ∧ t σd S Qd ∧ ∀ o H' S', Ok K H' S' fr σd σ → Qd o S' → Qv o H'
structure DO (X : Cx) (W : Wi) (e : Option Expr) (t : TOD) : Prop where
  p : PO X e (upO X.K W t)
def dNoPart : TOD := fun _ S Q => Q none S
def dPart (t : TED) : TOD := fun σ S Q => t σ S fun x S1 => match x with
  | .int i => Q (some i) S1
  | _ => False
theorem PO.imp {e : Option Expr} {t t' : TO} (h : PO X e t) (k : ∀ σ H Q, t' σ H Q → t σ H Q) : PO X e t' := ⟨fun pins s σ H Q I q => h.run pins s σ H Q I (k _ _ _ q)⟩
theorem do_none : DO X W none dNoPart := ⟨PO.imp po_none fun σ H Q ⟨σd, S, fr, Qd, ok, cl, h, k⟩ => k none H S ok h⟩
theorem do_some (h : DE X W e te) : DO X W (some e) (dPart te) := ⟨PO.imp (po_some h.p) fun σ H Q ⟨σd, S, fr, Qd, ok, cl, h, k⟩ => ⟨σd, S, fr, _, ok, cl, h, fun x dx H1 S1 ok1 r1 h1 => by
  cases dx with
  | int i => exact ⟨i, r1, k (some i) H1 S1 ok1 h1⟩
  | _ => exact (show False from h1).elim⟩⟩
def cutD (xs : List D) (lo hi : Option Int) : List D := (xs.drop (HT.sIx xs.length 0 lo)).take (HT.sIx xs.length xs.length hi - HT.sIx xs.length 0 lo)
def rdSl : D → Option Int → Option Int → Sd → DK → Prop
  | .tup ds, lo, hi, S, Q => Q (.tup (cutD ds lo hi)) S
  | .lst ds, lo, hi, S, Q => Q (.lst (cutD ds lo hi)) S
  | .obj a, lo, hi, S, Q => match S a with
    | some (.lst ds) => Q (.lst (cutD ds lo hi)) S
    | _ => False
  | .str z, lo, hi, S, Q => z.length ≤ 16777216 ∧ Q (.str (cutS z lo hi)) S
  | _, _, _, _, _ => False
def dSl (te : TED) (tl th : TOD) : TED := fun σ S Q => te σ S fun x S1 => tl σ S1 fun l S2 => th σ S2 fun u S3 => rdSl x l u S3 Q
theorem cut_rp {K : PySem.W.Frag} {H : Hp} {S : Sd} {ds : List D} {vs : List V} {lo hi : Option Int} (r : RpL K H S ds vs) : RpL K H S (cutD ds lo hi) (cutV vs lo hi) := by
  unfold cutD cutV
  rw [← rpL_len r]
  exact rpL_take _ (rpL_drop _ r)
theorem de_slice {lo hi : Option Expr} {tl th : TOD} (he : DE X W e te) (hl : DO X W lo tl) (hu : DO X W hi th) : DE X W (.Subscript e (.Slice lo hi none p2) pos) (dSl te tl th) :=
  ⟨PE.imp (pe_slice (sl_list.or (sl_tupA.or sl_str)) he.p hl.p hu.p) fun σ H Q ⟨σd, S, fr, Qd, ok, cl, h, k⟩ => ⟨σd, S, fr, _, ok, cl, h, fun x dx H1 S1 ok1 r1 h1 =>
    ⟨σd, S1, (x, dx) :: fr, _, ok1.cons r1, cl.tail, h1, fun l H2 S2 ok2 h2 => ⟨σd, S2, (x, dx) :: fr, _, ok2, cl.tail, h2, fun u H3 S3 ok3 h3 => by
      have rx := ok3.head
      have ok4 := ok3.tail
      cases dx with
      | lst ds =>
        obtain ⟨p, vs, e1, q1, r1⟩ := rp_list ok4.rel rx
        exact .inl ⟨p, vs, e1, q1, fun p hp => k _ (.lst (cutD ds l u)) _ S3 (ok4.new hp) (rp_lstNew ok4.rel hp (cut_rp r1)) h3⟩
      | obj p =>
        have h' : (match S3 p with | some (.lst ds) => Qd (.lst (cutD ds l u)) S3 | _ => False) := h3
        split at h'
        · rename_i ds q0
          obtain ⟨vs, q1, r1⟩ := rp_obj ok4.rel q0
          exact .inl ⟨p, vs, rx, SqL.of q1, fun p hp => k _ (.lst (cutD ds l u)) _ S3 (ok4.new hp) (rp_lstNew ok4.rel hp (cut_rp r1)) h'⟩
        · exact h'.elim
      | tup ds =>
        obtain ⟨p, vs, e1, q1, r1⟩ := rx
        refine .inr (.inl ⟨p, vs, e1, q1, fun hw => ?_, fun _ p hp => k _ (.tup (cutD ds l u)) _ S3 (ok4.new hp) (rp_tupNew ok4.rel hp (cut_rp r1)) h3⟩)
        have e2 : cutD ds l u = ds := by
          unfold cutD
          rw [rpL_len r1, hw.1, hw.2, List.drop_zero, Nat.sub_zero, ← rpL_len r1, List.take_length]
        have h' : Qd (.tup (cutD ds l u)) S3 := h3
        rw [e2] at h'
        exact k _ (.tup ds) H3 S3 ok4 ⟨p, vs, rfl, q1, r1⟩ h'
      | str z =>
        have h' : z.length ≤ 16777216 ∧ Qd (.str (cutS z l u)) S3 := h3
        exact .inr (.inr ⟨z, rx, sz_le h'.1, k _ (.str (cutS z l u)) H3 S3 ok4 rfl h'.2⟩)
      | _ => exact (show False from h3).elim⟩⟩⟩⟩
end
end Dv

/-! Readings by value, 3: calls, built-ins, statements, loops, comprehensions, defs. -/
namespace Dv
open PySem L2 PyProof.Rows

/-! ### the promise of a def, lifted -/
abbrev SpD := List D → Sd → DK → XKD → Prop
def FrOk (K : PySem.W.Frag) (H : Hp) (S : Sd) (fr : List (V × D)) : Prop := ∀ p ∈ fr, Rp K H S p.2 p.1
def upF (K : PySem.W.Frag) (sp : SpD) : Sp := fun vs H Qv E => ∃ ds S fr Qd Ed, RelS K H S ∧ FrOk K H S fr ∧ RpL K H S ds vs ∧ sp ds S Qd Ed ∧
  (∀ v d H' S', RelS K H' S' → FrOk K H' S' fr → Rp K H' S' d v → Qd d S' → Qv v H') ∧
  ∀ cls od x H' S', RelS K H' S' → FrOk K H' S' fr → RpX K H' S' x cls od → Ed x S' → E cls od H'
/-- the known slots, as pairs -/
def prs (σd : Si) (σ : L2.St) : List (V × D) := (σ.zip σd).filterMap fun p => match p with
  | (some v, some d) => some (v, d)
  | _ => none
theorem prs_mem {σd : Si} {σ : L2.St} {i : Nat} {v : V} {d : D} (h1 : σ[i]? = some (some v)) (h2 : σd[i]? = some (some d)) : (v, d) ∈ prs σd σ := by
  unfold prs
  refine List.mem_filterMap.mpr ⟨(some v, some d), ?_, rfl⟩
  refine List.mem_iff_getElem?.mpr ⟨i, ?_⟩
  rw [List.getElem?_zip_eq_some]
  exact ⟨h1, h2⟩
theorem prs_of {σd : Si} {σ : L2.St} {p : V × D} (h : p ∈ prs σd σ) : ∃ i : Nat, σ[i]? = some (some p.1) ∧ σd[i]? = some (some p.2) := by
  unfold prs at h
  obtain ⟨q, hq, e⟩ := List.mem_filterMap.mp h
  obtain ⟨i, hi⟩ := List.mem_iff_getElem?.mp hq
  rw [List.getElem?_zip_eq_some] at hi
  obtain ⟨q1, q2⟩ := q
  cases q1 with
  | none => cases e
  | some v => cases q2 with
    | none => cases e
    | some d =>
      cases e
      exact ⟨i, hi.1, hi.2⟩
section
variable {K : PySem.W.Frag} {H : Hp} {S : Sd} {fr : List (V × D)} {σd : Si} {σ : L2.St}
theorem Ok.out (ok : Ok K H S fr σd σ) : FrOk K H S (fr ++ prs σd σ) := fun p hp => by
  rcases List.mem_append.mp hp with h | h
  · exact ok.fr p h
  · obtain ⟨i, h1, h2⟩ := prs_of h
    obtain ⟨v, h3, r⟩ := ok.si i _ h2
    rw [h1] at h3
    cases h3
    exact r
theorem Ok.back {H' : Hp} {S' : Sd} (ok : Ok K H S fr σd σ) (R : RelS K H' S') (f : FrOk K H' S' (fr ++ prs σd σ)) : Ok K H' S' fr σd σ :=
  ⟨R, fun p hp => f p (List.mem_append_left _ hp), ok.len, fun i d e => by
    obtain ⟨v, h1, _⟩ := ok.si i d e
    exact ⟨v, h1, f (v, d) (List.mem_append_right _ (prs_mem h1 e))⟩⟩
end

section
variable {X : Cx} {W : Wi} {k : Nat} {f : Addr} {fd : FuncData} {ps : List Str} {sp : SpD} {ds : List Value} {dvs : List V} {dds : List D} {x : Str} {p pos : Pos} {e : Expr} {es : List Expr} {t : TAD}
def dCall (sp : SpD) (dds : List D) (WD : WXD) (t : TAD) : TED := fun σ S Q => t σ S fun xs S1 => sp (xs ++ dds) S1 Q fun y S2 => WD y σ S2
theorem call_lift (hdd : ∀ H S, RpL X.K H S dds dvs) (σ : L2.St) (H : Hp) (Q : VK) (h : upE X.K W (dCall sp dds W.D t) σ H Q) : tCallSD (upF X.K sp) dvs (WE W.V) (upA X.K W t) σ H Q := by
  obtain ⟨σd, S, fr, Qd, ok, cl, h, k⟩ := h
  refine ⟨σd, S, fr, _, ok, cl, h, fun vs ds H1 S1 ok1 r1 h1 => ?_⟩
  refine ⟨ds ++ dds, S1, fr ++ prs σd σ, Qd, _, ok1.rel, ok1.out, rpL_app r1 (hdd H1 S1), h1, fun v d H2 S2 R2 f2 r2 q2 => ?_, fun cls od x H2 S2 R2 f2 rx q2 => ?_⟩
  · exact k v d H2 S2 (ok1.back R2 f2) r2 q2
  · exact cl σd σ H2 S2 cls od x (ok1.back R2 f2) rx q2
theorem de_call (F : Hx.FnG X.prog X.w X.K X.mg X.base (L2N.CX X.prog X.w) k f fd ps (upF X.K sp)) (hr : Hx.RoomG k X.A) (hg : Gl X x) (hm : X.mg x = some (.ref f)) (hk : PySem.W.keepIn X.K (.ref f) = true) (hb : Binds X.K fd ps ds) (hd : Vals dvs ds)
    (hdd : ∀ H S, RpL X.K H S dds dvs) (tk : L2N.Takes X W.V) (ha : DA X W (e :: es) t) (hdb : (x == ("__debug__" : Str)) = false := by decide) (he : starEach (e :: es) X.env = (false, eval e X.env) :: starEach es X.env := by rfl)
    (hpl : (backTo pos (starEach es X.env)).any (·.1) = false := by rfl) : DE X W (.Call (.Name x p) (e :: es) [] pos) (dCall sp dds W.D t) :=
  ⟨PE.imp (Hx.pe_callG F hr hg hm hk hb hd (fun σ => L2N.passAt tk σ) ha.p hdb he hpl) (call_lift hdd)⟩

/-! ### built-ins -/
abbrev RDC := List D → Sd → DK → Prop
def LiftC (K : PySem.W.Frag) (r : List V → Hp → VK → Prop) (rd : RDC) : Prop := ∀ H S fr σd σ xs ds Qv Qd, Ok K H S fr σd σ → RpL K H S ds xs → rd ds S Qd →
  (∀ v d H' S', Ok K H' S' fr σd σ → Rp K H' S' d v → Qd d S' → Qv v H') → r xs H Qv
def CallD (X : Cx) (f : Value) (rd : RDC) : Prop := ∃ r, CallR X f r ∧ LiftC X.K r rd
def dCB (rd : RDC) (t : TAD) : TED := fun σ S Q => t σ S fun xs S1 => rd xs S1 Q
theorem cb_lift {r : List V → Hp → VK → Prop} {rd : RDC} (l : LiftC X.K r rd) (σ : L2.St) (H : Hp) (Q : VK) (h : upE X.K W (dCB rd t) σ H Q) : tCB r (upA X.K W t) σ H Q := by
  obtain ⟨σd, S, fr, Qd, ok, cl, h, k⟩ := h
  exact ⟨σd, S, fr, _, ok, cl, h, fun vs ds H1 S1 ok1 r1 h1 => l H1 S1 fr σd σ vs ds Q Qd ok1 r1 h1 k⟩
theorem de_callB {id : String} {rd : RDC} (hc : CallD X (.builtin id) rd) (hg : Gl X x) (hm : X.mg x = none) (hv : bootBuiltins x = some (.builtin id)) (ha : DA X W (e :: es) t) (hn : x ≠ "__name__" := by decide) (hdb : (x == ("__debug__" : Str)) = false := by decide)
    (he : starEach (e :: es) X.env = (false, eval e X.env) :: starEach es X.env := by rfl) (hpl : (backTo pos (starEach es X.env)).any (·.1) = false := by rfl) : DE X W (.Call (.Name x p) (e :: es) [] pos) (dCB rd t) := by
  obtain ⟨r, hc, l⟩ := hc
  exact ⟨PE.imp (pe_callB hc hg hm hv ha.p hn hdb he hpl) (cb_lift l)⟩
theorem de_callTy {T : String} {rd : RDC} (hc : CallD X (.type T) rd) (hg : Gl X x) (hm : X.mg x = none) (hv : bootBuiltins x = some (.type T)) (ha : DA X W (e :: es) t) (hn : x ≠ "__name__" := by decide) (hdb : (x == ("__debug__" : Str)) = false := by decide)
    (he : starEach (e :: es) X.env = (false, eval e X.env) :: starEach es X.env := by rfl) (hpl : (backTo pos (starEach es X.env)).any (·.1) = false := by rfl) : DE X W (.Call (.Name x p) (e :: es) [] pos) (dCB rd t) := by
  obtain ⟨r, hc, l⟩ := hc
  exact ⟨PE.imp (pe_callTy hc hg hm hv ha.p hn hdb he hpl) (cb_lift l)⟩
end
section
variable {K : PySem.W.Frag} {H : Hp} {S : Sd}
theorem rpL1 {d : D} {vs : List V} (h : RpL K H S [d] vs) : ∃ v, vs = [v] ∧ Rp K H S d v := by
  obtain ⟨v, r, e, h1, h2⟩ := h
  have e2 : r = [] := h2
  subst e2
  exact ⟨v, e, h1⟩
theorem rpL2 {c d : D} {vs : List V} (h : RpL K H S [c, d] vs) : ∃ v w, vs = [v, w] ∧ Rp K H S c v ∧ Rp K H S d w := by
  obtain ⟨v, r, e, h1, h2⟩ := h
  obtain ⟨w, e2, h3⟩ := rpL1 h2
  subst e2
  exact ⟨v, w, e, h1, h3⟩
theorem rpL_of_ints {ns : List Int} : RpL K H S (ns.map D.int) (ns.map V.int) := by
  induction ns with
  | nil => exact rfl
  | cons n r ih => exact ⟨_, _, rfl, rfl, ih⟩
theorem rpL_bls {ns : List Bool} : ∀ {vs : List V}, RpL K H S (ns.map D.bl) vs → vs = ns.map V.bl := by
  induction ns with
  | nil => intro vs h; exact h
  | cons n r ih =>
    intro vs h
    obtain ⟨v, s, e, h1, h2⟩ := h
    have e1 : v = .bl n := h1
    rw [e, e1, ih h2]
    rfl
end
def rdLen : RDC
  | [.str z], S, Q => z.length ≤ 16777216 ∧ Q (.int z.length) S
  | [d], S, Q => match itemsD S d with
    | some ds => Q (.int ds.length) S
    | none => False
  | _, _, _ => False
def rdAbs : RDC
  | [.int i], S, Q => Q (.int (if i < 0 then -i else i)) S
  | _, _, _ => False
def rdMax2 : RDC
  | [.int i, .int j], S, Q => Q (.int (if j > i then j else i)) S
  | _, _, _ => False
def rdMin2 : RDC
  | [.int i, .int j], S, Q => Q (.int (if j < i then j else i)) S
  | _, _, _ => False
def rdInt : RDC
  | [.int i], S, Q => Q (.int i) S
  | [.bl b], S, Q => Q (.int (if b then 1 else 0)) S
  | _, _, _ => False
def rdAll : RDC
  | [d], S, Q => ∃ bs : List Bool, lstD S d = some (bs.map D.bl) ∧ Q (.bl (bs.all id)) S
  | _, _, _ => False
def rdTupC : RDC
  | [d], S, Q => match itemsD S d with
    | some ds => Q (.tup ds) S
    | none => False
  | _, _, _ => False
def rdListC : RDC
  | [d], S, Q => match itemsD S d with
    | some ds => Q (.lst ds) S
    | none => False
  | _, _, _ => False
/-- a value's built-in type -/
def tyD : D → Option String
  | .non => some "NoneType" | .bl _ => some "bool" | .int _ => some "int" | .str _ => some "str" | .tup _ => some "tuple" | .lst _ => some "list" | _ => none
def isiD (d : D) (n : String) : Option Bool := match tyD d with
  | some t => kitB t n
  | none => none
def rdIsi : RDC
  | [d, .ty n], S, Q => match isiD d n with
    | some b => Q (.bl b) S
    | none => False
  | _, _, _ => False
section
variable {X : Cx}
theorem cd_len : CallD X (.builtin "len") rdLen := ⟨_, call_len, fun H S fr σd σ xs ds Qv Qd ok r h k => by
  match ds, r, h with
  | [d], r, h =>
    obtain ⟨v, rfl, r0⟩ := rpL1 r
    have r := r0
    have gen : (match itemsD S d with | some ds => Qd (.int ds.length) S | none => False) → ∃ x n, [v] = [x] ∧ LenV X.K x H n ∧ Qv (.int n) H := fun h => by
      cases e : itemsD S d with
      | none => rw [e] at h; exact h.elim
      | some ds =>
        rw [e] at h
        obtain ⟨a, vs, rfl, q, r2⟩ := rp_items ok.rel r e
        refine ⟨_, vs.length, rfl, ?_, k _ (.int ds.length) H S ok (by rw [rpL_len r2]; rfl) h⟩
        rcases q with q | q
        · exact .inl ⟨vs, q, rfl⟩
        · exact .inr ⟨vs, q, rfl⟩
    cases d with
    | str z =>
      have e : v = .str z := r
      subst e
      have h' : z.length ≤ 16777216 ∧ Qd (.int z.length) S := h
      exact ⟨_, z.length, rfl, ⟨sz_le h'.1, rfl⟩, k _ (.int z.length) H S ok rfl h'.2⟩
    | _ => exact gen h
  | [], _, h => exact (show False from h).elim
  | a :: _ :: _, _, h => exact (by cases a <;> exact h : False).elim⟩
theorem int1_lift {K : PySem.W.Frag} {g : Int → D} {gv : Int → V} {rd : RDC} (hg : ∀ i H S, Rp K H S (g i) (gv i)) (h1 : ∀ ds S Q, rd ds S Q → ∃ i, ds = [.int i] ∧ Q (g i) S) :
    LiftC K (fun xs H Q => ∃ i, xs = [.int i] ∧ Q (gv i) H) rd := fun H S fr σd σ xs ds Qv Qd ok r h k => by
  obtain ⟨i, rfl, q⟩ := h1 ds S Qd h
  obtain ⟨v, rfl, r0⟩ := rpL1 r
  have r := r0
  have e : v = .int i := r
  subst e
  exact ⟨i, rfl, k _ (g i) H S ok (hg i H S) q⟩
theorem inv_abs {ds : List D} {S : Sd} {Q : DK} (h : rdAbs ds S Q) : ∃ i, ds = [.int i] ∧ Q (.int (if i < 0 then -i else i)) S := by
  cases ds with
  | nil => exact h.elim
  | cons d t => cases t with
    | nil => cases d <;> first | exact ⟨_, rfl, h⟩ | exact (show False from h).elim
    | cons e r => cases d <;> exact (show False from h).elim
theorem inv_int {ds : List D} {S : Sd} {Q : DK} (h : rdInt ds S Q) : (∃ i, ds = [.int i] ∧ Q (.int i) S) ∨ ∃ b, ds = [.bl b] ∧ Q (.int (if b then 1 else 0)) S := by
  cases ds with
  | nil => exact h.elim
  | cons d t => cases t with
    | nil => cases d <;> first | exact .inl ⟨_, rfl, h⟩ | exact .inr ⟨_, rfl, h⟩ | exact (show False from h).elim
    | cons e r => cases d <;> exact (show False from h).elim
theorem inv_max2 {ds : List D} {S : Sd} {Q : DK} (h : rdMax2 ds S Q) : ∃ i j, ds = [.int i, .int j] ∧ Q (.int (if j > i then j else i)) S := by
  cases ds with
  | nil => exact h.elim
  | cons d t => cases t with
    | nil => cases d <;> exact (show False from h).elim
    | cons e r => cases r with
      | nil => cases d <;> cases e <;> first | exact ⟨_, _, rfl, h⟩ | exact (show False from h).elim
      | cons f r => cases d <;> cases e <;> exact (show False from h).elim
theorem inv_min2 {ds : List D} {S : Sd} {Q : DK} (h : rdMin2 ds S Q) : ∃ i j, ds = [.int i, .int j] ∧ Q (.int (if j < i then j else i)) S := by
  cases ds with
  | nil => exact h.elim
  | cons d t => cases t with
    | nil => cases d <;> exact (show False from h).elim
    | cons e r => cases r with
      | nil => cases d <;> cases e <;> first | exact ⟨_, _, rfl, h⟩ | exact (show False from h).elim
      | cons f r => cases d <;> cases e <;> exact (show False from h).elim
theorem inv_isi {ds : List D} {S : Sd} {Q : DK} (h : rdIsi ds S Q) : ∃ d n b, ds = [d, .ty n] ∧ isiD d n = some b ∧ Q (.bl b) S := by
  cases ds with
  | nil => exact h.elim
  | cons d t => cases t with
    | nil => exact (show False from h).elim
    | cons e r => cases r with
      | cons f r => cases e <;> exact (show False from h).elim
      | nil =>
        cases e with
        | ty n =>
          have h' : (match isiD d n with | some b => Q (.bl b) S | none => False) := h
          cases q : isiD d n with
          | none => rw [q] at h'; exact h'.elim
          | some b => rw [q] at h'; exact ⟨d, n, b, rfl, q, h'⟩
        | _ => exact (show False from h).elim
theorem cd_abs : CallD X (.builtin "abs") rdAbs := ⟨_, call_abs, int1_lift (g := fun i => .int (if i < 0 then -i else i)) (fun _ _ _ => rfl) fun ds S Q h => inv_abs h⟩
theorem int2_lift {K : PySem.W.Frag} {g : Int → Int → D} {gv : Int → Int → V} {rd : RDC} (hg : ∀ i j H S, Rp K H S (g i j) (gv i j)) (h1 : ∀ ds S Q, rd ds S Q → ∃ i j, ds = [.int i, .int j] ∧ Q (g i j) S) :
    LiftC K (fun xs H Q => ∃ i j, xs = [.int i, .int j] ∧ Q (gv i j) H) rd := fun H S fr σd σ xs ds Qv Qd ok r h k => by
  obtain ⟨i, j, rfl, q⟩ := h1 ds S Qd h
  obtain ⟨v, w, rfl, r1, r2⟩ := rpL2 r
  have e : v = .int i := r1
  have e2 : w = .int j := r2
  subst e e2
  exact ⟨i, j, rfl, k _ (g i j) H S ok (hg i j H S) q⟩
theorem cd_max2 (hc : X.calm = true) : CallD X (.builtin "max") rdMax2 := ⟨_, call_max2 hc, int2_lift (g := fun i j => .int (if j > i then j else i)) (fun _ _ _ _ => rfl) fun ds S Q h => inv_max2 h⟩
theorem cd_min2 (hc : X.calm = true) : CallD X (.builtin "min") rdMin2 := ⟨_, call_min2 hc, int2_lift (g := fun i j => .int (if j < i then j else i)) (fun _ _ _ _ => rfl) fun ds S Q h => inv_min2 h⟩
theorem cd_int : CallD X (.type "int") rdInt := ⟨_, call_int1, fun H S fr σd σ xs ds Qv Qd ok r h k => by
  rcases inv_int h with ⟨i, rfl, q⟩ | ⟨b, rfl, q⟩
  · obtain ⟨v, rfl, r0⟩ := rpL1 r
    have r := r0
    have e : v = .int i := r
    subst e
    exact .inl ⟨i, rfl, k _ (.int i) H S ok rfl q⟩
  · obtain ⟨v, rfl, r0⟩ := rpL1 r
    have r := r0
    have e : v = .bl b := r
    subst e
    exact .inr ⟨b, rfl, k _ (.int (if b then 1 else 0)) H S ok rfl q⟩⟩
theorem cd_all (hc : X.calm = true) : CallD X (.builtin "all") rdAll := ⟨_, cr_all hc, fun H S fr σd σ xs ds Qv Qd ok r h k => by
  match ds, r, h with
  | [], _, h => exact (show False from h).elim
  | _ :: _ :: _, _, h => exact (show False from h).elim
  | [d], r, h =>
    obtain ⟨v, rfl, r0⟩ := rpL1 r
    have r := r0
    obtain ⟨bs, e, q⟩ := h
    obtain ⟨a, vs, rfl, q1, r1⟩ := rp_lstD ok.rel r e
    rw [rpL_bls r1] at q1
    exact ⟨a, bs, rfl, q1, k _ (.bl (bs.all id)) H S ok rfl q⟩⟩
theorem cd_tuple : CallD X (.type "tuple") rdTupC := ⟨_, call_tuple_of, fun H S fr σd σ xs ds Qv Qd ok r h k => by
  match ds, r, h with
  | [], _, h => exact (show False from h).elim
  | _ :: _ :: _, _, h => exact (show False from h).elim
  | [d], r, h =>
    obtain ⟨v, rfl, r0⟩ := rpL1 r
    have r := r0
    have h' : (match itemsD S d with | some ds => Qd (.tup ds) S | none => False) := h
    cases e : itemsD S d with
    | none => rw [e] at h'; exact h'.elim
    | some ds =>
      rw [e] at h'
      obtain ⟨a, vs, rfl, q, r2⟩ := rp_items ok.rel r e
      refine ⟨a, vs, rfl, ?_⟩
      rcases q with q | q
      · exact .inl ⟨q, fun l hl => k _ (.tup ds) _ S (ok.new hl) (rp_tupNew ok.rel hl r2) h'⟩
      · exact .inr ⟨q, k _ (.tup ds) H S ok ⟨a, vs, rfl, q, r2⟩ h'⟩⟩
theorem isi_ty {K : PySem.W.Frag} {H : Hp} {S : Sd} {d : D} {v : V} {t : String} (R : RelS K H S) (r : Rp K H S d v) (e : tyD d = some t) : TyX K H v (.type t) := by
  cases d with
  | non => cases e; have e : v = .non := r; subst e; exact .base .non
  | bl b => cases e; have e : v = .bl b := r; subst e; exact .base (.bl b)
  | int i => cases e; have e : v = .int i := r; subst e; exact .base (.int i)
  | str x => cases e; have e : v = .str x := r; subst e; exact .base (.str x)
  | tup ds =>
    cases e
    obtain ⟨a, vs, rfl, q, _⟩ := r
    rcases q with (q | ⟨o, q⟩) | ⟨o, its, n, h1, h2, _⟩
    · exact .base (.tup q)
    · exact .fTuple q
    · exact .kTuple h1 h2
  | lst ds =>
    cases e
    obtain ⟨a, vs, rfl, q, _⟩ := r
    rcases q with ⟨q | ⟨o, q⟩, _⟩ | ⟨o, its, n, h1, h2, _⟩
    · exact .base (.lst q)
    · exact .base (.frz q)
    · exact .kList h1 h2
  | _ => cases e
theorem cd_isi : CallD X (.builtin "isinstance") rdIsi := ⟨_, call_isi, fun H S fr σd σ xs ds Qv Qd ok r h k => by
  obtain ⟨d, n, b, rfl, e, q⟩ := inv_isi h
  obtain ⟨v, w, rfl, r1, r2⟩ := rpL2 r
  have e0 : w = .ty n := r2
  subst e0
  unfold isiD at e
  cases e2 : tyD d with
  | none => rw [e2] at e; cases e
  | some t =>
    rw [e2] at e
    exact ⟨v, .ty n, .type t, .type n, b, rfl, .ty n, isi_ty ok.rel r1 e2, kit_ty e, k _ (.bl b) H S ok rfl q⟩⟩
end
end Dv

/-! Readings by value, 4: statements, targets, loops, comprehensions, defs. -/
namespace Dv
open PySem L2 PyProof.Rows

section
variable {K : PySem.W.Frag} {H : Hp} {S : Sd} {fr : List (V × D)} {Dd : EndsD} {D0 : Ends} {σd : Si} {σ : L2.St} {W : Wi}
theorem Ok.pre {fr2 : List (V × D)} (o : Ok K H S (fr2 ++ fr) σd σ) : Ok K H S fr σd σ := ⟨o.rel, fun p hp => o.fr p (List.mem_append_right _ hp), o.len, o.si⟩
theorem Cl.pre {fr2 : List (V × D)} (c : Cl K W fr) : Cl K W (fr2 ++ fr) := fun σd σ H S cls od x o => c σd σ H S cls od x o.pre
end

section
variable {X : Cx} {W : Wi} {st : Stmt} {rest : List Stmt} {t u : TSD} {e c : Expr} {te : TED} {tc : TTD} {pos : Pos}
def dNext : TSD := fun D σ S => D.nx σ S
def dSeq (t u : TSD) : TSD := fun D σ S => t { D with nx := u D } σ S
theorem db_nil : DB X W [] dNext := ⟨PSs.imp pss_nil fun D σ H ⟨σd, S, fr, Dd, ok, cl, h, k⟩ => k.nx σd σ H S ok h⟩
theorem db_cons (h1 : DS X W st t) (h2 : DB X W rest u) : DB X W (st :: rest) (dSeq t u) :=
  ⟨PSs.imp (pss_cons h1.p h2.p) fun D σ H ⟨σd, S, fr, Dd, ok, cl, h, k⟩ => ⟨σd, S, fr, { Dd with nx := u Dd }, ok, cl, h,
    ⟨fun σd' σ' H' S' ok' q => ⟨σd', S', fr, Dd, ok', cl, q, k⟩, k.rt, k.bk, k.ct⟩⟩⟩
theorem db_one (h1 : DS X W st t) : DB X W [st] t := ⟨pss_one h1.p⟩
def dDrop (te : TED) : TSD := fun D σ S => te σ S fun _ S1 => D.nx σ S1
theorem ds_expr (he : DE X W e te) (hs : swapsWith e none pos.line X.env = pure false := by rfl) : DS X W (.Expr e pos) (dDrop te) :=
  ⟨PS.imp (ps_expr he.p hs) fun D σ H ⟨σd, S, fr, Dd, ok, cl, h, k⟩ => ⟨σd, S, fr, _, ok, cl, h, fun v d H' S' ok' r q => k.nx σd σ H' S' ok' q⟩⟩
def dRet (te : TED) : TSD := fun D σ S => te σ S D.rt
theorem ds_ret (he : DE X W e te) : DS X W (.Return (some e) pos) (dRet te) :=
  ⟨PS.imp (ps_ret he.p) fun D σ H ⟨σd, S, fr, Dd, ok, cl, h, k⟩ => ⟨σd, S, fr, _, ok, cl, h, fun v d H' S' ok' r q => k.rt v d σd σ H' S' ok' r q⟩⟩
def dIfS (c : TTD) (t u : TSD) : TSD := fun D σ S => c σ S fun b S1 => if b = true then t D σ S1 else u D σ S1
theorem ds_if {a b : List Stmt} (hc : DT X W c tc) (ha : DB X W a t) (hb : DB X W b u) : DS X W (.If c a b pos) (dIfS tc t u) :=
  ⟨PS.imp (ps_if hc.p ha.p hb.p) fun D σ H ⟨σd, S, fr, Dd, ok, cl, h, k⟩ => ⟨σd, S, fr, _, ok, cl, h, fun b H1 S1 ok1 h1 => by
    cases b with
    | true => exact (show upSt X.K W t D σ H1 from ⟨σd, S1, fr, Dd, ok1, cl, (show t Dd σd S1 from by simpa using h1), k⟩)
    | false => exact (show upSt X.K W u D σ H1 from ⟨σd, S1, fr, Dd, ok1, cl, (show u Dd σd S1 from by simpa using h1), k⟩)⟩⟩

/-! ### targets -/
abbrev TGD := D → Si → Sd → (Si → Sd → Prop) → Prop
abbrev TGsD := List D → Si → Sd → (Si → Sd → Prop) → Prop
/-- vs: slots that may change -/
def upG (K : PySem.W.Frag) (W : Wi) (vs : List Nat) (t : TGD) : TG := fun v σ H Q => ∃ σd S fr Qd d, Ok K H S fr σd σ ∧ Cl K W fr ∧ Rp K H S d v ∧ t d σd S Qd ∧
  ∀ σ' σd' H' S', Ok K H' S' fr σd' σ' → wipe σ' vs = wipe σ vs → Qd σd' S' → Q σ' H'
def upGs (K : PySem.W.Frag) (W : Wi) (vs : List Nat) (t : TGsD) : TGs := fun us σ H Q => ∃ σd S fr Qd ds, Ok K H S fr σd σ ∧ Cl K W fr ∧ RpL K H S ds us ∧ t ds σd S Qd ∧
  ∀ σ' σd' H' S', Ok K H' S' fr σd' σ' → wipe σ' vs = wipe σ vs → Qd σd' S' → Q σ' H'
structure DG (X : Cx) (W : Wi) (vs : List Nat) (e : Expr) (t : TGD) : Prop where
  p : PG X e (upG X.K W vs t)
structure DGs (X : Cx) (W : Wi) (vs : List Nat) (es : List Expr) (t : TGsD) : Prop where
  p : PGs X es (upGs X.K W vs t)
theorem PG.imp {e : Expr} {t t' : TG} (h : PG X e t) (k : ∀ v σ H Q, t' v σ H Q → t v σ H Q) : PG X e t' := ⟨fun pins s σ H v u Q I r q => h.run pins s σ H v u Q I r (k _ _ _ _ q)⟩
theorem PGs.imp {e : List Expr} {t t' : TGs} (h : PGs X e t) (k : ∀ v σ H Q, t' v σ H Q → t v σ H Q) : PGs X e t' := ⟨fun pins s σ H v u Q I r q => h.run pins s σ H v u Q I r (k _ _ _ _ q)⟩
theorem wipe_set {σ : L2.St} {i : Nat} {x : Option V} : ∀ {vs : List Nat}, i ∈ vs → wipe (σ.set i x) vs = wipe σ vs
  | v :: vs, h => by
    unfold wipe
    by_cases hv : i ∈ vs
    · rw [wipe_set hv]
    · have e : i = v := by
        rcases List.mem_cons.mp h with e | e
        · exact e
        · exact absurd e hv
      subst e
      have gen : ∀ (ws : List Nat), i ∉ ws → wipe (σ.set i x) ws = (wipe σ ws).set i x := by
        intro ws
        induction ws with
        | nil => intro _; rfl
        | cons w ws ih =>
          intro hm
          have h1 : i ≠ w := fun e => hm (by rw [e]; exact List.mem_cons_self)
          have h2 : i ∉ ws := fun e => hm (List.mem_cons_of_mem _ e)
          show (wipe (σ.set i x) ws).set w none = ((wipe σ ws).set w none).set i x
          rw [ih h2, List.set_comm _ _ h1]
      rw [gen vs hv, List.set_set]
def dName (i : Nat) : TGD := fun d σ S Q => Q (σ.set i (some d)) S
theorem dg_name {vs : List Nat} {i : Nat} {x : Str} (hN : X.N.Nodup) (hi : X.N[i]? = some x) (hx : Loc X.env.scope x) (hv : i ∈ vs) (hf : X.fn x = true ∨ X.env.scope.names.lookup x = some .local := by first | exact .inl rfl | exact .inr rfl | assumption) :
    DG X W vs (.Name x pos) (dName i) := ⟨PG.imp (pg_name hN hi hx hf) fun v σ H Q ⟨σd, S, fr, Qd, d, ok, cl, r, h, k⟩ => k _ _ H S (ok.set r i) (wipe_set hv) h⟩
def dGNil : TGsD := fun ds σ S Q => match ds with
  | [] => Q σ S
  | _ => False
def dGCons (t : TGD) (u : TGsD) : TGsD := fun ds σ S Q => match ds with
  | d :: r => t d σ S fun σ' S' => u r σ' S' Q
  | [] => False
theorem dgs_nil {vs : List Nat} : DGs X W vs [] dGNil := ⟨PGs.imp pgs_nil fun v σ H Q ⟨σd, S, fr, Qd, ds, ok, cl, r, h, k⟩ => by
  cases ds with
  | nil => exact ⟨r, k σ σd H S ok rfl h⟩
  | cons d s => exact (show False from h).elim⟩
theorem dgs_cons {vs : List Nat} {es : List Expr} {t : TGD} {u : TGsD} (h1 : DG X W vs e t) (h2 : DGs X W vs es u) (hs : (assignEach (e :: es) X.env).map (·.2) = assign e X.env :: (assignEach es X.env).map (·.2) := by rfl) : DGs X W vs (e :: es) (dGCons t u) :=
  ⟨PGs.imp (pgs_cons h1.p h2.p hs) fun us σ H Q ⟨σd, S, fr, Qd, ds, ok, cl, r, h, k⟩ => by
    cases ds with
    | nil => exact (show False from h).elim
    | cons d s =>
      obtain ⟨v, ur, e1, r1, r2⟩ := r
      refine ⟨v, ur, e1, σd, S, (ur.zip s) ++ fr, fun σ' S' => u s σ' S' Qd, d, ?_, cl.pre, r1, h, fun σ' σd' H' S' ok' hw q => ?_⟩
      · refine ⟨ok.rel, fun p hp => ?_, ok.len, ok.si⟩
        rcases List.mem_append.mp hp with hp | hp
        · obtain ⟨i, hi⟩ := List.mem_iff_getElem?.mp hp
          rw [List.getElem?_zip_eq_some] at hi
          obtain ⟨w, q1, q2⟩ := rpL_get r2 hi.2
          rw [hi.1] at q1
          cases q1
          exact q2
        · exact ok.fr p hp
      · refine ⟨σd', S', fr, Qd, s, ok'.pre, cl, ?_, q, fun σ2 σd2 H2 S2 ok2 hw2 q2 => k σ2 σd2 H2 S2 ok2 (hw2.trans hw) q2⟩
        have hl := rpL_len r2
        have gen : ∀ (s : List D) (ur : List V), s.length = ur.length → (∀ p ∈ ur.zip s, Rp X.K H' S' p.2 p.1) → RpL X.K H' S' s ur := by
          intro s
          induction s with
          | nil => intro ur hl _; exact List.length_eq_zero_iff.mp hl.symm
          | cons d s ih =>
            intro ur hl hz
            cases ur with
            | nil => cases hl
            | cons w ur =>
              refine ⟨w, ur, rfl, hz (w, d) (by simp), ih ur (by simpa using hl) fun p hp => hz p ?_⟩
              rw [List.zip_cons_cons]
              exact List.mem_cons_of_mem _ hp
        exact gen s ur hl fun p hp => ok'.fr p (List.mem_append_left _ hp)⟩
/-- (a, b, ..) = a tuple or a list of that length -/
def dTupG (n : Nat) (t : TGsD) : TGD := fun d σ S Q => match d with
  | .tup ds => ds.length = n ∧ t ds σ S Q
  | _ => False
theorem dg_tup {vs : List Nat} {es : List Expr} {k : Nat} {t : TGsD} {n : Nat} (hc : X.calm = true) (h : DGs X W vs es t) (hn : (assignEach es X.env).length = n := by rfl) (hst : (assignEach es X.env).findIdx? (·.1) = none := by rfl) :
    DG X W vs (.Tuple es k pos) (dTupG n t) := ⟨PG.imp (pg_tup hc h.p hn hst) fun v σ H Q ⟨σd, S, fr, Qd, d, ok, cl, r, q, k⟩ => by
  cases d with
  | tup ds =>
    obtain ⟨a, vs, e, q1, r1⟩ := r
    exact ⟨a, vs, e, q1, (rpL_len r1).symm.trans q.1, σd, S, fr, Qd, ds, ok, cl, r1, q.2, k⟩
  | _ => exact (show False from q).elim⟩
def dAsg (te : TED) (g : TGD) : TSD := fun D σ S => te σ S fun x S1 => g x σ S1 D.nx
theorem ds_asg {vs : List Nat} {tg : Expr} {g : TGD} (he : DE X W e te) (hg : DG X W vs tg g) (hs : swapsWithSole [tg] e pos.line X.env = pure false := by rfl) (hw : swappedStores [tg] e X.env = pure none := by rfl)
    (h1 : (assignEach [tg] X.env).map (·.2) = [assign tg X.env] := by rfl) : DS X W (.Assign [tg] e pos) (dAsg te g) :=
  ⟨PS.imp (ps_asg he.p hg.p hs hw h1) fun D σ H ⟨σd, S, fr, Dd, ok, cl, h, k⟩ => ⟨σd, S, fr, _, ok, cl, h, fun v d H1 S1 ok1 r1 q => ⟨σd, S1, fr, Dd.nx, d, ok1, cl, r1, q, fun σ' σd' H' S' ok' _ q' => k.nx σd' σ' H' S' ok' q'⟩⟩⟩
def dSet (i : Nat) (te : TED) : TSD := fun D σ S => te σ S fun x S1 => D.nx (σ.set i (some x)) S1
theorem ds_set (i : Nat) {x : Str} {pos' : Pos} (hN : X.N.Nodup) (hi : X.N[i]? = some x) (hx : Loc X.env.scope x) (he : DE X W e te) (hs : swapsWith e (some (.Name x pos')) pos.line X.env = pure false := by rfl)
    (hf : X.fn x = true ∨ X.env.scope.names.lookup x = some .local := by first | exact .inl rfl | exact .inr rfl | assumption) : DS X W (.Assign [.Name x pos'] e pos) (dSet i te) :=
  ⟨PS.imp (ps_set hN hi hx he.p hs hf) fun D σ H ⟨σd, S, fr, Dd, ok, cl, h, k⟩ => ⟨σd, S, fr, _, ok, cl, h, fun v d H1 S1 ok1 r1 q => k.nx _ _ H1 S1 (ok1.set r1 i) q⟩⟩
/-- a, b = x, y -/
def dPar (i j : Nat) (ta : TAD) : TSD := fun D σ S => ta σ S fun vs S1 => match vs with
  | [v, w] => D.nx ((σ.set i (some v)).set j (some w)) S1
  | _ => False
theorem ds_par (i j : Nat) {x y : Str} {a b : Expr} {ta : TAD} {px py pt : Pos} {kt k2 pt2} (hc : X.calm = true) (hN : X.N.Nodup) (hi : X.N[i]? = some x) (hj : X.N[j]? = some y) (hij : i ≠ j)
    (hx : X.env.scope.names.lookup x = some .local) (hy : X.env.scope.names.lookup y = some .local) (ha : DA X W [a, b] ta) (hw : swappedStores [.Tuple [.Name x px, .Name y py] kt pt] (.Tuple [a, b] k2 pt2) X.env = pure (some [x, y]))
    (hs : swapsWithSole [.Tuple [.Name x px, .Name y py] kt pt] (.Tuple [a, b] k2 pt2) pos.line X.env = pure false := by rfl) :
    DS X W (.Assign [.Tuple [.Name x px, .Name y py] kt pt] (.Tuple [a, b] k2 pt2) pos) (dPar i j ta) :=
  ⟨PS.imp (ps_par hc hN hi hj hij hx hy ha.p hw hs) fun D σ H ⟨σd, S, fr, Dd, ok, cl, h, k⟩ => ⟨σd, S, fr, _, ok, cl, h, fun vs ds H1 S1 ok1 r1 q => by
    cases ds with
    | nil => exact (show False from q).elim
    | cons d r => cases r with
      | nil => exact (show False from q).elim
      | cons d2 r => cases r with
        | cons _ _ => exact (show False from q).elim
        | nil =>
          obtain ⟨v, w, rfl, h1, h2⟩ := rpL2 r1
          exact ⟨v, w, rfl, k.nx _ _ H1 S1 ((ok1.set h1 i).set h2 j) q⟩⟩⟩
/-- l[k] = e, l an owned list -/
def setQ (S : Sd) (k : D) (v : D) (Q : Sd → Prop) : D → Prop
  | .obj a => match S a, k with
    | some (.lst ds), .int i => match ixN ds.length i with
      | some j => Q (upS S a (.lst (ds.set j v)))
      | none => False
    | _, _ => False
  | _ => False
theorem setQ_inv {S : Sd} {k v o : D} {Q : Sd → Prop} (h : setQ S k v Q o) : ∃ a ds i j, o = .obj a ∧ S a = some (.lst ds) ∧ k = .int i ∧ ixN ds.length i = some j ∧ Q (upS S a (.lst (ds.set j v))) := by
  cases o with
  | obj a =>
    unfold setQ at h
    dsimp only at h
    split at h
    · rename_i x y ds i e
      split at h
      · rename_i j ej
        exact ⟨a, ds, i, j, rfl, e, rfl, ej, h⟩
      · exact h.elim
    · exact h.elim
  | _ => exact (show False from h).elim
def dStore (to ti te : TED) : TSD := fun D σ S => te σ S fun v S1 => to σ S1 fun o S2 => ti σ S2 fun k S3 => setQ S3 k v (D.nx σ) o
theorem ds_store {o i : Expr} {to ti : TED} {spos : Pos} (ho : DE X W o to) (hi : DE X W i ti) (he : DE X W e te) (ha : ∀ v, assign (.Subscript o i spos) X.env v = (do
      let ov ← holding [v] (eval o X.env)
      let iv ← holding [v, ov] (eval i X.env)
      standAt spos
      holding [v, ov, iv] (setItem ov iv v)
      release [v, ov, iv] []) := by intro _; rfl) (hs : swapsWithSole [.Subscript o i spos] e pos.line X.env = pure false := by rfl) (hw : swappedStores [.Subscript o i spos] e X.env = pure none := by rfl)
    (h1 : (assignEach [.Subscript o i spos] X.env).map (·.2) = [assign (.Subscript o i spos) X.env] := by rfl) : DS X W (.Assign [.Subscript o i spos] e pos) (dStore to ti te) :=
  ⟨PS.imp (ps_asg he.p (pg_sub ho.p hi.p set_list ha) hs hw h1) fun D σ H ⟨σd, S, fr, Dd, ok, cl, h, k⟩ => ⟨σd, S, fr, _, ok, cl, h, fun v d H1 S1 ok1 r1 q =>
    ⟨σd, S1, (v, d) :: fr, _, ok1.cons r1, cl.tail, q, fun ov od H2 S2 ok2 r2 q => ⟨σd, S2, (ov, od) :: (v, d) :: fr, _, ok2.cons r2, cl.tail.tail, q, fun kv kd H3 S3 ok3 r3 q => by
      obtain ⟨a, ds, n, j, e1, e2, e3, e4, q5⟩ := setQ_inv q
      have ro := ok3.head
      have rv := ok3.tail.head
      have ok4 := ok3.tail.tail
      subst e1 e3
      obtain ⟨vs, hv, rl⟩ := rp_obj ok4.rel e2
      refine ⟨a, vs, n, j, ro, r3, hv, by rw [← rpL_len rl]; exact e4, ?_⟩
      have st : Step H3 S3 (upd H3 a (.lst (vs.set j v))) (upS S3 a (.lst (ds.set j d))) := step_set e2
      exact k.nx σd σ _ _ (ok4.step st (rel_set ok4.rel e2 ⟨_, upd_same, rpL_step ok4.rel st _ _ (rpL_set j rl rv)⟩)) q5⟩⟩⟩⟩
/-- l.append(e), l an owned list -/
def appQ (S : Sd) (v : D) (Q : DK) : D → Prop
  | .obj a => match S a with
    | some (.lst ds) => ds.length < 16777216 ∧ Q .non (upS S a (.lst (ds ++ [v])))
    | _ => False
  | _ => False
theorem appQ_inv {S : Sd} {v o : D} {Q : DK} (h : appQ S v Q o) : ∃ a ds, o = .obj a ∧ S a = some (.lst ds) ∧ ds.length < 16777216 ∧ Q .non (upS S a (.lst (ds ++ [v]))) := by
  cases o with
  | obj a =>
    unfold appQ at h
    dsimp only at h
    split at h
    · rename_i ds e
      exact ⟨a, ds, rfl, e, h.1, h.2⟩
    · exact h.elim
  | _ => exact (show False from h).elim
/-! ### methods of built-in types -/
def tyM (T : String) (d : D) (S : Sd) : Prop := match d with
  | .str _ => T = "str"
  | .int _ => T = "int"
  | .lst ds => T = "list"
  | .obj a => T = "list" ∧ ∃ ds, S a = some (.lst ds)
  | _ => False
theorem tyM_V {K : PySem.W.Frag} {H : Hp} {S : Sd} {d : D} {v : V} {T : String} (R : RelS K H S) (r : Rp K H S d v) (t : tyM T d S) : tyV K T v H := by
  cases d with
  | str x => have e : v = .str x := r; subst e; exact t
  | int x => have e : v = .int x := r; subst e; exact t
  | lst ds =>
    obtain ⟨a, vs, rfl, q, _⟩ := rp_list R r
    exact .inl ⟨t, vs, q⟩
  | obj a =>
    obtain ⟨t, ds, e⟩ := t
    obtain ⟨vs, q, _⟩ := rp_obj R e
    have e : v = .ref a := r
    subst e
    exact .inl ⟨t, vs, SqL.of q⟩
  | _ => exact (show False from t).elim
abbrev RDM := D → List D → Sd → DK → Prop
def LiftM (K : PySem.W.Frag) (r : V → List V → Hp → VK → Prop) (rd : RDM) : Prop := ∀ H S fr σd σ x dx xs ds Qv Qd, Ok K H S fr σd σ → Rp K H S dx x → RpL K H S ds xs → rd dx ds S Qd →
  (∀ v d H' S', Ok K H' S' fr σd σ → Rp K H' S' d v → Qd d S' → Qv v H') → r x xs H Qv
def dBM (T : String) (rd : RDM) (to : TED) (t : TAD) : TED := fun σ S Q => to σ S fun o S1 => tyM T o S1 ∧ t σ S1 fun vs S2 => rd o vs S2 Q
def dBM0 (T : String) (rd : RDM) (to : TED) : TED := fun σ S Q => to σ S fun o S1 => tyM T o S1 ∧ rd o [] S1 Q
theorem de_bm {o : Expr} {to : TED} {es : List Expr} {t : TAD} {T id : String} {name : Str} {apos cpos : Pos} {r : V → List V → Hp → VK → Prop} {rd : RDM} (pa : PlainAttrs T) (slot : Slot T name id) (hty : typeOf (.builtin id) = pure (.type "method_descriptor")) (hm : MtR X id r) (l : LiftM X.K r rd)
    (ho : DE X W o to) (ha : DA X W (e :: es) t) (hbase : attributeBase o name X.env (eval o X.env) = eval o X.env := by rfl)
    (hfew : ((backTo cpos (starEach (e :: es) X.env)).all (fun x => !x.1) && (backToKw cpos (keywordEach [] X.env)).all (fun x => x.1.isSome)
      && decide ((e :: es).length + ([] : List Keyword).length + (if ([] : List Keyword).isEmpty then 0 else 1) < 30)) = true := by rfl)
    (hline : (apos.endLine == cpos.line) = true := by rfl) (hs : starEach (e :: es) X.env = (false, eval e X.env) :: starEach es X.env := by rfl) (hplain : (backTo cpos (starEach es X.env)).any (·.1) = false := by rfl) :
    DE X W (.Call (.Attribute o name apos) (e :: es) [] cpos) (dBM T rd to t) :=
  ⟨PE.imp (pe_bm pa slot hty hm ho.p ha.p hbase hfew hline hs hplain) fun σ H Q ⟨σd, S, fr, Qd, ok, cl, h, k⟩ =>
    ⟨σd, S, fr, _, ok, cl, h, fun x dx H1 S1 ok1 r1 q => ⟨tyM_V ok1.rel r1 q.1, σd, S1, (x, dx) :: fr, _, ok1.cons r1, cl.tail, q.2, fun vs ds H2 S2 ok2 r2 q2 =>
      l H2 S2 fr σd σ x dx vs ds Q Qd ok2.tail ok2.head r2 q2 k⟩⟩⟩
def rdApp : RDM := fun o vs S Q => match vs with
  | [v] => appQ S v Q o
  | _ => False
theorem app_lift {K : PySem.W.Frag} : LiftM K rAppend rdApp := fun H S fr σd σ x dx xs ds Qv Qd ok rx rs h k => by
  cases ds with
  | nil => exact (show False from h).elim
  | cons d r => cases r with
    | cons _ _ => exact (show False from h).elim
    | nil =>
      obtain ⟨a, ds, e1, e2, hl, q⟩ := appQ_inv (show appQ S d Qd dx from h)
      subst e1
      obtain ⟨v, rfl, r1⟩ := rpL1 rs
      obtain ⟨vs, hv, rl⟩ := rp_obj ok.rel e2
      have st : Step H S (upd H a (.lst (vs ++ [v]))) (upS S a (.lst (ds ++ [d]))) := step_set e2
      exact ⟨a, vs, v, rx, rfl, hv, by rw [← rpL_len rl]; exact sz_lt' hl, k _ .non _ _ (ok.step st (rel_set ok.rel e2 ⟨_, upd_same, rpL_step ok.rel st _ _ (rpL_app rl (rpL_cons r1 rpL_nil))⟩)) rfl q⟩
theorem de_app {o : Expr} {to : TED} {es : List Expr} {t : TAD} {apos cpos : Pos} (ho : DE X W o to) (ha : DA X W (e :: es) t) (hbase : attributeBase o "append" X.env (eval o X.env) = eval o X.env := by rfl)
    (hfew : ((backTo cpos (starEach (e :: es) X.env)).all (fun x => !x.1) && (backToKw cpos (keywordEach [] X.env)).all (fun x => x.1.isSome)
      && decide ((e :: es).length + ([] : List Keyword).length + (if ([] : List Keyword).isEmpty then 0 else 1) < 30)) = true := by rfl)
    (hline : (apos.endLine == cpos.line) = true := by rfl) (hs : starEach (e :: es) X.env = (false, eval e X.env) :: starEach es X.env := by rfl) (hplain : (backTo cpos (starEach es X.env)).any (·.1) = false := by rfl) :
    DE X W (.Call (.Attribute o "append" apos) (e :: es) [] cpos) (dBM "list" rdApp to t) :=
  de_bm PySem.F.plainAttrs_list PySem.F.slot_list_append PySem.F.type_list_append mt_append app_lift ho ha hbase hfew hline hs hplain

/-! ### what a loop walks -/
structure ItD (K : PySem.W.Frag) (J : It) (xs : List D) (fr : List (V × D)) : Prop where
  go : ∀ (i : Nat) (d : D), xs[i]? = some d → ∀ H S σd σ, Ok K H S fr σd σ → J.go i H ∧ ∀ x H', J.yld i H x H' → Ok K H' S fr σd σ ∧ Rp K H' S d x
  stop : ∀ H S σd σ, Ok K H S fr σd σ → J.stop xs.length H
abbrev TID := Si → Sd → (List D → Sd → Prop) → Prop
def upI (K : PySem.W.Frag) (W : Wi) (t : TID) : TI := fun σ H R => ∃ σd S fr Rd, Ok K H S fr σd σ ∧ Cl K W fr ∧ t σd S Rd ∧ ∀ J xs H' S' fr', Ok K H' S' (fr' ++ fr) σd σ → ItD K J xs (fr' ++ fr) → Rd xs S' → R J H'
structure DI (X : Cx) (W : Wi) (tg iter : Expr) (t : TID) : Prop where
  p : PI X tg iter (upI X.K W t)
theorem PI.imp {tg iter : Expr} {t t' : TI} (h : PI X tg iter t) (k : ∀ σ H Q, t' σ H Q → t σ H Q) : PI X tg iter t' := ⟨fun pins s σ H Q I q => h.run pins s σ H Q I (k _ _ _ q)⟩
theorem itd_list {K : PySem.W.Frag} {a : Addr} {ds : List D} {fr : List (V × D)} : ItD K (Itl K a) ds ((.ref a, .lst ds) :: fr) where
  go := fun i d e H S σd σ ok => by
    obtain ⟨a', vs, e1, q, r⟩ := rp_list ok.rel ok.head
    have e1' : V.ref a = .ref a' := e1
    cases e1'
    obtain ⟨v, h1, h2⟩ := rpL_get r e
    refine ⟨⟨vs, v, q, h1⟩, fun x H' y => ?_⟩
    obtain ⟨e2, y⟩ := y
    subst e2
    have h3 := y vs q
    rw [h1] at h3
    cases h3
    exact ⟨ok, h2⟩
  stop := fun H S σd σ ok => by
    obtain ⟨a', vs, e1, q, r⟩ := rp_list ok.rel ok.head
    have e1' : V.ref a = .ref a' := e1
    cases e1'
    exact ⟨vs, q, by rw [rpL_len r]; exact Nat.le_refl _⟩
theorem itd_tup {K : PySem.W.Frag} {a : Addr} {ds : List D} {fr : List (V × D)} : ItD K (Itt K a) ds ((.ref a, .tup ds) :: fr) where
  go := fun i d e H S σd σ ok => by
    obtain ⟨a', vs, e1, q, r⟩ := ok.head
    have e1' : V.ref a = .ref a' := e1
    cases e1'
    obtain ⟨v, h1, h2⟩ := rpL_get r e
    refine ⟨⟨vs, v, q, h1⟩, fun x H' y => ?_⟩
    obtain ⟨e2, y⟩ := y
    subst e2
    have h3 := y vs q
    rw [h1] at h3
    cases h3
    exact ⟨ok, h2⟩
  stop := fun H S σd σ ok => by
    obtain ⟨a', vs, e1, q, r⟩ := ok.head
    have e1' : V.ref a = .ref a' := e1
    cases e1'
    exact ⟨vs, q, by rw [rpL_len r]; exact Nat.le_refl _⟩
def rgD (lo : Int) (n : Nat) : List D := (List.range n).map fun (i : Nat) => D.int (lo + i)
theorem itd_rng {K : PySem.W.Frag} {lo : Int} {n : Nat} {fr : List (V × D)} : ItD K (Itr lo n) (rgD lo n) fr where
  go := fun i d e H S σd σ ok => by
    unfold rgD at e
    rw [List.getElem?_map] at e
    cases q : (List.range n)[i]? with
    | none => rw [q] at e; cases e
    | some j =>
      rw [q] at e
      cases e
      obtain ⟨h1, h2⟩ := List.getElem?_eq_some_iff.mp q
      rw [List.getElem_range] at h2
      subst h2
      refine ⟨show i < n by simpa using h1, fun x H' y => ?_⟩
      obtain ⟨e2, y⟩ := y
      subst e2
      subst y
      exact ⟨ok, rfl⟩
  stop := fun H S σd σ ok => by
    unfold rgD
    rw [List.length_map, List.length_range]
    exact Nat.le_refl n
def dRng1 (ta : TAD) : TID := fun σ S R => ta σ S fun xs S1 => match xs with
  | [.int j] => (-(2 ^ 62) ≤ j ∧ j < 2 ^ 62) ∧ R (rgD 0 j.toNat) S1
  | _ => False
def dRng2 (ta : TAD) : TID := fun σ S R => ta σ S fun xs S1 => match xs with
  | [.int i, .int j] => (-(2 ^ 62) ≤ i ∧ i < 2 ^ 62 ∧ -(2 ^ 62) ≤ j ∧ j < 2 ^ 62) ∧ R (rgD i (j - i).toNat) S1
  | _ => False
theorem di_rng1 {a tg : Expr} {ta : TAD} {p pos : Pos} (hg : Gl X "range") (hm : X.mg "range" = none) (ha : DA X W [a] ta) (hs : starEach [a] X.env = [(false, eval a X.env)] := by rfl) : DI X W tg (.Call (.Name "range" p) [a] [] pos) (dRng1 ta) :=
  ⟨PI.imp (pi_range1 hg hm ha.p hs) fun σ H R ⟨σd, S, fr, Rd, ok, cl, h, k⟩ => ⟨σd, S, fr, _, ok, cl, h, fun vs ds H1 S1 ok1 r1 q => by
    cases ds with
    | nil => exact (show False from q).elim
    | cons d r => cases r with
      | cons _ _ => cases d <;> exact (show False from q).elim
      | nil => cases d with
        | int j =>
          obtain ⟨v, rfl, r2⟩ := rpL1 r1
          have e : v = .int j := r2
          subst e
          exact ⟨j, rfl, q.1.1, q.1.2, k _ _ H1 S1 [] ok1 itd_rng q.2⟩
        | _ => exact (show False from q).elim⟩⟩
theorem di_rng2 {a b tg : Expr} {ta : TAD} {p pos : Pos} (hg : Gl X "range") (hm : X.mg "range" = none) (ha : DA X W [a, b] ta) (hs : starEach [a, b] X.env = [(false, eval a X.env), (false, eval b X.env)] := by rfl) (hs2 : starEach [b] X.env = [(false, eval b X.env)] := by rfl) : DI X W tg (.Call (.Name "range" p) [a, b] [] pos) (dRng2 ta) :=
  ⟨PI.imp (pi_range2 hg hm ha.p hs hs2) fun σ H R ⟨σd, S, fr, Rd, ok, cl, h, k⟩ => ⟨σd, S, fr, _, ok, cl, h, fun vs ds H1 S1 ok1 r1 q => by
    cases ds with
    | nil => exact (show False from q).elim
    | cons d r => cases r with
      | nil => cases d <;> exact (show False from q).elim
      | cons d2 r => cases r with
        | cons _ _ => cases d <;> cases d2 <;> exact (show False from q).elim
        | nil => cases d with
          | int i => cases d2 with
            | int j =>
              obtain ⟨v, w, rfl, r2, r3⟩ := rpL2 r1
              have e : v = .int i := r2
              have e2 : w = .int j := r3
              subst e e2
              exact ⟨i, j, rfl, q.1, k _ _ H1 S1 [] ok1 itd_rng q.2⟩
            | _ => exact (show False from q).elim
          | _ => cases d2 <;> exact (show False from q).elim⟩⟩

/-! ### for -/
def dLoop (g : TGD) (tb : TSD) (D : EndsD) : List Dv.D → Si → Sd → Prop
  | [], σ, S => D.nx σ S
  | x :: r, σ, S => g x σ S fun σ2 S2 => tb { D with nx := dLoop g tb D r, ct := dLoop g tb D r, bk := D.nx } σ2 S2
def dFor (ti : TID) (g : TGD) (tb : TSD) : TSD := fun D σ S => ti σ S fun xs S1 => dLoop g tb D xs σ S1
theorem ds_for {vs : List Nat} {tg iter : Expr} {body : List Stmt} {ti : TID} {g : TGD} {tb : TSD} (hp : PassesOwn (model X.prog X.w) X.A X.env X.xe) (hc : X.calm = true) (hi : DI X W tg iter ti) (hg : DG X W vs tg g) (hb : DB X W body tb)
    (hs : ∀ x, foldedSetIterable iter X.env x = pure x := by intro _; rfl) : DS X W (.For tg iter body [] pos) (dFor ti g tb) :=
  ⟨PS.imp (ps_for hp hc hi.p hg.p hb.p hs) fun D σ H ⟨σd, S, fr, Dd, ok, cl, h, k⟩ => ⟨σd, S, fr, _, ok, cl, h, fun J xs H1 S1 fr' ok1 it q => by
    refine ⟨fun i m σ' H' => m = xs.length - i ∧ i ≤ xs.length ∧ ∃ σd' S', Ok X.K H' S' (fr' ++ fr) σd' σ' ∧ dLoop g tb Dd (xs.drop i) σd' S', ⟨_, rfl, Nat.zero_le _, σd, S1, ok1, by simpa using q⟩, ?_⟩
    rintro i m σ' H' ⟨rfl, hi, σd', S', ok', q'⟩
    by_cases hlt : i < xs.length
    · have ex : xs[i]? = some xs[i] := List.getElem?_eq_getElem hlt
      have dr : xs.drop i = xs[i] :: xs.drop (i + 1) := List.drop_eq_getElem_cons hlt
      rw [dr] at q'
      obtain ⟨g1, g2⟩ := it.go i _ ex H' S' σd' σ' ok'
      refine .inr ⟨g1, fun σ2 H2 => ∃ σd2 S2, Ok X.K H2 S2 (fr' ++ fr) σd2 σ2 ∧ dLoop g tb Dd (xs.drop (i + 1)) σd2 S2, fun σ2 H2 ⟨σd2, S2, h1, h2⟩ => ⟨_, by omega, rfl, hlt, σd2, S2, h1, h2⟩, fun x H2 y => ?_⟩
      obtain ⟨ok2, r2⟩ := g2 x H2 y
      refine ⟨σd', S', fr' ++ fr, _, xs[i], ok2, cl.pre, r2, q', fun σ3 σd3 H3 S3 ok3 _ q3 => ⟨σd3, S3, fr' ++ fr, _, ok3, cl.pre, q3, ?_⟩⟩
      exact ⟨fun σd4 σ4 H4 S4 ok4 q4 => ⟨σd4, S4, ok4, q4⟩, fun v d σd4 σ4 H4 S4 ok4 r4 q4 => k.rt v d σd4 σ4 H4 S4 ok4.pre r4 q4, fun σd4 σ4 H4 S4 ok4 q4 => k.nx σd4 σ4 H4 S4 ok4.pre q4, fun σd4 σ4 H4 S4 ok4 q4 => ⟨σd4, S4, ok4, q4⟩⟩
    · have e : i = xs.length := by omega
      subst e
      rw [List.drop_length] at q'
      exact .inl ⟨it.stop H' S' σd' σ' ok', k.nx σd' σ' H' S' ok'.pre q'⟩⟩⟩

/-! ### while -/
def dWhile (c : TTD) (tb : TSD) : TSD := fun D σ S => ∃ Wd : Nat → Si → Sd → Prop, (∃ m, Wd m σ S) ∧ ∀ m σ S, Wd m σ S →
  c σ S fun b S1 => if b = true then tb { D with nx := fun σ' S' => ∃ m', m' < m ∧ Wd m' σ' S', ct := fun σ' S' => ∃ m', m' < m ∧ Wd m' σ' S', bk := D.nx } σ S1 else D.nx σ S1
theorem ds_while {body : List Stmt} {tb : TSD} (hp : PassesOwn (model X.prog X.w) X.A X.env X.xe) (hc : DT X W c tc) (hb : DB X W body tb) : DS X W (.While c body [] pos) (dWhile tc tb) :=
  ⟨PS.imp (ps_while hp hc.p hb.p) fun D σ H ⟨σd, S, fr, Dd, ok, cl, ⟨Wd, ⟨m, w⟩, hw⟩, k⟩ =>
    ⟨fun m σ' H' => ∃ σd' S', Ok X.K H' S' fr σd' σ' ∧ Wd m σd' S', ⟨m, σd, S, ok, w⟩, fun m σ' H' ⟨σd', S', ok', w'⟩ => ⟨σd', S', fr, _, ok', cl, hw m σd' S' w', fun b H1 S1 ok1 q => by
      cases b with
      | true =>
        refine (show ∃ N : L2.St → Hp → Prop, _ from ⟨fun σ2 H2 => ∃ m' σd2 S2, m' < m ∧ Ok X.K H2 S2 fr σd2 σ2 ∧ Wd m' σd2 S2, fun σ2 H2 ⟨m', σd2, S2, h1, h2, h3⟩ => ⟨m', h1, σd2, S2, h2, h3⟩, σd', S1, fr, _, ok1, cl, (if_pos rfl : _ = _) ▸ q, ?_⟩)
        exact ⟨fun σd4 σ4 H4 S4 ok4 ⟨m', h1, h2⟩ => ⟨m', σd4, S4, h1, ok4, h2⟩, k.rt, k.nx, fun σd4 σ4 H4 S4 ok4 ⟨m', h1, h2⟩ => ⟨m', σd4, S4, h1, ok4, h2⟩⟩
      | false => exact (show D.nx σ' H1 from k.nx σd' σ' H1 S1 ok1 (by simpa using q))⟩⟩⟩
end
end Dv

/-! Readings by value, 5: comprehensions, defs, the law's end. -/
namespace Dv
open PySem L2 PyProof.Rows

def wipeD (σ : Si) : List Nat → Si
  | [] => σ
  | v :: vs => (wipeD σ vs).set v none
section
variable {K : PySem.W.Frag} {H : Hp} {S : Sd} {fr : List (V × D)} {σd : Si} {σ : L2.St}
theorem Ok.wipe (o : Ok K H S fr σd σ) : ∀ vs : List Nat, Ok K H S fr (wipeD σd vs) (L2.wipe σ vs)
  | [] => o
  | v :: vs => (Ok.wipe o vs).gone v none
theorem wipe_wipe (σ : L2.St) (vs : List Nat) : L2.wipe (L2.wipe σ vs) vs = L2.wipe σ vs := by
  have gen : ∀ (ws : List Nat), (∀ w ∈ ws, w ∈ vs) → L2.wipe (L2.wipe σ ws) vs = L2.wipe σ vs := by
    intro ws
    induction ws with
    | nil => intro _; rfl
    | cons w ws ih =>
      intro h
      show L2.wipe ((L2.wipe σ ws).set w none) vs = L2.wipe σ vs
      rw [wipe_set (h w List.mem_cons_self)]
      exact ih fun x hx => h x (List.mem_cons_of_mem _ hx)
  exact gen vs fun _ h => h
end

section
variable {X : Cx} {W : Wi} {pos : Pos}
structure DTs (X : Cx) (W : Wi) (ifs : List Expr) (t : TTD) : Prop where
  p : PTs X ifs (upT X.K W t)
theorem PTs.imp {ifs : List Expr} {t t' : TT} (h : PTs X ifs t) (k : ∀ σ H Q, t' σ H Q → t σ H Q) : PTs X ifs t' := ⟨fun pins s σ H Q I q => h.run pins s σ H Q I (k _ _ _ q)⟩
def dYes : TTD := fun _ S Q => Q true S
theorem dts_nil : DTs X W [] dYes := ⟨PTs.imp pts_nil fun σ H Q ⟨σd, S, fr, Qd, ok, cl, h, k⟩ => k true H S ok h⟩
def dLcL (g : TGD) (tt : TTD) (te : TED) (p : Addr) (σw : Si) : List D → List D → Sd → (List D → Sd → Prop) → Prop
  | [], acc, S, Q => Q acc S
  | x :: r, acc, S, Q => g x σw S fun σ2 S2 => tt σ2 S2 fun b S3 => if b = true then te σ2 S3 fun y S4 => S4 p = some (.lst acc) ∧ acc.length < 16777216 ∧ dLcL g tt te p σw r (acc ++ [y]) (upS S4 p (.lst (acc ++ [y]))) Q
    else dLcL g tt te p σw r acc S3 Q
def dComp (ti : TID) (g : TGD) (tt : TTD) (te : TED) (vs : List Nat) : TED := fun σ S Q => ti σ S fun xs S1 => ∀ p, S1 p = none → dLcL g tt te p (wipeD σ vs) xs [] (upS S1 p (.lst [])) fun acc S2 => S2 p = some (.lst acc) ∧ Q (.lst acc) (del S2 p)
theorem lc_lift {K : PySem.W.Frag} {ti : TID} {g : TGD} {tt : TTD} {te : TED} {vs : List Nat} (σ : L2.St) (H : Hp) (Q : VK) (h : upE K W (dComp ti g tt te vs) σ H Q) :
    tLc (upI K W ti) (upG K W0 vs g) (upT K W0 tt) (upE K W0 te) vs σ H Q := by
  obtain ⟨σd, S, fr, Qd, ok, cl, h, k⟩ := h
  refine ⟨σd, S, fr, _, ok, cl, h, fun J xs H1 S1 fr' ok1 it q => ?_⟩
  intro Dl hD
  have q0 := q Dl (ok1.rel.free hD)
  have ok2 : Ok K (upd H1 Dl (.lst [])) (upS S1 Dl (.lst [])) (fr' ++ fr) σd σ := ok1.own hD rpL_nil
  have Fin : (List D → Sd → Prop) := fun acc S2 => S2 Dl = some (.lst acc) ∧ Qd (.lst acc) (del S2 Dl)
  refine ⟨fun i m H' => m = xs.length - i ∧ i ≤ xs.length ∧ ∃ S' acc, RelS K H' S' ∧ FrOk K H' S' ((fr' ++ fr) ++ prs σd σ) ∧ dLcL g tt te Dl (wipeD σd vs) (xs.drop i) acc S' (fun acc S2 => S2 Dl = some (.lst acc) ∧ Qd (.lst acc) (del S2 Dl)),
    ⟨_, rfl, Nat.zero_le _, _, [], ok2.rel, ok2.out, by simpa using q0⟩, ?_⟩
  rintro i m H' ⟨rfl, hi, S', acc, R', F', q'⟩
  have okp : Ok K H' S' ((fr' ++ fr) ++ prs σd σ) σd σ := ⟨R', F', ok.len, fun i d e => by
    obtain ⟨v, h1, _⟩ := ok.si i d e
    exact ⟨v, h1, F' (v, d) (List.mem_append_right _ (prs_mem h1 e))⟩⟩
  have ok' : Ok K H' S' (fr' ++ fr) σd σ := ⟨R', fun p hp => F' p (List.mem_append_left _ hp), okp.len, okp.si⟩
  by_cases hlt : i < xs.length
  · have ex : xs[i]? = some xs[i] := List.getElem?_eq_getElem hlt
    have dr : xs.drop i = xs[i] :: xs.drop (i + 1) := List.drop_eq_getElem_cons hlt
    rw [dr] at q'
    obtain ⟨g1, g2⟩ := it.go i _ ex H' S' σd σ ok'
    refine .inr ⟨g1, fun H2 => ∃ S2 acc2, RelS K H2 S2 ∧ FrOk K H2 S2 ((fr' ++ fr) ++ prs σd σ) ∧ dLcL g tt te Dl (wipeD σd vs) (xs.drop (i + 1)) acc2 S2 (fun acc S2 => S2 Dl = some (.lst acc) ∧ Qd (.lst acc) (del S2 Dl)), fun H2 ⟨S2, acc2, h1, h2, h3⟩ => ⟨_, by omega, rfl, hlt, S2, acc2, h1, h2, h3⟩, fun x H2 y => ?_⟩
    obtain ⟨ok3, _⟩ := g2 x H2 y
    obtain ⟨_, r2⟩ := (it.go i _ ex H' S' σd σ ok').2 x H2 y
    have okp3 : Ok K H2 S' ((fr' ++ fr) ++ prs σd σ) σd σ := ⟨ok3.rel, ok3.out, ok3.len, ok3.si⟩
    refine ⟨wipeD σd vs, S', (fr' ++ fr) ++ prs σd σ, _, xs[i], okp3.wipe vs, Cl.zero, r2, q', fun σ3 σd3 H3 S3 ok4 hw q3 => ⟨hw.trans (wipe_wipe σ vs), σd3, S3, (fr' ++ fr) ++ prs σd σ, _, ok4, Cl.zero, q3, fun b H4 S4 ok5 q4 => ?_⟩⟩
    cases b with
    | true =>
      refine (show upE K W0 te σ3 H4 _ from ⟨σd3, S4, (fr' ++ fr) ++ prs σd σ, _, ok5, Cl.zero, (by simpa using q4), fun y dy H5 S5 ok6 r6 q5 => ?_⟩)
      obtain ⟨p1, p2, p3⟩ := q5
      obtain ⟨ws, hv, rl⟩ := rp_obj ok6.rel p1
      have st : Step H5 S5 (upd H5 Dl (.lst (ws ++ [y]))) (upS S5 Dl (.lst (acc ++ [dy]))) := step_set p1
      have okf := ok6.step st (rel_set ok6.rel p1 ⟨_, upd_same, rpL_step ok6.rel st _ _ (rpL_app rl (rpL_cons r6 rpL_nil))⟩)
      exact ⟨ws, hv, by rw [← rpL_len rl]; exact sz_lt' p2, _, _, okf.rel, okf.fr, p3⟩
    | false => exact ⟨S4, acc, ok5.rel, ok5.fr, by simpa using q4⟩
  · have e : i = xs.length := by omega
    subst e
    rw [List.drop_length] at q'
    obtain ⟨p1, p2⟩ := q'
    exact .inl ⟨it.stop H' S' σd σ ok', k _ (.lst acc) H' _ (ok'.pre.step step_del (rel_del ok'.rel)) (rp_frozen ok'.rel p1) p2⟩
theorem de_lc {elt tg iter : Expr} {ifs : List Expr} {scope : Scope} {own : List (Str × Nat)} {ti : TID} {g : TGD} {tt : TTD} {te : TED} (hc : X.calm = true) (hN : X.N.Nodup) (hi : DI X W tg iter ti) (ok : BlkOk X.N X.env.scope scope own)
    (hg : ∀ (s : Shared) (H : Hp) (C : Addr) (cl : List (Str × Addr)) (fp : List Addr), DG (X.blk s H scope (compEnvC scope cl C X.env) fp) W0 (own.map (·.2)) tg g) (ht : ∀ (s : Shared) (H : Hp) (C : Addr) (cl : List (Str × Addr)) (fp : List Addr), DTs (X.blk s H scope (compEnvC scope cl C X.env) fp) W0 ifs tt)
    (he : ∀ (s : Shared) (H : Hp) (C : Addr) (cl : List (Str × Addr)) (fp : List Addr), DE (X.blk s H scope (compEnvC scope cl C X.env) fp) W0 elt te) (hs : ∀ x, foldedSetIterable iter X.env x = pure x := by intro _; rfl) :
    DE X W (.ListComp elt [⟨tg, iter, ifs, 0⟩] scope pos) (dComp ti g tt te (own.map (·.2))) :=
  ⟨PE.imp (pe_lc hc hN hi.p ok (fun s H C cl fp => (hg s H C cl fp).p) (fun s H C cl fp => (ht s H C cl fp).p) (fun s H C cl fp => (he s H C cl fp).p) hs) fun σ H Q h => lc_lift σ H Q h⟩
theorem ds_setLc (i : Nat) {y : Str} {py : Pos} {elt tg iter : Expr} {ifs : List Expr} {scope : Scope} {own : List (Str × Nat)} {spos : Pos} {ti : TID} {g : TGD} {tt : TTD} {te : TED} (hc : X.calm = true) (hN : X.N.Nodup) (hy : X.N[i]? = some y) (hyl : X.env.scope.names.lookup y = some .local)
    (hsw : swapsWith (.ListComp elt [⟨tg, iter, ifs, 0⟩] scope pos) (some (.Name y py)) spos.line X.env = pure true) (hi : DI X W tg iter ti) (ok : BlkOk X.N X.env.scope scope own)
    (hg : ∀ (s : Shared) (H : Hp) (C : Addr) (cl : List (Str × Addr)) (fp : List Addr), DG (X.blk s H scope (compEnvC scope cl C X.env) fp) W0 (own.map (·.2)) tg g) (ht : ∀ (s : Shared) (H : Hp) (C : Addr) (cl : List (Str × Addr)) (fp : List Addr), DTs (X.blk s H scope (compEnvC scope cl C X.env) fp) W0 ifs tt)
    (he : ∀ (s : Shared) (H : Hp) (C : Addr) (cl : List (Str × Addr)) (fp : List Addr), DE (X.blk s H scope (compEnvC scope cl C X.env) fp) W0 elt te) (hs : ∀ x, foldedSetIterable iter X.env x = pure x := by intro _; rfl) :
    DS X W (.Assign [.Name y py] (.ListComp elt [⟨tg, iter, ifs, 0⟩] scope pos) spos) (dSet i (dComp ti g tt te (own.map (·.2)))) :=
  ⟨PS.imp (ps_setLc hc hN hy hyl hsw hi.p ok (fun s H C cl fp => (hg s H C cl fp).p) (fun s H C cl fp => (ht s H C cl fp).p) (fun s H C cl fp => (he s H C cl fp).p) hs) fun D σ H ⟨σd, S, fr, Dd, ok, cl, h, k⟩ =>
    lc_lift (W := W) σ H _ ⟨σd, S, fr, _, ok, cl, h, fun v d H1 S1 ok1 r1 q => k.nx _ _ H1 S1 (ok1.set r1 i) q⟩⟩
end

/-! ### defs -/
def startD (N : List Str) (ds : List D) : Si := ds.map some ++ List.replicate (N.length - ds.length) none
theorem start_ok {K : PySem.W.Frag} {H : Hp} {S : Sd} {fr : List (V × D)} {N : List Str} {ds : List D} {vs : List V} (R : RelS K H S) (F : FrOk K H S fr) (r : RpL K H S ds vs) : Ok K H S fr (startD N ds) (L2.start N vs) := by
  have hl := rpL_len r
  refine ⟨R, F, by unfold startD L2.start; simp [hl], fun i d e => ?_⟩
  unfold startD at e
  unfold L2.start
  rcases Nat.lt_or_ge i ds.length with z | z
  · rw [List.getElem?_append_left (by simpa using z), List.getElem?_map] at e
    cases q : ds[i]? with
    | none => rw [q] at e; cases e
    | some d' =>
      rw [q] at e
      cases e
      obtain ⟨v, h1, h2⟩ := rpL_get r q
      exact ⟨v, by rw [List.getElem?_append_left (by simpa [← hl] using z), List.getElem?_map, h1]; rfl, h2⟩
  · rw [List.getElem?_append_right (by simpa using z), List.getElem?_replicate] at e
    split at e <;> cases e
/-- what a body is run in -/
abbrev bodyCx (P : Program) (w : World) (K : PySem.W.Frag) (mg : Str → Option Value) (base : Heap) (N : List Str) (qual : Str) (st : Stmt) (f : Addr) (cdv : Value) (A : Around) (outer : List Env) (s : Shared) (H : Hp) (E : XK) : Cx :=
  cxOf (L2N.CX P w) P w K mg base N qual (defScope st) f cdv A outer s H E
abbrev wiOf (E : XK) (Ed : XKD) : Wi := ⟨fun cls d _ H => E cls d H, fun x _ S => Ed x S⟩
theorem takesB {P : Program} {w : World} {K : PySem.W.Frag} {mg : Str → Option Value} {base : Heap} {N : List Str} {qual : Str} {st : Stmt} {f : Addr} {cdv : Value} {A : Around} {outer : List Env} {s : Shared} {H : Hp} {E : XK} {Ed : XKD} :
    L2N.Takes (bodyCx P w K mg base N qual st f cdv A outer s H E) (wiOf E Ed).V := L2N.takes_of rfl rfl rfl rfl
theorem passB {P : Program} {w : World} {K : PySem.W.Frag} {mg : Str → Option Value} {base : Heap} {N : List Str} {qual : Str} {st : Stmt} {f : Addr} {cdv : Value} {A : Around} {outer : List Env} {s : Shared} {H : Hp} {E : XK} :
    PassesOwn (model P w) (bodyCx P w K mg base N qual st f cdv A outer s H E).A (bodyCx P w K mg base N qual st f cdv A outer s H E).env (bodyCx P w K mg base N qual st f cdv A outer s H E).xe :=
  passes_of (X := bodyCx P w K mg base N qual st f cdv A outer s H E) rfl
section
variable {P : Program} {w : World} {K : PySem.W.Frag} {mg : Str → Option Value} {base : Heap}
/-- THE RULE for a def -/
theorem okD {x qual : Str} {st : Stmt} {f : Addr} {fd : FuncData} {N ps : List Str} {k : Nat} {sp : SpD} {t : XKD → TSD} (F : Fun K x qual st f fd) (Sc : FnScope N ps (defScope st)) (len : ∀ ds S Q E, sp ds S Q E → ds.length = ps.length)
    (hb : ∀ (cdv : Value) (A : Around) (outer : List Env) (s : Shared) (H : Hp) (E : XK) (Ed : XKD), Hx.RoomG k (A.deeper (envOfC qual (defScope st) s.heap.objs.size f cdv)) → DB (bodyCx P w K mg base N qual st f cdv A outer s H E) (wiOf E Ed) (defBody st) (t Ed))
    (hp : ∀ ds S Q Ed, sp ds S Q Ed → t Ed { nx := fun _ S' => Q .non S', rt := Q } (startD N ds) S) : Hx.FnG P w K mg base (L2N.CX P w) (k + 1) f fd ps (upF K sp) := by
  refine Hx.fnG_of F Sc (fun vs H Q E h => ?_) (fun cdv _ A outer s H vs Q E hr h => ?_)
  · obtain ⟨ds, S, fr, Qd, Ed, R, f, r, h, _⟩ := h
    rw [← rpL_len r]
    exact len ds S Qd Ed h
  · obtain ⟨ds, S, fr, Qd, Ed, R, f, r, h, hq, hx⟩ := h
    refine ⟨_, (hb cdv A outer s H E Ed hr).p, startD N ds, S, fr, { nx := fun _ S' => Qd .non S', rt := Qd }, start_ok R f r, fun σd σ H' S' cls od y o rx q => hx cls od y H' S' o.rel o.fr rx q, hp ds S Qd Ed h, ?_⟩
    exact ⟨fun σd σ H' S' o q => hq .non .non H' S' o.rel o.fr rfl q, fun v d σd σ H' S' o rv q => hq v d H' S' o.rel o.fr rv q, fun _ _ _ _ _ q => q.elim, fun _ _ _ _ _ q => q.elim⟩
end
/-- law's promise -/
def spLawD : SpD := fun ds S Q _ => ∃ ns : List Int, ds = [.lst (ns.map D.int)] ∧ ns.length ≤ 63 ∧ (∀ S', Q (.bl true) S')
theorem law_start {K : PySem.W.Frag} {H : Hp} {a : Addr} {ns : List Int} (h : SqL K H a (ns.map V.int)) (hl : ns.length ≤ 63) : upF K spLawD [.ref a] H (fun v _ => v = .bl true) fun _ _ _ => False := by
  refine ⟨[.lst (ns.map D.int)], fun _ => none, [], fun d _ => d = .bl true, fun _ _ => False, fun a o e => (by cases e), fun p hp => (by cases hp), ?_, ⟨ns, rfl, hl, fun _ => rfl⟩, fun v d H' S' _ _ r e => ?_, fun _ _ _ _ _ _ _ _ q => q⟩
  · refine rpL_cons ⟨a, ns.map V.int, rfl, ?_, rpL_of_ints⟩ rpL_nil
    rcases h with h | h
    · exact .inl ⟨h, rfl⟩
    · exact .inr h
  · subst e
    exact r
theorem CX_no {P : Program} {w : World} {outer : List Env} {H : Hp} {s : Shared} {e : Value} {s' : Shared} (h : L2N.CX P w outer H s (fun _ _ _ => False) e s') : False := by
  obtain ⟨_, _, _, _, _, _, _, _, _, _, _, _, z⟩ := h
  exact z.elim
end Dv

/-! Readings by value, 6: more of the built-ins. -/
namespace PyProof.Rows
open PySem
section
variable {prog : Program} {w : World} {A : Around} {E : Value → Shared → Prop} {s : Shared}
end
end PyProof.Rows

namespace HT
open PySem PyProof.Rows
section
variable {prog : Program} {w : World} {A : Around} {E : Value → Shared → Prop} {s : Shared}
theorem sliceApplied_rev {sl : Addr} {vl vu vk : Value} {n : Nat} {Q : Int × Int × Nat → Shared → Prop} (hs : s.heap.IsSliceOf sl vl vu vk) (pl : IsPart vl none) (pu : IsPart vu none) (pk : IsPart vk (some (-1)))
    (h : Q ((n : Int) - 1, -1, n) s) : wpAny (model prog w) A (Builtin.Slice.sliceApplied (.ref sl) (pure (n : Int))) Q E s := by
  obtain ⟨os, hos, hcs, hds⟩ := id hs
  unfold Builtin.Slice.sliceApplied Builtin.Slice.sliceFields
  refine wpAny_bind (wpAny_bind (wpAny_field hos hds (x := vl) rfl (wpAny_bind (wpAny_field hos hds (x := vu) rfl (wpAny_bind (wpAny_field hos hds (x := vk) rfl (wpAny_pure ?_)))))))
  refine wpAny_bind (slicePart_ pk ?_)
  show wpAny _ _ (if ((-1 : Int) == 0) = true then _ else _) _ _ s
  rw [if_neg (by decide)]
  refine wpAny_bind (slicePart_ pl (wpAny_bind (slicePart_ pu (wpAny_bind (wpAny_pure ?_)))))
  show wpAny _ _ (pure ((n : Int) - 1, (-1 : Int), Builtin.Slice.slicePlaces ((n : Int) - 1) (-1) (-1))) _ _ s
  have e : Builtin.Slice.slicePlaces ((n : Int) - 1) (-1) (-1) = n := by
    unfold Builtin.Slice.slicePlaces
    rw [if_neg (by decide)]
    by_cases h0 : (n : Int) - 1 > -1
    · rw [if_pos h0]
      have e1 : (- -1 : Int) = 1 := by decide
      rw [e1, Int.ediv_one]
      omega
    · rw [if_neg h0]
      show 0 = n
      omega
  rw [e]
  exact wpAny_pure h
theorem fm_congr {α β : Type} {f g : α → Option β} : ∀ {l : List α}, (∀ x ∈ l, f x = g x) → l.filterMap f = l.filterMap g
  | [], _ => rfl
  | x :: l, h => by
    rw [List.filterMap_cons, List.filterMap_cons, h x List.mem_cons_self, fm_congr fun y hy => h y (List.mem_cons_of_mem _ hy)]
theorem pick_rev (xs : Array Value) : ((List.range xs.size).filterMap fun (m : Nat) => xs[((xs.size : Int) - 1 + (m : Int) * -1).toNat]?).toArray = xs.toList.reverse.toArray := by
  have e : ((List.range xs.size).filterMap fun (m : Nat) => xs[((xs.size : Int) - 1 + (m : Int) * -1).toNat]?) = ((List.range xs.size).map fun k => xs.size - 1 - k).filterMap (xs[·]?) := by
    rw [List.filterMap_map]
    refine fm_congr fun m hm => ?_
    have h := List.mem_range.mp hm
    have e2 : ((xs.size : Int) - 1 + (m : Int) * -1).toNat = xs.size - 1 - m := by omega
    show xs[((xs.size : Int) - 1 + (m : Int) * -1).toNat]? = xs[xs.size - 1 - m]?
    rw [e2]
  rw [e, PySem.W.krv_range, List.filterMap_reverse, PySem.W.krv_all]
theorem getItem_tuple_rev {t sl : Addr} {items : Array Value} {vl vu vk : Value} {Q : Value → Shared → Prop} (ht : IsTup s.heap t items) (hs : s.heap.IsSliceOf sl vl vu vk) (pl : IsPart vl none) (pu : IsPart vu none) (pk : IsPart vk (some (-1)))
    (h : Q (.ref s.heap.objs.size) { s with heap := s.heap.push { cls := .type "tuple", data := .seq items.toList.reverse.toArray } })
    (hsz : items.size ≤ sizeLine) : wpAny (model prog w) A (getItem (.ref t) (.ref sl)) Q E s := by
  have htake : sizeOk (.seq items.toList.reverse.toArray) := by
    show items.toList.reverse.toArray.size ≤ sizeLine
    rw [List.size_toArray, List.length_reverse, Array.length_toList]
    exact hsz
  obtain ⟨os, hos, hcs, hds⟩ := id hs
  have hTs : s.TypeIs (.ref sl) "slice" := ⟨os, hos, hcs⟩
  unfold getItem
  try with_reducible refine wpAny_holding ?_
  first | refine wpAny_bind (wpAny_pure ?_) | skip
  refine wpAny_bind (wpAny_sequenceKey ht.typeIs (by decide) ?_)
  refine wpAny_bind (wpAny_callSpecial?_slot (name := Str.ofString "__getitem__") ht.typeIs PyProof.Rows.slot_tuple_getitem
    (wpAny_call_entry PyProof.Rows.slot_tuple_getitem ht.typeIs entry_tuple_getitem ?_ (args_tuple_getitem _ _)))
  show wpAny _ _ (Builtin.Tuple.tupleItemsOf (.ref t) >>= _) _ _ s
  refine wpAny_bind (tupleItemsOf_ ht ?_)
  refine wpAny_bind (wpAny_typeOf hTs ?_)
  rw [if_pos (by decide)]
  refine wpAny_bind (sliceApplied_rev hs pl pu pk ?_)
  have hno : ¬ ((((items.size : Int) - 1) == 0 && (-1 : Int) == 1 && items.size == items.size) = true) := by
    intro q
    rw [Bool.and_eq_true, Bool.and_eq_true] at q
    exact absurd q.1.2 (by decide)
  show wpAny _ _ (if (((items.size : Int) - 1) == 0 && (-1 : Int) == 1 && items.size == items.size) = true then _ else _) _ _ s
  rw [if_neg hno, pick_rev]
  first
    | exact wpAny_bind (m := Builtin.Tuple.tupleExact _) (wpAny_newObj_type (wpAny_pure ⟨_, rfl, wpAny_pure h⟩) htake)
    | exact wpAny_bind (m := Builtin.Tuple.tupleExact _) (wpAny_newObj_type (wpAny_bind (wpAny_pure (wpAny_pure ⟨_, rfl, wpAny_pure h⟩))) htake)
    | exact wpAny_bind (wpAny_bind (m := Builtin.Tuple.tupleExact _) (wpAny_newObj_type (wpAny_pure (wpAny_pure ⟨_, rfl, wpAny_pure h⟩)) htake))
    | exact wpAny_bind (wpAny_bind (m := Builtin.Tuple.tupleExact _) (wpAny_newObj_type (wpAny_pure ⟨_, rfl, wpAny_pure h⟩) htake))
end
end HT

namespace Dv
open PySem L2 PyProof.Rows
section
variable {X : Cx}
/-! ### a text times an int -/
def repS (x : Str) (n : Nat) : Str := ⟨(List.replicate n x.cps).foldl (· ++ ·) #[]⟩
def rRepS : R2 := fun x y H Q => ∃ z k, x = .str z ∧ y = .int k ∧ 0 ≤ k ∧ (z.length : Int) * k ≤ 16777216 ∧ k ≤ 16777216 ∧ Q (.str (repS z k.toNat)) H
theorem fold_rep (x : Array Nat) : ∀ (n : Nat) (acc : Array Nat), ((List.replicate n x).foldl (· ++ ·) acc).toList = acc.toList ++ (List.replicate n x.toList).flatten
  | 0, acc => by simp
  | n + 1, acc => by
    rw [List.replicate_succ, List.foldl_cons, fold_rep x n (acc ++ x)]
    simp [List.replicate_succ]
theorem repS_list (x : Str) (n : Nat) : (repS x n).cps.toList = (List.replicate n x.cps.toList).flatten := by
  unfold repS
  rw [fold_rep]
  rfl
theorem str_ext {x y : Str} (h : x.cps.toList = y.cps.toList) : x = y := by
  cases x; cases y
  congr 1
  exact Array.toList_inj.mp h
theorem op_mulS : OpR X (binaryOp .Mult) rRepS := by
  intro pins s σ H x y v u Q I rx ry h
  obtain ⟨z, k, rfl, rfl, h0, hz, hk, q⟩ := h
  obtain ⟨t, rfl⟩ := rx
  obtain ⟨t', rfl⟩ := ry
  refine PySem.P.mul_str ?_ ?_ ?_ ?_
  · have h1 : ¬ k < -(2 ^ 63 : Int) := by omega
    have h2 : ¬ k ≥ 2 ^ 63 := by omega
    rw [decide_eq_false h1, decide_eq_false h2]; rfl
  · intro h1 h2 h3
    have p1 : (0 : Int) < k := by omega
    have e2 : ((2 ^ 63 - 1 : Int) / k + 1) * k > 2 ^ 63 - 1 := by
      have := Int.lt_ediv_add_one_mul_self (2 ^ 63 - 1 : Int) p1
      omega
    have e3 : (2 ^ 63 - 1 : Int) / k + 1 ≤ z.length := by omega
    have e4 : ((2 ^ 63 - 1 : Int) / k + 1) * k ≤ z.length * k := Int.mul_le_mul_of_nonneg_right e3 (by omega)
    omega
  · intro h1 h2
    have e : ((z.length * k.toNat : Nat) : Int) = z.length * k := by
      rw [Int.natCast_mul, Int.toNat_of_nonneg h0]
    refine decide_eq_false ?_
    rw [sl_eq]
    omega
  · by_cases h1 : k < 1
    · rw [if_pos h1]
      have e : k = 0 := by omega
      subst e
      exact ⟨by decide, ⟨.str (repS z 0), H, I.tok _, ⟨_, rfl⟩, q⟩⟩
    · rw [if_neg h1]
      by_cases h2 : (k == 1 || z.length == 0) = true
      · rw [if_pos h2]
        have e : repS z k.toNat = z := by
          refine str_ext ?_
          rw [repS_list]
          rcases Bool.or_eq_true_iff.mp h2 with e | e
          · have e1 : k = 1 := eq_of_beq e
            subst e1
            simp
          · have e1 : z.length = 0 := eq_of_beq e
            have e2 : z.cps.toList = [] := List.length_eq_zero_iff.mp (by simpa [Str.length] using e1)
            rw [e2]
            simp
        rw [e] at q
        exact ⟨.str z, H, I, ⟨_, rfl⟩, q⟩
      · rw [if_neg h2]
        have hl : (repS z k.toNat).length ≤ sizeLine := by
          have e : (repS z k.toNat).length = k.toNat * z.length := by
            have := congrArg List.length (repS_list z k.toNat)
            simpa [Str.length] using this
          have e2 : ((k.toNat * z.length : Nat) : Int) = k * z.length := by
            rw [Int.natCast_mul, Int.toNat_of_nonneg h0]
          have e3 : k * (z.length : Int) = z.length * k := Int.mul_comm _ _
          rw [e, sl_eq]
          omega
        exact ⟨hl, ⟨.str (repS z k.toNat), H, I.tok _, ⟨_, rfl⟩, q⟩⟩
def rdMul : RD2
  | .int i, .int j, S, Q => i.natAbs.log2 + j.natAbs.log2 < 1000000 ∧ Q (.int (i * j)) S
  | .str z, .int k, S, Q => (0 ≤ k ∧ (z.length : Int) * k ≤ 16777216 ∧ k ≤ 16777216) ∧ Q (.str (repS z k.toNat)) S
  | _, _, _, _ => False
end

/-! ### xs[::-1] -/
section
variable {X : Cx} {W : Wi} {e : Expr} {te : TED} {pos : Pos}
def revS (z : Str) : Str := ⟨z.cps.toList.reverse.toArray⟩
def tRevZ (K : PySem.W.Frag) (te : TE) : TE := fun σ H Q => te σ H fun x H1 => (∃ a xs, x = .ref a ∧ ((SqL K H1 a xs ∧ ∀ p, H1 p = none → Q (.ref p) (upd H1 p (.lst xs.reverse))) ∨ (SqT K H1 a xs ∧ ∀ p, H1 p = none → Q (.ref p) (upd H1 p (.tup xs.reverse))))) ∨ ∃ z, x = .str z ∧ z.length ≤ sizeLine ∧ Q (.str (revS z)) H1
theorem revS_picked (z : Str) : ((Builtin.Str.strSliceIndices none none (-1) z.length).filterMap (z.cps[·]?)).toArray = (revS z).cps := by
  rw [PyProof.Rows.picked_rev, PyProof.Rows.filterMap_get, List.map_map]
  · unfold revS
    refine congrArg _ (List.ext_getElem (by simp [Str.length]) fun i h1 h2 => ?_)
    have h3 : i < z.cps.size := by simpa [Str.length] using h1
    rw [List.getElem_map, List.getElem_range, List.getElem_reverse]
    have h4 : z.cps.size - 1 - i < z.cps.size := by omega
    show z.cps.getD (z.cps.size - 1 - i) 0 = z.cps.toList[z.cps.toList.length - 1 - i]'(by simpa using h4)
    simp [Array.getD, h4]
  · intro i hi
    obtain ⟨k, hk, rfl⟩ := List.mem_map.mp hi
    have hk' : k < z.length := List.mem_range.mp hk
    show z.length - 1 - k < z.length
    omega
theorem pe_revA {te : TE} {k : Nat} {p1 p2 p3 : Pos} (he : PE X e te) : PE X (.Subscript e (.Slice none none (some (.UnaryOp .USub (.Constant (.int 1) k p1) p2)) p3) pos) (tRevZ X.K te) := by
  refine ⟨fun pins s σ H Q I h => ?_⟩
  refine Subscript_ (thn (he.run pins s σ H _ I h) fun v s1 ⟨x, H1, I1, r1, q1⟩ => ?_)
  have hst : PO X (some (.UnaryOp .USub (.Constant (.int 1) k p1) p2)) (tPart (tUn (rU fun i => .int (-i)) (tC (.int 1)))) := po_some (pe_un un_neg pe_int)
  refine wpAny_Slice (thn (po_none.run pins s1 σ H1 (fun o H2 => o = none ∧ H2 = H1) I1 ⟨rfl, rfl⟩) fun vl s2 ⟨l, H2, I2, pl, el, e2⟩ => ?_)
  subst el e2
  refine thn (po_none.run pins s2 σ H2 (fun o H3 => o = none ∧ H3 = H2) I2 ⟨rfl, rfl⟩) fun vu s3 ⟨u, H3, I3, pu, eu, e3⟩ => ?_
  subst eu e3
  refine thn (hst.run pins s3 σ H3 (fun o H4 => o = some (-1) ∧ H4 = H3) I3 ⟨1, rfl, -1, rfl, rfl, rfl⟩) fun vs s4 ⟨o, H4, I4, ps, eo, e4⟩ => ?_
  subst eo e4
  have I5 : Inv X pins σ H4 { s4 with heap := s4.heap.push { cls := .type "slice", data := .fields #[vl, vu, vs] } } := I4.kept (t' := s4.toks) fun b ob q => Heap.get?_push_of_some _ q
  rcases q1 with ⟨a, xs, ex, q⟩ | ⟨z, ex, hz, q⟩
  rotate_left
  · subst ex
    obtain ⟨t, rfl⟩ := r1
    obtain ⟨l, e0, e1⟩ := IsPart.raw pl
    obtain ⟨u, e00, e2⟩ := IsPart.raw pu
    obtain ⟨w, e000, e3⟩ := IsPart.raw ps
    subst e0 e00 e000
    have e1' : l = none := by cases l <;> first | rfl | exact nomatch e1
    have e2' : u = none := by cases u <;> first | rfl | exact nomatch e2
    subst e1' e2'
    obtain ⟨w1, w2, rfl⟩ : ∃ w1 w2, w = some (w1, w2) := by
      cases w with
      | none => exact nomatch e3
      | some w => exact ⟨w.1, w.2, rfl⟩
    have e3' : w1 = -1 := by injection e3
    subst e3'
    show wpAny (model X.prog X.w) X.A (subscriptTail e (.Slice none none (some (.UnaryOp .USub (.Constant (.int 1) k p1) p2)) p3) (.str z t) (.ref s4.heap.objs.size)) (EP X pins σ Q) X.xe { s4 with heap := s4.heap.push { cls := .type "slice", data := .fields #[_, _, _] } }
    refine tail_any (ops := [.str z t, .ref s4.heap.objs.size]) (typeIs_str _ z t) (PySem.F.slot_str_getitem.lookup) ?_ (by with_unfolding_all rfl)
    refine wpAny_getItem_str_slice (l := none) (u := none) (st := some (-1, w2)) ⟨_, Heap.get?_push_size _ rfl, rfl, rfl⟩ rfl ?_
    show Made.post (Made.str ⟨((Builtin.Str.strSliceIndices none none (-1) z.length).filterMap (z.cps[·]?)).toArray⟩) (EP X pins σ Q) _
    have e5 : (⟨((Builtin.Str.strSliceIndices none none (-1) z.length).filterMap (z.cps[·]?)).toArray⟩ : Str) = revS z := congrArg Str.mk (revS_picked z)
    rw [e5]
    exact ⟨by show (revS z).cps.size ≤ _; unfold revS; simpa [Str.length] using hz, .str _, H4, I5.tok _, ⟨_, rfl⟩, q⟩
  subst ex
  cases r1
  show wpAny (model X.prog X.w) X.A (subscriptTail e (.Slice none none (some (.UnaryOp .USub (.Constant (.int 1) k p1) p2)) p3) (.ref a) (.ref s4.heap.objs.size)) (EP X pins σ Q) X.xe { s4 with heap := s4.heap.push { cls := .type "slice", data := .fields #[vl, vu, vs] } }
  rcases q with ⟨hx, q⟩ | ⟨hx, q⟩
  · obtain ⟨its, r, ht, hz⟩ := I5.list hx
    have hlen := r.length
    refine tail_any (ops := [.ref a, .ref s4.heap.objs.size]) ht.isList.typeIs (PySem.slot_list_getitem.lookup) ?_ (by with_unfolding_all rfl)
    refine wpAny_getItem_list_slice ht.isList (Heap.IsSliceOf.new _ vl vu vs) pl pu ps (by decide) ?_ (by rw [List.size_toArray]; omega)
    rw [PySem.W.krv_pick]
    refine ⟨.ref _, _, I5.laid (t' := s4.toks) (o := .lst xs.reverse) (fun b ob q => Heap.get?_push_of_some _ q) (Nat.le_refl _) ?_, rfl, q _ (I5.hok.fresh (Nat.le_refl _))⟩
    exact ⟨by rw [List.length_reverse]; exact hz, _, 0, r.reverse, Heap.get?_push_size _ rfl⟩
  · obtain ⟨its, r, ht, hz⟩ := I5.tuple hx
    have hlen := r.length
    refine tail_any (ops := [.ref a, .ref s4.heap.objs.size]) ht.typeIs (PyProof.Rows.slot_tuple_getitem.lookup) ?_ (by with_unfolding_all rfl)
    refine HT.getItem_tuple_rev ht (Heap.IsSliceOf.new _ vl vu vs) pl pu ps ?_ (by rw [List.size_toArray]; omega)
    refine ⟨.ref _, _, I5.laid (t' := s4.toks) (o := .tup xs.reverse) (fun b ob q => Heap.get?_push_of_some _ q) (Nat.le_refl _) ?_, rfl, q _ (I5.hok.fresh (Nat.le_refl _))⟩
    exact ⟨by rw [List.length_reverse]; exact hz, its.reverse, r.reverse, _, Heap.get?_push_size _ rfl, rfl, 0, rfl⟩
def dRev (te : TED) : TED := fun σ S Q => te σ S fun x S1 => match x with
  | .tup ds => Q (.tup ds.reverse) S1
  | .lst ds => Q (.lst ds.reverse) S1
  | .str z => z.length ≤ 16777216 ∧ Q (.str (revS z)) S1
  | .obj a => match S1 a with
    | some (.lst ds) => Q (.lst ds.reverse) S1
    | _ => False
  | _ => False
theorem de_rev {k : Nat} {p1 p2 p3 : Pos} (he : DE X W e te) : DE X W (.Subscript e (.Slice none none (some (.UnaryOp .USub (.Constant (.int 1) k p1) p2)) p3) pos) (dRev te) :=
  ⟨PE.imp (pe_revA he.p) fun σ H Q ⟨σd, S, fr, Qd, ok, cl, h, k⟩ => ⟨σd, S, fr, _, ok, cl, h, fun x dx H1 S1 ok1 r1 q => by
    cases dx with
    | tup ds =>
      obtain ⟨a, vs, e1, q1, r2⟩ := r1
      exact .inl ⟨a, vs, e1, .inr ⟨q1, fun p hp => k _ (.tup ds.reverse) _ S1 (ok1.new hp) (rp_tupNew ok1.rel hp (rpL_rev r2)) q⟩⟩
    | lst ds =>
      obtain ⟨a, vs, e1, q1, r2⟩ := rp_list ok1.rel r1
      exact .inl ⟨a, vs, e1, .inl ⟨q1, fun p hp => k _ (.lst ds.reverse) _ S1 (ok1.new hp) (rp_lstNew ok1.rel hp (rpL_rev r2)) q⟩⟩
    | str z => exact .inr ⟨z, r1, sz_le q.1, k _ (.str _) H1 S1 ok1 rfl q.2⟩
    | obj a =>
      have q' : (match S1 a with | some (.lst ds) => Qd (.lst ds.reverse) S1 | _ => False) := q
      cases e : S1 a with
      | none => rw [e] at q'; exact q'.elim
      | some o =>
        rw [e] at q'
        cases o with
        | lst ds =>
          obtain ⟨vs, h1, r2⟩ := rp_obj ok1.rel e
          exact .inl ⟨a, vs, r1, .inl ⟨.inl (.inl h1), fun p hp => k _ (.lst ds.reverse) _ S1 (ok1.new hp) (rp_lstNew ok1.rel hp (rpL_rev r2)) q'⟩⟩
        | _ => exact q'.elim
    | _ => exact (show False from q).elim⟩⟩

/-! ### for over a list, a tuple, a text -/
def iAny (K : PySem.W.Frag) (tl : TE) : TI := fun σ H R => tl σ H fun x H1 => (∃ a, x = .ref a ∧ (∃ xs, SqL K H1 a xs) ∧ R (Itl K a) H1) ∨ (∃ a, x = .ref a ∧ (∃ xs, SqT K H1 a xs) ∧ R (Itt K a) H1) ∨ (∃ z, x = .str z ∧ R (Its z) H1)
theorem pi_any {tg : Expr} {tl : TE} (hl : PE X e tl) : PI X tg e (iAny X.K tl) := by
  refine ⟨fun pins s σ H R I h => ?_⟩
  refine thn (hl.run pins s σ H _ I h) fun v s1 ⟨x, H1, I1, r1, q1⟩ => ?_
  rcases q1 with ⟨a, ex, ⟨xs, hq⟩, q⟩ | ⟨a, ex, ⟨xs, hq⟩, q⟩ | ⟨z, ex, q⟩
  · subst ex
    cases r1
    obtain ⟨its, rv, p, hz⟩ := I1.list hq
    refine wpAny_pyIter_list p.isList ?_
    refine ⟨s1.heap.objs.size, [s1.heap.objs.size], _, _, H1, rfl, I1.kept (t' := s1.toks) fun b o e => Heap.get?_push_of_some _ e, turn_list a _, ⟨_, Heap.get?_push_size _ rfl, rfl, rfl⟩, fun b hb => ?_, q⟩
    have e : b = s1.heap.objs.size := by simpa using hb
    subst e
    exact I1.fpOk (Nat.le_refl _) (I1.hok.fresh (Nat.le_refl _))
  · subst ex
    cases r1
    obtain ⟨its, rv, p, hz⟩ := I1.tuple hq
    refine wpAny_pyIter_tuple (show s1.heap.IsTuple a its.toArray from p) ?_
    refine ⟨s1.heap.objs.size, [s1.heap.objs.size], _, _, H1, rfl, I1.kept (t' := s1.toks) fun b o e => Heap.get?_push_of_some _ e, turn_tuple a _, ⟨_, Heap.get?_push_size _ rfl, rfl, rfl⟩, fun b hb => ?_, q⟩
    have e : b = s1.heap.objs.size := by simpa using hb
    subst e
    exact I1.fpOk (Nat.le_refl _) (I1.hok.fresh (Nat.le_refl _))
  · subst ex
    obtain ⟨t, rfl⟩ := r1
    cases ha : z.cps.all (· < 128)
    · exact wpAny_pyIter_wide ha (pi_one (tk := s1.toks) I1 _ (turn_str _ z t "str_iterator" (.inr rfl)) ⟨_, Heap.get?_push_size _ rfl, rfl, rfl⟩ q)
    · exact wpAny_pyIter_ascii ha (pi_one (tk := s1.toks) I1 _ (turn_str _ z t "str_ascii_iterator" (.inl rfl)) ⟨_, Heap.get?_push_size _ rfl, rfl, rfl⟩ q)
def sgD (z : Str) : List D := z.cps.toList.map fun c => D.str ⟨#[c]⟩
theorem itd_str {K : PySem.W.Frag} {z : Str} {fr : List (V × D)} : ItD K (Its z) (sgD z) fr where
  go := fun i d e H S σd σ ok => by
    unfold sgD at e
    rw [List.getElem?_map] at e
    cases q : z.cps.toList[i]? with
    | none => rw [q] at e; cases e
    | some c =>
      rw [q] at e
      cases e
      have q2 : z.cps[i]? = some c := by simpa using q
      refine ⟨(Array.getElem?_eq_some_iff.mp q2).1, fun x H' y => ?_⟩
      obtain ⟨e2, c', e3, y⟩ := y
      subst e2
      rw [q2] at e3
      cases e3
      subst y
      exact ⟨ok, rfl⟩
  stop := fun H S σd σ ok => by
    show z.cps.size ≤ (sgD z).length
    unfold sgD
    simp
def dItr (te : TED) : TID := fun σ S R => te σ S fun x S1 => match x with
  | .lst ds => R ds S1
  | .tup ds => R ds S1
  | .str z => R (sgD z) S1
  | _ => False
theorem di_any {tg : Expr} (hl : DE X W e te) : DI X W tg e (dItr te) := ⟨PI.imp (pi_any hl.p) fun σ H R ⟨σd, S, fr, Rd, ok, cl, h, k⟩ => ⟨σd, S, fr, _, ok, cl, h, fun x dx H1 S1 ok1 r1 q => by
  cases dx with
  | lst ds =>
    obtain ⟨a, vs, e, q1, r2⟩ := rp_list ok1.rel r1
    subst e
    exact .inl ⟨a, rfl, ⟨vs, q1⟩, k _ ds H1 S1 [(.ref a, .lst ds)] (ok1.cons r1) itd_list q⟩
  | tup ds =>
    obtain ⟨a, vs, e, q1, r2⟩ := id r1
    subst e
    exact .inr (.inl ⟨a, rfl, ⟨vs, q1⟩, k _ ds H1 S1 [(.ref a, .tup ds)] (ok1.cons r1) itd_tup q⟩)
  | str z => exact .inr (.inr ⟨z, r1, k _ (sgD z) H1 S1 [] ok1 itd_str q⟩)
  | _ => exact (show False from q).elim⟩⟩

/-! ### a, b, c = x, y, z -/
def dPar3 (i j l : Nat) (ta : TAD) : TSD := fun D σ S => ta σ S fun vs S1 => match vs with
  | [v, w, u] => D.nx (((σ.set i (some v)).set j (some w)).set l (some u)) S1
  | _ => False
theorem ds_par3 (i j l : Nat) {x y z : Str} {a b c : Expr} {ta : TAD} {px py pz pt : Pos} {kt k2 pt2} (hc : X.calm = true) (hN : X.N.Nodup) (hi : X.N[i]? = some x) (hj : X.N[j]? = some y) (hl : X.N[l]? = some z) (hij : i ≠ j) (hil : i ≠ l) (hjl : j ≠ l)
    (hx : X.env.scope.names.lookup x = some .local) (hy : X.env.scope.names.lookup y = some .local) (hz : X.env.scope.names.lookup z = some .local) (ha : DA X W [a, b, c] ta)
    (hw : swappedStores [.Tuple [.Name x px, .Name y py, .Name z pz] kt pt] (.Tuple [a, b, c] k2 pt2) X.env = pure (some [x, y, z]))
    (hs : swapsWithSole [.Tuple [.Name x px, .Name y py, .Name z pz] kt pt] (.Tuple [a, b, c] k2 pt2) pos.line X.env = pure false := by rfl) :
    DS X W (.Assign [.Tuple [.Name x px, .Name y py, .Name z pz] kt pt] (.Tuple [a, b, c] k2 pt2) pos) (dPar3 i j l ta) :=
  ⟨PS.imp (ps_par3 hc hN hi hj hl hij hil hjl hx hy hz ha.p hw hs) fun D σ H ⟨σd, S, fr, Dd, ok, cl, h, k⟩ => ⟨σd, S, fr, _, ok, cl, h, fun vs ds H1 S1 ok1 r1 q => by
    cases ds with
    | nil => exact (show False from q).elim
    | cons d r => cases r with
      | nil => exact (show False from q).elim
      | cons d2 r => cases r with
        | nil => exact (show False from q).elim
        | cons d3 r => cases r with
          | cons _ _ => exact (show False from q).elim
          | nil =>
            obtain ⟨v, s, rfl, h1, h2⟩ := r1
            obtain ⟨w, u, rfl, h3, h4⟩ := rpL2 h2
            exact ⟨v, w, u, rfl, k.nx _ _ H1 S1 (((ok1.set h1 i).set h3 j).set h4 l) q⟩⟩⟩
end
end Dv

/-! Readings by value, x: the rows by which a reading is run. -/
namespace Dv
open PySem L2 PyProof.Rows
theorem isi_non_int  : isiD (.non) "int" = some false := by
  show kitB "NoneType" "int" = some false
  decide +kernel
theorem isi_non_bool  : isiD (.non) "bool" = some false := by
  show kitB "NoneType" "bool" = some false
  decide +kernel
theorem isi_non_str  : isiD (.non) "str" = some false := by
  show kitB "NoneType" "str" = some false
  decide +kernel
theorem isi_non_tuple  : isiD (.non) "tuple" = some false := by
  show kitB "NoneType" "tuple" = some false
  decide +kernel
theorem isi_non_list  : isiD (.non) "list" = some false := by
  show kitB "NoneType" "list" = some false
  decide +kernel
theorem isi_bl_int (b : Bool) : isiD (.bl b) "int" = some true := by
  show kitB "bool" "int" = some true
  decide +kernel
theorem isi_bl_bool (b : Bool) : isiD (.bl b) "bool" = some true := by
  show kitB "bool" "bool" = some true
  decide +kernel
theorem isi_bl_str (b : Bool) : isiD (.bl b) "str" = some false := by
  show kitB "bool" "str" = some false
  decide +kernel
theorem isi_bl_tuple (b : Bool) : isiD (.bl b) "tuple" = some false := by
  show kitB "bool" "tuple" = some false
  decide +kernel
theorem isi_bl_list (b : Bool) : isiD (.bl b) "list" = some false := by
  show kitB "bool" "list" = some false
  decide +kernel
theorem isi_int_int (i : Int) : isiD (.int i) "int" = some true := by
  show kitB "int" "int" = some true
  decide +kernel
theorem isi_int_bool (i : Int) : isiD (.int i) "bool" = some false := by
  show kitB "int" "bool" = some false
  decide +kernel
theorem isi_int_str (i : Int) : isiD (.int i) "str" = some false := by
  show kitB "int" "str" = some false
  decide +kernel
theorem isi_int_tuple (i : Int) : isiD (.int i) "tuple" = some false := by
  show kitB "int" "tuple" = some false
  decide +kernel
theorem isi_int_list (i : Int) : isiD (.int i) "list" = some false := by
  show kitB "int" "list" = some false
  decide +kernel
theorem isi_str_int (x : Str) : isiD (.str x) "int" = some false := by
  show kitB "str" "int" = some false
  decide +kernel
theorem isi_str_bool (x : Str) : isiD (.str x) "bool" = some false := by
  show kitB "str" "bool" = some false
  decide +kernel
theorem isi_str_str (x : Str) : isiD (.str x) "str" = some true := by
  show kitB "str" "str" = some true
  decide +kernel
theorem isi_str_tuple (x : Str) : isiD (.str x) "tuple" = some false := by
  show kitB "str" "tuple" = some false
  decide +kernel
theorem isi_str_list (x : Str) : isiD (.str x) "list" = some false := by
  show kitB "str" "list" = some false
  decide +kernel
theorem isi_tup_int (xs : List D) : isiD (.tup xs) "int" = some false := by
  show kitB "tuple" "int" = some false
  decide +kernel
theorem isi_tup_bool (xs : List D) : isiD (.tup xs) "bool" = some false := by
  show kitB "tuple" "bool" = some false
  decide +kernel
theorem isi_tup_str (xs : List D) : isiD (.tup xs) "str" = some false := by
  show kitB "tuple" "str" = some false
  decide +kernel
theorem isi_tup_tuple (xs : List D) : isiD (.tup xs) "tuple" = some true := by
  show kitB "tuple" "tuple" = some true
  decide +kernel
theorem isi_tup_list (xs : List D) : isiD (.tup xs) "list" = some false := by
  show kitB "tuple" "list" = some false
  decide +kernel
theorem isi_lst_int (xs : List D) : isiD (.lst xs) "int" = some false := by
  show kitB "list" "int" = some false
  decide +kernel
theorem isi_lst_bool (xs : List D) : isiD (.lst xs) "bool" = some false := by
  show kitB "list" "bool" = some false
  decide +kernel
theorem isi_lst_str (xs : List D) : isiD (.lst xs) "str" = some false := by
  show kitB "list" "str" = some false
  decide +kernel
theorem isi_lst_tuple (xs : List D) : isiD (.lst xs) "tuple" = some false := by
  show kitB "list" "tuple" = some false
  decide +kernel
theorem isi_lst_list (xs : List D) : isiD (.lst xs) "list" = some true := by
  show kitB "list" "list" = some true
  decide +kernel
section
variable {S : Sd} {Q : DK} {R : List D → Sd → Prop} {σ : Si}
theorem x_var0 {d : D} {r : Si} : dVar 0 (some d :: r) S Q = Q d S := rfl
theorem x_varS {o : Option D} {r : Si} {i : Nat} : dVar (i + 1) (o :: r) S Q = dVar i r S Q := rfl
theorem ite_tt {P R : Prop} : (if true = true then P else R) = P := if_pos rfl
theorem ite_ff {P R : Prop} : (if false = true then P else R) = R := if_neg Bool.false_ne_true
theorem x_len_tup {ds : List D} : rdLen [.tup ds] S Q = Q (.int ds.length) S := rfl
theorem x_len_lst {ds : List D} : rdLen [.lst ds] S Q = Q (.int ds.length) S := rfl
theorem x_len_str {z : Str} : rdLen [.str z] S Q = (z.length ≤ 16777216 ∧ Q (.int z.length) S) := rfl
theorem x_isi {d : D} {n : String} : rdIsi [d, .ty n] S Q = match isiD d n with | some b => Q (.bl b) S | none => False := rfl
theorem x_ixt {ds : List D} {i : Int} : rdIx (.tup ds) (.int i) S Q = ixQ S Q (atI ds i) := rfl
theorem x_ixl {ds : List D} {i : Int} : rdIx (.lst ds) (.int i) S Q = ixQ S Q (atI ds i) := rfl
theorem x_ixo {a : Addr} {ds : List D} {i : Int} (h : S a = some (.lst ds)) : rdIx (.obj a) (.int i) S Q = ixQ S Q (atI ds i) := by
  show (match S a with | some (.lst ds) => ixQ S Q (atI ds i) | _ => False) = _
  rw [h]
theorem x_set {a : Addr} {ds : List D} {i : Int} {j : Nat} {v : D} {Q : Sd → Prop} (h : S a = some (.lst ds)) (hj : ixN ds.length i = some j) : setQ S (.int i) v Q (.obj a) = Q (upS S a (.lst (ds.set j v))) := by
  show (match S a, (D.int i) with | some (.lst ds), .int i => (match ixN ds.length i with | some j => Q (upS S a (.lst (ds.set j v))) | none => False) | _, _ => False) = _
  rw [h]
  dsimp only
  rw [hj]
theorem x_app {a : Addr} {ds : List D} {v : D} (h : S a = some (.lst ds)) : appQ S v Q (.obj a) = (ds.length < 16777216 ∧ Q .non (upS S a (.lst (ds ++ [v])))) := by
  show (match S a with | some (.lst ds) => ds.length < 16777216 ∧ Q .non (upS S a (.lst (ds ++ [v]))) | _ => False) = _
  rw [h]
end
theorem ixN_nat {n : Nat} {j : Nat} (h : j < n) : ixN n (j : Int) = some j := by
  unfold ixN
  rw [if_pos (Int.natCast_nonneg j), if_pos (by omega)]
  simp
theorem atI_lt {ds : List D} {i : Int} (h0 : 0 ≤ i) (h1 : i < ds.length) : atI ds i = ds[i.toNat]? := by
  unfold atI ixN
  rw [if_pos h0, if_pos h1]
  rfl
theorem atI_some {ds : List D} {i : Int} (h0 : 0 ≤ i) (h1 : i < ds.length) : ∃ d, atI ds i = some d ∧ d ∈ ds := by
  rw [atI_lt h0 h1]
  have h2 : i.toNat < ds.length := by omega
  exact ⟨ds[i.toNat], List.getElem?_eq_getElem h2, List.getElem_mem h2⟩

section
variable {S : Sd} {Q : DK} {i j : Int} {k l : Bool} {x y : Str} {xs ys : List D}
theorem x_add_ii : rdAdd (.int i) (.int j) S Q = Q (.int (i + j)) S := rfl
theorem x_add_ib : rdAdd (.int i) (.bl k) S Q = Q (.int (i + b2i k)) S := rfl
theorem x_add_ss : rdAdd (.str x) (.str y) S Q = (x.length + y.length ≤ 16777216 ∧ Q (.str (x ++ y)) S) := rfl
theorem x_add_tt : rdAdd (.tup xs) (.tup ys) S Q = (xs.length + ys.length ≤ 16777216 ∧ Q (.tup (xs ++ ys)) S) := rfl
theorem x_add_ll : rdAdd (.lst xs) (.lst ys) S Q = (xs.length + ys.length ≤ 16777216 ∧ Q (.lst (xs ++ ys)) S) := rfl
theorem x_sub : rdSub (.int i) (.int j) S Q = Q (.int (i - j)) S := rfl
theorem x_mul : rdMul (.int i) (.int j) S Q = (i.natAbs.log2 + j.natAbs.log2 < 1000000 ∧ Q (.int (i * j)) S) := rfl
theorem x_mul_s : rdMul (.str x) (.int j) S Q = ((0 ≤ j ∧ (x.length : Int) * j ≤ 16777216 ∧ j ≤ 16777216) ∧ Q (.str (repS x j.toNat)) S) := rfl
theorem x_fdiv : rdFdiv (.int i) (.int j) S Q = ((j ≠ 0 ∧ j.natAbs.log2 < 9000) ∧ Q (.int (i.fdiv j)) S) := rfl
theorem x_mod : rdMod (.int i) (.int j) S Q = (j ≠ 0 ∧ Q (.int (i.fmod j)) S) := rfl
theorem x_pow : rdPow (.int i) (.int j) S Q = ((0 ≤ j ∧ ((i.natAbs.log2 : Int) + 1) * j ≤ 134217728) ∧ Q (.int (i ^ j.toNat)) S) := rfl
theorem x_neg : rdNeg (.int i) S Q = Q (.int (-i)) S := rfl
theorem x_lt : rdLt (.int i) (.int j) S Q = Q (.bl (decide (i < j))) S := rfl
theorem x_le : rdLe (.int i) (.int j) S Q = Q (.bl (decide (i ≤ j))) S := rfl
theorem x_gt : rdGt (.int i) (.int j) S Q = Q (.bl (decide (j < i))) S := rfl
theorem x_ge : rdGe (.int i) (.int j) S Q = Q (.bl (decide (j ≤ i))) S := rfl
theorem x_eq_ii : rdEq (.int i) (.int j) S Q = Q (.bl (decide (i = j))) S := rfl
theorem x_eq_ss : rdEq (.str x) (.str y) S Q = Q (.bl (decide (x = y))) S := rfl
theorem x_eq_bb : rdEq (.bl k) (.bl l) S Q = Q (.bl (decide (k = l))) S := rfl
theorem x_ne_ii : rdNe (.int i) (.int j) S Q = Q (.bl (!decide (i = j))) S := rfl
theorem x_ne_ss : rdNe (.str x) (.str y) S Q = Q (.bl (!decide (x = y))) S := rfl
theorem x_ne_bb : rdNe (.bl k) (.bl l) S Q = Q (.bl (!decide (k = l))) S := rfl
theorem x_abs : rdAbs [.int i] S Q = Q (.int (if i < 0 then -i else i)) S := rfl
theorem x_max2 : rdMax2 [.int i, .int j] S Q = Q (.int (if j > i then j else i)) S := rfl
theorem x_min2 : rdMin2 [.int i, .int j] S Q = Q (.int (if j < i then j else i)) S := rfl
theorem x_int_i : rdInt [.int i] S Q = Q (.int i) S := rfl
theorem x_int_b : rdInt [.bl k] S Q = Q (.int (if k then 1 else 0)) S := rfl
theorem x_sl_t {lo hi : Option Int} : rdSl (.tup xs) lo hi S Q = Q (.tup (cutD xs lo hi)) S := rfl
theorem x_sl_l {lo hi : Option Int} : rdSl (.lst xs) lo hi S Q = Q (.lst (cutD xs lo hi)) S := rfl
theorem x_sl_s {lo hi : Option Int} : rdSl (.str x) lo hi S Q = (x.length ≤ 16777216 ∧ Q (.str (cutS x lo hi)) S) := rfl
theorem x_ixs : rdIx (.str x) (.int i) S Q = (x.length ≤ 16777216 ∧ ixS S Q (atI x.cps.toList i)) := rfl
theorem x_allb {bs : List Bool} (e : xs = bs.map D.bl) (h : Q (.bl (bs.all id)) S) : rdAll [.lst xs] S Q := ⟨bs, by rw [e]; rfl, h⟩
end
theorem atI_0 {α : Type} {a : α} {r : List α} : atI (a :: r) 0 = some a := atI_nat (j := 0) rfl
theorem atI_1 {α : Type} {a b : α} {r : List α} : atI (a :: b :: r) 1 = some b := atI_nat (j := 1) rfl
theorem atI_2 {α : Type} {a b c : α} {r : List α} : atI (a :: b :: c :: r) 2 = some c := atI_nat (j := 2) rfl
theorem atI_3 {α : Type} {a b c d : α} {r : List α} : atI (a :: b :: c :: d :: r) 3 = some d := atI_nat (j := 3) rfl
theorem x_ixQ {S : Sd} {Q : DK} {d : D} : ixQ S Q (some d) = Q d S := rfl
theorem x_ixS {S : Sd} {Q : DK} {c : Nat} : ixS S Q (some c) = Q (.str ⟨#[c]⟩) S := rfl
theorem log2_lt {a : Int} {n : Nat} (h : a.natAbs < 2 ^ n) (h0 : 0 < n) : a.natAbs.log2 < n := PySem.Flt.log2_lt_of h0 h
/-! ### joints, loops -/
theorem seq_cut {t v : TSD} {E : EndsD} {σ : Si} {S : Sd} (Mid : Si → Sd → Prop) (h1 : ∀ N : Si → Sd → Prop, (∀ σ' S', Mid σ' S' → N σ' S') → t { E with nx := N } σ S) (h2 : ∀ σ' S', Mid σ' S' → v E σ' S') : dSeq t v E σ S := h1 (v E) h2
section
variable {g : TGD} {tb : TSD} {E : EndsD} {xs : List D}
theorem loop_pre (I : List D → Si → Sd → Prop) (hs : ∀ (p : List D) (x : D) (r : List D) (σ : Si) (S : Sd) (N : Si → Sd → Prop), xs = p ++ x :: r → I p σ S → (∀ σ' S', I (p ++ [x]) σ' S' → N σ' S') → g x σ S fun σ2 S2 => tb { E with nx := N, ct := N, bk := E.nx } σ2 S2)
    (hd : ∀ σ S, I xs σ S → E.nx σ S) : ∀ (r p : List D) (σ : Si) (S : Sd), xs = p ++ r → I p σ S → dLoop g tb E r σ S
  | [], p, σ, S, e, h => by
    rw [List.append_nil] at e
    rw [← e] at h
    exact hd σ S h
  | x :: r, p, σ, S, e, h => hs p x r σ S _ e h fun σ' S' h' => loop_pre I hs hd r (p ++ [x]) σ' S' (by rw [e]; simp) h'
theorem loop_all (I : List D → Si → Sd → Prop) {σ : Si} {S : Sd} (h0 : I [] σ S) (hs : ∀ (p : List D) (x : D) (r : List D) (σ : Si) (S : Sd) (N : Si → Sd → Prop), xs = p ++ x :: r → I p σ S → (∀ σ' S', I (p ++ [x]) σ' S' → N σ' S') → g x σ S fun σ2 S2 => tb { E with nx := N, ct := N, bk := E.nx } σ2 S2)
    (hd : ∀ σ S, I xs σ S → E.nx σ S) : dLoop g tb E xs σ S := loop_pre I hs hd xs [] σ S rfl h0
theorem rgD_len (lo : Int) (n : Nat) : (rgD lo n).length = n := by unfold rgD; rw [List.length_map, List.length_range]
theorem rgD_at {lo : Int} {n : Nat} {p r : List D} {x : D} (e : rgD lo n = p ++ x :: r) : x = .int (lo + p.length) ∧ p.length < n := by
  have h1 : (rgD lo n)[p.length]? = some x := by rw [e]; simp
  unfold rgD at h1
  rw [List.getElem?_map] at h1
  cases q : (List.range n)[p.length]? with
  | none => rw [q] at h1; cases h1
  | some j =>
    rw [q] at h1
    obtain ⟨h2, h3⟩ := List.getElem?_eq_some_iff.mp q
    rw [List.getElem_range] at h3
    subst h3
    exact ⟨(Option.some.inj h1).symm, by simpa using h2⟩
theorem loop_rng {lo : Int} {n : Nat} (I : Nat → Si → Sd → Prop) {σ : Si} {S : Sd} (h0 : I 0 σ S) (hs : ∀ (i : Nat) (σ : Si) (S : Sd) (N : Si → Sd → Prop), i < n → I i σ S → (∀ σ' S', I (i + 1) σ' S' → N σ' S') → g (.int (lo + i)) σ S fun σ2 S2 => tb { E with nx := N, ct := N, bk := E.nx } σ2 S2)
    (hd : ∀ σ S, I n σ S → E.nx σ S) : dLoop g tb E (rgD lo n) σ S :=
  loop_all (fun p σ S => I p.length σ S) h0 (fun p x r σ S N e h k => by
    obtain ⟨rfl, h1⟩ := rgD_at e
    exact hs p.length σ S N h1 h fun σ' S' h' => k σ' S' (by rw [List.length_append]; exact h')) fun σ S h => hd σ S (by rw [rgD_len] at h; exact h)
end
/-! ### comprehensions without a trace -/
theorem lcL_pure {te : TED} {p : Addr} {σw : Si} {i : Nat} {S : Sd} (f : D → D) : ∀ (xs acc : List D) (Q : List D → Sd → Prop), (∀ x ∈ xs, ∀ S' (Q' : DK), Q' (f x) S' → te (σw.set i (some x)) S' Q') → acc.length + xs.length ≤ 16777216 →
    Q (acc ++ xs.map f) (upS S p (.lst (acc ++ xs.map f))) → dLcL (dName i) dYes te p σw xs acc (upS S p (.lst acc)) Q
  | [], acc, Q, _, _, q => by
    rw [List.map_nil, List.append_nil] at q
    exact q
  | x :: r, acc, Q, h, hl, q => by
    rw [List.length_cons] at hl
    show (if true = true then te (σw.set i (some x)) (upS S p (.lst acc)) fun y S4 => S4 p = some (.lst acc) ∧ acc.length < 16777216 ∧ dLcL (dName i) dYes te p σw r (acc ++ [y]) (upS S4 p (.lst (acc ++ [y]))) Q else dLcL (dName i) dYes te p σw r acc (upS S p (.lst acc)) Q)
    rw [if_pos rfl]
    refine h x List.mem_cons_self _ _ ⟨upS_same, by omega, ?_⟩
    rw [upS_upS]
    refine lcL_pure f r (acc ++ [f x]) Q (fun y hy => h y (List.mem_cons_of_mem _ hy)) (by rw [List.length_append, List.length_singleton]; omega) ?_
    rw [List.append_assoc]
    exact q
theorem comp_pure {ti : TID} {te : TED} {i : Nat} {vs : List Nat} {σ : Si} {S : Sd} {Q : DK} (f : D → D) (xs : List D) (S1 : Sd) (hti : ∀ R : List D → Sd → Prop, R xs S1 → ti σ S R) (h : ∀ x ∈ xs, ∀ S' (Q' : DK), Q' (f x) S' → te ((wipeD σ vs).set i (some x)) S' Q') (hl : xs.length ≤ 16777216)
    (q : Q (.lst (xs.map f)) S1) : dComp ti (dName i) dYes te vs σ S Q := hti _ fun p hp => by
  refine lcL_pure f xs [] _ h (by simpa using hl) ⟨upS_same, ?_⟩
  rw [del_upS hp]
  exact q
end Dv

/-! Readings by value, y: texts, is, draws in a comprehension, loops with a measure. -/
namespace Dv
open PySem L2 PyProof.Rows
section
variable {X : Cx} {W : Wi}
/-! ### is -/
def rdIs : RD2 := fun x y S Q => match y with
  | .non => rdIsN x .non S Q
  | .bl b => (match x with | .bl a => Q (.bl (decide (a = b))) S | _ => False)
  | _ => False
def rdIsNot : RD2 := fun x y S Q => match y with
  | .non => rdNotN x .non S Q
  | .bl b => (match x with | .bl a => Q (.bl (!decide (a = b))) S | _ => False)
  | _ => False
/-! ### one sign in a text -/
def rdInS : RD2 := fun x y S Q => match x, y with
  | .str a, .str z => ∃ c, a = ⟨#[c]⟩ ∧ Q (.bl (decide (c ∈ z.cps.toList))) S
  | _, _ => False
/-! ### methods of texts -/
def rdCount : RDM := fun o vs S Q => match o, vs with
  | .str a, [.str b] => Q (.int (Txt.count a b)) S
  | _, _ => False
/-! ### list(text), tuple(text) -/
theorem vals_signs {z : Str} {us : List Value} (h : ItemsOf (SignAt z) us.toArray z.cps.size) : Vals (z.cps.toList.map fun c => V.str ⟨#[c]⟩) us := by
  obtain ⟨h1, h2⟩ := h
  refine vals_of_at (by simpa using h1.symm) fun j x u e1 e2 => ?_
  obtain ⟨c, t, e3, rfl⟩ := h2 j u (by simpa using e2)
  rw [List.getElem?_map] at e1
  have e4 : z.cps.toList[j]? = some c := by simpa using e3
  rw [e4] at e1
  cases e1
  exact ⟨t, rfl⟩
def rTupS : List V → Hp → VK → Prop := fun xs H Q => ∃ z, xs = [.str z] ∧ z.length ≤ 16777216 ∧ ∀ p, H p = none → Q (.ref p) (upd H p (.tup (z.cps.toList.map fun c => V.str ⟨#[c]⟩)))
theorem call_tupS (hc : X.calm = true) : CallR X (.type "tuple") rTupS := by
  intro pins s σ H xs us Q I r h
  obtain ⟨z, rfl, hz, q⟩ := h
  obtain ⟨u, rfl, rx⟩ := vals1 r
  obtain ⟨t, rfl⟩ := (show ∃ t, u = .str z t from rx)
  have hz' : z.cps.size ≤ sizeLine := sz_le hz
  refine call_tuple_str (I.ok.hd hc) z t (fun h' tk acc hk hi => ?_) hz'
  have I2 : Inv X pins σ H { s with heap := h', toks := tk } := I.kept hk
  refine ⟨.ref h'.objs.size, upd H h'.objs.size (.tup (z.cps.toList.map fun c => V.str ⟨#[c]⟩)), I2.laid (t' := tk) (fun c o e => Heap.get?_push_of_some _ e) (Nat.le_refl _) (show ObjOk X.prog X.w _ _ _ (.tup _) from ⟨?_, acc.toList, vals_signs (by simpa using hi), ?_⟩), rfl, q _ (I2.hok.fresh (Nat.le_refl _))⟩
  · rw [List.length_map, Array.length_toList]; exact hz'
  · rw [Array.toArray_toList]; exact IsTup.new _ _
theorem rpL_signs {K : PySem.W.Frag} {H : Hp} {S : Sd} {z : Str} : RpL K H S (sgD z) (z.cps.toList.map fun c => V.str ⟨#[c]⟩) := by
  unfold sgD
  induction z.cps.toList with
  | nil => exact rfl
  | cons n r ih => exact ⟨_, _, rfl, rfl, ih⟩
def rdListA : RDC := fun ds S Q => match ds with
  | [.str z] => z.length ≤ 16777216 ∧ Q (.lst (sgD z)) S
  | _ => rdListC ds S Q
def rdTupA : RDC := fun ds S Q => match ds with
  | [.str z] => z.length ≤ 16777216 ∧ Q (.tup (sgD z)) S
  | _ => rdTupC ds S Q
theorem one_str {ds : List D} : (∃ z, ds = [.str z]) ∨ ((∀ S Q, rdListA ds S Q → rdListC ds S Q) ∧ ∀ S Q, rdTupA ds S Q → rdTupC ds S Q) := by
  match ds with
  | [] => exact .inr ⟨fun _ _ h => h, fun _ _ h => h⟩
  | d :: e :: r => cases d <;> exact .inr ⟨fun _ _ h => h, fun _ _ h => h⟩
  | [d] => cases d with
    | str z => exact .inl ⟨z, rfl⟩
    | _ => exact .inr ⟨fun _ _ h => h, fun _ _ h => h⟩
theorem cd_tupA (hc : X.calm = true) : CallD X (.type "tuple") rdTupA := by
  obtain ⟨r, h, l⟩ := cd_tuple (X := X)
  refine ⟨_, h.or (call_tupS hc), fun H S fr σd σ xs ds Qv Qd ok r0 q k => ?_⟩
  rcases one_str (ds := ds) with ⟨z, rfl⟩ | ⟨h1, h2⟩
  · obtain ⟨v, rfl, r1⟩ := rpL1 r0
    have e : v = .str z := r1
    subst e
    obtain ⟨q1, q2⟩ := (show z.length ≤ 16777216 ∧ Qd (.tup (sgD z)) S from q)
    exact .inr ⟨z, rfl, q1, fun p hp => k _ (.tup _) _ S (ok.new hp) (rp_tupNew ok.rel hp rpL_signs) q2⟩
  · exact .inl (l H S fr σd σ xs ds Qv Qd ok r0 (h2 _ _ q) k)
end
/-! ### rows -/
section
variable {S : Sd} {Q : DK} {x y z : Str} {k l : Bool} {ds : List D} {d : D}
theorem x_is_bb : rdIs (.bl k) (.bl l) S Q = Q (.bl (decide (k = l))) S := rfl
theorem x_isNot_bb : rdIsNot (.bl k) (.bl l) S Q = Q (.bl (!decide (k = l))) S := rfl
theorem x_is_n : rdIs d .non S Q = rdIsN d .non S Q := rfl
theorem x_isNot_n : rdIsNot d .non S Q = rdNotN d .non S Q := rfl
theorem x_inS {c : Nat} : rdInS (.str ⟨#[c]⟩) (.str z) S Q = Q (.bl (decide (c ∈ z.cps.toList))) S := by
  refine propext ⟨fun ⟨c', e, q⟩ => ?_, fun q => ⟨c, rfl, q⟩⟩
  injection e with e
  have e2 : c = c' := by simpa using e
  rw [e2]; exact q
theorem x_listA_s : rdListA [.str z] S Q = (z.length ≤ 16777216 ∧ Q (.lst (sgD z)) S) := rfl
theorem x_listA_t : rdListA [.tup ds] S Q = Q (.lst ds) S := rfl
theorem x_listA_l : rdListA [.lst ds] S Q = Q (.lst ds) S := rfl
theorem x_tupA_s : rdTupA [.str z] S Q = (z.length ≤ 16777216 ∧ Q (.tup (sgD z)) S) := rfl
theorem x_tupA_t : rdTupA [.tup ds] S Q = Q (.tup ds) S := rfl
theorem x_tupA_l : rdTupA [.lst ds] S Q = Q (.tup ds) S := rfl
theorem x_count : rdCount (.str x) [.str y] S Q = Q (.int (Txt.count x y)) S := rfl
end
/-! ### comprehensions that draw -/
theorem lcL_inv {te : TED} {p : Addr} {σw : Si} {i : Nat} {xs : List D} {Q : List D → Sd → Prop} (J : List D → Sd → Prop)
    (hs : ∀ (pre : List D) (x : D) (r acc : List D) (S : Sd) (Q' : DK), xs = pre ++ x :: r → acc.length = pre.length → J acc S → S p = some (.lst acc) → (∀ y S', S' p = some (.lst acc) → J (acc ++ [y]) (upS S' p (.lst (acc ++ [y]))) → Q' y S') → te (σw.set i (some x)) S Q')
    (hl : xs.length ≤ 16777216) (hd : ∀ acc S, acc.length = xs.length → J acc S → S p = some (.lst acc) → Q acc S) : ∀ (r pre acc : List D) (S : Sd), xs = pre ++ r → acc.length = pre.length → J acc S → S p = some (.lst acc) → dLcL (dName i) dYes te p σw r acc S Q
  | [], pre, acc, S, e, hn, j, hp => hd acc S (by rw [e, List.append_nil]; exact hn) j hp
  | x :: r, pre, acc, S, e, hn, j, hp => by
    show (if true = true then te (σw.set i (some x)) S fun y S4 => S4 p = some (.lst acc) ∧ acc.length < 16777216 ∧ dLcL (dName i) dYes te p σw r (acc ++ [y]) (upS S4 p (.lst (acc ++ [y]))) Q else dLcL (dName i) dYes te p σw r acc S Q)
    rw [if_pos rfl]
    refine hs pre x r acc S _ e hn j hp fun y S' h1 h2 => ⟨h1, ?_, ?_⟩
    · have := congrArg List.length e
      rw [List.length_append, List.length_cons] at this
      omega
    · exact lcL_inv J hs hl hd r (pre ++ [x]) (acc ++ [y]) _ (by rw [e]; simp) (by rw [List.length_append, List.length_append, hn]; rfl) h2 upS_same
theorem comp_inv {ti : TID} {te : TED} {i : Nat} {vs : List Nat} {σ : Si} {S : Sd} {Q : DK} (xs : List D) (S1 : Sd) (J : Addr → List D → Sd → Prop) (hti : ∀ R : List D → Sd → Prop, R xs S1 → ti σ S R) (h0 : ∀ p, S1 p = none → J p [] (upS S1 p (.lst [])))
    (hs : ∀ (p : Addr) (pre : List D) (x : D) (r acc : List D) (S : Sd) (Q' : DK), S1 p = none → xs = pre ++ x :: r → acc.length = pre.length → J p acc S → S p = some (.lst acc) → (∀ y S', S' p = some (.lst acc) → J p (acc ++ [y]) (upS S' p (.lst (acc ++ [y]))) → Q' y S') → te ((wipeD σ vs).set i (some x)) S Q')
    (hl : xs.length ≤ 16777216) (hd : ∀ p acc S, S1 p = none → acc.length = xs.length → J p acc S → S p = some (.lst acc) → Q (.lst acc) (del S p)) : dComp ti (dName i) dYes te vs σ S Q := hti _ fun p hp =>
  lcL_inv (J p) (fun pre x r acc S Q' => hs p pre x r acc S Q' hp) hl (fun acc S hn j e => ⟨e, hd p acc S hp hn j e⟩) xs [] [] _ rfl rfl (h0 p hp) upS_same
/-! ### while -/
theorem while_inv {c : TTD} {tb : TSD} {E : EndsD} {σ : Si} {S : Sd} (I : Nat → Si → Sd → Prop) (m : Nat) (h0 : I m σ S)
    (hs : ∀ (m : Nat) (σ : Si) (S : Sd) (N : Si → Sd → Prop), I m σ S → (∀ m' σ' S', m' < m → I m' σ' S' → N σ' S') → c σ S fun b S1 => if b = true then tb { E with nx := N, ct := N, bk := E.nx } σ S1 else E.nx σ S1) : dWhile c tb E σ S :=
  ⟨I, ⟨m, h0⟩, fun m σ S h => hs m σ S _ h fun m' σ' S' hm h' => ⟨m', hm, h'⟩⟩
end Dv

/-! Readings by value, u: statements that are never reached, +=, a written dict read by a text. -/
namespace Dv
open PySem L2 PyProof.Rows
section
variable {X : Cx} {W : Wi} {pos : Pos}
/-! ### a written dict read by a text -/
def dKix (tab : Str → Option D) (tb : TED) : TED := fun σ S Q => tb σ S fun y S1 => match y with
  | .str z => (match tab z with | some d => Q d S1 | none => False)
  | _ => False
theorem de_kix {x : Str} {a : Addr} {b : Expr} {tb : TED} {p : Pos} {tab : Str → Option D} (hg : Gl X x) (hm : X.mg x = some (.ref a)) (ht : ∀ z d, tab z = some d → ∃ v, KDct X.K X.w a z v ∧ ∀ H S, Rp X.K H S d v) (hb : DE X W b tb) (hs : PlainIx b)
    (hd : (x == ("__debug__" : Str)) = false := by decide) : DE X W (.Subscript (.Name x p) b pos) (dKix tab tb) :=
  ⟨PE.imp (pe_ix ix_kdict (pe_glob (v := .ref a) hg hm rfl hd) hb.p hs) fun σ H Q ⟨σd, S, fr, Qd, ok, cl, h, k⟩ =>
    ⟨σd, S, fr, _, ok, cl, h, fun y dy H1 S1 ok1 ry q => by
      cases dy with
      | str z =>
        have q' : (match tab z with | some d => Qd d S1 | none => False) := q
        cases e : tab z with
        | none => rw [e] at q'; exact q'.elim
        | some d =>
          rw [e] at q'
          obtain ⟨v, h1, h2⟩ := ht z d e
          exact ⟨a, z, v, rfl, ry, h1, k v d H1 S1 ok1 (h2 _ _) q'⟩
      | _ => exact (show False from q).elim⟩⟩
/-- a written tuple -/
theorem rp_ktup {K : PySem.W.Frag} {H : Hp} {S : Sd} {a : Addr} {its : Array Value} {n : Nat} {od : Option Addr} {sl : Array (Option Value)} {vs : List V} {ds : List D} (hl : K.lookup a = some ⟨.type "tuple", od, .seq its n, sl⟩) (hz : its.size ≤ 1000) (hv : Vals vs its.toList) (r : RpL K H S ds vs) : Rp K H S (.tup ds) (.ref a) :=
  ⟨a, vs, rfl, .inr ⟨_, its, n, hl, rfl, rfl, sz_le (Nat.le_trans hz (by decide)), hv⟩, r⟩
end
end Dv

/-! Readings by value: own errors raised, caught, asked. -/
namespace Dv
open PySem L2 PyProof.Rows Hx
/-! ### the module's own classes of errors -/
def ownBase : List (Str × List Str) := [("NoNumber", ["ArithmeticError"]), ("NoForm", ["ArithmeticError"]), ("OverNought", ["ZeroDivisionError", "ArithmeticError"]), ("TooMany", ["OverflowError", "ArithmeticError"]), ("NoKin", ["TypeError"]), ("NoPlace", ["IndexError", "LookupError"]), ("NoName", ["KeyError", "LookupError"]),
  ("NoTurn", ["LookupError"]), ("NoRow", ["RuntimeError"]), ("NoStair", ["ValueError"]), ("NoRing", ["ValueError"]), ("NoWord", ["ValueError"]), ("NoStep", ["ValueError"]), ("Uneven", ["ValueError"]), ("NoWay", ["ValueError"]), ("NoTable", ["ValueError"]), ("NoTriple", ["ValueError"])]
def ownCls : List Str := ownBase.map (·.1)
def bltCls : List Str := ["ArithmeticError", "ZeroDivisionError", "OverflowError", "TypeError", "IndexError", "KeyError", "LookupError", "RuntimeError", "ValueError"]
def excIs (n c : Str) : Bool := n == c || match ownBase.lookup n with
  | some bs => bs.contains c
  | none => false
def clsV (K : PySem.W.Frag) (x : Str) : Value := match PySem.W.nsIn K mainGlobals x with
  | some (some v) => v
  | _ => (bootBuiltins x).getD .none
/-- what is known of an own class of errors that is raised -/
structure WhF (K : PySem.W.Frag) (n : Str) (D : Addr) : Prop where
  at_ : PySem.W.nsIn K mainGlobals n = some (some (.ref D))
  exc : ExcC K D
  kit : ∀ c ∈ ownCls ++ bltCls, PySem.W.kitOne K (.ref D) (clsV K c) = some (excIs n c)
  exm : ∀ c ∈ ownCls, PySem.W.exmOne K (.ref D) (clsV K c) = some (excIs n c)
theorem and_b {a b : Bool} (h : (a && b) = true) : a = true ∧ b = true := Bool.and_eq_true_iff.mp h
/-- a simple own class: raised with a text -/
structure RsF (K : PySem.W.Frag) (n : Str) (bm : List Value) (newId : String) (C : Addr) : Prop where
  at_ : PySem.W.nsIn K mainGlobals n = some (some (.ref C))
  exc : PySem.W.excIn K C bm newId = true
  kp : PySem.W.keepIn K (.ref C) = true
  sub : PySem.W.subIn K (.ref C) (.type "BaseException") = some true
  ty : PySem.W.typeIn K (.ref C) = some (.type "type")
def rsB (K : PySem.W.Frag) (n : Str) (bm : List Value) (newId : String) : Bool := match PySem.W.nsIn K mainGlobals n with
  | some (some (.ref C)) => PySem.W.excIn K C bm newId && (PySem.W.keepIn K (.ref C) && (decide (PySem.W.subIn K (.ref C) (.type "BaseException") = some true) && decide (PySem.W.typeIn K (.ref C) = some (.type "type"))))
  | _ => false
theorem rsB_ok {K : PySem.W.Frag} {n : Str} {bm : List Value} {newId : String} (h : rsB K n bm newId = true) : ∃ C, RsF K n bm newId C := by
  unfold rsB at h
  split at h
  · rename_i C e
    obtain ⟨a, h⟩ := and_b h
    obtain ⟨b, h⟩ := and_b h
    obtain ⟨c, d⟩ := and_b h
    exact ⟨C, e, a, b, of_decide_eq_true c, of_decide_eq_true d⟩
  · cases h
/-! ### raise -/
section
variable {X : Cx} {W : Wi} {pos : Pos}
def dRaise (WD : WXD) (x : Xd) : TSD := fun _ σ S => WD x σ S
theorem ds_raiseC {n m : Str} {j : Nat} {p p2 pos' : Pos} {bm : List Value} {B newId initId : String} {C : Addr} (hc : X.calm = true) (tk : L2N.Takes X W.V) (F : ExcBaseFacts B newId initId bm) (R : RsF X.K n bm newId C) (gC : X.mg n = some (.ref C)) (hg : Gl X n) (hdb : (n == ("__debug__" : Str)) = false := by decide) :
    DS X W (.Raise (some (.Call (.Name n p) [.Constant (.str m) j p2] [] pos)) none pos') (dRaise W.D ⟨n, [], []⟩) :=
  ⟨PS.imp (L2N.ps_raise hc tk (L2N.pmk_own F R.exc gC R.kp (raises_own R.sub R.ty) hg hdb)) fun D σ H ⟨σd, S, fr, Dd, ok, cl, h, k⟩ => cl σd σ H S (.ref C) none _ ok ⟨R.at_, fun _ => rfl, fun _ z => nomatch z⟩ h⟩
end
/-! ### except suites -/
section
variable {X : Cx} {W : Wi} {pos : Pos}
end
end Dv

/-! Readings by value: a def that names an error's class; a refusal named. -/
namespace Dv
open PySem L2 PyProof.Rows Hx
section
variable {X : Cx} {W : Wi} {pos : Pos}
/-! ### while an exception is handled -/
end
/-! ### a def that names an error's class -/
section
variable {P : Program} {w : World} {K : PySem.W.Frag} {mg : Str → Option Value} {base : Heap}
end
section
variable {X : Cx} {pos : Pos}
/-! ### a refusal, named -/
end
end Dv

/-! Readings by value: what the printed derivations lean on for errors and lambdas. -/
namespace Dv
open PySem L2 PyProof.Rows Hx
section
variable {X : Cx} {W : Wi} {pos : Pos}
theorem takes0N : L2N.Takes X W0.V := fun _ _ ⟨_, _, _, _, _, _, _, _, _, _, _, _, _, _, _, _, z⟩ => z.elim
end
section
variable {P : Program} {w : World} {K : PySem.W.Frag} {mg : Str → Option Value} {base : Heap}
end
/-- one statement at a time: the rest stands still -/
theorem seq_step {t v : TSD} {E : EndsD} {σ : Si} {S : Sd} (h : ∀ r : TSD, r = v → dSeq t r E σ S) : dSeq t v E σ S := h v rfl
/-- one assignment, by instances alone: the kernel has nothing to unfold -/
theorem seq_set {i : Nat} {t : TED} {v : TSD} {E : EndsD} {σ : Si} {S : Sd} (h : t σ S fun x S1 => v E (σ.set i (some x)) S1) : dSeq (dSet i t) v E σ S := h
/-! ### divmod -/
def rdDivmod : RDC := fun ds S Q => match ds with
  | [.int i, .int j] => (0 < j ∧ j.natAbs.log2 < 9000) ∧ Q (.tup [.int (i / j), .int (i % j)]) S
  | _ => False
theorem x_divmod {i j : Int} {S : Sd} {Q : DK} : rdDivmod [.int i, .int j] S Q = ((0 < j ∧ j.natAbs.log2 < 9000) ∧ Q (.tup [.int (i / j), .int (i % j)]) S) := rfl
/-! ### law with tables -/
end Dv

/-! Readings by value: calls with keywords. -/
namespace Dv
open PySem L2 PyProof.Rows Hx
section
variable {X : Cx} {W : Wi} {k n m : Nat} {f : Addr} {fd : FuncData} {ps ks : List Str} {sp : SpD} {idx : List Nat} {dvs : List V} {dds : List D} {x : Str} {p pos kpos : Pos} {a e : Expr} {es : List Expr} {kws : List Keyword} {ta : TED} {t tk : TAD} {nm : Option Str}
/-- f(.., k = ..): what the places idx of all that is handed in hold, by the parameters -/
def dCallK (sp : SpD) (n m : Nat) (idx : List Nat) (dds : List D) (WD : WXD) (t tk : TAD) : TED := fun σ S Q => t σ S fun xs S1 => tk σ S1 fun zs S2 => (xs.length = n ∧ zs.length = m) ∧ sp (sel idx (xs ++ zs ++ dds)) S2 Q fun y S3 => WD y σ S3
end
/-! ### for x, y in zip(xs, ys) -/
def zipD (ds es : List D) : List D := (ds.zip es).map fun p => .tup [p.1, p.2]
def zipR (R : List D → Sd → Prop) (S : Sd) : List D → Prop
  | [.lst ds, .lst es] => R (zipD ds es) S
  | _ => False
def dZip (ta : TAD) : TID := fun σ S R => ta σ S fun xs S1 => zipR R S1 xs
/-! ### * of tuples too -/
def rdMulA : RD2
  | .int i, .int j, S, Q => i.natAbs.log2 + j.natAbs.log2 < 1000000 ∧ Q (.int (i * j)) S
  | .str z, .int k, S, Q => (0 ≤ k ∧ (z.length : Int) * k ≤ 16777216 ∧ k ≤ 16777216) ∧ Q (.str (repS z k.toNat)) S
  | .tup ds, .int k, S, Q => (ds ≠ [] ∧ 1 ≤ k ∧ k ≤ 1000 ∧ ds.length ≤ 1000) ∧ Q (.tup (List.replicate k.toNat ds).flatten) S
  | _, _, _, _ => False
theorem rpL_flat {K : PySem.W.Frag} {H : Hp} {S : Sd} {ds : List D} {vs : List V} (r : RpL K H S ds vs) : ∀ n : Nat, RpL K H S (List.replicate n ds).flatten (List.replicate n vs).flatten
  | 0 => rpL_nil
  | n + 1 => by
    rw [List.replicate_succ, List.replicate_succ, List.flatten_cons, List.flatten_cons]
    exact rpL_app r (rpL_flat r n)
theorem od_mulA {X : Cx} : OpD X (binaryOp .Mult) rdMulA := ⟨_, (op_mulW.or op_mulS).or (op_repT.or op_once), fun H S fr σd σ x y dx dy Qv Qd ok rx ry h k => by
  cases dx with
  | int i =>
    cases dy with
    | int j => exact .inl (.inl ⟨i, j, rx, ry, h.1, k _ (.int (i * j)) H S ok rfl h.2⟩)
    | _ => exact (show False from h).elim
  | str z =>
    cases dy with
    | int j => exact .inl (.inr ⟨z, j, rx, ry, h.1.1, h.1.2.1, h.1.2.2, k _ (.str (repS z j.toNat)) H S ok rfl h.2⟩)
    | _ => exact (show False from h).elim
  | tup ds =>
    cases dy with
    | int j =>
      obtain ⟨⟨h0, h1, h2, h3⟩, q⟩ := h
      obtain ⟨a, vs, rfl, q1, r⟩ := rx
      have hl := rpL_len r
      by_cases c : j = 1
      · subst c
        have e : (List.replicate (Int.toNat 1) ds).flatten = ds := by show (List.replicate 1 ds).flatten = ds; simp
        rw [e] at q
        exact .inr (.inr ⟨a, vs, rfl, ry, q1, k _ (.tup ds) H S ok ⟨a, vs, rfl, q1, r⟩ q⟩)
      · exact .inr (.inl ⟨a, j, vs, rfl, ry, q1, fun e => h0 (by rw [e] at hl; exact List.eq_nil_of_length_eq_zero hl), by omega, h2, by omega, fun p hp => k _ (.tup (List.replicate j.toNat ds).flatten) _ S (ok.new hp) (rp_tupNew ok.rel hp (rpL_flat r j.toNat)) q⟩)
    | _ => exact (show False from h).elim
  | _ => cases dy <;> exact (show False from h).elim⟩
section
variable {i j : Int} {x : Str} {ds : List D} {S : Sd} {Q : DK}
theorem x_mulA : rdMulA (.int i) (.int j) S Q = (i.natAbs.log2 + j.natAbs.log2 < 1000000 ∧ Q (.int (i * j)) S) := rfl
theorem x_mulA_s : rdMulA (.str x) (.int j) S Q = ((0 ≤ j ∧ (x.length : Int) * j ≤ 16777216 ∧ j ≤ 16777216) ∧ Q (.str (repS x j.toNat)) S) := rfl
theorem x_mulA_t : rdMulA (.tup ds) (.int j) S Q = ((ds ≠ [] ∧ 1 ≤ j ∧ j ≤ 1000 ∧ ds.length ≤ 1000) ∧ Q (.tup (List.replicate j.toNat ds).flatten) S) := rfl
end
theorem sel_n1 {a : D} : sel [0] ([] ++ [a]) = [a] := rfl
theorem sel_n2 {a b : D} : sel [0, 1] ([] ++ [a, b]) = [a, b] := rfl
theorem sel_x2 {a b : D} : sel [1, 0] ([] ++ [a, b]) = [b, a] := rfl
theorem sel_12 {a b : D} : sel [0, 1] ([a] ++ [b]) = [a, b] := rfl
end Dv

/-! Readings by value: max and min of a list, by a def's ints too. -/
namespace Dv
open PySem L2 PyProof.Rows Hx
/-- the place of the best of so many -/
def bestBy (up : Bool) (kf : Nat → Int) (n : Nat) : Nat := argBest (fun i j => if up then decide (kf i > kf j) else decide (kf i < kf j)) (n - 1)
def kfL (kf : Str → Int) (zs : List Str) (i : Nat) : Int := match zs[i]? with
  | some z => kf z
  | none => 0
def keyR (sp : SpD) (up : Bool) (S : Sd) (Q : DK) : D → Prop
  | .lst ds => ∃ (zs : List Str) (kf : Str → Int), ds = zs.map D.str ∧ 0 < zs.length ∧ (∀ z ∈ zs, ∀ Q' : DK, Q' (.int (kf z)) S → sp [.str z] S Q' fun _ _ => False) ∧ ∀ z, zs[bestBy up (kfL kf zs) zs.length]? = some z → Q (.str z) S
  | _ => False
def dKeyed (sp : SpD) (up : Bool) (t : TED) : TED := fun σ S Q => t σ S fun d S1 => keyR sp up S1 Q d
section
variable {X : Cx} {W : Wi} {k : Nat} {f : Addr} {fd : FuncData} {p fn : Str} {sp : SpD} {e : Expr} {t : TED} {p1 p2 p3 pos : Pos}
end
/-! ### a text within a text -/
def hasS (z a : Str) : Bool := !(Builtin.Str.occurrences z a 0 z.length 1).isEmpty
def rdInT : RD2 := fun x y S Q => match x, y with
  | .str a, .str z => Q (.bl (hasS z a)) S
  | _, _ => False
theorem x_inT {a z : Str} {S : Sd} {Q : DK} : rdInT (.str a) (.str z) S Q = Q (.bl (hasS z a)) S := rfl
/-! ### xs = [.. for ..], the list is kept for changes -/
def dCompO (ti : TID) (g : TGD) (tt : TTD) (te : TED) (vs : List Nat) : TED := fun σ S Q => ti σ S fun xs S1 => ∀ p, S1 p = none → dLcL g tt te p (wipeD σ vs) xs [] (upS S1 p (.lst [])) fun acc S2 => S2 p = some (.lst acc) ∧ Q (.obj p) S2
section
variable {X : Cx} {W : Wi} {pos : Pos}
theorem lc_liftO {K : PySem.W.Frag} {ti : TID} {g : TGD} {tt : TTD} {te : TED} {vs : List Nat} (σ : L2.St) (H : Hp) (Q : VK) (h : upE K W (dCompO ti g tt te vs) σ H Q) :
    tLc (upI K W ti) (upG K W0 vs g) (upT K W0 tt) (upE K W0 te) vs σ H Q := by
  obtain ⟨σd, S, fr, Qd, ok, cl, h, k⟩ := h
  refine ⟨σd, S, fr, _, ok, cl, h, fun J xs H1 S1 fr' ok1 it q => ?_⟩
  intro Dl hD
  have q0 := q Dl (ok1.rel.free hD)
  have ok2 : Ok K (upd H1 Dl (.lst [])) (upS S1 Dl (.lst [])) (fr' ++ fr) σd σ := ok1.own hD rpL_nil
  have Fin : (List D → Sd → Prop) := fun acc S2 => S2 Dl = some (.lst acc) ∧ Qd (.obj Dl) S2
  refine ⟨fun i m H' => m = xs.length - i ∧ i ≤ xs.length ∧ ∃ S' acc, RelS K H' S' ∧ FrOk K H' S' ((fr' ++ fr) ++ prs σd σ) ∧ dLcL g tt te Dl (wipeD σd vs) (xs.drop i) acc S' (fun acc S2 => S2 Dl = some (.lst acc) ∧ Qd (.obj Dl) S2),
    ⟨_, rfl, Nat.zero_le _, _, [], ok2.rel, ok2.out, by simpa using q0⟩, ?_⟩
  rintro i m H' ⟨rfl, hi, S', acc, R', F', q'⟩
  have okp : Ok K H' S' ((fr' ++ fr) ++ prs σd σ) σd σ := ⟨R', F', ok.len, fun i d e => by
    obtain ⟨v, h1, _⟩ := ok.si i d e
    exact ⟨v, h1, F' (v, d) (List.mem_append_right _ (prs_mem h1 e))⟩⟩
  have ok' : Ok K H' S' (fr' ++ fr) σd σ := ⟨R', fun p hp => F' p (List.mem_append_left _ hp), okp.len, okp.si⟩
  by_cases hlt : i < xs.length
  · have ex : xs[i]? = some xs[i] := List.getElem?_eq_getElem hlt
    have dr : xs.drop i = xs[i] :: xs.drop (i + 1) := List.drop_eq_getElem_cons hlt
    rw [dr] at q'
    obtain ⟨g1, g2⟩ := it.go i _ ex H' S' σd σ ok'
    refine .inr ⟨g1, fun H2 => ∃ S2 acc2, RelS K H2 S2 ∧ FrOk K H2 S2 ((fr' ++ fr) ++ prs σd σ) ∧ dLcL g tt te Dl (wipeD σd vs) (xs.drop (i + 1)) acc2 S2 (fun acc S2 => S2 Dl = some (.lst acc) ∧ Qd (.obj Dl) S2), fun H2 ⟨S2, acc2, h1, h2, h3⟩ => ⟨_, by omega, rfl, hlt, S2, acc2, h1, h2, h3⟩, fun x H2 y => ?_⟩
    obtain ⟨ok3, _⟩ := g2 x H2 y
    obtain ⟨_, r2⟩ := (it.go i _ ex H' S' σd σ ok').2 x H2 y
    have okp3 : Ok K H2 S' ((fr' ++ fr) ++ prs σd σ) σd σ := ⟨ok3.rel, ok3.out, ok3.len, ok3.si⟩
    refine ⟨wipeD σd vs, S', (fr' ++ fr) ++ prs σd σ, _, xs[i], okp3.wipe vs, Cl.zero, r2, q', fun σ3 σd3 H3 S3 ok4 hw q3 => ⟨hw.trans (wipe_wipe σ vs), σd3, S3, (fr' ++ fr) ++ prs σd σ, _, ok4, Cl.zero, q3, fun b H4 S4 ok5 q4 => ?_⟩⟩
    cases b with
    | true =>
      refine (show upE K W0 te σ3 H4 _ from ⟨σd3, S4, (fr' ++ fr) ++ prs σd σ, _, ok5, Cl.zero, (by simpa using q4), fun y dy H5 S5 ok6 r6 q5 => ?_⟩)
      obtain ⟨p1, p2, p3⟩ := q5
      obtain ⟨ws, hv, rl⟩ := rp_obj ok6.rel p1
      have st : Step H5 S5 (upd H5 Dl (.lst (ws ++ [y]))) (upS S5 Dl (.lst (acc ++ [dy]))) := step_set p1
      have okf := ok6.step st (rel_set ok6.rel p1 ⟨_, upd_same, rpL_step ok6.rel st _ _ (rpL_app rl (rpL_cons r6 rpL_nil))⟩)
      exact ⟨ws, hv, by rw [← rpL_len rl]; exact sz_lt' p2, _, _, okf.rel, okf.fr, p3⟩
    | false => exact ⟨S4, acc, ok5.rel, ok5.fr, by simpa using q4⟩
  · have e : i = xs.length := by omega
    subst e
    rw [List.drop_length] at q'
    obtain ⟨p1, p2⟩ := q'
    exact .inl ⟨it.stop H' S' σd σ ok', k _ (.obj Dl) H' S' ok'.pre rfl p2⟩
theorem ds_setLcO (i : Nat) {y : Str} {py : Pos} {elt tg iter : Expr} {ifs : List Expr} {scope : Scope} {own : List (Str × Nat)} {spos : Pos} {ti : TID} {g : TGD} {tt : TTD} {te : TED} (hc : X.calm = true) (hN : X.N.Nodup) (hy : X.N[i]? = some y) (hyl : X.env.scope.names.lookup y = some .local)
    (hsw : swapsWith (.ListComp elt [⟨tg, iter, ifs, 0⟩] scope pos) (some (.Name y py)) spos.line X.env = pure true) (hi : DI X W tg iter ti) (ok : BlkOk X.N X.env.scope scope own)
    (hg : ∀ (s : Shared) (H : Hp) (C : Addr) (cl : List (Str × Addr)) (fp : List Addr), DG (X.blk s H scope (compEnvC scope cl C X.env) fp) W0 (own.map (·.2)) tg g) (ht : ∀ (s : Shared) (H : Hp) (C : Addr) (cl : List (Str × Addr)) (fp : List Addr), DTs (X.blk s H scope (compEnvC scope cl C X.env) fp) W0 ifs tt)
    (he : ∀ (s : Shared) (H : Hp) (C : Addr) (cl : List (Str × Addr)) (fp : List Addr), DE (X.blk s H scope (compEnvC scope cl C X.env) fp) W0 elt te) (hs : ∀ x, foldedSetIterable iter X.env x = pure x := by intro _; rfl) :
    DS X W (.Assign [.Name y py] (.ListComp elt [⟨tg, iter, ifs, 0⟩] scope pos) spos) (dSet i (dCompO ti g tt te (own.map (·.2)))) :=
  ⟨PS.imp (ps_setLc hc hN hy hyl hsw hi.p ok (fun s H C cl fp => (hg s H C cl fp).p) (fun s H C cl fp => (ht s H C cl fp).p) (fun s H C cl fp => (he s H C cl fp).p) hs) fun D σ H ⟨σd, S, fr, Dd, ok, cl, h, k⟩ =>
    lc_liftO (W := W) σ H _ ⟨σd, S, fr, _, ok, cl, h, fun v d H1 S1 ok1 r1 q => k.nx _ _ H1 S1 (ok1.set r1 i) q⟩⟩
end
theorem comp_invO {ti : TID} {te : TED} {i : Nat} {vs : List Nat} {σ : Si} {S : Sd} {Q : DK} (xs : List D) (S1 : Sd) (J : Addr → List D → Sd → Prop) (hti : ∀ R : List D → Sd → Prop, R xs S1 → ti σ S R) (h0 : ∀ p, S1 p = none → J p [] (upS S1 p (.lst [])))
    (hs : ∀ (p : Addr) (pre : List D) (x : D) (r acc : List D) (S : Sd) (Q' : DK), S1 p = none → xs = pre ++ x :: r → acc.length = pre.length → J p acc S → S p = some (.lst acc) → (∀ y S', S' p = some (.lst acc) → J p (acc ++ [y]) (upS S' p (.lst (acc ++ [y]))) → Q' y S') → te ((wipeD σ vs).set i (some x)) S Q')
    (hl : xs.length ≤ 16777216) (hd : ∀ p acc S, S1 p = none → acc.length = xs.length → J p acc S → S p = some (.lst acc) → Q (.obj p) S) : dCompO ti (dName i) dYes te vs σ S Q := hti _ fun p hp =>
  lcL_inv (J p) (fun pre x r acc S Q' => hs p pre x r acc S Q' hp) hl (fun acc S hn j e => ⟨e, hd p acc S hp hn j e⟩) xs [] [] _ rfl rfl (h0 p hp) upS_same
end Dv

/-! Readings by value: sum of tuples. -/
namespace Dv
open PySem L2 PyProof.Rows Hx
section
variable {K : PySem.W.Frag} {H H' : Hp} {S : Sd}
end
def sumR (S : Sd) (Q : DK) : List D → List D → Prop
  | [.lst ds], [.tup []] => ∃ dss : List (List D), ds = dss.map D.tup ∧ (∀ n, (dss.take n).flatten.length ≤ 1000) ∧ Q (.tup dss.flatten) S
  | _, _ => False
def dSumT (t tk : TAD) : TED := fun σ S Q => t σ S fun xs S1 => tk σ S1 fun zs S2 => sumR S2 Q xs zs
section
variable {X : Cx} {W : Wi} {e : Expr} {t tk : TAD} {kws : List Keyword} {p pos : Pos}
end
end Dv

/-! Readings by value: a written dict of lists, subscripted at once; extend. -/
namespace Dv
open PySem L2 PyProof.Rows Hx
section
variable {X : Cx} {W : Wi} {k1 k2 x y : Str} {a b c d : Int} {i j : Nat} {m1 m2 m3 m4 m5 m6 : Nat} {q1 q2 q3 q4 q5 q6 u1 u2 dpos np yp pos apos cpos : Pos}
end
end Dv

/-! Readings by value: repr of data, == of tracked lists. -/
namespace Dv
open PySem L2 PyProof.Rows Hx
/-- a tracked list stands for its items -/
def valD (S : Sd) (d : D) : D := match d with
  | .obj a => match S a with
    | some (.lst ds) => .lst ds
    | _ => d
  | d => d
theorem dp_val {K : PySem.W.Frag} {H : Hp} {S : Sd} {d : D} {v : V} (R : RelS K H S) (h : isData (valD S d) = true) (r : Rp K H S d v) : Dp K H v (pd (valD S d)) := by
  cases d with
  | obj a =>
    have e : v = .ref a := r
    subst e
    unfold valD at h ⊢
    dsimp only at h ⊢
    split at h
    · rename_i ds q
      obtain ⟨vs, q1, q2⟩ := rp_obj R q
      exact .lst (.inl (.inl q1)) (dp_ofL R ds vs h q2)
    · exact absurd (show false = true from h) Bool.false_ne_true
  | _ => exact dp_of R _ v h r
/-! ### repr -/
/-! ### == where a tracked list may stand -/
def eqV_ (x y : D) (S : Sd) (Q : DK) : Prop := (eqOk (valD S x) = true ∧ eqOk (valD S y) = true) ∧ Q (.bl (deq (valD S x) (valD S y))) S
def neV_ (x y : D) (S : Sd) (Q : DK) : Prop := (eqOk (valD S x) = true ∧ eqOk (valD S y) = true) ∧ Q (.bl (!deq (valD S x) (valD S y))) S
def rdEqO : RD2 := fun x y S Q => match x, y with
  | .obj a, y => eqV_ (.obj a) y S Q
  | x, .obj b => eqV_ x (.obj b) S Q
  | x, y => rdEq x y S Q
def rdNeO : RD2 := fun x y S Q => match x, y with
  | .obj a, y => neV_ (.obj a) y S Q
  | x, .obj b => neV_ x (.obj b) S Q
  | x, y => rdNe x y S Q
theorem neO_inv {x y : D} {S : Sd} {Q : DK} (h : rdNeO x y S Q) : rdNe x y S Q ∨ neV_ x y S Q := by
  cases x with
  | obj a => exact .inr h
  | _ => cases y <;> first | exact .inr h | exact .inl h
theorem od_neO {X : Cx} (hu : X.A.units + 64 < cLine) : OpD X (compareOp .NotEq) rdNeO := ⟨_, op_ne.or (op_neD hu), fun H S fr σd σ x y dx dy Qv Qd ok rx ry h k => by
  rcases neO_inv h with h | ⟨⟨h1, h2⟩, q⟩
  · exact ne_lift H S fr σd σ x y dx dy Qv Qd ok rx ry h k
  · have a1 := Bool.and_eq_true_iff.mp h1
    have a2 := Bool.and_eq_true_iff.mp h2
    refine .inr ⟨_, _, dp_val ok.rel a1.1 rx, dp_val ok.rel a2.1 ry, a1.2, a2.2, ?_⟩
    rw [eqv_pd _ _ a1.1 a2.1]
    exact k _ (.bl _) H S ok rfl q⟩
section
variable {S : Sd} {Q : DK}
theorem x_eqO_ss {x y : Str} : rdEqO (.str x) (.str y) S Q = Q (.bl (decide (x = y))) S := rfl
theorem x_neO_ss {x y : Str} : rdNeO (.str x) (.str y) S Q = Q (.bl (!decide (x = y))) S := rfl
theorem x_val {a : Addr} {ds : List D} (h : S a = some (.lst ds)) : valD S (.obj a) = .lst ds := by
  unfold valD
  dsimp only
  rw [h]
end
/-! ### a list unpacked into names -/
def dTupL (n : Nat) (t : TGsD) : TGD := fun d σ S Q => match lstD S d with
  | some ds => ds.length = n ∧ t ds σ S Q
  | none => False
theorem x_tupL {n : Nat} {t : TGsD} {ds : List D} {σ : Si} {S : Sd} {Q : Si → Sd → Prop} : dTupL n t (.lst ds) σ S Q = (ds.length = n ∧ t ds σ S Q) := rfl
/-! ### a tracked list walked by a comprehension -/
section
variable {X : Cx} {W : Wi} {pos : Pos}
end
/-! ### isinstance, reverse of tracked lists -/
end Dv

/-! An own exception whose __init__ stores its arguments, over any built-in class of errors. -/
namespace Hx
open PySem PySem.Spec PyProof.Rows L2
/-- what the written part says of such a class; bm: its built-in class's mro -/
structure OexG (K : PySem.W.Frag) (C : Addr) (bm : List Value) (newId : String) : Prop where
  cls : ∃ nm q N bs sn sub ab col dd k0 k1 k2 k3 k5, K.lookup C = some (excClassObj nm q C N bs bm true sn sub ab col dd k0 k1 k2 k3 k5 newId)
  pass : ∀ self : Value, refuseLoop self "__setattr__" bm = pure ()
  top : bm.contains (.type "object") = true
  sa : PySem.W.findIn K (.ref C) "__setattr__" = some (some (.builtin "object.__setattr__"))
  exC : PySem.W.subIn K (.ref C) (.type "BaseException") = some true
  tyC : PySem.W.typeIn K (.ref C) = some (.type "type")
  kC : PySem.W.keepIn K (.ref C) = true
section
open Builtin Builtin.ObjectAttr PySem.Calls
variable {prog : Program} {w : World} {A : Around} {R : Result → Shared → Prop} {hp : Heap} {g : Array GenState} {d : Drawn} {t : Nat} {os : OsState} {K : PySem.W.Frag} {name : Str} {tk : Tok} {v : Value} {x C dx : Addr} {fv : Array Value} {cd : ClassData} {bm : List Value} {m0 : Str → Option Value} {nl : List Str}
theorem look_sub {o : Obj} {od : Option Obj} (X : K.In hp) (I : PySem.W.InstAt hp x o C od) (hcd : PySem.W.clsIn K C = some cd) (hm : cd.mro = .ref C :: bm) (top : bm.contains (.type "object") = true) : PySem.W.Looks (model prog w) hp (isInstance (.ref x) (.type "object")) true :=
  I.type.andThen (PySem.W.looks_mroIn X (by
    have e : cd.mro.contains (.type "object") = true := by rw [hm, List.contains_cons, top, Bool.or_true]
    unfold PySem.W.mroIn
    rw [hcd, Option.bind_some, if_neg (by rw [hm]; exact Bool.false_ne_true), e]))
/-- the first field: a dict is made -/
theorem put_first (X : K.In hp) (hx : hp.get? x = some { cls := .ref C, data := .fields fv }) (hcd : PySem.W.clsIn K C = some cd) (hm : cd.mro = .ref C :: bm) (pass : ∀ self : Value, refuseLoop self "__setattr__" bm = pure ()) (top : bm.contains (.type "object") = true) (hh : cd.hasDict = true) (free : PySem.W.findIn K (.ref C) name = some none)
    (fin : ∀ h' tk' dx, (∀ b o, b ≠ x → hp.get? b = some o → h'.get? b = some o) → hp.objs.size ≤ dx → dx ≠ x → h'.get? x = some { cls := .ref C, dict := some dx, data := .fields fv } → h'.Ns1 dx (fun y => if y = name then some v else none) → R (.ok (.ret .none)) ⟨h', g, d, tk', os⟩) :
    codeAny (model prog w) A (.call (.builtin "object.__setattr__") ⟨[.ref x, .str name tk, v], []⟩) R ⟨hp, g, d, t, os⟩ := by
  have SF := F.store_object
  have I : PySem.W.InstAt hp x { cls := .ref C, data := .fields fv } C none := ⟨hx, rfl, rfl, trivial⟩
  have apart : x ≠ hp.objs.size := Nat.ne_of_lt (Heap.lt_size hx)
  have seeC : PySem.W.Looks (model prog w) hp (classData C) cd := PySem.W.looks_clsIn X hcd
  have seeM : PySem.W.Looks (model prog w) hp (mroOf (.ref C)) cd.mro := seeC.andThen .now
  have seeT : PySem.W.Looks (model prog w) hp (storeTaker? none) none := .now
  refine codeAny_call_builtin SF.slot.plain SF.entry (@PySem.W.check_slot (model prog w) _ _ ⟨hp, g, d, t, os⟩ "object.__setattr__" "object" "__setattr__" (.ref x) [.str name tk, v] [] _ SF.kind SF.split (look_sub X I hcd hm top) (SF.args (.ref x) (.str name tk) v) ?_)
  rw [PySem.W.osa_eq, refuse_eq]
  refine wpAny_bind (wpAny_bind (I.type.at (wpAny_bind (seeM.at ?_))))
  rw [hm, refuseLoop_ref, pass]
  refine wpAny_pure (wpAny_bind (I.type.at (wpAny_bind ((PySem.W.looks_findIn X free).at (wpAny_bind (seeT.at (show wpAny _ _ (storeInOwnDict (.ref x) (.ref C) (.str name tk) name v false) _ _ _ from ?_)))))))
  cases cd
  dsimp only at hh
  subst hh
  unfold storeInOwnDict ownDictForStores
  repeat (first | with_reducible refine HandSPX.store_in_new ?_ ?_ | with_reducible refine wpAny_loadPart_at hx ?_ | with_reducible refine seeC.at ?_ | wp_step)
  · exact ⟨_, #[], _, (Heap.get?_update_ne _ _ _ _ apart.symm).trans (Heap.get?_push_at rfl rfl), rfl, fun e he => absurd he (by simp), fun _ => rfl⟩
  · intro h' tk' hn' hs
    refine fin h' tk' hp.objs.size (fun b o hb ho => ?_) (Nat.le_refl _) apart.symm ?_ hn'
    · exact (hs.2 b (Nat.ne_of_lt (Heap.lt_size ho))).trans ((Heap.get?_update_ne _ _ _ _ hb).trans (Heap.get?_push_of_some _ ho))
    · exact (hs.2 x apart).trans (Heap.get?_update_self _ (Heap.get?_push_of_some _ hx) rfl)
/-- a further field -/
theorem put_more (X : K.In hp) (hx : hp.get? x = some { cls := .ref C, dict := some dx, data := .fields fv }) (hns : hp.Ns1 dx m0) (hw : Within m0 nl) (hz : nl.length ≤ 1000) (hcd : PySem.W.clsIn K C = some cd) (hm : cd.mro = .ref C :: bm) (pass : ∀ self : Value, refuseLoop self "__setattr__" bm = pure ()) (top : bm.contains (.type "object") = true) (hh : cd.hasDict = true)
    (free : PySem.W.findIn K (.ref C) name = some none) (fin : ∀ h' tk', (∀ b o, b ≠ dx → hp.get? b = some o → h'.get? b = some o) → h'.Ns1 dx (fun y => if y = name then some v else m0 y) → R (.ok (.ret .none)) ⟨h', g, d, tk', os⟩) :
    codeAny (model prog w) A (.call (.builtin "object.__setattr__") ⟨[.ref x, .str name tk, v], []⟩) R ⟨hp, g, d, t, os⟩ := by
  have SF := F.store_object
  obtain ⟨oD, esD, epD, hoD, hdD, _⟩ := hns.count hw
  have I : PySem.W.InstAt hp x { cls := .ref C, dict := some dx, data := .fields fv } C (some oD) := ⟨hx, rfl, rfl, hoD⟩
  have seeC : PySem.W.Looks (model prog w) hp (classData C) cd := PySem.W.looks_clsIn X hcd
  have seeM : PySem.W.Looks (model prog w) hp (mroOf (.ref C)) cd.mro := seeC.andThen .now
  have seeT : PySem.W.Looks (model prog w) hp (storeTaker? none) none := .now
  refine codeAny_call_builtin SF.slot.plain SF.entry (@PySem.W.check_slot (model prog w) _ _ ⟨hp, g, d, t, os⟩ "object.__setattr__" "object" "__setattr__" (.ref x) [.str name tk, v] [] _ SF.kind SF.split (look_sub X I hcd hm top) (SF.args (.ref x) (.str name tk) v) ?_)
  rw [PySem.W.osa_eq, refuse_eq]
  refine wpAny_bind (wpAny_bind (I.type.at (wpAny_bind (seeM.at ?_))))
  rw [hm, refuseLoop_ref, pass]
  refine wpAny_pure (wpAny_bind (I.type.at (wpAny_bind ((PySem.W.looks_findIn X free).at (wpAny_bind (seeT.at (show wpAny _ _ (storeInOwnDict (.ref x) (.ref C) (.str name tk) name v false) _ _ _ from ?_)))))))
  cases cd
  dsimp only at hh
  subst hh
  unfold storeInOwnDict ownDictForStores
  repeat (first | with_reducible refine OEX.store_in_old hns hw hz ?_ | with_reducible refine wpAny_loadPart_at hx ?_ | with_reducible refine seeC.at ?_ | wp_step)
  exact fun h' tk' hn' hs => fin h' tk' (fun b o hb ho => (hs.2 b hb).trans ho) hn'
end
section
variable {X : Cx} {pins : List (Addr × Obj)} {σ : L2.St} {H : Hp} {s : Shared} {a C dx : Addr} {f : Str} {y : V} {u : Value} {fs : List (Str × V)} {Q : Unit → Shared → Prop} {E : Value → Shared → Prop} {A : Around} {bm : List Value} {newId : String}
theorem OexG.cd {K : PySem.W.Frag} (T : OexG K C bm newId) : ∃ cd, PySem.W.clsIn K C = some cd ∧ cd.mro = .ref C :: bm ∧ cd.hasDict = true := by
  obtain ⟨nm, q, N, bs, sn, sub, ab, col, dd, k0, k1, k2, k3, k5, hC⟩ := T.cls
  exact ⟨{ name := nm, bases := bs, mro := .ref C :: bm, ns := N, qualname := q, hasDict := true, slotNames := sn, subclasses := sub, abstract := ab, collection := col, hasDel := false }, by unfold PySem.W.clsIn; rw [hC] <;> rfl, rfl, rfl⟩
theorem set_first (T : OexG X.K C bm newId) (I : Inv X pins σ H s) (e : H a = some (exo a C none)) (free : PySem.W.findIn X.K (.ref C) f = some none) (ry : RelV y u)
    (fin : ∀ dx s', H dx = none → dx ≠ a → Inv X pins σ (upd (upd H dx (exd dx [(f, y)])) a (exo a C (some dx))) s' → Q () s') : wpAny (model X.prog X.w) A (setAttr (.ref a) f u) Q E s := by
  obtain ⟨cd, hcd, hm, hh⟩ := T.cd
  obtain ⟨t1, ho⟩ := exo_at I.hok e
  obtain ⟨hp, g, d, t, os⟩ := s
  refine PySem.W.set_plain I.kIn (ox := { cls := .ref C, dict := none, data := .fields #[.ref t1, .none, .none, .none, .bool false, .none] }) (od := none) ⟨ho, rfl, rfl, trivial⟩ T.sa ?_
  refine put_first I.kIn ho hcd hm T.pass T.top hh free fun h' tk' dx k dn dne hx hn => ?_
  have new : H dx = none := I.hok.fresh dn
  have old : ∀ {b : Addr} {o : Obj}, hp.get? b = some o → b ≠ dx := fun q => Nat.ne_of_lt (Nat.lt_of_lt_of_le (Heap.lt_size q) dn)
  have other : ∀ {b : Addr}, H b = none → b ≠ a := fun n z => by
    rw [z, e] at n
    cases n
  have still : ∀ {b : Addr} {o : HO}, H b = some o → b ≠ a → upd (upd H dx (exd dx [(f, y)])) a (exo a C (some dx)) b = some o := fun q h => by rw [upd_ne h, upd_ne (ne_of_none q new)]; exact q
  have un : Un X.fs [] H (upd (upd H dx (exd dx [(f, y)])) a (exo a C (some dx))) hp h' := {
    keep := fun b o q n _ _ => k b o (other n) q
    slot := fun b o q n _ _ => ⟨o.slots, k b o (other n) q⟩
    free := fun b o q n _ => by rw [upd_ne (other n), upd_ne (old q)]; exact n
    there := fun b o q _ => by
      by_cases hb : b = a
      · rw [hb]; exact ⟨_, hx⟩
      · exact ⟨o, k b o hb q⟩
    tups := fun b xs q => still q (at_ne e q exo_tup)
    frzs := fun b o v q => still q (at_ne e q exo_frz)
    tbls := fun b ps q => ⟨#[], by rw [still q (at_ne e q exo_tbl)]; simp⟩ }
  refine fin dx _ new dne (I.un (t' := tk') un fun b o q => ?_)
  by_cases hb : b = a
  · subst hb
    rw [upd_same] at q
    cases q
    exact exo_ok hx
  rw [upd_ne hb] at q
  by_cases hd : b = dx
  · subst hd
    rw [upd_same] at q
    cases q
    exact exd_ok hn (relO_put (fs := []) ry fun g => True.intro)
  rw [upd_ne hd] at q
  exact (I.hok b o q).stay (fun c v hc z => k c v (hc.elim (fun h => h ▸ hb) fun h => at_ne e h exo_own) z) (fun c hc => still hc (at_ne e hc exo_own)) fun c xs hc => still hc (at_ne e hc exo_tup)
theorem set_more (T : OexG X.K C bm newId) (I : Inv X pins σ H s) (e : H a = some (exo a C (some dx))) (ed : H dx = some (exd dx fs)) (hl : fs.length ≤ 900) (free : PySem.W.findIn X.K (.ref C) f = some none) (ry : RelV y u) (fin : ∀ s', Inv X pins σ (upd H dx (exd dx ((f, y) :: fs))) s' → Q () s') :
    wpAny (model X.prog X.w) A (setAttr (.ref a) f u) Q E s := by
  obtain ⟨cd, hcd, hm, hh⟩ := T.cd
  obtain ⟨t1, ho⟩ := exo_at I.hok e
  obtain ⟨mA, hns, rel⟩ := exd_at I.hok ed
  have hw := within_of rel
  obtain ⟨hp, g, d, t, os⟩ := s
  obtain ⟨oD, _, _, hoD, _, _⟩ := hns.count hw
  refine PySem.W.set_plain I.kIn (ox := { cls := .ref C, dict := some dx, data := .fields #[.ref t1, .none, .none, .none, .bool false, .none] }) (od := some oD) ⟨ho, rfl, rfl, hoD⟩ T.sa ?_
  refine put_more I.kIn ho hns hw (by rw [List.length_map]; omega) hcd hm T.pass T.top hh free fun h' tk' k hn => ?_
  obtain ⟨o, es, ep, ho', rest⟩ := id hn
  exact fin _ (I.write (t' := tk') (x := dx) (e := dx) (o := exd dx ((f, y) :: fs)) (by rw [ed]; exact True.intro) (.inl rfl) k ⟨o, ho'⟩ (exd_ok hn (relO_put ry rel)))
end
/-- self.f = e -/
def tPut (K : PySem.W.Frag) (bm : List Value) (newId : String) (f : Str) (to te : TE) : TS := fun D σ H => te σ H fun y H1 => to σ H1 fun x H2 => ∃ a C : Addr, x = .ref a ∧ OexG K C bm newId ∧ PySem.W.findIn K (.ref C) f = some none ∧
  ((H2 a = some (exo a C none) ∧ ∀ dx, H2 dx = none → dx ≠ a → D.nx σ (upd (upd H2 dx (exd dx [(f, y)])) a (exo a C (some dx)))) ∨ ∃ (dx : Addr) (fs : List (Str × V)), H2 a = some (exo a C (some dx)) ∧ H2 dx = some (exd dx fs) ∧ fs.length ≤ 900 ∧ D.nx σ (upd H2 dx (exd dx ((f, y) :: fs))))
section
variable {X : Cx} {o e : Expr} {es : List Expr} {to te : TE} {ta : TA} {f : Str} {p p' p1 p2 pos : Pos} {bm : List Value} {newId : String}
theorem ps_put (ho : PE X o to) (he : PE X e te) (hs : swapsWith e (some (.Attribute o f p')) pos.line X.env = pure false := by rfl) : PS X (.Assign [.Attribute o f p'] e pos) (tPut X.K bm newId f to te) :=
  ⟨fun pins s σ H D I h => plainObj_wpAny_Assign_Attribute (thn (he.run pins s σ H _ I h) fun v s1 ⟨y, H1, I1, r1, q1⟩ => thn (ho.run pins s1 σ H1 _ I1 q1) fun u s2 ⟨x, H2, I2, r2, a, C, ex, T, free, q⟩ => by
    subst ex
    obtain rfl : u = Value.ref a := r2
    rcases q with ⟨ea, q⟩ | ⟨dx, fs, ea, ed, hl, q⟩
    · exact set_first T I2 ea free r1 fun dx s' n ne J => ⟨σ, _, J, q dx n ne⟩
    · exact set_more T I2 ea ed hl free r1 fun s' J => ⟨σ, _, J, q⟩) hs⟩
/-- C(e, ..), its fields ready -/
def tMkG (C : Addr) (sp : Sp) (ta : TA) : L2.St → Hp → XK → Prop := fun σ H Q => ta σ H fun vs H1 => vs.length ≤ 1000 ∧ ∀ a, H1 a = none → sp (.ref a :: vs) (upd H1 a (exo a C none))
  (fun v H2 => v = .non ∧ ∃ (d : Addr) (fs : List (Str × V)), H2 a = some (exo a C (some d)) ∧ H2 d = some (exd d fs) ∧ H1 d = none ∧ Q (.ref C) (some d) (upd (L2.del H2 a) d (.xd fs))) (fun _ _ _ => False)
theorem noGuard {args : Args} : (Code.builtin "type.__call__" args).guards = [] := if_neg (by show ¬ (guardIds.contains "type.__call__" = true); decide)
theorem ctx_none {C : Addr} {d : Option Addr} {t0 : Addr} : L2N.Zn (.ref C) d ({ cls := .ref C, dict := d, data := .fields #[.ref t0, .none, .none, .none, .bool false, .none] } : Obj) := ⟨rfl, rfl, fun vs e => by cases e; rfl⟩
theorem pmk_G {B initId : String} {x : Str} {C fI : Addr} {k : Nat} {fd : FuncData} {ps : List Str} {sp : Sp} (FB : ExcBaseFacts B newId initId bm) (T : OexG X.K C bm newId) (iC : PySem.W.findIn X.K (.ref C) "__init__" = some (some (.ref fI))) (tI : PySem.W.typeIn X.K (.ref fI) = some (.type "function"))
    (F1 : FnG X.prog X.w X.K X.mg X.base (L2N.CX X.prog X.w) k fI fd ps sp) (hr : RoomG (k + 1) X.A) (hb : Binds X.K fd ps []) (hg : Gl X x) (hm : X.mg x = some (.ref C)) (ha : PA X (e :: es) ta)
    (hdb : (x == ("__debug__" : Str)) = false := by decide) (he : starEach (e :: es) X.env = (false, eval e X.env) :: starEach es X.env := by rfl) (hpl : (backTo pos (starEach es X.env)).any (·.1) = false := by rfl) :
    L2N.PMk X (.Call (.Name x p) (e :: es) [] pos) (tMkG C sp ta) := by
  intro pins s σ H Q I h
  obtain ⟨nm, q, N, bs, sn, sub, ab, col, dd, k0, k1, k2, k3, k5, hC⟩ := T.cls
  refine wpAny_Call_Name_kw (ld_glob I hg hm (PySem.W.callWith_K (h₀ := X.base) I.ok.mod.kin T.kC (thn (ha.run pos pins s σ H _ I h) fun us s1 ⟨vs, H1, I1, r1, hz, q1⟩ => ⟨I1.kIn, show wpAny _ _ (call (.ref C) us) _ _ _ from ?_⟩) he hpl) hdb)
  obtain ⟨hp, g, dr, tk, os⟩ := s1
  have above : hp.objs.size ≤ hp.objs.size + 1 := Nat.le_succ _
  have q2 := q1 (hp.objs.size + 1) (I1.hok.fresh above)
  have kept : ∀ b o, hp.get? b = some o → ((hp.push (PySem.W.kdv_tup us)).push (PySem.HandSPX.excO C hp.objs.size)).get? b = some o := fun b o z => Heap.get?_push_of_some _ (Heap.get?_push_of_some _ z)
  have I2 : Inv X pins σ (upd H1 (hp.objs.size + 1) (exo (hp.objs.size + 1) C none)) ⟨(hp.push (PySem.W.kdv_tup us)).push (PySem.HandSPX.excO C hp.objs.size), g, dr, tk, os⟩ :=
    I1.laid (t' := tk) (a := hp.objs.size + 1) (o := exo (hp.objs.size + 1) C none) (h' := (hp.push (PySem.W.kdv_tup us)).push (PySem.HandSPX.excO C hp.objs.size)) kept above (exo_ok (by heap_get))
  have r2 : Vals (V.ref (hp.objs.size + 1) :: vs) (Value.ref (hp.objs.size + 1) :: us) := .cons rfl r1
  have hl : (Value.ref (hp.objs.size + 1) :: us).length = ps.length := r2.length.symm.trans (F1.len _ _ _ _ q2)
  have few : us.length ≤ sizeLine := by rw [← Paired.length r1, sizeLine_eq]; omega
  have bind := hb _ (Value.ref (hp.objs.size + 1) :: us) I2.kIn (by rw [List.append_nil]; exact hl)
  rw [List.append_nil] at bind
  have room : RoomG k (X.A.under (.builtin "type.__call__" ⟨Value.ref C :: us, []⟩)) := ⟨hr.rm.make C us [], by
    unfold Around.under
    dsimp only
    rw [hr.gd, noGuard]
    rfl⟩
  refine wpAny_call (PySem.HandSPX.call_own FB (fun _ => rfl) (I1.kIn _ _ hC) (PySem.W.looks_findIn I1.kIn iC) (fun self => PySem.W.bind_fn I1.kIn self tI) few (codeAny_mono (F1.run _ X.stack _ _ ⟨Value.ref (hp.objs.size + 1) :: us, []⟩ _ _ _ (fun _ _ _ => False) room (I2.env0.make C us []) bind r2 q2) fun r s' got => ?_))
  match r, got with
  | .error er, got =>
    obtain ⟨_, _, _, _, _, _, _, _, _, _, _, _, z⟩ := (show L2N.CX X.prog X.w X.stack _ _ (fun _ _ _ => False) er s' from got)
    exact z.elim
  | .ok (.ret u), ⟨v, H2, os2, bare2, un2, hok2, rv, ev, d, fs, ea, ed, hd1, q3⟩ =>
    subst ev
    obtain ⟨h2, g2, d2, t2, os'⟩ := s'
    obtain ⟨t0, G, J, kG, ge, hoe, na⟩ := mk_end0 (d2 := d2) (t2 := t2) I1 above kept un2 hok2 os2 bare2 ea ed hd1
    exact ⟨rv, _, _, _, ⟨G, g2, d2, t2, os'⟩, _, .ref C, some d, rfl, J, kG, ge, hoe, ctx_none, rfl, rfl, na, rfl, bare2, raises_own T.exC T.tyC, q3⟩
end
/-! ### __init__ with one field, with two -/
def spI1 (C : Addr) (f : Str) : Sp := fun vs H Q _ => ∃ (a : Addr) (v : V), vs = [.ref a, v] ∧ H a = some (exo a C none) ∧ ∀ d, H d = none → d ≠ a → Q .non (upd (upd H d (exd d [(f, v)])) a (exo a C (some d)))
def spI2 (C : Addr) (f g : Str) : Sp := fun vs H Q _ => ∃ (a : Addr) (v w : V), vs = [.ref a, v, w] ∧ H a = some (exo a C none) ∧ ∀ d, H d = none → d ≠ a → Q .non (upd (upd (upd H d (exd d [(f, v)])) a (exo a C (some d))) d (exd d [(g, w), (f, v)]))
section
variable {P : Program} {w : World} {K : PySem.W.Frag} {mg : Str → Option Value} {base : Heap} {x qual : Str} {st : Stmt} {fI C : Addr} {fd : FuncData} {bm : List Value} {newId : String} {s f g : Str} {p1 p2 p3 p4 q1 q2 q3 q4 : Pos}
theorem init1_ok (F : L2.Fun K x qual st fI fd) (Sc : FnScope [s, f] [s, f] (defScope st)) (T : OexG K C bm newId) (free : PySem.W.findIn K (.ref C) f = some none) (hb : defBody st = [.Assign [.Attribute (.Name s p1) f p2] (.Name f p3) p4])
    (hs : ∀ env : Env, swapsWith (.Name f p3) (some (.Attribute (.Name s p1) f p2)) p4.line env = pure false := by intro _; rfl)
    (v1 : Vis (defScope st) s := by first | exact .inl rfl | exact .inr (.inl rfl)) (v2 : Vis (defScope st) f := by first | exact .inl rfl | exact .inr (.inl rfl)) (d1 : (s == ("__debug__" : Str)) = false := by decide) (c1 : (s == ("__classdict__" : Str)) = false := by decide) (d2 : (f == ("__debug__" : Str)) = false := by decide) (c2 : (f == ("__classdict__" : Str)) = false := by decide) :
    FnG P w K mg base (L2N.CX P w) 1 fI fd [s, f] (spI1 C f) := by
  refine fnG_of (k := 0) (N := [s, f]) F Sc (fun vs H Q E ⟨_, _, e, _⟩ => by rw [e]; rfl) fun cdv _ A outer sh H vs Q E hr ⟨a, v, e, ha, q⟩ => ?_
  subst e
  rw [hb]
  refine ⟨_, pss_one (ps_put (bm := bm) (newId := newId) (pe_var (i := 0) rfl v1 d1 c1) (pe_var (i := 1) rfl v2 d2 c2) (hs _)), ?_⟩
  exact ⟨v, rfl, .ref a, rfl, a, C, rfl, T, free, .inl ⟨ha, q⟩⟩
theorem init2_ok (F : L2.Fun K x qual st fI fd) (Sc : FnScope [s, f, g] [s, f, g] (defScope st)) (T : OexG K C bm newId) (freeF : PySem.W.findIn K (.ref C) f = some none) (freeG : PySem.W.findIn K (.ref C) g = some none)
    (hb : defBody st = [.Assign [.Attribute (.Name s p1) f p2] (.Name f p3) p4, .Assign [.Attribute (.Name s q1) g q2] (.Name g q3) q4])
    (hs : ∀ env : Env, swapsWith (.Name f p3) (some (.Attribute (.Name s p1) f p2)) p4.line env = pure false := by intro _; rfl) (hs2 : ∀ env : Env, swapsWith (.Name g q3) (some (.Attribute (.Name s q1) g q2)) q4.line env = pure false := by intro _; rfl)
    (v1 : Vis (defScope st) s := by first | exact .inl rfl | exact .inr (.inl rfl)) (v2 : Vis (defScope st) f := by first | exact .inl rfl | exact .inr (.inl rfl)) (v3 : Vis (defScope st) g := by first | exact .inl rfl | exact .inr (.inl rfl)) (d1 : (s == ("__debug__" : Str)) = false := by decide) (c1 : (s == ("__classdict__" : Str)) = false := by decide)
    (d2 : (f == ("__debug__" : Str)) = false := by decide) (c2 : (f == ("__classdict__" : Str)) = false := by decide) (d3 : (g == ("__debug__" : Str)) = false := by decide) (c3 : (g == ("__classdict__" : Str)) = false := by decide) : FnG P w K mg base (L2N.CX P w) 1 fI fd [s, f, g] (spI2 C f g) := by
  refine fnG_of (k := 0) (N := [s, f, g]) F Sc (fun vs H Q E ⟨_, _, _, e, _⟩ => by rw [e]; rfl) fun cdv _ A outer sh H vs Q E hr ⟨a, v, w, e, ha, q⟩ => ?_
  subst e
  rw [hb]
  refine ⟨_, pss_cons (ps_put (bm := bm) (newId := newId) (pe_var (i := 0) rfl v1 d1 c1) (pe_var (i := 1) rfl v2 d2 c2) (hs _)) (pss_one (ps_put (bm := bm) (newId := newId) (pe_var (i := 0) rfl v1 d1 c1) (pe_var (i := 2) rfl v3 d3 c3) (hs2 _))), ?_⟩
  refine ⟨v, rfl, .ref a, rfl, a, C, rfl, T, freeF, .inl ⟨ha, fun d nd ne => ?_⟩⟩
  exact ⟨w, rfl, .ref a, rfl, a, C, rfl, T, freeG, .inr ⟨d, [(f, v)], upd_same, by rw [upd_ne ne, upd_same], by show 1 ≤ 900; decide, q d nd ne⟩⟩
end
end Hx

/-! Readings by value: own errors with fields raised, their fields read in a suite. -/
namespace Dv
open PySem L2 PyProof.Rows Hx
/-- such a class: its built-in class's mro bm, its fields fs, its __init__ at fI -/
structure FxF (K : PySem.W.Frag) (n : Str) (bm : List Value) (newId : String) (C fI : Addr) (fs : List Str) : Prop where
  at_ : PySem.W.nsIn K mainGlobals n = some (some (.ref C))
  ox : OexG K C bm newId
  free : ∀ f ∈ fs, PySem.W.findIn K (.ref C) f = some none
  ini : PySem.W.findIn K (.ref C) "__init__" = some (some (.ref fI))
  fn : PySem.W.typeIn K (.ref fI) = some (.type "function")
def oexB (K : PySem.W.Frag) (C : Addr) (bm : List Value) (newId : String) : Bool := match K.lookup C with
  | some ⟨.type "type", _, .cls cd, sl⟩ => (match cd.mro, sl.toList with
    | .ref C' :: bm', [_, _, _, _, some (.builtin n), _] => C' == C && (n == newId && (cd.hasDict && (!cd.hasDel && bm' == bm)))
    | _, _ => false)
  | _ => false
theorem oexB_ok {K : PySem.W.Frag} {C : Addr} {bm : List Value} {newId : String} (h : oexB K C bm newId = true) : ∃ nm q N bs sn sub ab col dd k0 k1 k2 k3 k5, K.lookup C = some (excClassObj nm q C N bs bm true sn sub ab col dd k0 k1 k2 k3 k5 newId) := by
  unfold oexB at h
  split at h
  · rename_i dd cd sl ho
    split at h
    · rename_i C' bm' k0 k1 k2 k3 n k5 hm hs
      simp only [Bool.and_eq_true, beq_iff_eq, Bool.not_eq_true'] at h
      obtain ⟨rfl, rfl, hdct, hdel, rfl⟩ := h
      obtain ⟨nm, bs, mro, ns, qn, hd, sn, sub, ab, col, del⟩ := cd
      dsimp only at hm hdel hdct
      subst hm hdel hdct
      have hsl : sl = #[k0, k1, k2, k3, some (.builtin n), k5] := by
        obtain ⟨l⟩ := sl
        simp only at hs
        rw [hs]
      subst hsl
      exact ⟨_, _, _, _, _, _, _, _, _, _, _, _, _, _, ho⟩
    · cases h
  · cases h
def fxB (K : PySem.W.Frag) (n : Str) (bm : List Value) (newId : String) (C fI : Addr) (fs : List Str) : Bool := decide (PySem.W.nsIn K mainGlobals n = some (some (.ref C))) && (oexB K C bm newId && (decide (PySem.W.findIn K (.ref C) "__setattr__" = some (some (.builtin "object.__setattr__"))) && (decide (PySem.W.subIn K (.ref C) (.type "BaseException") = some true) &&
  (decide (PySem.W.typeIn K (.ref C) = some (.type "type")) && (PySem.W.keepIn K (.ref C) && (fs.all (fun f => decide (PySem.W.findIn K (.ref C) f = some none)) && (decide (PySem.W.findIn K (.ref C) "__init__" = some (some (.ref fI))) && decide (PySem.W.typeIn K (.ref fI) = some (.type "function")))))))))
theorem fxB_ok {K : PySem.W.Frag} {n : Str} {bm : List Value} {newId : String} {C fI : Addr} {fs : List Str} (pass : ∀ self : Value, refuseLoop self "__setattr__" bm = pure ()) (top : bm.contains (.type "object") = true) (h : fxB K n bm newId C fI fs = true) : FxF K n bm newId C fI fs := by
  obtain ⟨h1, h⟩ := and_b h
  obtain ⟨h2, h⟩ := and_b h
  obtain ⟨h3, h⟩ := and_b h
  obtain ⟨h4, h⟩ := and_b h
  obtain ⟨h5, h⟩ := and_b h
  obtain ⟨h6, h⟩ := and_b h
  obtain ⟨h7, h⟩ := and_b h
  obtain ⟨h8, h9⟩ := and_b h
  exact ⟨of_decide_eq_true h1, ⟨oexB_ok h2, pass, top, of_decide_eq_true h3, of_decide_eq_true h4, of_decide_eq_true h5, h6⟩, fun f hf => of_decide_eq_true (List.all_eq_true.mp h7 f hf), of_decide_eq_true h8, of_decide_eq_true h9⟩
/-! ### raise C(e), raise C(e, e') -/
def dRaiseF1 (WD : WXD) (n f : Str) (t : TAD) : TSD := fun _ σ S => t σ S fun ds S1 => match ds with
  | [a] => WD ⟨n, [f], [a]⟩ σ S1
  | _ => False
def dRaiseF2 (WD : WXD) (n f g : Str) (t : TAD) : TSD := fun _ σ S => t σ S fun ds S1 => match ds with
  | [a, b] => WD ⟨n, [g, f], [b, a]⟩ σ S1
  | _ => False
section
variable {X : Cx} {W : Wi} {pos pos' p : Pos} {n s f g : Str} {bm : List Value} {B newId initId : String} {C fI : Addr} {fs : List Str} {fd : FuncData} {e : Expr} {es : List Expr} {t : TAD}
theorem made_eq {H1 H2 : Hp} {a d : Addr} {v : List (Str × V)} (ha : H1 a = none) (hd : d ≠ a) (h : ∀ b, b ≠ a → b ≠ d → H2 b = H1 b) : upd (L2.del H2 a) d (.xd v) = upd H1 d (.xd v) := by
  funext b
  by_cases hb : b = d
  · rw [hb, upd_same, upd_same]
  · rw [upd_ne hb, upd_ne hb]
    by_cases hc : b = a
    · rw [hc, L2.del_same, ha]
    · rw [L2.del_ne hc, h b hc hb]
theorem ds_raiseF1 (hc : X.calm = true) (tk : L2N.Takes X W.V) (FB : ExcBaseFacts B newId initId bm) (Fx : FxF X.K n bm newId C fI fs) (F1 : FnG X.prog X.w X.K X.mg X.base (L2N.CX X.prog X.w) 1 fI fd [s, f] (spI1 C f)) (hr : RoomG 2 X.A) (hb : Binds X.K fd [s, f] []) (gC : X.mg n = some (.ref C)) (hg : Gl X n) (ha : DA X W (e :: es) t)
    (hdb : (n == ("__debug__" : Str)) = false := by decide) (he : starEach (e :: es) X.env = (false, eval e X.env) :: starEach es X.env := by rfl) (hpl : (backTo pos (starEach es X.env)).any (·.1) = false := by rfl) :
    DS X W (.Raise (some (.Call (.Name n p) (e :: es) [] pos)) none pos') (dRaiseF1 W.D n f t) :=
  ⟨PS.imp (L2N.ps_raise hc tk (pmk_G FB Fx.ox Fx.ini Fx.fn F1 hr hb hg gC ha.p hdb he hpl)) fun D σ H ⟨σd, S, fr, Dd, ok, cl, h, k⟩ => ⟨σd, S, fr, _, ok, cl, h, fun vs ds H1 S1 ok1 r1 q => by
    match ds, q with
    | [da], q =>
      obtain ⟨v, rfl, rv⟩ := rpL1 r1
      refine ⟨by show 1 ≤ 1000; decide, fun a na => ⟨a, v, rfl, upd_same, fun d nd ne => ⟨rfl, d, _, upd_same, by rw [upd_ne ne, upd_same], by rw [upd_ne ne] at nd; exact nd, ?_⟩⟩⟩
      rw [upd_ne ne] at nd
      rw [made_eq na ne fun b hba hbd => by rw [upd_ne hba, upd_ne hbd, upd_ne hba]]
      refine cl σd σ _ S1 (.ref C) (some d) ⟨n, [f], [da]⟩ (ok1.new nd) ⟨Fx.at_, (fun z => by cases z), fun dx ed => ?_⟩ q
      cases ed
      exact ⟨_, upd_same, ok1.rel.free nd, .inr ⟨rfl, rpL_step ok1.rel (step_new nd) [da] [v] (rpL_cons rv rpL_nil)⟩⟩⟩⟩
theorem ds_raiseF2 (hc : X.calm = true) (tk : L2N.Takes X W.V) (FB : ExcBaseFacts B newId initId bm) (Fx : FxF X.K n bm newId C fI fs) (F1 : FnG X.prog X.w X.K X.mg X.base (L2N.CX X.prog X.w) 1 fI fd [s, f, g] (spI2 C f g)) (hr : RoomG 2 X.A) (hb : Binds X.K fd [s, f, g] []) (gC : X.mg n = some (.ref C)) (hg : Gl X n) (ha : DA X W (e :: es) t)
    (hdb : (n == ("__debug__" : Str)) = false := by decide) (he : starEach (e :: es) X.env = (false, eval e X.env) :: starEach es X.env := by rfl) (hpl : (backTo pos (starEach es X.env)).any (·.1) = false := by rfl) :
    DS X W (.Raise (some (.Call (.Name n p) (e :: es) [] pos)) none pos') (dRaiseF2 W.D n f g t) :=
  ⟨PS.imp (L2N.ps_raise hc tk (pmk_G FB Fx.ox Fx.ini Fx.fn F1 hr hb hg gC ha.p hdb he hpl)) fun D σ H ⟨σd, S, fr, Dd, ok, cl, h, k⟩ => ⟨σd, S, fr, _, ok, cl, h, fun vs ds H1 S1 ok1 r1 q => by
    match ds, q with
    | [da, db], q =>
      obtain ⟨v, w, rfl, rv, rw'⟩ := rpL2 r1
      refine ⟨by show 2 ≤ 1000; decide, fun a na => ⟨a, v, w, rfl, upd_same, fun d nd ne => ⟨rfl, d, _, by rw [upd_ne (Ne.symm ne), upd_same], upd_same, by rw [upd_ne ne] at nd; exact nd, ?_⟩⟩⟩
      rw [upd_ne ne] at nd
      rw [made_eq na ne fun b hba hbd => by rw [upd_ne hbd, upd_ne hba, upd_ne hbd, upd_ne hba]]
      refine cl σd σ _ S1 (.ref C) (some d) ⟨n, [g, f], [db, da]⟩ (ok1.new nd) ⟨Fx.at_, (fun z => by cases z), fun dx ed => ?_⟩ q
      cases ed
      exact ⟨_, upd_same, ok1.rel.free nd, .inr ⟨rfl, rpL_step ok1.rel (step_new nd) [db, da] [w, v] (rpL_cons rw' (rpL_cons rv rpL_nil))⟩⟩⟩⟩
/-! ### e.f in a suite -/
def fldOf (ns : List Str) (xs : List D) (f : Str) : Option D := (ns.zip xs).lookup f
theorem rpL_lookup {K : PySem.W.Frag} {H : Hp} {S : Sd} : ∀ {xs : List D} {fs : List (Str × V)} {f : Str} {d : D}, RpL K H S xs (fs.map Prod.snd) → ((fs.map Prod.fst).zip xs).lookup f = some d → ∃ v, fs.lookup f = some v ∧ Rp K H S d v
  | [], fs, f, d, h, e => by simp at e
  | x :: xs, [], f, d, h, e => by simp at e
  | x :: xs, (g, v) :: fs, f, d, h, e => by
    obtain ⟨v', r, e1, h1, h2⟩ := h
    simp only [List.map_cons, List.cons.injEq] at e1
    obtain ⟨rfl, rfl⟩ := e1
    simp only [List.map_cons, List.zip_cons_cons, List.lookup_cons] at e
    rw [List.lookup_cons]
    cases c : f == g with
    | true =>
      rw [c] at e
      cases e
      exact ⟨v, rfl, h1⟩
    | false =>
      rw [c] at e
      exact rpL_lookup h2 e
end
theorem pass_IndexError (self : Value) : refuseLoop self "__setattr__" [.type "IndexError", .type "LookupError", .type "Exception", .type "BaseException", .type "object"] = pure () := by kernel_rfl
theorem pass_OverflowError (self : Value) : refuseLoop self "__setattr__" [.type "OverflowError", .type "ArithmeticError", .type "Exception", .type "BaseException", .type "object"] = pure () := by kernel_rfl
theorem pass_ArithmeticError (self : Value) : refuseLoop self "__setattr__" [.type "ArithmeticError", .type "Exception", .type "BaseException", .type "object"] = pure () := by kernel_rfl
end Dv

/-! The place of a whole number in a tuple of whole numbers. -/
namespace Dv
open PySem L2 PyProof.Rows Hx
end Dv

/-! Instances of own classes by value: made, their fields, their methods. -/
namespace Dv
open PySem L2 PyProof.Rows Hx
/-- an own class with a plain __init__ -/
structure ClF (K : PySem.W.Frag) (n : Str) (C fI : Addr) : Prop where
  at_ : ClsAt K n C
  cls : Cls K C
  new : Mk K C fI
def clB (K : PySem.W.Frag) (n : Str) (C fI : Addr) : Bool := decide (PySem.W.nsIn K mainGlobals n = some (some (.ref C))) && (PySem.W.plainGet K C Str.empty && (PySem.W.hasDictIn K C && (PySem.W.plainOver K C && (decide (PySem.W.findIn K (.ref C) "__setattr__" = some (some (.builtin "object.__setattr__"))) &&
  (PySem.W.makesIn K C && (decide (PySem.W.findIn K (.ref C) "__init__" = some (some (.ref fI))) && (PySem.W.isFn K (.ref fI) && PySem.W.keepIn K (.ref C))))))))
theorem clB_ok {K : PySem.W.Frag} {n : Str} {C fI : Addr} (h : clB K n C fI = true) : ClF K n C fI := by
  unfold clB at h
  obtain ⟨a, h⟩ := and_b h
  obtain ⟨b, h⟩ := and_b h
  obtain ⟨c, h⟩ := and_b h
  obtain ⟨d, h⟩ := and_b h
  obtain ⟨e, h⟩ := and_b h
  obtain ⟨f, h⟩ := and_b h
  obtain ⟨g, h⟩ := and_b h
  obtain ⟨i, j⟩ := and_b h
  exact ⟨of_decide_eq_true (p := PySem.W.nsIn K mainGlobals n = some (some (.ref C))) a, ⟨b, c, d, of_decide_eq_true e⟩, ⟨f, of_decide_eq_true g, i, j⟩⟩
def noAttrB (K : PySem.W.Frag) (C : Addr) (fs : List Str) : Bool := fs.all fun f => decide (PySem.W.findIn K (.ref C) f = some none)
theorem noAttrB_ok {K : PySem.W.Frag} {C : Addr} {fs : List Str} (h : noAttrB K C fs = true) {f : Str} (hf : f ∈ fs) : NoAttr K C f := of_decide_eq_true (p := PySem.W.findIn K (.ref C) f = some none) (List.all_eq_true.mp h f hf)
def methB (K : PySem.W.Frag) (C : Addr) (m : Str) (f : Addr) : Bool := decide (PySem.W.findIn K (.ref C) m = some (some (.ref f))) && (PySem.W.isFn K (.ref f) && PySem.W.keepIn K (.ref f))
theorem methB_ok {K : PySem.W.Frag} {C : Addr} {m : Str} {f : Addr} (h : methB K C m f = true) : Meth K C m f := by
  unfold methB at h
  obtain ⟨a, h⟩ := and_b h
  obtain ⟨b, c⟩ := and_b h
  exact ⟨of_decide_eq_true a, b, c⟩
/-- C(..), then it is never stored into again -/
def dMake (n : Str) (sp : SpD) (dds : List D) (WD : WXD) (t : TAD) : TED := fun σ S Q => t σ S fun xs S1 => ∀ a, S1 a = none → sp (.obj a :: (xs ++ dds)) (upS S1 a (.ins n [] [])) (fun v S2 => v = .non ∧ ∃ ns ys, S2 a = some (.ins n ns ys) ∧ Q (.inst n ns ys) (del S2 a)) fun y S2 => WD y σ S2
/-- o.m(..) -/
def dMeth (n m : Str) (sp : SpD) (dds : List D) (WD : WXD) (to : TED) (t : TAD) : TED := fun σ S Q => to σ S fun o S1 => (∃ ns ys, o = .inst n ns ys ∧ m ∉ ns) ∧ t σ S1 fun xs S2 => sp (o :: (xs ++ dds)) S2 Q fun y S3 => WD y σ S3
/-- o.f, of what is stored into no more -/
def dFld (n f : Str) (to : TED) : TED := fun σ S Q => to σ S fun o S1 => ∃ ns ys d, o = .inst n ns ys ∧ fldOf ns ys f = some d ∧ Q d S1
/-- self.f = e, the first time -/
def dPut (n f : Str) (to tv : TED) : TSD := fun D σ S => tv σ S fun y S1 => to σ S1 fun o S2 => ∃ a ns ys, o = .obj a ∧ S2 a = some (.ins n ns ys) ∧ f ∉ ns ∧ ns.length < 1000 ∧ D.nx σ (upS S2 a (.ins n (ns ++ [f]) (ys ++ [y])))
theorem putF_new {f : Str} {v : V} : ∀ {fs : List (Str × V)}, f ∉ fs.map Prod.fst → putF f v fs = fs ++ [(f, v)]
  | [], _ => rfl
  | (g, x) :: r, h => by
    have h1 : g ≠ f := fun e => h (by rw [e]; simp)
    show (if g = f then (g, v) :: r else (g, x) :: putF f v r) = _
    rw [if_neg h1, putF_new fun z => h (List.mem_cons_of_mem _ z)]
    rfl
theorem lookup_not {f : Str} : ∀ {fs : List (Str × V)}, f ∉ fs.map Prod.fst → fs.lookup f = none
  | [], _ => rfl
  | (g, x) :: r, h => by
    have h1 : (f == g) = false := beq_false_of_ne fun e => h (by rw [e]; simp)
    rw [List.lookup_cons, h1]
    exact lookup_not fun z => h (List.mem_cons_of_mem _ z)
section
variable {X : Cx} {W : Wi} {k : Nat} {f C fI : Addr} {fd : FuncData} {ps : List Str} {sp : SpD} {ds : List Value} {dvs : List V} {dds : List D} {x n m g : Str} {p pos apos pos' : Pos} {o e : Expr} {es : List Expr} {to tv : TED} {t : TAD}
theorem step_made {H : Hp} {S : Sd} {x d : Addr} {u : HO} {w : HO} {o : SO} (hx : H x = none) (hd : H d = none) : Step H S (upd (upd H d w) x u) (upS S x o) := fun b z h1 h2 => by
  have b1 : b ≠ x := ne_of_none h1 hx
  have b2 : b ≠ d := ne_of_none h1 hd
  exact ⟨by rw [upd_ne b1, upd_ne b2]; exact h1, by rw [upS_ne b1]; exact h2⟩
theorem make_lift (c : ClsAt X.K n C) (hdd : ∀ H S, RpL X.K H S dds dvs) (σ : L2.St) (H : Hp) (Q : VK) (h : upE X.K W (dMake n sp dds W.D t) σ H Q) : tMakeS C (upF X.K sp) dvs (WE W.V) (upA X.K W t) σ H Q := by
  obtain ⟨σd, S, fr, Qd, ok, cl, h, k⟩ := h
  refine ⟨σd, S, fr, _, ok, cl, h, fun vs ds H1 S1 ok1 r1 h1 x dx hx hd hne => ?_⟩
  have st : Step H1 S1 (upd (upd H1 dx (.own x)) x (.ins C dx [])) (upS S1 x (.ins n [] [])) := step_made hx hd
  have sx : S1 x = none := ok1.rel.free hx
  have R2 : RelS X.K (upd (upd H1 dx (.own x)) x (.ins C dx [])) (upS S1 x (.ins n [] [])) := fun b w e => by
    by_cases hb : b = x
    · subst hb
      rw [upS_same] at e
      cases e
      exact ⟨C, dx, [], c, upd_same, rfl, rfl⟩
    · rw [upS_ne hb] at e
      exact soOk_step ok1.rel st (ok1.rel b w e) fun u hu => by rw [upd_ne hb, upd_ne (ne_of_none hu hd)]; exact hu
  have ok2 := ok1.step st R2
  refine ⟨.obj x :: (ds ++ dds), _, fr ++ prs σd σ, _, _, R2, ok2.out, rpL_cons rfl (rpL_app (rpL_step ok1.rel st _ _ r1) (hdd _ _)), h1 x sx, fun v d H3 S3 R3 f3 r3 q3 => ?_, fun cls od y H3 S3 R3 f3 ry q3 => ?_⟩
  · obtain ⟨e1, ns, ys, e2, q⟩ := q3
    subst e1
    refine ⟨r3, k (.ref x) _ H3 _ ((ok2.back R3 f3).step step_del (rel_del R3)) (rp_frozenI R3 e2) q⟩
  · exact cl σd σ H3 S3 cls od y (ok2.back R3 f3) ry q3
theorem de_make (Cf : ClF X.K n C fI) (F : FnG X.prog X.w X.K X.mg X.base (L2N.CX X.prog X.w) k fI fd ps (upF X.K sp)) (hr : RoomG (k + 1) X.A) (hg : Gl X n) (hm : X.mg n = some (.ref C)) (hb : Binds X.K fd ps ds) (hd : Vals dvs ds) (hdd : ∀ H S, RpL X.K H S dds dvs) (tk : L2N.Takes X W.V)
    (ha : DA X W (e :: es) t) (hdb : (n == ("__debug__" : Str)) = false := by decide) (he : starEach (e :: es) X.env = (false, eval e X.env) :: starEach es X.env := by rfl) (hpl : (backTo pos (starEach es X.env)).any (·.1) = false := by rfl) :
    DE X W (.Call (.Name n p) (e :: es) [] pos) (dMake n sp dds W.D t) :=
  ⟨PE.imp (pe_makeG Cf.new F hr hg hm hb hd (fun σ => L2N.passAt tk σ) ha.p hdb he hpl) (make_lift Cf.at_ hdd)⟩
theorem meth_lift (c : ClsAt X.K n C) (hdd : ∀ H S, RpL X.K H S dds dvs) (σ : L2.St) (H : Hp) (Q : VK) (h : upE X.K W (dMeth n m sp dds W.D to t) σ H Q) : tMethS C m (upF X.K sp) dvs (WE W.V) (upE X.K W to) (upA X.K W t) σ H Q := by
  obtain ⟨σd, S, fr, Qd, ok, cl, h, k⟩ := h
  refine ⟨σd, S, fr, _, ok, cl, h, fun x dx H1 S1 ok1 r1 ⟨⟨ns, ys, eo, hm⟩, h1⟩ => ?_⟩
  subst eo
  obtain ⟨C', a, d', fs, c', rfl, ha, sa, en, r⟩ := r1
  obtain rfl := c'.one c
  have r1 : Rp X.K H1 S1 (.inst n ns ys) (.ref a) := ⟨C', a, d', fs, c', rfl, ha, sa, en, r⟩
  refine ⟨a, d', fs, rfl, ha, lookup_not (by rw [en]; exact hm), σd, S1, (.ref a, .inst n ns ys) :: fr, _, ok1.cons r1, cl.tail, h1, fun vs ds H2 S2 ok2 r2 h2 => ?_⟩
  refine ⟨.inst n ns ys :: (ds ++ dds), S2, fr ++ prs σd σ, Qd, _, ok2.tail.rel, ok2.tail.out, rpL_cons ok2.head (rpL_app r2 (hdd H2 S2)), h2, fun v d H3 S3 R3 f3 r3 q3 => ?_, fun cls od y H3 S3 R3 f3 ry q3 => ?_⟩
  · exact k v d H3 S3 (ok2.tail.back R3 f3) r3 q3
  · exact cl σd σ H3 S3 cls od y (ok2.tail.back R3 f3) ry q3
theorem de_meth {pl : Sem Bool} (Cf : ClF X.K n C fI) (hM : Meth X.K C m f) (ho : DE X W o to) (F : FnG X.prog X.w X.K X.mg X.base (L2N.CX X.prog X.w) k f fd ps (upF X.K sp)) (hr : RoomG k X.A) (hb : Binds X.K fd ps ds) (hd : Vals dvs ds) (hdd : ∀ H S, RpL X.K H S dds dvs) (tk : L2N.Takes X W.V)
    (ha : DA X W (e :: es) t) (hst : starEach (e :: es) X.env = (false, eval e X.env) :: starEach es X.env := by rfl) (hpl : (backTo pos (starEach es X.env)).any (·.1) = false := by rfl)
    (ht : eval (.Call (.Attribute o m apos) (e :: es) [] pos) X.env = (do
      let ov ← eval o X.env
      standAt apos.atName
      let (f, first) ← holding [ov] (getMethod ov m pl)
      callWith pos f first (backTo pos (starEach (e :: es) X.env)) (backToKw pos (keywordEach [] X.env))) := by rfl) :
    DE X W (.Call (.Attribute o m apos) (e :: es) [] pos) (dMeth n m sp dds W.D to t) :=
  ⟨PE.imp (pe_methG (pl := pl) ho.p Cf.cls hM F hr hb hd (fun σ => L2N.passAt tk σ) ha.p hst hpl ht) (meth_lift Cf.at_ hdd)⟩
theorem de_meth0 {pl : Sem Bool} (Cf : ClF X.K n C fI) (hM : Meth X.K C m f) (ho : DE X W o to) (F : FnG X.prog X.w X.K X.mg X.base (L2N.CX X.prog X.w) k f fd ps (upF X.K sp)) (hr : RoomG k X.A) (hb : Binds X.K fd ps ds) (hd : Vals dvs ds) (hdd : ∀ H S, RpL X.K H S dds dvs) (tk : L2N.Takes X W.V)
    (ht : eval (.Call (.Attribute o m apos) [] [] pos) X.env = (do
      let ov ← eval o X.env
      standAt apos.atName
      let (f, first) ← holding [ov] (getMethod ov m pl)
      callWith pos f first (backTo pos (starEach [] X.env)) (backToKw pos (keywordEach [] X.env))) := by rfl) :
    DE X W (.Call (.Attribute o m apos) [] [] pos) (dMeth n m sp dds W.D to dNil) :=
  ⟨PE.imp (pe_methG0 (pl := pl) ho.p Cf.cls hM F hr hb hd (fun σ => L2N.passAt tk σ) ht) fun σ H Q h => by
    obtain ⟨σd, S, fr, Qd, ok, cl, h, k⟩ := meth_lift (t := dNil) Cf.at_ hdd σ H Q h
    refine ⟨σd, S, fr, _, ok, cl, h, fun x dx H1 S1 ok1 r1 q => ?_⟩
    obtain ⟨a, d', fs, e1, e2, e3, σd', S', fr', Qd', ok', cl', h', k'⟩ := k x dx H1 S1 ok1 r1 q
    exact ⟨a, d', fs, e1, e2, e3, k' [] [] H1 S' ok' rfl h'⟩⟩
theorem de_fld (Cf : ClF X.K n C fI) (hn : NoAttr X.K C g) (ho : DE X W o to) (hb : attributeBase o g X.env (eval o X.env) = eval o X.env := by rfl) : DE X W (.Attribute o g pos) (dFld n g to) :=
  ⟨PE.imp (pe_fld ho.p hb) fun σ H Q ⟨σd, S, fr, Qd, ok, cl, h, k⟩ => ⟨σd, S, fr, _, ok, cl, h, fun x dx H1 S1 ok1 r1 ⟨ns, ys, d, eo, el, q⟩ => by
    subst eo
    obtain ⟨C', a, d', fs, c', rfl, ha, sa, en, r⟩ := r1
    obtain rfl := c'.one Cf.at_
    subst en
    obtain ⟨v, e1, e2⟩ := rpL_lookup r el
    exact ⟨a, C', d', fs, v, rfl, ha, Cf.cls, hn, e1, k v d H1 S1 ok1 e2 q⟩⟩⟩
theorem ds_put (Cf : ClF X.K n C fI) (hn : NoAttr X.K C g) (ho : DE X W o to) (hv : DE X W e tv) (hs : swapsWith e (some (.Attribute o g pos')) pos.line X.env = pure false) : DS X W (.Assign [.Attribute o g pos'] e pos) (dPut n g to tv) :=
  ⟨PS.imp (ps_fld ho.p hv.p hs) fun D σ H ⟨σd, S, fr, Dd, ok, cl, h, k⟩ => ⟨σd, S, fr, _, ok, cl, h, fun y dy H1 S1 ok1 ry h1 => ⟨σd, S1, (y, dy) :: fr, _, ok1.cons ry, cl.tail, h1, fun x dx H2 S2 ok2 rx ⟨a, ns, ys, eo, es, hg, hl, q⟩ => by
    subst eo
    cases (show x = .ref a from rx)
    obtain ⟨C', dd, fs, c', ha, en, r⟩ := ok2.rel a _ es
    obtain rfl := c'.one Cf.at_
    have lf : fs.length = ns.length := by rw [← en, List.length_map]
    have st : Step H2 S2 (upd H2 a (.ins C' dd (fs ++ [(g, y)]))) (upS S2 a (.ins n (ns ++ [g]) (ys ++ [dy]))) := step_set es
    refine ⟨a, C', dd, fs, rfl, ha, Cf.cls, hn, by omega, ?_⟩
    rw [putF_new (by rw [en]; exact hg)]
    refine k.nx σd σ _ _ (ok2.tail.step st (rel_set ok2.rel es ⟨C', dd, _, c', upd_same, by rw [List.map_append, en]; rfl, ?_⟩)) q
    rw [List.map_append]
    exact rpL_step ok2.rel st _ _ (rpL_app r (rpL_cons ok2.head rpL_nil))⟩⟩⟩
end
end Dv

/-! A list times a whole number; whether data stands in a list of data. -/
namespace Dv
open PySem L2 PyProof.Rows Hx
open AutoSeq1 (wpAny_loadPart')
def rdMulL : RD2 := fun x y S Q => match x, y with
  | .lst ds, .int k => (0 ≤ k ∧ k < 2 ^ 62 ∧ ds.length * k.toNat ≤ 16777216) ∧ Q (.lst (List.replicate k.toNat ds).flatten) S
  | _, _ => False
theorem x_mulL {ds : List D} {k : Int} {S : Sd} {Q : DK} : rdMulL (.lst ds) (.int k) S Q = ((0 ≤ k ∧ k < 2 ^ 62 ∧ ds.length * k.toNat ≤ 16777216) ∧ Q (.lst (List.replicate k.toNat ds).flatten) S) := rfl
/-! ### data in a list of data -/
end Dv

/-! Readings by value: defs with defaults; len of an instance. -/
namespace Dv
open PySem L2 PyProof.Rows Hx
section
variable {P : Program} {w : World} {K : PySem.W.Frag} {mg : Str → Option Value} {base : Heap}
/-- THE RULE for a def with defaults -/
theorem okDv {x qual : Str} {st : Stmt} {f T : Addr} {its : Array Value} {fd : FuncData} {N ps : List Str} {k : Nat} {sp : SpD} {t : XKD → TSD} (F : FunV K x qual st f fd T its) (Sc : FnScope N ps (defScope st)) (len : ∀ ds S Q E, sp ds S Q E → ds.length = ps.length)
    (hb : ∀ (cdv : Value) (A : Around) (outer : List Env) (s : Shared) (H : Hp) (E : XK) (Ed : XKD), Hx.RoomG k (A.deeper (envOfC qual (defScope st) s.heap.objs.size f cdv)) → DB (bodyCx P w K mg base N qual st f cdv A outer s H E) (wiOf E Ed) (defBody st) (t Ed))
    (hp : ∀ ds S Q Ed, sp ds S Q Ed → t Ed { nx := fun _ S' => Q .non S', rt := Q } (startD N ds) S) : Hx.FnG P w K mg base (L2N.CX P w) (k + 1) f fd ps (upF K sp) := by
  refine Hx.fnG_ofV F Sc (fun vs H Q E h => ?_) (fun cdv _ A outer s H vs Q E hr h => ?_)
  · obtain ⟨ds, S, fr, Qd, Ed, R, f, r, h, _⟩ := h
    rw [← rpL_len r]
    exact len ds S Qd Ed h
  · obtain ⟨ds, S, fr, Qd, Ed, R, f, r, h, hq, hx⟩ := h
    refine ⟨_, (hb cdv A outer s H E Ed hr).p, startD N ds, S, fr, { nx := fun _ S' => Qd .non S', rt := Qd }, start_ok R f r, fun σd σ H' S' cls od y o rx q => hx cls od y H' S' o.rel o.fr rx q, hp ds S Qd Ed h, ?_⟩
    exact ⟨fun σd σ H' S' o q => hq .non .non H' S' o.rel o.fr rfl q, fun v d σd σ H' S' o rv q => hq v d H' S' o.rel o.fr rv q, fun _ _ _ _ _ q => q.elim, fun _ _ _ _ _ q => q.elim⟩
end
end Dv
namespace Dv
open PySem L2 PyProof.Rows Hx
end Dv

/-! A tuple told at run time of which it is known that it has no dict: its method index. -/
namespace Dv
open PySem L2 PyProof.Rows Hx
def rdTupX : RDC := fun ds S Q => match ds with
  | [.lst ys] => Q (.tupX ys) S
  | _ => False
theorem x_tupX {ys : List D} {S : Sd} {Q : DK} : rdTupX [.lst ys] S Q = Q (.tupX ys) S := rfl
/-- the same as any tuple -/
def dPlain (t : TED) : TED := fun σ S Q => t σ S fun d S1 => match d with
  | .tupX ds => Q (.tup ds) S1
  | _ => False
section
variable {X : Cx} {W : Wi} {o e : Expr} {es : List Expr} {to : TED} {t : TAD} {apos cpos : Pos}
end
end Dv

/-! Readings by value: defs called while an exception is handled. -/
namespace Dv
open PySem PySem.Spec L2 PyProof.Rows Hx
section
variable {P : Program} {w : World} {K : PySem.W.Frag} {mg : Str → Option Value} {base : Heap}
end
section
variable {X : Cx} {k : Nat} {f : Addr} {fd : FuncData} {ps : List Str} {sp : SpD} {x : Str} {p pos : Pos} {e : Expr} {es : List Expr} {t : TAD}
end
end Dv

/-! Readings by value: sep.join(reversed(xs)). -/
namespace Dv
open PySem PySem.Spec L2 PyProof.Rows Hx
section
variable {X : Cx} {W : Wi}
end
end Dv
namespace Dv
open PySem PySem.Spec L2 PyProof.Rows Hx
end Dv

/-! Readings by value: data in a tuple of data. -/
namespace Dv
open PySem PySem.Spec L2 PyProof.Rows Hx
section
variable {X : Cx}
/-! ### steps by instances alone -/
theorem cons_go {ta : TED} {tr : TAD} {σ : Si} {S : Sd} {Q : List D → Sd → Prop} (h : ta σ S fun x S1 => tr σ S1 fun xs S2 => Q (x :: xs) S2) : dCons ta tr σ S Q := h
theorem nil_go {σ : Si} {S : Sd} {Q : List D → Sd → Prop} (h : Q [] S) : dNil σ S Q := h
theorem var_go {i : Nat} {d : D} {σ : Si} {S : Sd} {Q : DK} (e : σ[i]? = some (some d)) (h : Q d S) : dVar i σ S Q := by rw [dVar_of e]; exact h
end
end Dv

/-! Readings by value: a written dict whose keys are tuples of whole numbers. -/
namespace Dv
open PySem PySem.Spec L2 PyProof.Rows Hx
abbrev TkE := List Int × Addr × Value
section
variable {X : Cx}
end
/-! ### by value -/
/-- the dict's entries as data -/
inductive TkV (K : PySem.W.Frag) : List TkE → List (List Int × D) → Prop
  | nil : TkV K [] []
  | cons {k : List Int} {b : Addr} {u : Value} {d : D} {v : V} {xs : List TkE} {tab : List (List Int × D)} : RelV v u → (∀ H S, Rp K H S d v) → TkV K xs tab → TkV K ((k, b, u) :: xs) ((k, d) :: tab)
def tkAt (tab : List (List Int × D)) (ks : List Int) : Option D := (tab.find? fun t => decide (t.1 = ks)).map (·.2)
theorem TkV.at {K : PySem.W.Frag} {ks : List Int} : ∀ {xs : List TkE} {tab : List (List Int × D)}, TkV K xs tab →
    (atKey xs ks).isSome = (tkAt tab ks).isSome ∧ ∀ d, tkAt tab ks = some d → ∃ b u v, atKey xs ks = some (b, u) ∧ RelV v u ∧ ∀ H S, Rp K H S d v
  | _, _, .nil => ⟨rfl, fun d h => by simp [tkAt] at h⟩
  | _, _, .cons (k := k) (b := b) (u := u) (d := d') (v := v) (xs := xs) (tab := tab) r p t => by
    by_cases c : k = ks
    · have e1 : atKey ((k, b, u) :: xs) ks = some (b, u) := by simp [atKey, c]
      have e2 : tkAt ((k, d') :: tab) ks = some d' := by simp [tkAt, c]
      rw [e1, e2]
      exact ⟨rfl, fun d h => by cases h; exact ⟨b, u, v, rfl, r, p⟩⟩
    · have e1 : atKey ((k, b, u) :: xs) ks = atKey xs ks := by simp [atKey, c]
      have e2 : tkAt ((k, d') :: tab) ks = tkAt tab ks := by simp [tkAt, c]
      rw [e1, e2]
      exact t.at
section
variable {X : Cx} {W : Wi} {pos : Pos}
end
end Dv

/-! Readings by value: a written dict of two tuples of whole numbers, asked at once; min of four ints; min with default. -/
namespace Dv
open PySem L2 PyProof.Rows Hx
/-! ### {"k1": (..), "k2": (..)}[x], {"k1": (..), "k2": (..)}.get(x), x a slot -/
section
variable {K : PySem.W.Frag} {W : Wi} {k1 k2 : Str} {ns ms : List Int} {i : Nat}
end
section
variable {X : Cx} {W : Wi} {k1 k2 x : Str} {ns ms : List Int} {i : Nat} {m1 m2 : Nat} {e1 e2 : Expr} {q1 q2 dpos np pos apos : Pos}
end
/-! ### min of four ints, min with default -/
section
variable {X : Cx} {W : Wi} {e : Expr} {t : TED} {d : Int} {j : Nat} {p1 p2 p3 pos : Pos}
end
end Dv

/-! Readings by value: a lambda handed to a def that calls it within a try with one clause; the suite and what stands behind are told by values. -/
namespace Dv
open PySem L2 PyProof.Rows Hx
section
variable {X : Cx} {pos : Pos}
/-- what is wished where the error leaves the lambda -/
def EG (K : PySem.W.Frag) (c : Str) (u : Addr → Option Addr → TSD) (Q : VK) : XK := fun cls od H' => ∃ Dn, cls = .ref Dn ∧ WhF K c Dn ∧ ∃ (S : Sd) (fr : List (V × D)) (Qd : DK) (ns : List Str) (xs : List D), RelS K H' S ∧ FrOk K H' S fr ∧ (∀ a, Rp K H' S (.exc a od ns xs) (.ref a)) ∧
  (∀ a, u a od { nx := fun _ _ => False, rt := Qd } [none, some (.exc a od ns xs)] S) ∧ ∀ w d H2 S2, RelS K H2 S2 → FrOk K H2 S2 fr → Rp K H2 S2 d w → Qd d S2 → Q w H2
/-- what is wished behind -/
def NG (K : PySem.W.Frag) (v : TSD) (Q : VK) (H' : Hp) : Prop := ∃ (S : Sd) (fr : List (V × D)) (Qd : DK), RelS K H' S ∧ FrOk K H' S fr ∧ v { nx := fun _ _ => False, rt := Qd } [none, none] S ∧ ∀ w d H2 S2, RelS K H2 S2 → FrOk K H2 S2 fr → Rp K H2 S2 d w → Qd d S2 → Q w H2
def TG (K : PySem.W.Frag) (c : Str) (u : Addr → Option Addr → TSD) (v : TSD) : (XK → Hp → VK → Prop) → Hp → VK → Prop := fun tl H Q => tl (EG K c u Q) H fun _ H' => NG K v Q H'
/-- g(lambda: body), g such a def -/
def dHT (P : Addr) (q c : Str) (u : Addr → Option Addr → TSD) (v : TSD) (te : XKD → TED) : TED := fun σ S Q => S P = some (.tab q) ∧ te (fun x S' => x.cls = c ∧ ∀ a od, u a od { nx := fun _ _ => False, rt := Q } [none, some (.exc a od x.ns x.xs)] S') σ S fun _ S' => v { nx := fun _ _ => False, rt := Q } [none, none] S'
end
end Dv

/-! Readings by value: a key in a dict of the module; a text not in a text. -/
namespace Dv
open PySem L2 PyProof.Rows Hx
def dKin (ks : List Str) (ta : TED) : TED := fun σ S Q => ta σ S fun x S1 => match x with
  | .str z => Q (.bl (decide (z ∈ ks))) S1
  | _ => False
section
variable {X : Cx} {W : Wi} {pos : Pos}
end
/-! ### a text not in a text -/
def rdNotInT : RD2 := fun x y S Q => match x, y with
  | .str a, .str z => Q (.bl (!hasS z a)) S
  | _, _ => False
theorem x_notInT {a z : Str} {S : Sd} {Q : DK} : rdNotInT (.str a) (.str z) S Q = Q (.bl (!hasS z a)) S := rfl
end Dv

/-! Readings by value: sorted and min of a list of data; range downward. -/
namespace Dv
open PySem L2 PyProof.Rows Hx
/-! ### range(a, b, -1) -/
end Dv

/-! Tuples made by +, a slice or *, of which it is known that they have no dict. -/
namespace Hx
open PySem PySem.Spec PyProof.Rows L2
section
variable {X : Cx}
end
end Hx
namespace Dv
open PySem L2 PyProof.Rows Hx
section
variable {X : Cx} {W : Wi} {o e : Expr} {es : List Expr} {to : TED} {t : TAD} {apos cpos : Pos}
end
end Dv
namespace Dv
open PySem L2 PyProof.Rows Hx
end Dv

/-! Methods of an instance that is still stored into. -/
namespace Dv
open PySem L2 PyProof.Rows Hx
/-- o.m(..), o is tracked -/
def dMethO (n m : Str) (sp : SpD) (dds : List D) (WD : WXD) (to : TED) (t : TAD) : TED := fun σ S Q => to σ S fun o S1 => (∃ a ns ys, o = .obj a ∧ S1 a = some (.ins n ns ys) ∧ m ∉ ns) ∧ t σ S1 fun xs S2 => sp (o :: (xs ++ dds)) S2 Q fun y S3 => WD y σ S3
section
variable {X : Cx} {W : Wi} {k : Nat} {f C fI : Addr} {fd : FuncData} {ps : List Str} {sp : SpD} {ds : List Value} {dvs : List V} {dds : List D} {x n m g : Str} {p pos apos pos' : Pos} {o e : Expr} {es : List Expr} {to tv : TED} {t : TAD}
theorem methO_lift (c : ClsAt X.K n C) (hdd : ∀ H S, RpL X.K H S dds dvs) (σ : L2.St) (H : Hp) (Q : VK) (h : upE X.K W (dMethO n m sp dds W.D to t) σ H Q) : tMethS C m (upF X.K sp) dvs (WE W.V) (upE X.K W to) (upA X.K W t) σ H Q := by
  obtain ⟨s0, S, fr, Qd, ok, cl, h, kq⟩ := h
  refine ⟨s0, S, fr, _, ok, cl, h, fun y dy H1 S1 ok1 ry ⟨⟨a, ns, ys, eo, es, hm⟩, h1⟩ => ?_⟩
  subst eo
  cases (show y = .ref a from ry)
  obtain ⟨C', dd, fs, c', ha, en, r⟩ := ok1.rel a _ es
  obtain rfl := c'.one c
  refine ⟨a, dd, fs, rfl, ha, lookup_not (by rw [en]; exact hm), s0, S1, (.ref a, .obj a) :: fr, _, ok1.cons rfl, cl.tail, h1, fun vs ds H2 S2 ok2 r2 h2 => ?_⟩
  refine ⟨.obj a :: (ds ++ dds), S2, fr ++ prs s0 σ, Qd, _, ok2.tail.rel, ok2.tail.out, rpL_cons ok2.head (rpL_app r2 (hdd H2 S2)), h2, fun u d H3 S3 R3 f3 r3 q3 => ?_, fun cls od z H3 S3 R3 f3 rz q3 => ?_⟩
  · exact kq u d H3 S3 (ok2.tail.back R3 f3) r3 q3
  · exact cl s0 σ H3 S3 cls od z (ok2.tail.back R3 f3) rz q3
theorem de_methO {pl : Sem Bool} (Cf : ClF X.K n C fI) (hM : Meth X.K C m f) (ho : DE X W o to) (F : FnG X.prog X.w X.K X.mg X.base (L2N.CX X.prog X.w) k f fd ps (upF X.K sp)) (hr : RoomG k X.A) (hb : Binds X.K fd ps ds) (hd : Vals dvs ds) (hdd : ∀ H S, RpL X.K H S dds dvs) (tk : L2N.Takes X W.V)
    (ha : DA X W (e :: es) t) (hst : starEach (e :: es) X.env = (false, eval e X.env) :: starEach es X.env := by rfl) (hpl : (backTo pos (starEach es X.env)).any (·.1) = false := by rfl)
    (ht : eval (.Call (.Attribute o m apos) (e :: es) [] pos) X.env = (do
      let ov ← eval o X.env
      standAt apos.atName
      let (f, first) ← holding [ov] (getMethod ov m pl)
      callWith pos f first (backTo pos (starEach (e :: es) X.env)) (backToKw pos (keywordEach [] X.env))) := by rfl) :
    DE X W (.Call (.Attribute o m apos) (e :: es) [] pos) (dMethO n m sp dds W.D to t) :=
  ⟨PE.imp (pe_methG (pl := pl) ho.p Cf.cls hM F hr hb hd (fun σ => L2N.passAt tk σ) ha.p hst hpl ht) (methO_lift Cf.at_ hdd)⟩
end
end Dv

/-! Texts with fields; repr of instances by a __repr__ of their own. -/
namespace Hx
open PySem PySem.Spec PyProof.Rows L2
/-! ### repr of an instance -/
end Hx
namespace Dv
open PySem L2 PyProof.Rows Hx
section
variable {X : Cx} {W : Wi} {e : Expr} {te : TED} {pos : Pos}
end
end Dv

/-! Own classes called by names. -/
namespace Hx
open PySem PySem.Spec PyProof.Rows L2
section
variable {X : Cx} {CX : CXT} {k n : Nat} {f C : Addr} {fd : FuncData} {ps ks : List Str} {sp : Sp} {idx : List Nat} {dvs : List V} {E : L2.St → XK} {x : Str} {p pos : Pos} {e : Expr} {es : List Expr} {kws : List Keyword} {t tk : TA}
end
end Hx
namespace Dv
open PySem L2 PyProof.Rows Hx
section
variable {X : Cx} {W : Wi} {k np : Nat} {f C fI : Addr} {fd : FuncData} {ps ks : List Str} {sp : SpD} {idx : List Nat} {dvs : List V} {dds : List D} {n : Str} {p pos : Pos} {e : Expr} {es : List Expr} {kws : List Keyword} {t tk : TAD}
end
end Dv

/-! min of a range by a bound method whose answers are data. -/
namespace Hx
open PySem PySem.Spec PyProof.Rows L2
/-- what stays while the best is sought: J j b k: of the first j things the one at b is the least so far, its key is k -/
structure MinRun (prog : Program) (w : World) (A : Around) (q T : Addr) (wr : List Addr) (G : Array GenState → Array GenState → Prop) (n : Nat) (P : Nat → Value → Prop) (St : Nat → Shared → Prop) (J0 : Shared → Prop) (J : Nat → Nat → Value → Shared → Prop) : Prop where
  keep0 : ∀ s s', J0 s → Moved (T :: wr) G s s' → J0 s'
  keep : ∀ j b k s s', J j b k s → Moved (T :: wr) G s s' → J j b k s'
  first : ∀ v (s : Shared) (o : Obj) (Q : Value → Shared → Prop) (E : Value → Shared → Prop), P 0 v → J0 s → St 1 s → s.heap.get? T = some o → (∀ k s', J 1 0 k s' → St 1 s' → s'.heap.get? T = some o → Q k s') → wpAny (model prog w) A (call (.ref q) [v]) Q E s
  turn : ∀ j b kb v (s : Shared) (o : Obj) (Q : Value → Shared → Prop) (E : Value → Shared → Prop), 1 ≤ j → j < n → P j v → J j b kb s → St (j + 1) s → s.heap.get? T = some o →
    (∀ k s', St (j + 1) s' → s'.heap.get? T = some o → (∀ (Q2 : Value → Shared → Prop) (E2 : Value → Shared → Prop), (J (j + 1) j k s' → Q2 (.bool true) s') → (J (j + 1) b kb s' → Q2 (.bool false) s') → wpAny (model prog w) A (richCompare .Lt k kb) Q2 E2 s') → Q k s') → wpAny (model prog w) A (call (.ref q) [v]) Q E s
section
variable {prog : Program} {w : World} {A : Around} {R : Result → Shared → Prop} {I q T : Addr} {fp wr : List Addr} {G : Array GenState → Array GenState → Prop} {n : Nat} {P : Nat → Value → Prop} {St : Nat → Shared → Prop} {J0 : Shared → Prop} {J : Nat → Nat → Value → Shared → Prop}
theorem min2_on (W : WalksS prog w A.in1 I fp wr G n P St) (hT : T ∉ fp) (M : MinRun prog w A.in1 q T wr G n P St J0 J) (kw : List (Str × Value)) : ∀ (m j b : Nat) (s : Shared) (best key : Value) (c : Nat), n - j = m → 1 ≤ j → j ≤ n → J j b key s → St j s → P b best →
    s.heap.get? T = some { cls := .type "list", dict := none, data := .seq #[best, key] c, slots := #[] } → (∀ v b k s', P b v → J n b k s' → R (.ok (.ret v)) s') → codeAny (model prog w) A (.builtin "min.loop" ⟨[.ref I, .ref q, .ref T], kw⟩) R s := by
  have apart : T ∉ wr := fun h => hT (W.sub T h)
  have within : ∀ b ∈ wr, b ∈ T :: wr := fun b hb => List.mem_cons_of_mem T hb
  have named : (toString "min" ++ toString ".loop" : String) = "min.loop" := by decide
  have other : ∀ {b : Addr}, b ∉ T :: wr → T ≠ b := fun hb h => hb (by rw [h]; exact List.mem_cons_self)
  intro m
  induction m with
  | zero =>
    intro j b s best key c hm j1 jn jj st hb eT fin
    obtain rfl : j = n := by omega
    refine codeAny_builtin F.entry_min_loop ?_
    rw [Around.under_plainId F.plain_min_loop ⟨[.ref I, .ref q, .ref T], kw⟩]
    refine wpAny_bind (m := seqItems? (.ref T)) (wpAny_seqItems eT rfl ?_)
    refine wpAny_bind (m := tryCatch (pyNext (.ref I)) _) (wpAny_tryCatch (W.done s _ _ st fun s1 mv => ?_))
    refine wpAny_bind (m := updateSeq T (fun _ => #[])) (wpAny_updateSeq (mv.heap T _ apart eT) rfl (wpAny_bind (wpAny_letGo (wpAny_pure ?_))))
    exact fin best b key _ hb (M.keep _ _ _ _ _ jj ((mv.mono within).then_heap (tk := s1.toks) (Nat.le_refl _) fun b o hb e => (Heap.get?_update_other _ _ (other hb)).trans e))
  | succ m ih =>
    intro j b s best key c hm j1 jn jj st hb eT fin
    have less : j < n := by omega
    refine codeAny_builtin F.entry_min_loop ?_
    rw [Around.under_plainId F.plain_min_loop ⟨[.ref I, .ref q, .ref T], kw⟩]
    refine wpAny_bind (m := seqItems? (.ref T)) (wpAny_seqItems eT rfl ?_)
    refine wpAny_bind (m := tryCatch (pyNext (.ref I)) _) (wpAny_tryCatch (W.item j s _ _ less st fun v s1 hv st1 mv => ?_))
    have eT1 := mv.heap T _ apart eT
    have jj1 := M.keep _ _ _ _ _ jj (mv.mono within)
    refine wpAny_bind (m := tryCatch (holding [v] (call (.ref q) [v])) _) (wpAny_tryCatch (wpAny_holding (M.turn j b key v s1 _ _ _ j1 less hv jj1 st1 eT1 fun kx s2 st2 eT2 cmp => ?_)))
    refine wpAny_bind (m := tryCatch (holding [v, kx] (richCompare .Lt kx key >>= _)) _) (wpAny_tryCatch (wpAny_holding (wpAny_bind (cmp _ _ (fun j2 => ?_) fun j2 => ?_))))
    · refine wpAny_bind (wpAny_holding (wpAny_truthy_bool (wpAny_bind (wpAny_letGo (wpAny_pure ?_)))))
      simp only [if_true]
      refine wpAny_bind (m := updateSeq T (fun _ => #[v, kx])) (wpAny_updateSeq eT2 rfl (wpAny_bind (wpAny_letGo ?_)))
      rw [named]
      have mv2 : Moved (T :: wr) G s2 { s2 with heap := s2.heap.update T (Obj.mapSeq fun _ => #[v, kx]), toks := s2.toks } := (Moved.refl W.grefl).then_heap (tk := s2.toks) (Nat.le_refl _) fun b o hb e => (Heap.get?_update_other _ _ (other hb)).trans e
      exact wpAny_pure ⟨plainId_quiet F.plain_min_loop _, ih (j + 1) j _ v kx _ (by omega) (by omega) less (M.keep _ _ _ _ _ j2 mv2) (W.frame _ s2 _ s2.toks st2 (Nat.le_refl _) fun b hbf o e => (Heap.get?_update_other _ _ (fun h : T = b => hT (by rw [h]; exact hbf))).trans e) hv (Heap.get?_update_self _ eT2 rfl) fin⟩
    · refine wpAny_bind (wpAny_holding (wpAny_truthy_bool (wpAny_bind (wpAny_letGo (wpAny_pure ?_)))))
      simp only [Bool.false_eq_true, if_false]
      refine wpAny_bind (wpAny_letGo ?_)
      rw [named]
      exact wpAny_pure ⟨plainId_quiet F.plain_min_loop _, ih (j + 1) b _ best key c (by omega) (by omega) less j2 st2 hb eT2 fin⟩
theorem min2_first (W : WalksS prog w A.in1 I fp wr G n P St) (hT : T ∉ fp) (M : MinRun prog w A.in1 q T wr G n P St J0 J) (kw : List (Str × Value)) (hn : 0 < n) {s : Shared} {c : Nat} (j0 : J0 s) (st : St 0 s)
    (eT : s.heap.get? T = some { cls := .type "list", dict := none, data := .seq #[] c, slots := #[] }) (fin : ∀ v b k s', P b v → J n b k s' → R (.ok (.ret v)) s') : codeAny (model prog w) A (.builtin "min.loop" ⟨[.ref I, .ref q, .ref T], kw⟩) R s := by
  have apart : T ∉ wr := fun h => hT (W.sub T h)
  have within : ∀ b ∈ wr, b ∈ T :: wr := fun b hb => List.mem_cons_of_mem T hb
  have named : (toString "min" ++ toString ".loop" : String) = "min.loop" := by decide
  have other : ∀ {b : Addr}, b ∉ T :: wr → T ≠ b := fun hb h => hb (by rw [h]; exact List.mem_cons_self)
  refine codeAny_builtin F.entry_min_loop ?_
  rw [Around.under_plainId F.plain_min_loop ⟨[.ref I, .ref q, .ref T], kw⟩]
  refine wpAny_bind (m := seqItems? (.ref T)) (wpAny_seqItems eT rfl ?_)
  refine wpAny_bind (m := tryCatch (pyNext (.ref I)) _) (wpAny_tryCatch (W.item 0 s _ _ hn st fun v s1 hv st1 mv => ?_))
  have eT1 := mv.heap T _ apart eT
  have j1 := M.keep0 _ _ j0 (mv.mono within)
  refine wpAny_bind (m := tryCatch (holding [v] (call (.ref q) [v])) _) (wpAny_tryCatch (wpAny_holding (M.first v s1 _ _ _ hv j1 st1 eT1 fun kx s2 j2 st2 eT2 => ?_)))
  refine wpAny_bind (m := updateSeq T (fun _ => #[v, kx])) (wpAny_updateSeq eT2 rfl ?_)
  rw [named]
  have mv2 : Moved (T :: wr) G s2 { s2 with heap := s2.heap.update T (Obj.mapSeq fun _ => #[v, kx]), toks := s2.toks } := (Moved.refl W.grefl).then_heap (tk := s2.toks) (Nat.le_refl _) fun b o hb e => (Heap.get?_update_other _ _ (other hb)).trans e
  exact wpAny_pure ⟨plainId_quiet F.plain_min_loop _, min2_on W hT M kw _ 1 0 _ v kx _ rfl (Nat.le_refl _) hn (M.keep _ _ _ _ _ j2 mv2) (W.frame _ s2 _ s2.toks st2 (Nat.le_refl _) fun b hbf o e => (Heap.get?_update_other _ _ (fun h : T = b => hT (by rw [h]; exact hbf))).trans e) hv (Heap.get?_update_self _ eT2 rfl) fin⟩
theorem call_min2 {E : Value → Shared → Prop} {s : Shared} {x : Value} {Q : Value → Shared → Prop}
    (h : wpAny (model prog w) A.in1 (pyIter x) (fun it s2 => ∃ I fp wr G n P St J0 J, it = .ref I ∧ WalksS prog w A.in1 I fp wr G n P St ∧ St 0 s2 ∧ (∀ b ∈ fp, b < s2.heap.objs.size) ∧ 0 < n ∧ MinRun prog w A.in1 q s2.heap.objs.size wr G n P St J0 J ∧ J0 s2 ∧ ∀ v b k s', P b v → J n b k s' → Q v s') E s) :
    wpAny (model prog w) A (call (.builtin "min") [x] [(Str.ofString "key", .ref q)]) Q E s := by
  have named : (toString "min" ++ toString ".loop" : String) = "min.loop" := by decide
  refine PyProof.Rows.kmk_tree F.kind_min F.plain_min F.entry_min (PyProof.Rows.kmk_min_key x (.ref q)) ?_
  refine wpAny_bind (m := Builtin.Builtins.bindParams "min" ["key", "default"] 0 ⟨[], [(Str.ofString "key", .ref q)]⟩) (wpAny_of_eq (show Builtin.Builtins.bindParams "min" ["key", "default"] 0 ⟨[], [(Str.ofString "key", .ref q)]⟩ = pure [some (.ref q), none] from rfl) (wpAny_bind (wpAny_pure ?_)))
  refine wpAny_bind (wpAny_mono h (fun it s2 got => ?_) fun _ _ e => e)
  obtain ⟨I, fp, wr, G, n, P, Z, J0, J, e, W, st, hfp, hn, M, j0, fin⟩ := got
  subst e
  refine wpAny_bind (wpAny_newObj_type ?_)
  rw [named]
  have hT : s2.heap.objs.size ∉ fp := fun hm => Nat.lt_irrefl _ (hfp _ hm)
  have mv : Moved (s2.heap.objs.size :: wr) G s2 { s2 with heap := s2.heap.push { cls := .type "list", data := .seq #[] 0 }, toks := s2.toks } := (Moved.refl W.grefl).then_heap (tk := s2.toks) (Nat.le_refl _) fun b o _ e => Heap.get?_push_of_some _ e
  exact wpAny_pure ⟨plainId_quiet F.plain_min_loop _, min2_first W hT M _ hn (M.keep0 _ _ j0 mv) (W.frame 0 s2 (s2.heap.push { cls := .type "list", data := .seq #[] 0 }) s2.toks st (Nat.le_refl _) fun b _ o e => Heap.get?_push_of_some _ e) (Heap.get?_push_size _ rfl) fin⟩
end
section
variable {X : Cx} {k : Nat} {f C : Addr} {fd : FuncData} {p1 p2 m : Str} {sp : Sp} {pins : List (Addr × Obj)} {σ : L2.St}
/-- what stays: the bound method, the walk's two objects, what is wished of the heap -/
structure JM (X : Cx) (pins : List (Addr × Obj)) (σ : L2.St) (T I b f a : Addr) (H : Hp) (s : Shared) : Prop where
  inv : Inv X pins σ H s
  ft : FpOk X pins H T
  fi : FpOk X pins H I
  fb : FpOk X pins H b
  at_ : s.heap.get? b = some (PySem.W.methodObj (.ref f) (.ref a))
theorem JM.keep {T I b f a : Addr} {H : Hp} {s s' : Shared} (h : JM X pins σ T I b f a H s) (hT : b ≠ T) (hI : b ≠ I) (mv : Moved [T, I] (fun a b => b = a) s s') : JM X pins σ T I b f a H s' := by
  obtain ⟨h1, g1, d1, t1, o1⟩ := s
  obtain ⟨h2, g2, d2, t2, o2⟩ := s'
  have e1 : g2 = g1 := mv.gens
  have e2 : d2 = d1 := mv.drawn
  have e3 : o2 = o1 := mv.os
  subst e1 e2 e3
  refine ⟨h.inv.turnedL (t' := t2) (ch := [T, I]) (fun c o hc e => mv.heap c o hc e) (fun c hc => ?_), h.ft, h.fi, h.fb, mv.heap b _ (by simp [hT, hI]) h.at_⟩
  simp only [List.mem_cons, List.not_mem_nil, or_false] at hc
  rcases hc with rfl | rfl
  · exact h.ft
  · exact h.fi
/-- one answer of the bound method -/
theorem JM.call {T I b a : Addr} {H : Hp} {s : Shared} {v : Value} {x : V} {R : V → Hp → Prop} (h : JM X pins σ T I b f a H s) (F : FnG X.prog X.w X.K X.mg X.base (L2N.CX X.prog X.w) k f fd [p1, p2] sp) (hr : RoomG (k + 1) X.A) (hb : Binds X.K fd [p1, p2] [])
    (rx : RelV x v) (hs : sp [.ref a, x] H R fun _ _ _ => False) {oT oI : Obj} (eT : s.heap.get? T = some oT) (eI : s.heap.get? I = some oI) {Q : Value → Shared → Prop} {E : Value → Shared → Prop}
    (hq : ∀ u y H' s', RelV y u → R y H' → JM X pins σ T I b f a H' s' → s'.heap.get? T = some oT → s'.heap.get? I = some oI → Q u s') : wpAny (model X.prog X.w) X.A.in1 (call (.ref b) [v]) Q E s := by
  have J := h.inv
  refine wpAny_call (PySem.W.method_call h.at_ (codeAny_mono (F.run X.A.in1 X.stack s H ⟨[.ref a, v], []⟩ [.ref a, v] [.ref a, x] R (fun _ _ _ => False) hr.in1 J.env0.in1 (hb s [.ref a, v] J.kIn rfl) (.cons rfl (.cons rx .nil)) hs) fun out s' got => ?_))
  match out, got with
  | .error e, got =>
    obtain ⟨_, _, _, _, _, _, _, _, _, _, _, _, z⟩ := (show L2N.CX X.prog X.w X.stack H s (fun _ _ _ => False) e s' from got)
    exact z.elim
  | .ok (.ret u), ⟨y, H', os, bare, un, hok, ry, q⟩ =>
    have J' := J.call' os un hok bare (ch := []) (fun b z => absurd z (by simp))
    have far : ∀ {c : Addr}, FpOk X pins H c → c ∉ frs X.stack := fun {c} hf hc' => by
      rcases List.mem_cons.mp (J.stkSub c hc') with e | e
      · exact hf.2.1 e
      · exact hf.2.2.1 e
    have stay : ∀ {c : Addr} {o : Obj}, FpOk X pins H c → s.heap.get? c = some o → s'.heap.get? c = some o ∧ FpOk X pins H' c := fun {c o} hf e =>
      ⟨un.keep c o e hf.1 (far hf) (by simp), ⟨un.free c o e hf.1 (by simp), hf.2⟩⟩
    exact hq u y H' s' ry q ⟨J', (stay h.ft eT).2, (stay h.fi eI).2, (stay h.fb h.at_).2, (stay h.fb h.at_).1⟩ (stay h.ft eT).1 (stay h.fi eI).1
end
end Hx

/-! Readings by value: min of a range by a bound method. -/
namespace Dv
open PySem L2 PyProof.Rows Hx
section
variable {X : Cx} {W : Wi} {k i : Nat} {f C fI : Addr} {fd : FuncData} {p1 p2 x c m : Str} {sp : SpD} {e : Expr} {te : TED}
end
end Dv

/-! "1" + e.replace(..).replace(..) and int(text, 2). -/
namespace Hx
open PySem PySem.Spec PyProof.Rows L2
section
variable {X : Cx}
end
section
open PySem.NumText PySem.Calls
end
section
open PySem.StrLaws
end
end Hx

/-! Readings by value: "1" + text.replace(..).replace(..), int(text, 2). -/
namespace Dv
open PySem PySem.Spec L2 PyProof.Rows Hx
section
variable {X : Cx} {W : Wi}
end
end Dv

/-! zip of two tuples of one length, strict=True. -/
namespace Hx
open PySem PySem.Spec PyProof.Rows L2 RZ
abbrev IsZipS (h : Heap) (z TI TO : Addr) (f0 : Value) : Prop :=
  h.get? z = some { cls := .type "zip", dict := none, data := .fields #[f0, .bool false, .bool true, .ref TI, .ref TO], slots := #[] }
section
variable {prog : Program} {w : World} {A : Around} {E : Value → Shared → Prop} {s : Shared}
theorem noe_item {it l : Addr} {i : Nat} {items} {x : Value} {Q : Option Value → Shared → Prop} (hit : s.heap.IsTupleIter it l i)
    (hl : s.heap.IsTuple l items) (hx : items[i]? = some x)
    (hQ : ∀ h', h'.IsTupleIter it l (i + 1) → Heap.SameBut it s.heap h' → Q (some x) { s with heap := h' }) :
    wpAny (model prog w) A (Builtin.SmallTypes.nextOrEnd (.ref it)) Q E s := by
  unfold Builtin.SmallTypes.nextOrEnd
  exact wpAny_bind (wpAny_attempt (nextOf_tuple_item hit hl hx fun h' a b => wpAny_pure (hQ h' a b)))
theorem noe_end {it l : Addr} {i : Nat} {items} {Q : Option Value → Shared → Prop} (hh : A.handled = none)
    (hit : s.heap.IsTupleIter it l i) (hl : s.heap.IsTuple l items) (hx : items[i]? = none)
    (hQ : ∀ h', Heap.ExtBut it s.heap h' → Q none { s with heap := h' }) :
    wpAny (model prog w) A (Builtin.SmallTypes.nextOrEnd (.ref it)) Q E s := by
  unfold Builtin.SmallTypes.nextOrEnd
  refine wpAny_bind (wpAny_attempt (nextOf_tuple_end hh hit hl hx fun h' e hk he => ?_))
  obtain ⟨o, ho, hc⟩ := he
  refine wpAny_bind (wpAny_isInstance (T := "StopIteration") (b := true) ⟨o, ho, hc⟩ isSubtype_stop ?_)
  exact wpAny_pure (hQ _ hk)
theorem stop_it (hh : A.handled = none) {α : Type} {Q : α → Shared → Prop}
    (hE : ∀ h' e, (∀ c o, s.heap.get? c = some o → h'.get? c = some o) → (∃ o, h'.get? e = some o ∧ o.cls = .type "StopIteration") → E (.ref e) { s with heap := h' }) :
    wpAny (model prog w) A (Builtin.SmallTypes.stopIteration : Sem α) Q E s := by
  unfold Builtin.SmallTypes.stopIteration
  refine wpAny_bind ?_
  simp only [newExc, newTuple]
  refine wpAny_bind (wpAny_newObj_type ?_ (by size_fits))
  refine wpAny_bind (m := firstArgMember _ _) (wpAny_of_eq (a := Value.none) (by first | rfl | (simp only [firstArgMember]; rfl)) ?_)
  refine wpAny_newObj_type ?_ (by size_fits)
  simp only [raiseNew]
  refine wpAny_bind (wpAny_handled ?_)
  first | rw [show A.in1.handled = none from hh] | rw [hh]
  refine wpAny_bind (wpAny_pure (wpAny_throw ?_))
  exact hE _ _ (fun c o x => Heap.get?_push_of_some _ (Heap.get?_push_of_some _ x)) ⟨_, Heap.get?_push_size _ rfl, rfl⟩
theorem zipS_item {z TI TO i1 i2 l1 l2 : Addr} {k1 k2 : Nat} {xs ys : Array Value} {x y a b : Value} {Q : Value → Shared → Prop} (D : ZipApart z TI TO i1 i2 l1 l2)
    (hz : IsZipS s.heap z TI TO .none) (hTI : IsPair s.heap TI (.ref i1) (.ref i2)) (hTO : IsPair s.heap TO a b)
    (h1 : s.heap.IsTupleIter i1 l1 k1) (h2 : s.heap.IsTupleIter i2 l2 k2) (hl1 : s.heap.IsTuple l1 xs) (hl2 : s.heap.IsTuple l2 ys) (hx : xs[k1]? = some x) (hy : ys[k2]? = some y)
    (hQ : ∀ h', IsZipS h' z TI TO (rawInt s.heap.objs.size) → IsPair h' TO x y → h'.IsTupleIter i1 l1 (k1 + 1) → h'.IsTupleIter i2 l2 (k2 + 1) → IsPair h' s.heap.objs.size x y → h'.objs.size = s.heap.objs.size + 1 →
      (∀ c o, c ≠ z → c ≠ TO → c ≠ i1 → c ≠ i2 → s.heap.get? c = some o → h'.get? c = some o) → Q (.ref s.heap.objs.size) { s with heap := h' }) :
    wpAny (model prog w) A (Builtin.«zip.__next__» ⟨[.ref z], []⟩) (fun fin s' => ∃ v, fin = .done (.ret v) ∧ Q v s') E s := by
  show wpAny _ _ (field (.ref z) 2 >>= _) _ _ _
  refine wpAny_bind (wpAny_field hz rfl (x := .bool true) rfl ?_)
  show wpAny _ _ (field (.ref z) 3 >>= _) _ _ _
  refine wpAny_bind (wpAny_field hz rfl (x := .ref TI) rfl ?_)
  refine wpAny_bind (wpAny_seqItems hTI rfl ?_)
  show wpAny _ _ (Builtin.SmallTypes.ownedTupleIsFree (.ref z) >>= _) _ _ _
  refine wpAny_bind ?_
  unfold Builtin.SmallTypes.ownedTupleIsFree
  refine wpAny_bind (wpAny_field hz rfl (x := .none) rfl (wpAny_pure ?_))
  simp only [if_true]
  refine wpAny_bind (wpAny_rule ?_)
  refine wpAny_bind (wpAny_field hz rfl (x := .ref TO) rfl ?_)
  refine wpAny_bind (wpAny_setField_rec hz (by simp) fun h₁ hz₁ hs₁ => ?_)
  replace hz₁ : IsZipS h₁ z TI TO .ellipsis := hz₁
  refine wpAny_bind ?_
  simp only [List.zipIdx_cons, List.zipIdx_nil, List.forIn_cons, List.forIn_nil]
  refine wpAny_bind (wpAny_bind (wpAny_onRaise ?_))
  show wpAny _ _ (Builtin.SmallTypes.nextOrEnd (.ref i1)) _ _ _
  refine noe_item (h1.extBut hs₁.extBut D.i1z) (hl1.extBut hs₁.extBut D.l1z) hx fun h₂ h1₂ hs₂ => ?_
  have hTO₂ : IsPair h₂ TO a b := hs₂.extBut _ _ D.TOi1 (hs₁.extBut _ _ D.TOz hTO)
  refine wpAny_bind (wpAny_seqItems hTO₂ rfl ?_)
  refine wpAny_bind (wpAny_updateSeq_pair hTO₂ fun h₃ hTO₃ hs₃ => ?_)
  replace hTO₃ : IsPair h₃ TO x b := hTO₃
  refine wpAny_bind (wpAny_letGo (wpAny_pure ?_))
  refine wpAny_bind (wpAny_bind (wpAny_onRaise ?_))
  show wpAny _ _ (Builtin.SmallTypes.nextOrEnd (.ref i2)) _ _ _
  refine noe_item (((h2.extBut hs₁.extBut D.i2z).extBut hs₂.extBut D.i12.symm).extBut hs₃.extBut D.TOi2.symm)
    (((hl2.extBut hs₁.extBut D.l2z).extBut hs₂.extBut D.l2i1).extBut hs₃.extBut D.l2TO) hy fun h₄ h2₄ hs₄ => ?_
  have hTO₄ : IsPair h₄ TO x b := hs₄.extBut _ _ D.TOi2 hTO₃
  refine wpAny_bind (wpAny_seqItems hTO₄ rfl ?_)
  refine wpAny_bind (wpAny_updateSeq_pair hTO₄ fun h₅ hTO₅ hs₅ => ?_)
  replace hTO₅ : IsPair h₅ TO x y := hTO₅
  refine wpAny_bind (wpAny_letGo (wpAny_pure (wpAny_pure ?_)))
  refine wpAny_bind (wpAny_seqItems hTO₅ rfl ?_)
  refine wpAny_bind (wpAny_newTuple ?_)
  have hsz : h₅.objs.size = s.heap.objs.size := by rw [hs₅.1, hs₄.1, hs₃.1, hs₂.1, hs₁.1]
  have hz₅ : IsZipS h₅ z TI TO .ellipsis := hs₅.extBut _ _ D.TOz.symm (hs₄.extBut _ _ D.i2z.symm (hs₃.extBut _ _ D.TOz.symm (hs₂.extBut _ _ D.i1z.symm hz₁)))
  have hk₅ : ∀ c o, c ≠ z → c ≠ TO → c ≠ i1 → c ≠ i2 → s.heap.get? c = some o → h₅.get? c = some o := fun c o c1 c2 c3 c4 e =>
    hs₅.extBut _ _ c2 (hs₄.extBut _ _ c4 (hs₃.extBut _ _ c2 (hs₂.extBut _ _ c3 (hs₁.extBut _ _ c1 e))))
  have h1₅ : h₅.IsTupleIter i1 l1 (k1 + 1) := ((h1₂.extBut hs₃.extBut D.TOi1.symm).extBut hs₄.extBut D.i12).extBut hs₅.extBut D.TOi1.symm
  have h2₅ : h₅.IsTupleIter i2 l2 (k2 + 1) := h2₄.extBut hs₅.extBut D.TOi2.symm
  have hzlt : z < h₅.objs.size := Heap.lt_size hz₅
  show wpAny _ _ (Builtin.SmallTypes.ownedTupleHandOut (.ref z) (.ref h₅.objs.size) >>= _) _ _ _
  refine wpAny_bind ?_
  unfold Builtin.SmallTypes.ownedTupleHandOut
  have hz₆ : IsZipS (h₅.push { cls := .type "tuple", data := .seq #[x, y] }) z TI TO .ellipsis := Heap.get?_push_of_some _ hz₅
  refine wpAny_bind (wpAny_setField_rec hz₆ (by simp) fun h₇ hz₇ hs₇ => ?_)
  replace hz₇ : IsZipS h₇ z TI TO (rawInt h₅.objs.size) := hz₇
  refine wpAny_setField_rec hz₇ (by simp) fun h₈ hz₈ hs₈ => ?_
  replace hz₈ : IsZipS h₈ z TI TO (rawInt h₅.objs.size) := hz₈
  have up : ∀ c o, c ≠ z → h₅.get? c = some o → h₈.get? c = some o := fun c o c1 e => hs₈.extBut _ _ c1 (hs₇.extBut _ _ c1 (Heap.get?_push_of_some _ e))
  have hT₈ : IsPair h₈ h₅.objs.size x y := hs₈.extBut _ _ (Nat.ne_of_gt hzlt) (hs₇.extBut _ _ (Nat.ne_of_gt hzlt) (Heap.get?_push_size _ rfl))
  have hz8 : h₈.objs.size = h₅.objs.size + 1 := by rw [hs₈.1, hs₇.1, Heap.size_push]
  rw [hsz] at hz₈ hT₈ hz8
  refine wpAny_pure ⟨_, rfl, ?_⟩
  show Q (.ref h₅.objs.size) _
  rw [hsz]
  exact hQ h₈ hz₈ (up _ _ D.TOz hTO₅) (h1₅.at fun o e => up _ o D.i1z e) (h2₅.at fun o e => up _ o D.i2z e) hT₈ hz8 fun c o c1 c2 c3 c4 e => up c o c1 (hk₅ c o c1 c2 c3 c4 e)
theorem zipS_end {z TI TO i1 i2 l1 l2 : Addr} {k1 k2 : Nat} {xs ys : Array Value} {a b : Value} {Q : Fin → Shared → Prop} (hh : A.handled = none) (D : ZipApart z TI TO i1 i2 l1 l2)
    (hz : IsZipS s.heap z TI TO .none) (hTI : IsPair s.heap TI (.ref i1) (.ref i2)) (hTO : IsPair s.heap TO a b)
    (h1 : s.heap.IsTupleIter i1 l1 k1) (h2 : s.heap.IsTupleIter i2 l2 k2) (hl1 : s.heap.IsTuple l1 xs) (hl2 : s.heap.IsTuple l2 ys) (hx : xs[k1]? = none) (hy : ys[k2]? = none)
    (hE : ∀ h' e, (∀ c o, c ≠ z → c ≠ TO → c ≠ i1 → c ≠ i2 → s.heap.get? c = some o → h'.get? c = some o) → (∃ o, h'.get? e = some o ∧ o.cls = .type "StopIteration") → E (.ref e) { s with heap := h' }) :
    wpAny (model prog w) A (Builtin.«zip.__next__» ⟨[.ref z], []⟩) Q E s := by
  show wpAny _ _ (field (.ref z) 2 >>= _) _ _ _
  refine wpAny_bind (wpAny_field hz rfl (x := .bool true) rfl ?_)
  show wpAny _ _ (field (.ref z) 3 >>= _) _ _ _
  refine wpAny_bind (wpAny_field hz rfl (x := .ref TI) rfl ?_)
  refine wpAny_bind (wpAny_seqItems hTI rfl ?_)
  show wpAny _ _ (Builtin.SmallTypes.ownedTupleIsFree (.ref z) >>= _) _ _ _
  refine wpAny_bind ?_
  unfold Builtin.SmallTypes.ownedTupleIsFree
  refine wpAny_bind (wpAny_field hz rfl (x := .none) rfl (wpAny_pure ?_))
  simp only [if_true]
  refine wpAny_bind (wpAny_rule ?_)
  refine wpAny_bind (wpAny_field hz rfl (x := .ref TO) rfl ?_)
  refine wpAny_bind (wpAny_setField_rec hz (by simp) fun h₁ hz₁ hs₁ => ?_)
  replace hz₁ : IsZipS h₁ z TI TO .ellipsis := hz₁
  refine wpAny_bind ?_
  simp only [List.zipIdx_cons, List.zipIdx_nil, List.forIn_cons, List.forIn_nil]
  refine wpAny_bind (wpAny_bind (wpAny_onRaise ?_))
  show wpAny _ _ (Builtin.SmallTypes.nextOrEnd (.ref i1)) _ _ _
  refine noe_end hh (h1.extBut hs₁.extBut D.i1z) (hl1.extBut hs₁.extBut D.l1z) hx fun h₂ hs₂ => ?_
  have hz₂ : IsZipS h₂ z TI TO .ellipsis := hs₂ _ _ D.i1z.symm hz₁
  refine wpAny_bind (wpAny_setField_rec hz₂ (by simp) fun h₃ _ hs₃ => ?_)
  refine wpAny_bind ?_
  show wpAny _ _ (forIn [((Value.ref i2 : Value), (1 : Nat))] PUnit.unit _ >>= _) _ _ _
  simp only [List.forIn_cons, List.forIn_nil]
  have hTIi2 := D.TIi2
  have h2₃ : h₃.IsTupleIter i2 l2 k2 := ((h2.extBut hs₁.extBut D.i2z).extBut hs₂ D.i12.symm).extBut hs₃.extBut D.i2z
  have hl2₃ : h₃.IsTuple l2 ys := ((hl2.extBut hs₁.extBut D.l2z).extBut hs₂ D.l2i1).extBut hs₃.extBut D.l2z
  refine wpAny_bind (wpAny_bind ?_)
  show wpAny _ _ (Builtin.SmallTypes.nextOrEnd (.ref i2) >>= _) _ _ _
  refine wpAny_bind (noe_end hh h2₃ hl2₃ hy fun h₄ hs₄ => ?_)
  refine wpAny_pure ?_
  refine wpAny_pure ?_
  refine wpAny_bind (wpAny_rule ?_)
  refine stop_it hh fun h₅ e hs₅ he => ?_
  exact hE h₅ e (fun c o c1 _ c3 c4 x => hs₅ c o (hs₄ c o c4 (hs₃.extBut c o c1 (hs₂ c o c3 (hs₁.extBut c o c1 x))))) he
theorem pnS_item {z TI TO i1 i2 l1 l2 : Addr} {k1 k2 : Nat} {xs ys : Array Value} {x y a b : Value} {Q : Option Value → Shared → Prop} (D : ZipApart z TI TO i1 i2 l1 l2)
    (hz : IsZipS s.heap z TI TO .none) (hTI : IsPair s.heap TI (.ref i1) (.ref i2)) (hTO : IsPair s.heap TO a b)
    (h1 : s.heap.IsTupleIter i1 l1 k1) (h2 : s.heap.IsTupleIter i2 l2 k2) (hl1 : s.heap.IsTuple l1 xs) (hl2 : s.heap.IsTuple l2 ys) (hx : xs[k1]? = some x) (hy : ys[k2]? = some y)
    (hQ : ∀ h', IsZipS h' z TI TO (rawInt s.heap.objs.size) → IsPair h' TO x y → h'.IsTupleIter i1 l1 (k1 + 1) → h'.IsTupleIter i2 l2 (k2 + 1) → IsPair h' s.heap.objs.size x y → h'.objs.size = s.heap.objs.size + 1 →
      (∀ c o, c ≠ z → c ≠ TO → c ≠ i1 → c ≠ i2 → s.heap.get? c = some o → h'.get? c = some o) → Q (some (.ref s.heap.objs.size)) { s with heap := h' }) :
    wpAny (model prog w) A (pyNext (.ref z)) Q E s := by
  have hT : s.TypeIs (.ref z) "zip" := ⟨_, hz, rfl⟩
  unfold pyNext
  exact wpAny_bind (wpAny_attempt (wpAny_callSpecial?_slot (name := Str.ofString "__next__") hT F.slot_zip_next
    (wpAny_call_entry F.slot_zip_next hT F.entry_zip_next
      (zipS_item D hz hTI hTO h1 h2 hl1 hl2 hx hy fun h' a1 a2 a3 a4 a5 a6 a7 => wpAny_pure (hQ h' a1 a2 a3 a4 a5 a6 a7)) (F.args_zip_next_1 _))))
theorem pnS_end {z TI TO i1 i2 l1 l2 : Addr} {k1 k2 : Nat} {xs ys : Array Value} {a b : Value} {Q : Option Value → Shared → Prop} (hh : A.handled = none) (D : ZipApart z TI TO i1 i2 l1 l2)
    (hz : IsZipS s.heap z TI TO .none) (hTI : IsPair s.heap TI (.ref i1) (.ref i2)) (hTO : IsPair s.heap TO a b)
    (h1 : s.heap.IsTupleIter i1 l1 k1) (h2 : s.heap.IsTupleIter i2 l2 k2) (hl1 : s.heap.IsTuple l1 xs) (hl2 : s.heap.IsTuple l2 ys) (hx : xs[k1]? = none) (hy : ys[k2]? = none)
    (hQ : ∀ h', (∀ c o, c ≠ z → c ≠ TO → c ≠ i1 → c ≠ i2 → s.heap.get? c = some o → h'.get? c = some o) → Q none { s with heap := h' }) : wpAny (model prog w) A (pyNext (.ref z)) Q E s := by
  have hT : s.TypeIs (.ref z) "zip" := ⟨_, hz, rfl⟩
  unfold pyNext
  refine wpAny_bind (wpAny_attempt (wpAny_callSpecial?_slot (name := Str.ofString "__next__") hT F.slot_zip_next
    (wpAny_call_entry F.slot_zip_next hT F.entry_zip_next (zipS_end hh D hz hTI hTO h1 h2 hl1 hl2 hx hy fun h' e hk he => ?_) (F.args_zip_next_1 _))))
  obtain ⟨o, ho, hc⟩ := he
  refine wpAny_bind (wpAny_isInstance (T := "StopIteration") (b := true) ⟨o, ho, hc⟩ isSubtype_stop ?_)
  exact wpAny_pure (hQ _ hk)
theorem goS {elts : List Expr} {x1} {pos : Pos} {z TI TO T : Addr} {Q : Unit → Shared → Prop} (hz : IsZipS s.heap z TI TO (rawInt T))
    (hQ : ∀ h', IsZipS h' z TI TO .none → Heap.SameBut z s.heap h' → Q () { s with heap := h' }) :
    wpAny (model prog w) A (letOwnedTupleGo (.Tuple elts x1 pos) (.ref z) (.ref T)) Q E s := by
  unfold letOwnedTupleGo
  refine wpAny_bind (wpAny_load hz ?_)
  show wpAny _ _ (if (["enumerate", "zip", "dict_itemiterator", "dict_reverseitemiterator", "odict_iterator", "itertools.zip_longest", "itertools.pairwise"].contains "zip" &&
      (#[rawInt T, .bool false, .bool true, .ref TI, .ref TO] : Array Value)[0]? == some (rawInt T)) = true then _ else _) Q E s
  rw [if_pos (by simp)]
  refine wpAny_bind (wpAny_rule ?_)
  show wpAny _ _ (setField (.ref z) 0 .none) Q E s
  exact wpAny_setField_rec hz (by simp) fun h' hz' hs' => hQ h' hz' hs'
theorem itS {z TI TO : Addr} {f0 : Value} {Q : Value → Shared → Prop} (hz : IsZipS s.heap z TI TO f0) (h : Q (.ref z) s) : wpAny (model prog w) A (pyIter (.ref z)) Q E s := by
  have hT : s.TypeIs (.ref z) "zip" := ⟨_, hz, rfl⟩
  refine wpAny_pyIter_slot hT F.slot_zip_iter (wpAny_call_entry F.slot_zip_iter hT F.entry_zip_iter ?_ (F.args_zip_iter_1 _))
  show wpAny _ _ (ret (.ref z)) _ _ s
  exact wpAny_pure ⟨_, rfl, "zip", _, hT, F.slot_zip_next.lookup, h⟩
end
abbrev zipSH5 (h : Heap) (l1 l2 : Addr) : Heap := (zipTH4 h l1 l2).push { cls := .type "zip", data := .fields #[.none, .bool false, .bool true, .ref (zipTH2 h l1 l2).objs.size, .ref (zipTH3 h l1 l2).objs.size] }
theorem typeCall_zipS (a b v : Value) : checkTypeCall "zip" ⟨[a, b], [(Str.ofString "strict", v)]⟩ = pure () := by kernel_rfl
theorem newCall_zipS (a b v : Value) : checkBuiltinCall "zip.__new__" ⟨[.type "zip", a, b], [(Str.ofString "strict", v)]⟩ = pure () := by kernel_rfl
theorem args_initS (obj a b v : Value) : argsOk "object.__init__" ⟨[obj, a, b], [(Str.ofString "strict", v)]⟩ := by
  unfold argsOk; rw [signature?_of (id := "object.__init__") (n := ['_', '_', 't', 'i', 'n', 'i', '_', '_']) (o := ['t', 'c', 'e', 'j', 'b', 'o']) (by kernel_rfl) F.owner_object]; kernel_rfl
theorem meets_zipS (l1 l2 : Addr) (xs ys : Array Value) :
    Meets (Builtin.«zip.__new__» ⟨[.type "zip", .ref l1, .ref l2], [(Str.ofString "strict", .bool true)]⟩) (fun _ R s => s.heap.IsTuple l1 xs ∧ s.heap.IsTuple l2 ys ∧
      R (.ok (.ret (.ref (zipTH4 s.heap l1 l2).objs.size))) { s with heap := zipSH5 s.heap l1 l2 }) :=
  .of_wp fun prog w A R s h => by
    obtain ⟨hp, g, d, tk, os⟩ := s; obtain ⟨hl1, hl2, h⟩ := h
    have hsub := sub_zip
    have e1 : (Str.ofString "strict" != ("strict" : Str)) = false := by decide +kernel
    have hL1 : Heap.IsTuple (Shared.heap ⟨hp, g, d, tk, os⟩) l1 xs := hl1
    have hL2 : Heap.IsTuple (Shared.heap ⟨hp.push { cls := .type "tuple_iterator", data := .fields #[.ref l1, .int 0 0] }, g, d, tk, os⟩) l2 ys := Heap.IsTuple.push hl2 _
    wp_walk using wpAny_pyIter_tuple hL1, wpAny_pyIter_tuple hL2
    exact ⟨_, rfl, h⟩
section
variable {prog : Program} {w : World} {A : Around} {E : Value → Shared → Prop} {s : Shared}
theorem call_zipS {l1 l2 : Addr} {xs ys : Array Value} {Q : Value → Shared → Prop} (hl1 : s.heap.IsTuple l1 xs) (hl2 : s.heap.IsTuple l2 ys)
    (h : ∀ h', IsZipS h' (s.heap.objs.size + 4) (s.heap.objs.size + 2) (s.heap.objs.size + 3) .none → IsPair h' (s.heap.objs.size + 2) (.ref s.heap.objs.size) (.ref (s.heap.objs.size + 1)) →
      IsPair h' (s.heap.objs.size + 3) .none .none → h'.IsTupleIter s.heap.objs.size l1 0 → h'.IsTupleIter (s.heap.objs.size + 1) l2 0 → h'.objs.size = s.heap.objs.size + 5 →
      (∀ c o, s.heap.get? c = some o → h'.get? c = some o) → Q (.ref (s.heap.objs.size + 4)) { s with heap := h' }) :
    wpAny (model prog w) A (call (.type "zip") [.ref l1, .ref l2] [(Str.ofString "strict", .bool true)]) Q E s := by
  refine callType_newKw F.called_zip (by decide) (typeCall_zipS _ _ _) (newCall_zipS _ _ _) (fun obj => args_initS obj _ _ _) F.entry_zip_new (meets_zipS l1 l2 xs ys) ⟨hl1, hl2, ?_⟩
  have z1 : (zipTH1 s.heap l1).objs.size = s.heap.objs.size + 1 := Heap.size_push ..
  have z2 : (zipTH2 s.heap l1 l2).objs.size = s.heap.objs.size + 2 := by rw [Heap.size_push, z1]
  have z3 : (zipTH3 s.heap l1 l2).objs.size = s.heap.objs.size + 3 := by rw [Heap.size_push, z2]
  have z4 : (zipTH4 s.heap l1 l2).objs.size = s.heap.objs.size + 4 := by rw [Heap.size_push, z3]
  have z5 : (zipSH5 s.heap l1 l2).objs.size = s.heap.objs.size + 5 := by rw [Heap.size_push, z4]
  have g5 : (zipSH5 s.heap l1 l2).get? (zipTH4 s.heap l1 l2).objs.size = some _ := Heap.get?_push_size _ rfl
  have g4 : (zipSH5 s.heap l1 l2).get? (zipTH3 s.heap l1 l2).objs.size = some _ := Heap.get?_push_of_some _ (Heap.get?_push_size _ rfl)
  have g3 : (zipSH5 s.heap l1 l2).get? (zipTH2 s.heap l1 l2).objs.size = some _ := Heap.get?_push_of_some _ (Heap.get?_push_of_some _ (Heap.get?_push_size _ rfl))
  have g2 : (zipSH5 s.heap l1 l2).get? (zipTH1 s.heap l1).objs.size = some _ := Heap.get?_push_of_some _ (Heap.get?_push_of_some _ (Heap.get?_push_of_some _ (Heap.get?_push_size _ rfl)))
  have g1 : (zipSH5 s.heap l1 l2).get? s.heap.objs.size = some _ := Heap.get?_push_of_some _ (Heap.get?_push_of_some _ (Heap.get?_push_of_some _ (Heap.get?_push_of_some _ (Heap.get?_push_size _ rfl))))
  show _ ∧ _
  rw [z2, z3, z4] at g5
  rw [z1, z2] at g3
  rw [z3] at g4
  rw [z1] at g2
  rw [z4]
  exact ⟨⟨_, g5, rfl⟩, h _ g5 g3 g4 ⟨_, g1, rfl, rfl⟩ ⟨_, g2, rfl, rfl⟩ z5 fun c o x =>
    Heap.get?_push_of_some _ (Heap.get?_push_of_some _ (Heap.get?_push_of_some _ (Heap.get?_push_of_some _ (Heap.get?_push_of_some _ x))))⟩
end
theorem cwT_kw {M : Model} {A : Around} {E : Value → Shared → Prop} {s : Shared} {env : Env} {pos : Pos} {T : String} {e : Expr} {rest : List Expr} {kws : List Keyword} {Q : Value → Shared → Prop}
    (h : wpAny M A (spliced (backTo pos (starEach (e :: rest) env))) (fun vs s₁ => wpAny M A (evalAll ((backToKw pos (keywordEach kws env)).map (·.2)))
      (fun kvs s₂ => wpAny M A (call (.type T) vs (((backToKw pos (keywordEach kws env)).filterMap (·.1)).zip kvs)) Q E s₂) E s₁) E s)
    (he : backTo pos (starEach (e :: rest) env) = (false, eval e env) :: backTo pos (starEach rest env)) (hplain : (backTo pos (starEach (e :: rest) env)).any (·.1) = false)
    (hall : (backToKw pos (keywordEach kws env)).all (·.1.isSome) = true) (hkw : (backToKw pos (keywordEach kws env)).any (·.1.isNone) = false) :
    wpAny M A (callWith pos (.type T) [] (backTo pos (starEach (e :: rest) env)) (backToKw pos (keywordEach kws env))) Q E s := by
  have hx : wpAny M A (evalArgs (.type T) true (backTo pos (starEach (e :: rest) env)) (backToKw pos (keywordEach kws env))) (fun a s₁ => wpAny M A (call (.type T) ([] ++ a.pos) a.kw) Q E s₁) E s := by
    rw [he] at h ⊢
    exact evalArgs_kwB hall h
  unfold callWith
  refine wpAny_bind (wpAny_holding (wpAny_mono hx (fun a s₁ h₁ => wpAny_bind (wpAny_standAt ?_)) fun _ _ x => x))
  simp only [hplain, hkw, Bool.or_false]
  refine wpAny_bind (wpAny_pure ?_)
  exact wpAny_bind (wpAny_mono h₁ (fun r s₂ hr => wpAny_bind (wpAny_holding (wpAny_point (wpAny_pure hr)))) fun _ _ x => x)
/-- the tuples at a and b, of one length -/
def ItzS (K : PySem.W.Frag) (a b : Addr) : It :=
  ⟨fun i H => ∃ (xs ys : List V) (x y : V), SqT K H a xs ∧ SqT K H b ys ∧ xs[i]? = some x ∧ ys[i]? = some y,
    fun i H v H' => ∃ T x y, v = .ref T ∧ H T = none ∧ H' = upd H T (.tup [x, y]) ∧ (∀ xs, SqT K H a xs → xs[i]? = some x) ∧ ∀ ys, SqT K H b ys → ys[i]? = some y,
    fun i H => ∃ xs ys : List V, SqT K H a xs ∧ SqT K H b ys ∧ xs.length ≤ i ∧ ys.length ≤ i⟩
theorem turn_zipS {P : Program} {w : World} {K : PySem.W.Frag} {elts : List Expr} {kk : Nat} {tpos : Pos} {a b z TI TO i1 i2 : Addr} (D : ZipApart z TI TO i1 i2 a b) :
    Turn P w K (.Tuple elts kk tpos) (ItzS K a b) [z, TI, TO, i1, i2] z (fun i h => IsZipS h z TI TO .none ∧ IsPair h TI (.ref i1) (.ref i2) ∧ (∃ x y, IsPair h TO x y) ∧ h.IsTupleIter i1 a i ∧ h.IsTupleIter i2 b i) where
  mem := by simp
  obj := fun i h st c hc => by
    obtain ⟨hz, hTI, ⟨x, y, hTO⟩, ⟨o1, e1, _, d1⟩, ⟨o2, e2, _, d2⟩⟩ := st
    have e' : c = z ∨ c = TI ∨ c = TO ∨ c = i1 ∨ c = i2 := by simpa using hc
    rcases e' with q | q | q | q | q
    · rw [q]; exact ⟨_, hz, fun v q => nomatch q⟩
    · rw [q]; exact ⟨_, hTI, fun v q => nomatch q⟩
    · rw [q]; exact ⟨_, hTO, fun v q => nomatch q⟩
    · rw [q]; exact ⟨o1, e1, fun v q => by rw [d1] at q; cases q⟩
    · rw [q]; exact ⟨o2, e2, fun v q => by rw [d2] at q; cases q⟩
  keep := fun i h h' st k => by
    obtain ⟨hz, hTI, ⟨x, y, hTO⟩, h1, h2⟩ := st
    exact ⟨k z (by simp) _ hz, k TI (by simp) _ hTI, ⟨x, y, k TO (by simp) _ hTO⟩, h1.at fun o q => k i1 (by simp) o q, h2.at fun o q => k i2 (by simp) o q⟩
  item := by
    intro X hP hw hK hc i pins s σ H E I hf st hg
    subst hP hw hK
    obtain ⟨hz, hTI, ⟨x0, y0, hTO⟩, h1, h2⟩ := st
    obtain ⟨xs, ys, x, y, hqx, hqy, hx, hy⟩ := hg
    obtain ⟨its, rv, p, _⟩ := I.tuple hqx
    obtain ⟨its2, rv2, p2, _⟩ := I.tuple hqy
    obtain ⟨u, hu, ru⟩ := rv.get hx
    obtain ⟨u2, hu2, ru2⟩ := rv2.get hy
    have hzl : z < s.heap.objs.size := Heap.lt_size hz
    refine pnS_item D hz hTI hTO h1 h2 p p2 (x := u) (y := u2) (by simpa using hu) (by simpa using hu2) fun h' z' TO' h1' h2' hT hsz hk => ?_
    refine ⟨_, rfl, goS (s := { s with heap := h' }) z' fun h'' z'' sb => ?_⟩
    have hT2 : h''.get? s.heap.objs.size = some { cls := .type "tuple", data := .seq #[u, u2] } := (sb.2 _ (Nat.ne_of_gt hzl)).trans hT
    have new : ObjOk X.prog X.w (upd H s.heap.objs.size (.tup [x, y])) h'' s.heap.objs.size (.tup [x, y]) :=
      ⟨by show 2 ≤ sizeLine; decide, [u, u2], .cons ru (.cons ru2 .nil), ⟨_, hT2, rfl, _, rfl⟩⟩
    have I1 : Inv X pins σ (upd H s.heap.objs.size (.tup [x, y])) { s with heap := h'' } :=
      I.turnedNew (t' := s.toks) (ch := [z, TI, TO, i1, i2]) (fun c o hb q => (sb.2 c (fun q' => hb (by simp [q']))).trans (hk c o (fun q' => hb (by simp [q'])) (fun q' => hb (by simp [q'])) (fun q' => hb (by simp [q'])) (fun q' => hb (by simp [q'])) q)) hf (Nat.le_refl _) new
    refine ⟨.ref s.heap.objs.size, _, I1, rfl, ⟨_, x, y, rfl, I.hok.fresh (Nat.le_refl _), rfl, fun l hl => by rw [I.tuple_inj hl hqx]; exact hx, fun l hl => by rw [I.tuple_inj hl hqy]; exact hy⟩, ⟨z'', ?_, ⟨u, u2, ?_⟩, ?_, ?_⟩, fun c hcm => ?_⟩
    · exact (sb.2 _ D.TIz).trans (hk _ _ D.TIz D.TITO D.TIi1 D.TIi2 hTI)
    · exact (sb.2 _ D.TOz).trans TO'
    · exact h1'.at fun o q => (sb.2 _ D.i1z).trans q
    · exact h2'.at fun o q => (sb.2 _ D.i2z).trans q
    · have hlt : c < s.heap.objs.size := by
        have e' : c = z ∨ c = TI ∨ c = TO ∨ c = i1 ∨ c = i2 := by simpa using hcm
        rcases e' with q | q | q | q | q
        · rw [q]; exact hzl
        · rw [q]; exact Heap.lt_size hTI
        · rw [q]; exact Heap.lt_size hTO
        · rw [q]; obtain ⟨_, e1, _⟩ := h1; exact Heap.lt_size e1
        · rw [q]; obtain ⟨_, e2, _⟩ := h2; exact Heap.lt_size e2
      rw [upd_ne (Nat.ne_of_lt hlt)]
      exact (hf c hcm).1
  done := by
    intro X hP hw hK hc i pins s σ H E I hf st hg
    subst hP hw hK
    obtain ⟨hz, hTI, ⟨x0, y0, hTO⟩, h1, h2⟩ := st
    obtain ⟨xs, ys, hqx, hqy, e1, e2⟩ := hg
    obtain ⟨its, rv, p, _⟩ := I.tuple hqx
    obtain ⟨its2, rv2, p2, _⟩ := I.tuple hqy
    have l1 := rv.length
    have l2 := rv2.length
    exact pnS_end (I.ok.hd hc) D hz hTI hTO h1 h2 p p2 (by simp; omega) (by simp; omega) fun h' hk => ⟨rfl, I.turnedL (t' := s.toks) (ch := [z, TI, TO, i1, i2]) (fun c o hb q =>
      hk c o (fun q' => hb (by simp [q'])) (fun q' => hb (by simp [q'])) (fun q' => hb (by simp [q'])) (fun q' => hb (by simp [q'])) q) hf⟩
  self := fun A i s Q E st h => itS st.1 h
def iZipS (K : PySem.W.Frag) (ta : TA) : TI := fun σ H R => ta σ H fun vs H1 => ∃ a b xs ys, vs = [.ref a, .ref b] ∧ SqT K H1 a xs ∧ SqT K H1 b ys ∧ R (ItzS K a b) H1
/-- for .. in zip(e, e2, strict=True) -/
theorem pi_zipS {X : Cx} {e e2 : Expr} {ta : TA} {p pos tpos kp cp : Pos} {j : Nat} {elts : List Expr} {kk : Nat} (hg : Gl X "zip") (hm : X.mg "zip" = none) (ha : PA X [e, e2] ta)
    (he : backTo pos (starEach [e, e2] X.env) = (false, eval e X.env) :: backTo pos (starEach [e2] X.env) := by rfl) (hpl : (backTo pos (starEach [e, e2] X.env)).any (·.1) = false := by rfl) :
    PI X (.Tuple elts kk tpos) (.Call (.Name "zip" p) [e, e2] [⟨some (Str.ofString "strict"), .Constant (.bool true) j cp, kp⟩] pos) (iZipS X.K ta) := by
  refine ⟨fun pins s σ H R I h => ?_⟩
  refine wpAny_Call_Name_kw (ld_blt I hg hm PyProof.Rows.boot_zip (cwT_kw (thn (ha.run pos pins s σ H _ I h) fun us s1 ⟨vs, H1, I1, r1, q1⟩ => ?_) he hpl rfl rfl))
  obtain ⟨a, b, xs, ys, ex, hqx, hqy, q⟩ := q1
  subst ex
  cases r1 with
  | cons r rr =>
    cases rr with
    | cons r' rr =>
      cases rr
      cases r
      cases r'
      have fresh5 : ∀ c, c ∈ [s1.heap.objs.size + 4, s1.heap.objs.size + 2, s1.heap.objs.size + 3, s1.heap.objs.size, s1.heap.objs.size + 1] → FpOk X pins H1 c := fun c hcm => by
        have hle : s1.heap.objs.size ≤ c := by
          simp only [List.mem_cons, List.not_mem_nil, or_false] at hcm
          rcases hcm with z | z | z | z | z <;> rw [z] <;> first | exact Nat.le_add_right _ _ | exact Nat.le_refl _
        exact I1.fpOk hle (I1.hok.fresh hle)
      obtain ⟨its, rv, p1, _⟩ := I1.tuple hqx
      obtain ⟨its2, rv2, p2, _⟩ := I1.tuple hqy
      obtain ⟨o1, ho1, _⟩ := id p1
      obtain ⟨o2, ho2, _⟩ := id p2
      refine PyProof.Rows.kws_cons (wpAny_of_eq (a := Value.bool true) (by first | rfl | (simp only [eval]; rfl)) (PyProof.Rows.kws_nil ?_))
      refine call_zipS (show s1.heap.IsTuple a its.toArray from p1) (show s1.heap.IsTuple b its2.toArray from p2) fun h' hz hTI hTO h1 h2 hsz hk => itS hz ?_
      have I2 : Inv X pins σ H1 { s1 with heap := h' } := I1.kept (t' := s1.toks) hk
      exact ⟨s1.heap.objs.size + 4, [s1.heap.objs.size + 4, s1.heap.objs.size + 2, s1.heap.objs.size + 3, s1.heap.objs.size, s1.heap.objs.size + 1], _, _, H1, rfl, I2, turn_zipS (PySem.W.ktu_apart s1.heap.objs.size a b (Heap.lt_size ho1) (Heap.lt_size ho2)), ⟨hz, hTI, ⟨_, _, hTO⟩, h1, h2⟩, fresh5, q⟩
end Hx

/-! Readings by value: a local name that holds a def of the module; zip(.., .., strict=True) of two tuples; x.bit_length(). -/
namespace Dv
open PySem PySem.Spec L2 PyProof.Rows Hx
/-- the def of the module by this name keeps this promise -/
structure FnW (X : Cx) (k : Nat) (x : Str) (sp : SpD) : Prop where
  ex : ∃ (f : Addr) (fd : FuncData) (ps : List Str) (k' : Nat), PySem.W.nsIn X.K mainGlobals x = some (some (.ref f)) ∧ k' ≤ k ∧ Hx.FnG X.prog X.w X.K X.mg X.base (L2N.CX X.prog X.w) k' f fd ps (upF X.K sp) ∧ PySem.W.keepIn X.K (.ref f) = true ∧ Binds X.K fd ps []
def dCallV (i : Nat) (cs : List (Str × SpD)) (WD : WXD) (t : TAD) : TED := fun σ S Q => ∃ x sp, σ[i]? = some (some (.fn x)) ∧ (x, sp) ∈ cs ∧ dCall sp [] WD t σ S Q
section
variable {X : Cx} {W : Wi} {k i : Nat} {x : Str} {p pos : Pos} {e : Expr} {es : List Expr} {t : TAD} {cs : List (Str × SpD)}
theorem fnW_mk {f : Addr} {fd : FuncData} {ps : List Str} {k' : Nat} {sp : SpD} (F : Hx.FnG X.prog X.w X.K X.mg X.base (L2N.CX X.prog X.w) k' f fd ps (upF X.K sp)) (hn : PySem.W.nsIn X.K mainGlobals x = some (some (.ref f))) (hk : PySem.W.keepIn X.K (.ref f) = true) (hb : Binds X.K fd ps [])
    (hl : k' ≤ k := by decide) : FnW X k x sp := ⟨f, fd, ps, k', hn, hl, F, hk, hb⟩
theorem fnW_nil : ∀ q ∈ ([] : List (Str × SpD)), FnW X k q.1 q.2 := fun q h => by cases h
theorem fnW_cons {sp : SpD} (h : FnW X k x sp) (hr : ∀ q ∈ cs, FnW X k q.1 q.2) : ∀ q ∈ (x, sp) :: cs, FnW X k q.1 q.2 := fun q hq => by
  rcases List.mem_cons.mp hq with rfl | hq
  · exact h
  · exact hr q hq
theorem de_callV (A : ∀ q ∈ cs, FnW X k q.1 q.2) (hr : Hx.RoomG k X.A) (hN : X.N[i]? = some x) (hv : Vis X.env.scope x) (tk : L2N.Takes X W.V) (ha : DA X W (e :: es) t)
    (hdb : (x == ("__debug__" : Str)) = false := by decide) (hcd : (x == ("__classdict__" : Str)) = false := by decide)
    (he : starEach (e :: es) X.env = (false, eval e X.env) :: starEach es X.env := by rfl) (hpl : (backTo pos (starEach es X.env)).any (·.1) = false := by rfl) : DE X W (.Call (.Name x p) (e :: es) [] pos) (dCallV i cs W.D t) := by
  refine ⟨⟨fun pins s σ H Q I h => ?_⟩⟩
  obtain ⟨σd, S, fr, Qd, ok, cl, ⟨n, sp, hs, hm, ht⟩, kk⟩ := h
  obtain ⟨v, hv', f, rfl, hf⟩ := ok.si i _ hs
  obtain ⟨f', fd, ps, k', hf', hk', F, hkp, hb⟩ := (A _ hm).ex
  have ef : f' = f := by
    have e1 := hf.symm.trans hf'
    injection e1 with e1
    injection e1 with e1
    injection e1 with e1
    exact e1.symm
  subst ef
  have lift := call_lift (dvs := []) (fun _ _ => rpL_nil) σ H Q ⟨σd, S, fr, Qd, ok, cl, ht, kk⟩
  refine wpAny_Call_Name_kw (thn ((pe_var (pos := p) hN hv hdb hcd).run pins s σ H (fun v H1 => v = .ref f' ∧ H1 = H) I ⟨.ref f', hv', rfl, rfl⟩) fun u s1 ⟨v, H1, I1, r1, q1⟩ => ?_)
  obtain ⟨rfl, rfl⟩ := q1
  cases r1
  refine PySem.W.callWith_K (h₀ := X.base) I.ok.mod.kin hkp (thn (ha.p.run pos pins s1 σ _ _ I1 lift) fun us s2 ⟨vs, H2, I2, r, q⟩ => ⟨I2.kIn, ?_⟩) he hpl
  exact fnG_run F (hr.mono hk') hb .nil (L2N.passAt tk σ) I2 r q
/-! ### zip, strict -/
theorem itd_zipS {K : PySem.W.Frag} {a b : Addr} {ds es : List D} {fr : List (V × D)} (hl : ds.length = es.length) : ItD K (ItzS K a b) (zipD ds es) ((.ref a, .tup ds) :: (.ref b, .tup es) :: fr) where
  go := fun i d e H S σd σ ok => by
    obtain ⟨a', vs, e1, q1, r1⟩ := ok.head
    obtain ⟨b', ws, e2, q2, r2⟩ := ok.tail.head
    cases (show V.ref a = .ref a' from e1)
    cases (show V.ref b = .ref b' from e2)
    unfold zipD at e
    rw [List.getElem?_map] at e
    obtain ⟨p, hp, rfl⟩ := Option.map_eq_some_iff.mp e
    obtain ⟨h1, h2⟩ := List.getElem?_zip_eq_some.mp hp
    obtain ⟨v, v1, v2⟩ := rpL_get r1 h1
    obtain ⟨w, w1, w2⟩ := rpL_get r2 h2
    refine ⟨⟨vs, ws, v, w, q1, q2, v1, w1⟩, fun x H' y => ?_⟩
    obtain ⟨T, x', y', rfl, hT, rfl, g1, g2⟩ := y
    have e3 := g1 vs q1
    have e4 := g2 ws q2
    rw [v1] at e3
    rw [w1] at e4
    cases e3
    cases e4
    exact ⟨ok.new hT, rp_tupNew ok.rel hT (rpL_cons v2 (rpL_cons w2 rpL_nil))⟩
  stop := fun H S σd σ ok => by
    obtain ⟨a', vs, e1, q1, r1⟩ := ok.head
    obtain ⟨b', ws, e2, q2, r2⟩ := ok.tail.head
    cases (show V.ref a = .ref a' from e1)
    cases (show V.ref b = .ref b' from e2)
    have l1 := rpL_len r1
    have l2 := rpL_len r2
    have l3 : (zipD ds es).length = min ds.length es.length := by unfold zipD; rw [List.length_map, List.length_zip]
    rw [l3]
    exact ⟨vs, ws, q1, q2, by omega, by omega⟩
def zipSR (R : List D → Sd → Prop) (S : Sd) : List D → Prop
  | [.tup ds, .tup es] => ds.length = es.length ∧ R (zipD ds es) S
  | _ => False
theorem zipSR_inv {R : List D → Sd → Prop} {S : Sd} {ds : List D} (h : zipSR R S ds) : ∃ xs ys, ds = [.tup xs, .tup ys] ∧ xs.length = ys.length ∧ R (zipD xs ys) S := by
  unfold zipSR at h
  split at h
  · exact ⟨_, _, rfl, h.1, h.2⟩
  · exact h.elim
def dZipS (ta : TAD) : TID := fun σ S R => ta σ S fun xs S1 => zipSR R S1 xs
theorem di_zipS {a b : Expr} {ta : TAD} {p pos tpos kp cp : Pos} {j : Nat} {elts : List Expr} {kk : Nat} (hg : Gl X "zip") (hm : X.mg "zip" = none) (ha : DA X W [a, b] ta)
    (he : backTo pos (starEach [a, b] X.env) = (false, eval a X.env) :: backTo pos (starEach [b] X.env) := by rfl) (hpl : (backTo pos (starEach [a, b] X.env)).any (·.1) = false := by rfl) :
    DI X W (.Tuple elts kk tpos) (.Call (.Name "zip" p) [a, b] [⟨some (Str.ofString "strict"), .Constant (.bool true) j cp, kp⟩] pos) (dZipS ta) :=
  ⟨PI.imp (pi_zipS hg hm ha.p he hpl) fun σ H R ⟨σd, S, fr, Rd, ok, cl, h, k⟩ => ⟨σd, S, fr, _, ok, cl, h, fun vs ds H1 S1 ok1 r1 q => by
    obtain ⟨xs, ys, rfl, hl, q⟩ := zipSR_inv q
    obtain ⟨v, w, rfl, t1, t2⟩ := rpL2 r1
    obtain ⟨a', us, e1, q1, _⟩ := id t1
    obtain ⟨b', ws, e2, q2, _⟩ := id t2
    subst e1 e2
    exact ⟨a', b', us, ws, rfl, q1, q2, k _ _ H1 S1 [(.ref a', .tup xs), (.ref b', .tup ys)] ((ok1.cons t2).cons t1) (itd_zipS hl) q⟩⟩⟩
/-! ### bit_length -/
def bitsQ (S : Sd) (Q : DK) : D → Prop
  | .int i => Q (.int (Builtin.Int.intBits i : Nat)) S
  | _ => False
def dBits (to : TED) : TED := fun σ S Q => to σ S fun d S1 => bitsQ S1 Q d
theorem de_bits {o : Expr} {to : TED} {apos : Pos} (ho : DE X W o to) (hbase : attributeBase o "bit_length" X.env (eval o X.env) = eval o X.env := by rfl) (hline : (apos.endLine == pos.line) = true := by rfl) :
    DE X W (.Call (.Attribute o "bit_length" apos) [] [] pos) (dBits to) :=
  ⟨PE.imp (pe_bits ho.p hbase hline) fun σ H Q ⟨σd, S, fr, Qd, ok, cl, h, k⟩ => ⟨σd, S, fr, _, ok, cl, h, fun v x H1 S1 ok1 r1 q1 => by
    cases x with
    | int i => exact ⟨i, r1, k _ (.int _) H1 S1 ok1 rfl q1⟩
    | _ => exact (show False from q1).elim⟩⟩
/-! ### list(x), stored into later -/
end
end Dv

/-! Readings by value: the truth of an instance whose class has neither __bool__ nor __len__. -/
namespace Dv
open PySem PySem.Spec L2 PyProof.Rows Hx
section
variable {X : Cx} {W : Wi} {a : Expr} {ta : TE} {C fI : Addr} {n : Str}
end
/-! ### a tracked list that is changed no more: from here on a plain one -/
end Dv

/-! How often a truth stands in a list of truths. -/
namespace Dv
open PySem PySem.Spec L2 PyProof.Rows Hx
section
variable {X : Cx} {W : Wi} {o e : Expr} {es : List Expr} {to : TED} {t : TAD} {apos cpos : Pos}
end
end Dv

/-! == and != of an instance whose class has an __eq__ of its own and no __ne__. -/
namespace Hx
open PySem PySem.Spec PyProof.Rows L2
open Builtin
/-- a value's type, instances of the text's classes too -/
def TyZ (K : PySem.W.Frag) (H : Hp) (y : V) (t : Value) : Prop := TyX K H y t ∨ ∃ b D dy gs, y = .ref b ∧ H b = some (.ins D dy gs) ∧ t = .ref D
theorem tyz_looks {X : Cx} {pins : List (Addr × Obj)} {σ : L2.St} {H : Hp} {s : Shared} {y : V} {u t : Value} (I : Inv X pins σ H s) (ry : RelV y u) (h : TyZ X.K H y t) : PySem.W.Looks (model X.prog X.w) s.heap (typeOf u) t := by
  rcases h with h | ⟨b, D, dy, gs, rfl, hb, rfl⟩
  · obtain ⟨P, Z, p, _⟩ := kit_of I ry h
    exact Z.ty _ _ I.kIn p
  · cases ry
    obtain ⟨mA, J, _⟩ := ins_get I.hok hb
    obtain ⟨od, J, _⟩ := J.look
    exact J.type
/-- x == y, x an instance of the class at C whose own __eq__ keeps the promise sp -/
def rEqI (K : PySem.W.Frag) (C : Addr) (sp : Sp) : R2 := fun x y H Q => ∃ a dx fs t, x = .ref a ∧ H a = some (.ins C dx fs) ∧ TyZ K H y t ∧ PySem.W.notFirst K C t = true ∧ sp [x, y] H Q fun _ _ _ => False
theorem op_eqI {X : Cx} {CX : CXT} {k : Nat} {C f : Addr} {fd : FuncData} {ps : List Str} {sp : Sp} (hm : Meth X.K C "__eq__" f) (F : FnG X.prog X.w X.K X.mg X.base CX k f fd ps sp) (hr : RoomG (k + 1) X.A) (hu : X.A.units + 64 < cLine) (hb : Binds X.K fd ps []) (hx : ∀ σ, PassesAt CX X σ fun _ _ _ => False) :
    OpR X (compareOp .Eq) (rEqI X.K C sp) := by
  intro pins s σ H x y v u Q I rx ry h
  obtain ⟨a, dx, fs, t, rfl, ha, hy, hn, q⟩ := h
  cases (show v = Value.ref a from rx)
  obtain ⟨mA, O, _⟩ := ins_get I.hok ha
  obtain ⟨od, J, _⟩ := O.look
  obtain ⟨m, hF⟩ := I.fr
  show wpAny (model X.prog X.w) X.A (richCompare .Eq (.ref a) u) (EP X pins σ Q) X.xe s
  refine PySem.W.cmp_K (op := .Eq) (tb := t) (by omega) hF I.ok.mod.kin J (tyz_looks I ry hy) hn hm.at_ hm.fn ?_
  refine wpAny_mono (fnG_run (E := fun _ _ _ _ => False) (us := [.ref a, u]) (vs := [.ref a, y]) F (hr.mono (by omega)) hb .nil (hx σ) I (.cons rfl (.cons ry .nil)) (by simpa using q)) (fun w s' z => ?_) fun _ _ x => x
  obtain ⟨z', H', I', rz, qz⟩ := z
  exact SlX.cmpback rz ⟨z', H', I', rz, qz⟩
section
variable {prog : Program} {w : World} {A : Around} {E : Value → Shared → Prop} {s : Shared} {K : PySem.W.Frag} {x C f : Addr} {ox : Obj} {od : Option Obj} {b tb : Value}
end
end Hx

/-! ==, != and str of instances by value. -/
namespace Hx
open PySem PySem.Spec PyProof.Rows L2
end Hx
namespace Dv
open PySem L2 PyProof.Rows Hx
theorem nf_bt {K : PySem.W.Frag} {C : Addr} {d : D} {t : String} (e : tyD d = some t) : PySem.W.notFirst K C (.type t) = true := by
  have h : ∀ t ∈ ["NoneType", "bool", "int", "str", "tuple", "list"], PySem.W.subIn K (.type t) (.ref C) = some false := fun t ht => by
    simp only [List.mem_cons, List.not_mem_nil, or_false] at ht
    rcases ht with rfl | rfl | rfl | rfl | rfl | rfl <;> kernel_rfl
  have m : t ∈ ["NoneType", "bool", "int", "str", "tuple", "list"] := by
    cases d <;> cases e <;> simp
  unfold PySem.W.notFirst
  rw [h t m]
  simp
/-- the right one: data, or an instance of the same class -/
def eqY (n : Str) (y : D) : Prop := (∃ t, tyD y = some t) ∨ ∃ ns ys, y = .inst n ns ys
theorem eqY_ty {K : PySem.W.Frag} {H : Hp} {S : Sd} {n : Str} {C : Addr} {d : D} {v : V} (R : RelS K H S) (c : ClsAt K n C) (r : Rp K H S d v) (h : eqY n d) : ∃ t, TyZ K H v t ∧ PySem.W.notFirst K C t = true := by
  rcases h with ⟨t, e⟩ | ⟨ns, ys, rfl⟩
  · exact ⟨_, .inl (isi_ty R r e), nf_bt e⟩
  · obtain ⟨C', a, d', fs, c', rfl, ha, sa, en, r2⟩ := r
    obtain rfl := c'.one c
    exact ⟨_, .inr ⟨a, C', d', fs, rfl, ha, rfl⟩, by unfold PySem.W.notFirst; simp⟩
def rdEqI (n : Str) (sp : SpD) : RD2 := fun x y S Q => match x with
  | .inst n' ns ys => n' = n ∧ eqY n y ∧ sp [.inst n' ns ys, y] S Q fun _ _ => False
  | _ => False
section
variable {X : Cx} {k : Nat} {n : Str} {ps : List Str} {C f fI : Addr} {fd : FuncData} {sp : SpD}
theorem od_eqI (Cf : ClF X.K n C fI) (hm : Meth X.K C "__eq__" f) (F : FnG X.prog X.w X.K X.mg X.base (L2N.CX X.prog X.w) k f fd ps (upF X.K sp)) (hr : RoomG (k + 1) X.A) (hu : X.A.units + 64 < cLine) (hb : Binds X.K fd ps [])
    (hx : ∀ σ, PassesAt (L2N.CX X.prog X.w) X σ fun _ _ _ => False) : OpD X (compareOp .Eq) (rdEqI n sp) := ⟨_, op_eqI hm F hr hu hb hx, fun H S fr σd σ x y dx dy Qv Qd ok rx ry h k => by
  unfold rdEqI at h
  split at h
  · rename_i n' ns ys
    obtain ⟨rfl, hy, h⟩ := h
    obtain ⟨t, ty, nf⟩ := eqY_ty ok.rel Cf.at_ ry hy
    have rx0 := rx
    obtain ⟨C', a, d', fs, c', rfl, ha, sa, en, r2⟩ := rx
    obtain rfl := c'.one Cf.at_
    refine ⟨a, d', fs, t, rfl, ha, ty, nf, [.inst n' ns ys, dy], S, fr ++ prs σd σ, _, _, ok.rel, ok.out, rpL_cons rx0 (rpL_cons ry rpL_nil), h, fun v d H2 S2 R2 f2 r2 q2 => ?_, fun cls od y H2 S2 R2 f2 ry q2 => q2⟩
    exact k v d H2 S2 (ok.back R2 f2) r2 q2
  · exact h.elim⟩
end
end Dv

/-! for i, x in enumerate(xs); isinstance by a class of the text. -/
namespace Dv
open PySem L2 PyProof.Rows Hx
def enumD (ds : List D) : List D := ds.mapIdx fun i d => .tup [.int (i : Nat), d]
theorem enumD_get {ds : List D} {i : Nat} {e : D} (h : (enumD ds)[i]? = some e) : ∃ d, ds[i]? = some d ∧ e = .tup [.int (i : Nat), d] := by
  unfold enumD at h
  rw [List.getElem?_mapIdx] at h
  obtain ⟨d, hd, rfl⟩ := Option.map_eq_some_iff.mp h
  exact ⟨d, hd, rfl⟩
theorem itd_enum {K : PySem.W.Frag} {a : Addr} {ds : List D} {fr : List (V × D)} : ItD K (Ite K a) (enumD ds) ((.ref a, .lst ds) :: fr) where
  go := fun i d e H S σd σ ok => by
    obtain ⟨a', vs, e1, q1, r1⟩ := rp_list ok.rel ok.head
    cases (show V.ref a = .ref a' from e1)
    obtain ⟨x, hx, rfl⟩ := enumD_get e
    obtain ⟨v, v1, v2⟩ := rpL_get r1 hx
    refine ⟨⟨vs, v, q1, v1⟩, fun z H' y => ?_⟩
    obtain ⟨T, x', rfl, hT, rfl, g1⟩ := y
    have e3 := g1 vs q1
    rw [v1] at e3
    cases e3
    exact ⟨ok.new hT, rp_tupNew ok.rel hT (rpL_cons rfl (rpL_cons v2 rpL_nil))⟩
  stop := fun H S σd σ ok => by
    obtain ⟨a', vs, e1, q1, r1⟩ := rp_list ok.rel ok.head
    cases (show V.ref a = .ref a' from e1)
    refine ⟨vs, q1, ?_⟩
    have l1 := rpL_len r1
    unfold enumD
    rw [List.length_mapIdx]
    omega
def enumR (R : List D → Sd → Prop) (S : Sd) : List D → Prop
  | [.lst ds] => R (enumD ds) S
  | _ => False
theorem enumR_inv {R : List D → Sd → Prop} {S : Sd} {ds : List D} (h : enumR R S ds) : ∃ xs, ds = [.lst xs] ∧ R (enumD xs) S := by
  unfold enumR at h
  split at h
  · exact ⟨_, rfl, h⟩
  · exact h.elim
def dEnum (ta : TAD) : TID := fun σ S R => ta σ S fun xs S1 => enumR R S1 xs
theorem di_enum {X : Cx} {W : Wi} {a : Expr} {ta : TAD} {p pos tpos : Pos} {elts : List Expr} {kk : Nat} (hg : Gl X "enumerate") (hm : X.mg "enumerate" = none) (ha : DA X W [a] ta) (hs : starEach [a] X.env = [(false, eval a X.env)] := by rfl) :
    DI X W (.Tuple elts kk tpos) (.Call (.Name "enumerate" p) [a] [] pos) (dEnum ta) :=
  ⟨PI.imp (pi_enum hg hm ha.p hs) fun σ H R ⟨σd, S, fr, Rd, ok, cl, h, k⟩ => ⟨σd, S, fr, _, ok, cl, h, fun vs ds H1 S1 ok1 r1 q => by
    obtain ⟨xs, rfl, q⟩ := enumR_inv q
    obtain ⟨v, rfl, t1⟩ := rpL1 r1
    obtain ⟨a', us, e1, q1, _⟩ := rp_list ok1.rel t1
    cases (show v = .ref a' from e1)
    exact ⟨a', us, rfl, q1, k _ _ H1 S1 [(.ref a', .lst xs)] (ok1.cons t1) itd_enum q⟩⟩⟩
/-! ### isinstance by a class of the text -/
def btNames : List String := ["NoneType", "bool", "int", "str", "tuple", "list"]
def isB (K : PySem.W.Frag) (C : Addr) : Bool := decide (PySem.W.findIn K (.ref C) "__class__" = some (some (.builtin "object.__class__"))) && (decide (PySem.W.specialIn K (.builtin "object.__class__") "__get__" = some (some (.builtin "getset_descriptor.__get__"))) &&
  (decide (PySem.W.takesIn K (.builtin "object.__class__") = some true) && (decide (PySem.W.mroIn K C (.type "object") = some true) && btNames.all fun t => decide (PySem.W.kitOne K (.type t) (.ref C) = some false))))
structure IsF (K : PySem.W.Frag) (C : Addr) : Prop where
  ha : PySem.W.findIn K (.ref C) "__class__" = some (some (.builtin "object.__class__"))
  hn : PySem.W.specialIn K (.builtin "object.__class__") "__get__" = some (some (.builtin "getset_descriptor.__get__"))
  htk : PySem.W.takesIn K (.builtin "object.__class__") = some true
  hm : PySem.W.mroIn K C (.type "object") = some true
  nb : ∀ t ∈ btNames, PySem.W.kitOne K (.type t) (.ref C) = some false
theorem isB_ok {K : PySem.W.Frag} {C : Addr} (h : isB K C = true) : IsF K C := by
  unfold isB at h
  obtain ⟨a, h⟩ := and_b h
  obtain ⟨b, h⟩ := and_b h
  obtain ⟨c, h⟩ := and_b h
  obtain ⟨d, h⟩ := and_b h
  exact ⟨of_decide_eq_true a, of_decide_eq_true b, of_decide_eq_true c, of_decide_eq_true d, fun t ht => of_decide_eq_true (p := PySem.W.kitOne K (.type t) (.ref C) = some false) (List.all_eq_true.mp h t ht)⟩
def isiQ (n : Str) (S : Sd) (Q : DK) : D → Prop
  | .inst n' _ _ => n' = n ∧ Q (.bl true) S
  | d => (∃ t, tyD d = some t) ∧ Q (.bl false) S
def rdIsiC (n : Str) : RDC := fun ds S Q => match ds with
  | [d, .fn m] => m = n ∧ isiQ n S Q d
  | _ => False
theorem kit_self {K : PySem.W.Frag} {C : Addr} : PySem.W.kitOne K (.ref C) (.ref C) = some true := by
  unfold PySem.W.kitOne
  rw [if_pos (by simp)]
theorem cd_isiC {X : Cx} {n : Str} {C fI : Addr} (Cf : ClF X.K n C fI) (Is : IsF X.K C) : CallD X (.builtin "isinstance") (rdIsiC n) := ⟨_, call_isi, fun H S fr σd σ xs ds Qv Qd ok r h k => by
  match ds, h with
  | [d, .fn m], h =>
    obtain ⟨rfl, h⟩ := h
    obtain ⟨v, w, rfl, r1, r2⟩ := rpL2 r
    obtain ⟨C', rfl, at'⟩ := r2
    obtain rfl : C' = C := ClsAt.one at' Cf.at_
    have bt : (∃ t, tyD d = some t) ∧ Qd (.bl false) S → ∃ x c t u b, [v, V.ref C'] = [x, c] ∧ ClsV c u ∧ TyX X.K H x t ∧ PySem.W.kitOne X.K t u = some b ∧ Qv (.bl b) H := fun ⟨⟨t, e⟩, q⟩ => by
      have m : t ∈ btNames := by
        unfold btNames
        cases d <;> cases e <;> simp
      exact ⟨v, .ref C', .type t, .ref C', false, rfl, .own C', isi_ty ok.rel r1 e, Is.nb t m, k _ (.bl false) H S ok rfl q⟩
    cases d with
    | inst n' ns ys =>
      obtain ⟨rfl, q⟩ := h
      obtain ⟨C2, a, d', fs, c', rfl, ha, sa, en, r3⟩ := r1
      obtain rfl := c'.one Cf.at_
      exact ⟨.ref a, .ref C2, .ref C2, .ref C2, true, rfl, .own C2, .base (.ins ha Cf.cls Is.ha Is.hn Is.htk Is.hm), kit_self, k _ (.bl true) H S ok rfl q⟩
    | _ => exact bt h⟩
/-- a class of the text as a value -/
theorem de_cls {X : Cx} {W : Wi} {n : Str} {C fI : Addr} {pos : Pos} (Cf : ClF X.K n C fI) (hg : Gl X n) (hm : X.mg n = some (.ref C)) (hd : (n == ("__debug__" : Str)) = false := by decide) : DE X W (.Name n pos) (dC (.fn n)) :=
  de_k hg hm (show RelV (.ref C) (.ref C) from rfl) (fun _ _ => ⟨C, rfl, Cf.at_⟩) hd
end Dv

/-! str(whole number), str(text). -/
namespace Dv
open PySem L2 PyProof.Rows Hx
def rdStr : RDC := fun ds S Q => match ds with
  | [.int i] => i.natAbs.log2 < 1920 ∧ Q (.str (toString i)) S
  | [.str z] => Q (.str z) S
  | _ => False
theorem x_str_i {i : Int} {S : Sd} {Q : DK} : rdStr [.int i] S Q = (i.natAbs.log2 < 1920 ∧ Q (.str (toString i)) S) := rfl
theorem x_str_s {z : Str} {S : Sd} {Q : DK} : rdStr [.str z] S Q = Q (.str z) S := rfl
end Dv

/-! data == an instance: the data's own == declines, then the instance's __eq__ is asked. -/
namespace Hx
open PySem PySem.Spec PySem.SeqAt PyProof.Rows L2
open AutoSeq1 (wpAny_loadPart')
open Builtin
section
variable {prog : Program} {w : World} {A : Around} {E : Value → Shared → Prop} {s : Shared} {K : PySem.W.Frag} {y C f : Addr} {oy : Obj} {od : Option Obj} {a : Value} {Ta ida : String}
end
end Hx
namespace Dv
open PySem L2 PyProof.Rows Hx
section
variable {X : Cx} {k : Nat} {n : Str} {ps : List Str} {C f fI : Addr} {fd : FuncData} {sp : SpD}
end
end Dv

/-! an instance in [None, an instance]: by the class's own __eq__. -/
namespace Hx
open PySem PySem.Spec PySem.SeqAt PyProof.Rows L2
open AutoSeq1 (wpAny_loadPart')
open MeetsSeq MeetsSeq2 MeetsSeq3 SeqRoads2
open Builtin
section
variable {prog : Program} {w : World} {A : Around} {R : Result → Shared → Prop}
end
section
variable {X : Cx} {CX : CXT} {k : Nat} {C f : Addr} {fd : FuncData} {ps : List Str} {sp : Sp}
end
end Hx
namespace Dv
open PySem L2 PyProof.Rows Hx
end Dv

/-! "text" + x.replace(a, b). -/
namespace Dv
open PySem PySem.Spec L2 PyProof.Rows Hx
end Dv

/-! bool(x), x an instance whose class has a __len__ of its own and no __bool__. -/
namespace Hx
open PySem PySem.Spec PyProof.Rows L2
open Builtin
section
variable {prog : Program} {w : World} {A : Around} {E : Value → Shared → Prop} {s : Shared} {K : PySem.W.Frag} {a C f : Addr} {ox : Obj} {od : Option Obj}
end
end Hx

/-! Readings by value: bool of an instance by its own __len__; the place of data in a list of data. -/
namespace Dv
open PySem PySem.Spec L2 PyProof.Rows Hx
end Dv

/-! t[::-1] of a tuple, what is made being known whole. -/
namespace Dv
open PySem PySem.Spec PyProof.Rows L2 Hx
section
variable {X : Cx} {W : Wi} {e : Expr} {te : TED} {pos : Pos}
end
end Dv

/-! list(range(e)) by value; an expression that is never asked. -/
namespace Dv
open PySem PySem.Spec PyProof.Rows L2 Hx
section
variable {X : Cx} {W : Wi} {a e : Expr} {ta : TED}
end
end Dv

/-! A try whose body raises nothing. -/
namespace Hx
open PySem PySem.Spec PyProof.Rows L2
variable {X : Cx}
theorem ps_tryZ {body : List Stmt} {h₀ : ExceptHandler} {hds : List ExceptHandler} {pos : Pos} {tb : TS} (hs : X.stack = X.env :: X.outer)
    (hb : ∀ (pn : List (Addr × Obj)) (xe : Value → Shared → Prop), PassesOwn (model X.prog X.w) X.A X.env xe → PSs (X.tr pn xe) body tb) : PS X (.Try body (h₀ :: hds) [] [] pos) tb := by
  refine ⟨fun pins s σ H D I h => wpAny_Try_except ?_⟩
  have body' := hb (X.pn ++ pins) (fun e s₁ => wpAny (model X.prog X.w) X.A (noteFrame e X.env) (fun _ s₂ => wpAny (model X.prog X.w) X.A (setFlight e none) (fun _ s₃ =>
    wpAny (model X.prog X.w) X.A (handleBy e X.env (h₀ :: hds)) (SP X pins D) X.xe s₃) X.xe s₂) X.xe s₁) PassesOwn.looking
  refine wpAny_mono (body'.run [] s σ H D (I.toTry _) h) (fun f s1 q => ?_) fun _ _ z => z
  cases f with
  | next => obtain ⟨σ', H', J, q⟩ := q; exact wpAny_execs_nil ⟨σ', H', J.ofTry I.ok, q⟩
  | brk => obtain ⟨σ', H', J, q⟩ := q; exact ⟨σ', H', J.ofTry I.ok, q⟩
  | cont => obtain ⟨σ', H', J, q⟩ := q; exact ⟨σ', H', J.ofTry I.ok, q⟩
  | ret u => obtain ⟨v, σ', H', J, r, q⟩ := q; exact ⟨v, σ', H', J.ofTry I.ok, r, q⟩
end Hx
namespace Dv
open PySem PySem.Spec PyProof.Rows L2 Hx
variable {X : Cx} {W : Wi} {pos : Pos}
def dTryZ (tb : TSD) : TSD := fun D σ S => tb D σ S
theorem ds_tryZ {body : List Stmt} {h₀ : ExceptHandler} {hds : List ExceptHandler} {tb : TSD} (hs : X.stack = X.env :: X.outer)
    (hb : ∀ (pn : List (Addr × Obj)) (xe : Value → Shared → Prop), PassesOwn (model X.prog X.w) X.A X.env xe → DB (X.tr pn xe) W0 body tb) : DS X W (.Try body (h₀ :: hds) [] [] pos) (dTryZ tb) :=
  ⟨PS.imp (ps_tryZ (tb := upSt X.K W0 tb) hs fun pn xe h => (hb pn xe h).p) fun D σ H ⟨σd, S, fr, Dd, ok, cl, h, k⟩ => ⟨σd, S, fr, Dd, ok, Cl.zero, h, k⟩⟩
end Dv

/-! An instance that is made and stored into again; a field that is stored anew; an instance handed out for good. -/
namespace Dv
open PySem PySem.Spec L2 PyProof.Rows Hx
def dMakeO (n : Str) (sp : SpD) (dds : List D) (WD : WXD) (t : TAD) : TED := fun σ S Q => t σ S fun xs S1 => ∀ a, S1 a = none → sp (.obj a :: (xs ++ dds)) (upS S1 a (.ins n [] [])) (fun v S2 => v = .non ∧ (∃ ns ys, S2 a = some (.ins n ns ys)) ∧ Q (.obj a) S2) fun y S2 => WD y σ S2
section
variable {X : Cx} {W : Wi} {k : Nat} {f C fI : Addr} {fd : FuncData} {ps : List Str} {sp : SpD} {ds : List Value} {dvs : List V} {dds : List D} {x n m g : Str} {p pos apos pos' : Pos} {o e : Expr} {es : List Expr} {to tv : TED} {t : TAD}
theorem makeO_lift (c : ClsAt X.K n C) (hdd : ∀ H S, RpL X.K H S dds dvs) (σ : L2.St) (H : Hp) (Q : VK) (h : upE X.K W (dMakeO n sp dds W.D t) σ H Q) : tMakeS C (upF X.K sp) dvs (WE W.V) (upA X.K W t) σ H Q := by
  obtain ⟨σd, S, fr, Qd, ok, cl, h, k⟩ := h
  refine ⟨σd, S, fr, _, ok, cl, h, fun vs ds H1 S1 ok1 r1 h1 x dx hx hd hne => ?_⟩
  have st : Step H1 S1 (upd (upd H1 dx (.own x)) x (.ins C dx [])) (upS S1 x (.ins n [] [])) := step_made hx hd
  have sx : S1 x = none := ok1.rel.free hx
  have R2 : RelS X.K (upd (upd H1 dx (.own x)) x (.ins C dx [])) (upS S1 x (.ins n [] [])) := fun b w e => by
    by_cases hb : b = x
    · subst hb
      rw [upS_same] at e
      cases e
      exact ⟨C, dx, [], c, upd_same, rfl, rfl⟩
    · rw [upS_ne hb] at e
      exact soOk_step ok1.rel st (ok1.rel b w e) fun u hu => by rw [upd_ne hb, upd_ne (ne_of_none hu hd)]; exact hu
  have ok2 := ok1.step st R2
  refine ⟨.obj x :: (ds ++ dds), _, fr ++ prs σd σ, _, _, R2, ok2.out, rpL_cons rfl (rpL_app (rpL_step ok1.rel st _ _ r1) (hdd _ _)), h1 x sx, fun v d H3 S3 R3 f3 r3 q3 => ?_, fun cls od y H3 S3 R3 f3 ry q3 => ?_⟩
  · obtain ⟨e1, _, q⟩ := q3
    subst e1
    exact ⟨r3, k (.ref x) (.obj x) H3 S3 (ok2.back R3 f3) rfl q⟩
  · exact cl σd σ H3 S3 cls od y (ok2.back R3 f3) ry q3
theorem de_makeO (Cf : ClF X.K n C fI) (F : FnG X.prog X.w X.K X.mg X.base (L2N.CX X.prog X.w) k fI fd ps (upF X.K sp)) (hr : RoomG (k + 1) X.A) (hg : Gl X n) (hm : X.mg n = some (.ref C)) (hb : Binds X.K fd ps ds) (hd : Vals dvs ds) (hdd : ∀ H S, RpL X.K H S dds dvs) (tk : L2N.Takes X W.V)
    (ha : DA X W (e :: es) t) (hdb : (n == ("__debug__" : Str)) = false := by decide) (he : starEach (e :: es) X.env = (false, eval e X.env) :: starEach es X.env := by rfl) (hpl : (backTo pos (starEach es X.env)).any (·.1) = false := by rfl) :
    DE X W (.Call (.Name n p) (e :: es) [] pos) (dMakeO n sp dds W.D t) :=
  ⟨PE.imp (pe_makeG Cf.new F hr hg hm hb hd (fun σ => L2N.passAt tk σ) ha.p hdb he hpl) (makeO_lift Cf.at_ hdd)⟩
def dFrzI (t : TED) : TED := fun σ S Q => t σ S fun d S1 => ∃ a n ns ys, d = .obj a ∧ S1 a = some (.ins n ns ys) ∧ Q (.inst n ns ys) (del S1 a)
theorem de_frzI {t : TED} (h : DE X W e t) : DE X W e (dFrzI t) := ⟨PE.imp h.p fun σ H Q ⟨σd, S, fr, Qd, ok, cl, h, k⟩ => ⟨σd, S, fr, _, ok, cl, h, fun v d H1 S1 ok1 r1 q1 => by
  obtain ⟨a, n, ns, ys, rfl, hs, q⟩ := q1
  cases (show v = .ref a from r1)
  exact k _ (.inst n ns ys) H1 (del S1 a) (ok1.step step_del (rel_del ok1.rel)) (rp_frozenI ok1.rel hs) q⟩⟩
/-- self.f = e, the first time or again -/
def dPutB (n f : Str) (to tv : TED) : TSD := fun D σ S => tv σ S fun y S1 => to σ S1 fun o S2 => ∃ a ns ys, o = .obj a ∧ S2 a = some (.ins n ns ys) ∧ ns.length < 1000 ∧ (f ∉ ns → D.nx σ (upS S2 a (.ins n (ns ++ [f]) (ys ++ [y])))) ∧ (∀ i, ns[i]? = some f → (∀ j, j < i → ns[j]? ≠ some f) → D.nx σ (upS S2 a (.ins n ns (ys.set i y))))
theorem putF_old {f : Str} {v : V} : ∀ {fs : List (Str × V)} {i : Nat}, (fs.map Prod.fst)[i]? = some f → (∀ j, j < i → (fs.map Prod.fst)[j]? ≠ some f) → (putF f v fs).map Prod.fst = fs.map Prod.fst ∧ (putF f v fs).map Prod.snd = (fs.map Prod.snd).set i v ∧ (putF f v fs).length = fs.length
  | [], i, h, _ => by cases i <;> cases h
  | (g, x) :: r, 0, h, _ => by
    have e : g = f := by injection h
    show (List.map Prod.fst (if g = f then (g, v) :: r else _) = _) ∧ (List.map Prod.snd (if g = f then (g, v) :: r else _) = _) ∧ (List.length (if g = f then (g, v) :: r else _) = _)
    rw [if_pos e]
    exact ⟨rfl, rfl, rfl⟩
  | (g, x) :: r, i + 1, h, hn => by
    have e : g ≠ f := fun e => hn 0 (Nat.succ_pos i) (by rw [← e]; rfl)
    obtain ⟨h1, h2, h3⟩ := putF_old (f := f) (v := v) (fs := r) (i := i) h fun j hj => hn (j + 1) (Nat.succ_lt_succ hj)
    show (List.map Prod.fst (if g = f then _ else (g, x) :: putF f v r) = _) ∧ (List.map Prod.snd (if g = f then _ else (g, x) :: putF f v r) = _) ∧ (List.length (if g = f then _ else (g, x) :: putF f v r) = _)
    rw [if_neg e]
    refine ⟨?_, ?_, ?_⟩
    · rw [List.map_cons, h1]; rfl
    · rw [List.map_cons, h2]; rfl
    · rw [List.length_cons, h3]; rfl
theorem ds_putB (Cf : ClF X.K n C fI) (hn : NoAttr X.K C g) (ho : DE X W o to) (hv : DE X W e tv) (hs : swapsWith e (some (.Attribute o g pos')) pos.line X.env = pure false) : DS X W (.Assign [.Attribute o g pos'] e pos) (dPutB n g to tv) :=
  ⟨PS.imp (ps_fld ho.p hv.p hs) fun D σ H ⟨σd, S, fr, Dd, ok, cl, h, k⟩ => ⟨σd, S, fr, _, ok, cl, h, fun y dy H1 S1 ok1 ry h1 => ⟨σd, S1, (y, dy) :: fr, _, ok1.cons ry, cl.tail, h1, fun x dx H2 S2 ok2 rx ⟨a, ns, ys, eo, es, hl, q1, q2⟩ => by
    subst eo
    cases (show x = .ref a from rx)
    obtain ⟨C', dd, fs, c', ha, en, r⟩ := ok2.rel a _ es
    obtain rfl := c'.one Cf.at_
    have lf : fs.length = ns.length := by rw [← en, List.length_map]
    refine ⟨a, C', dd, fs, rfl, ha, Cf.cls, hn, by omega, ?_⟩
    by_cases hg : g ∈ ns
    · obtain ⟨i, hi, hno⟩ : ∃ i, ns[i]? = some g ∧ ∀ j, j < i → ns[j]? ≠ some g := by
        obtain ⟨i, hlt, e⟩ := List.getElem_of_mem hg
        have h0 : ns[i]? = some g := by rw [List.getElem?_eq_getElem hlt, e]
        clear e hlt
        induction i using Nat.strongRecOn with
        | _ i ih =>
          by_cases c : ∃ j, j < i ∧ ns[j]? = some g
          · obtain ⟨j, hj, e⟩ := c
            exact ih j hj e
          · exact ⟨i, h0, fun j hj e => c ⟨j, hj, e⟩⟩
      obtain ⟨p1, p2, p3⟩ := putF_old (f := g) (v := y) (fs := fs) (i := i) (by rw [en]; exact hi) (by rw [en]; exact hno)
      have st : Step H2 S2 (upd H2 a (.ins C' dd (putF g y fs))) (upS S2 a (.ins n ns (ys.set i dy))) := step_set es
      refine k.nx σd σ _ _ (ok2.tail.step st (rel_set ok2.rel es ⟨C', dd, _, c', upd_same, by rw [p1, en], ?_⟩)) (q2 i hi hno)
      rw [p2]
      exact rpL_step ok2.rel st _ _ (rpL_set i r ok2.head)
    · have e1 : putF g y fs = fs ++ [(g, y)] := putF_new (by rw [en]; exact hg)
      rw [e1]
      have st : Step H2 S2 (upd H2 a (.ins C' dd (fs ++ [(g, y)]))) (upS S2 a (.ins n (ns ++ [g]) (ys ++ [dy]))) := step_set es
      refine k.nx σd σ _ _ (ok2.tail.step st (rel_set ok2.rel es ⟨C', dd, _, c', upd_same, by rw [List.map_append, en]; rfl, ?_⟩)) (q1 hg)
      rw [List.map_append]
      exact rpL_step ok2.rel st _ _ (rpL_app r (rpL_cons ok2.head rpL_nil))⟩⟩⟩
end
end Dv

/-! A method without arguments, called while an exception is handled. -/
namespace Dv
open PySem PySem.Spec L2 PyProof.Rows Hx
section
variable {X : Cx} {k : Nat} {f C fI : Addr} {fd : FuncData} {ps : List Str} {sp : SpD} {n m : Str} {pos apos : Pos} {o : Expr} {to : TED} {ta : TE}
end
end Dv

namespace Hx
open PySem PySem.Spec PyProof.Rows L2 HotX
section
variable {prog : Program} {w : World} {A : Around} {E : Value → Shared → Prop} {s : Shared}
end
section
variable {X : Cx} {pos : Pos}
end
end Hx
namespace Dv
open PySem PySem.Spec L2 PyProof.Rows Hx
end Dv

/-! str of a tuple; a dict of two written keys asked with a default; ==, != and isinstance of instances of other classes; an instance in a list of two. -/
namespace Hx
open PySem PySem.Spec PyProof.Rows L2
end Hx
namespace Dv
open PySem PySem.Spec L2 PyProof.Rows Hx
section
variable {K : PySem.W.Frag} {W : Wi} {z1 z2 : Str} {i : Nat}
end
section
variable {X : Cx} {W : Wi} {z1 z2 x : Str} {i : Nat} {m1 m2 m3 m4 : Nat} {q1 q2 q3 q4 q5 q6 dpos np np2 sp2 pos apos : Pos}
end
/-! ### instances of other classes -/
section
variable {X : Cx} {k : Nat} {n : Str} {ms ps : List Str} {C f fI : Addr} {fd : FuncData} {sp : SpD}
end
end Dv

/-! an instance in a list of two instances: by the class's own __eq__. -/
namespace Hx
open PySem PySem.Spec PySem.SeqAt PyProof.Rows L2
open AutoSeq1 (wpAny_loadPart')
open MeetsSeq MeetsSeq2 MeetsSeq3 SeqRoads2
open Builtin
section
variable {prog : Program} {w : World} {A : Around} {R : Result → Shared → Prop}
end
section
variable {X : Cx} {CX : CXT} {k : Nat} {C f : Addr} {fd : FuncData} {ps : List Str} {sp : Sp}
end
end Hx
namespace Dv
open PySem L2 PyProof.Rows Hx
end Dv

/-! xs[-2::-1] of a tuple: all but the last one, from behind. -/
namespace HT
open PySem PyProof.Rows
section
variable {prog : Program} {w : World} {A : Around} {E : Value → Shared → Prop} {s : Shared}
end
end HT
namespace Dv
open PySem PySem.Spec L2 PyProof.Rows Hx HT
section
variable {X : Cx} {W : Wi} {e : Expr} {te : TED} {pos : Pos}
/-- xs[-2::-1] -/
def dBk (te : TED) : TED := fun σ S Q => te σ S fun x S1 => match x with
  | .tup ds => Q (.tup ds.dropLast.reverse) S1
  | _ => False
end
end Dv

/-! while an exception is handled: a comprehension within an expression, range in it, min of a list of data. -/
namespace Hx
open PySem PySem.Spec PyProof.Rows L2 HotX
section
variable {prog : Program} {w : World} {A : Around} {E : Value → Shared → Prop} {s : Shared}
end
section
variable {X : Cx}
end
section
variable {X : Cx} {pins : List (Addr × Obj)} {σ : L2.St} {H : Hp} {s : Shared}
end
end Hx
namespace Dv
open PySem PySem.Spec L2 PyProof.Rows Hx
section
variable {X : Cx} {W : Wi} {pos : Pos}
end
end Dv

/-! list.extend by a tuple or by a list that nobody changes; list.pop. -/
namespace Hx
open PySem PySem.Spec PySem.SeqAt PyProof.Rows L2
open AutoSeq1
open MeetsSeq MeetsSeq2 MeetsSeq3 SeqRoads2
section
variable {X : Cx}
end
end Hx
namespace Dv
open PySem PySem.Spec L2 PyProof.Rows Hx
section
variable {X : Cx} {W : Wi} {e : Expr}
end
end Dv
/-! the truth of an instance by its class's own __len__ -/
namespace Hx
open PySem PySem.Spec PyProof.Rows L2
section
variable {X : Cx} {CX : CXT} {k : Nat} {C f : Addr} {fd : FuncData} {y : Str} {sp : Sp} {a : Expr} {ta : TE}
end
end Hx
namespace Dv
open PySem PySem.Spec L2 PyProof.Rows Hx
end Dv
/-! a part of a list, kept for storing -/
namespace Dv
open PySem PySem.Spec L2 PyProof.Rows Hx
section
variable {X : Cx} {W : Wi} {e : Expr} {te : TED} {pos p2 : Pos}
end
end Dv

/-! Readings by value, z: urns, draws, small data, words. -/
namespace Dv
open PySem L2 PyProof.Rows
theorem mulOk {a b : Int} (m n : Nat) (ha : a.natAbs < 2 ^ m) (hb : b.natAbs < 2 ^ n) (h0 : 0 < m) (h1 : 0 < n) (h : m + n ≤ 1000000) : a.natAbs.log2 + b.natAbs.log2 < 1000000 := by
  have x := log2_lt ha h0
  have y := log2_lt hb h1
  omega
theorem powOk {a : Int} (m : Nat) (j : Int) (ha : a.natAbs < 2 ^ m) (h0 : 0 < m) (hj : 0 ≤ j) (h : (m : Int) * j ≤ 134217728) : 0 ≤ j ∧ ((a.natAbs.log2 : Int) + 1) * j ≤ 134217728 := by
  have x := log2_lt ha h0
  refine ⟨hj, Int.le_trans (Int.mul_le_mul_of_nonneg_right ?_ hj) h⟩
  omega
theorem fmod_in {a b : Int} (h : 0 < b) : 0 ≤ a.fmod b ∧ a.fmod b < b := by
  rw [Int.fmod_eq_emod_of_nonneg a (Int.le_of_lt h)]
  exact ⟨Int.emod_nonneg a (by omega), Int.emod_lt_of_pos a h⟩
theorem abs_lt_of {a : Int} {n : Nat} (h0 : 0 ≤ a) (h1 : a < 2 ^ n) : a.natAbs < 2 ^ n := by
  have e : ((2 ^ n : Nat) : Int) = 2 ^ n := by simp
  omega
def primes : List D := [.int 2147483647, .int 2147483629, .int 2147483587, .int 2147483579, .int 2147483563, .int 2147483549, .int 2147483543]
theorem primes_at {k : Int} (h0 : 0 ≤ k) (h1 : k < 7) : ∃ p, atI primes k = some (.int p) ∧ 2147483543 ≤ p ∧ p < 2147483648 := by
  have c : k = 0 ∨ k = 1 ∨ k = 2 ∨ k = 3 ∨ k = 4 ∨ k = 5 ∨ k = 6 := by omega
  rcases c with rfl | rfl | rfl | rfl | rfl | rfl | rfl
  · exact ⟨2147483647, atI_nat (j := 0) rfl, by decide, by decide⟩
  · exact ⟨2147483629, atI_nat (j := 1) rfl, by decide, by decide⟩
  · exact ⟨2147483587, atI_nat (j := 2) rfl, by decide, by decide⟩
  · exact ⟨2147483579, atI_nat (j := 3) rfl, by decide, by decide⟩
  · exact ⟨2147483563, atI_nat (j := 4) rfl, by decide, by decide⟩
  · exact ⟨2147483549, atI_nat (j := 5) rfl, by decide, by decide⟩
  · exact ⟨2147483543, atI_nat (j := 6) rfl, by decide, by decide⟩
theorem ixN_0 {n : Nat} (h : 0 < n) : ixN n 0 = some 0 := ixN_nat h
theorem ixN_2 {n : Nat} (h : 2 < n) : ixN n 2 = some 2 := ixN_nat h
/-! ### small data -/
def isWh : D → Bool
  | .int _ => true
  | _ => false
theorem isWh_int {d : D} (h : isWh d = true) : ∃ i, d = .int i := by
  cases d <;> first | exact ⟨_, rfl⟩ | exact absurd (show false = true from h) Bool.false_ne_true
mutual
/-- ints below 2 ^ n, texts of at most 100000 signs -/
def sm (n : Nat) : D → Bool
  | .int i => decide (i.natAbs < 2 ^ n)
  | .str z => decide (z.length ≤ 100000)
  | .non => true | .bl _ => true
  | .tup ds => smL n ds
  | .lst ds => smL n ds
  | _ => false
def smL (n : Nat) : List D → Bool
  | [] => true
  | d :: ds => sm n d && smL n ds
end
theorem smL_iff {n : Nat} : ∀ {ds : List D}, smL n ds = true ↔ ∀ d ∈ ds, sm n d = true
  | [] => by simp [smL]
  | d :: ds => by
    have ih := smL_iff (n := n) (ds := ds)
    simp only [smL, Bool.and_eq_true, List.mem_cons, ih]
    constructor
    · rintro ⟨h1, h2⟩ x (rfl | hx)
      · exact h1
      · exact h2 x hx
    · intro h
      exact ⟨h d (.inl rfl), fun x hx => h x (.inr hx)⟩
mutual
theorem sm_data {n : Nat} : ∀ {d : D}, sm n d = true → isData d = true
  | .int _, _ => rfl
  | .non, _ => rfl
  | .bl _, _ => rfl
  | .str _, _ => rfl
  | .tup ds, h => smL_data (ds := ds) h
  | .lst ds, h => smL_data (ds := ds) h
  | .tupX _, h => absurd (show false = true from h) Bool.false_ne_true
  | .inst _ _ _, h => absurd (show false = true from h) Bool.false_ne_true
  | .obj _, h => absurd (show false = true from h) Bool.false_ne_true
  | .ty _, h => absurd (show false = true from h) Bool.false_ne_true
theorem smL_data {n : Nat} : ∀ {ds : List D}, smL n ds = true → isDataL ds = true
  | [], _ => rfl
  | d :: ds, h => by
    have h' := Bool.and_eq_true_iff.mp (show (sm n d && smL n ds) = true from h)
    show (isData d && isDataL ds) = true
    rw [sm_data h'.1, smL_data h'.2]
    rfl
end
theorem sm_int {n : Nat} {i : Int} : sm n (.int i) = true ↔ i.natAbs < 2 ^ n := by simp [sm]
theorem smT {n : Nat} {ds : List D} : sm n (.tup ds) = true ↔ ∀ d ∈ ds, sm n d = true := smL_iff
/-! ### urns -/
def Urn (S : Sd) (u : Addr) (B : Int) : Prop := ∃ g c n, S u = some (.lst [.int g, .int c, .int n]) ∧ 0 ≤ g ∧ 0 ≤ c ∧ c < 2 ^ 70 ∧ 0 ≤ n ∧ n ≤ B
def Oth (S S' : Sd) (u : Addr) : Prop := ∀ a, a ≠ u → S' a = S a
theorem Oth.trans {S S1 S2 : Sd} {u : Addr} (h : Oth S S1 u) (k : Oth S1 S2 u) : Oth S S2 u := fun a ha => (k a ha).trans (h a ha)
theorem Oth.refl {S : Sd} {u : Addr} : Oth S S u := fun _ _ => rfl
theorem Urn.mono {S : Sd} {u : Addr} {B B' : Int} (h : Urn S u B) (hb : B ≤ B') : Urn S u B' := by
  obtain ⟨g, c, n, e, g0, c0, c1, n0, n1⟩ := h
  exact ⟨g, c, n, e, g0, c0, c1, n0, Int.le_trans n1 hb⟩
theorem Urn.oth {S S' : Sd} {p u : Addr} {B : Int} (h : Urn S u B) (ho : ∀ a, a ≠ p → S' a = S a) (hne : u ≠ p) : Urn S' u B := by
  obtain ⟨g, c, n, e, k⟩ := h
  exact ⟨g, c, n, (ho u hne).trans e, k⟩
theorem Urn.ne {S : Sd} {p u : Addr} {B : Int} (h : Urn S u B) (hp : S p = none) : u ≠ p := fun e => by
  obtain ⟨g, c, n, e2, _⟩ := h
  rw [e, hp] at e2
  cases e2
theorem Urn.up {S : Sd} {p u : Addr} {B : Int} {o : SO} (h : Urn S u B) (hne : u ≠ p) : Urn (upS S p o) u B := h.oth (fun a ha => upS_ne ha) hne
theorem Urn.del {S : Sd} {p u : Addr} {B : Int} (h : Urn S u B) (hne : u ≠ p) : Urn (del S p) u B := h.oth (fun a ha => del_ne ha) hne
theorem Oth.del {S S' : Sd} {p u : Addr} (h : ∀ a, a ≠ u → a ≠ p → S' a = S a) (hp : S p = none) : Oth S (del S' p) u := fun a ha => by
  by_cases e : a = p
  · rw [e, del_same, hp]
  · rw [del_ne e, h a ha e]
/-! ### parts -/
theorem cutD_len {xs : List D} {lo hi : Option Int} : (cutD xs lo hi).length ≤ xs.length := by
  unfold cutD
  rw [List.length_take, List.length_drop]
  omega
theorem sIx_lo {n : Nat} {i : Int} (h0 : 0 ≤ i) (h1 : i ≤ n) (b : Nat) : HT.sIx n b (some i) = i.toNat := by
  obtain ⟨k, rfl⟩ := Int.eq_ofNat_of_zero_le h0
  rw [HT.sIx_nat]
  show min k n = k
  omega
/-! ### words: a is 97, b is 98 -/
/-! ### of the functions that many laws share -/
theorem at_nat {ns : List Nat} {k : Int} (h0 : 0 ≤ k) (h1 : k < ns.length) : ∃ n : Nat, atI (ns.map fun (n : Nat) => D.int n) k = some (.int (n : Int)) ∧ n ∈ ns := by
  obtain ⟨d, ed, hd⟩ := atI_some (ds := ns.map fun (n : Nat) => D.int n) h0 (by simpa using h1)
  obtain ⟨n, hn, rfl⟩ := List.mem_map.mp hd
  exact ⟨n, ed, hn⟩
/-! ### tables -/
structure M2 where
  p : Int
  q : Int
  r : Int
  s : Int
  deriving DecidableEq
/-- sizes -/
def SzM (m : M2) (n : Nat) : Prop := m.p.natAbs < 2 ^ n ∧ m.q.natAbs < 2 ^ n ∧ m.r.natAbs < 2 ^ n ∧ m.s.natAbs < 2 ^ n
theorem SzM.mono {m : M2} {n k : Nat} (h : SzM m n) (hk : n ≤ k) : SzM m k := by
  have := Nat.pow_le_pow_right (n := 2) (by decide) hk
  exact ⟨Nat.lt_of_lt_of_le h.1 this, Nat.lt_of_lt_of_le h.2.1 this, Nat.lt_of_lt_of_le h.2.2.1 this, Nat.lt_of_lt_of_le h.2.2.2 this⟩
/-! ### == of data with itself -/
/-- may be held against others, so many deep -/
def okD_ (k : Nat) (d : D) : Bool := isData d && ((pd d).canLay0 && decide ((pd d).depth ≤ k))
theorem okD_eqOk {k : Nat} {d : D} (h : okD_ k d = true) (hk : k ≤ 64) : eqOk d = true := by
  have h1 := Bool.and_eq_true_iff.mp h
  have h2 := Bool.and_eq_true_iff.mp h1.2
  have h3 := of_decide_eq_true h2.2
  show (isData d && ((pd d).canLay0 && decide ((pd d).depth ≤ 64))) = true
  rw [h1.1, h2.1, decide_eq_true (Nat.le_trans h3 hk)]
  rfl
theorem okD_list {k : Nat} : ∀ {ds : List D}, (∀ d ∈ ds, okD_ k d = true) → isDataL ds = true ∧ PyData.canLayAll0 (pdL ds) = true ∧ PyData.depthAll (pdL ds) ≤ k
  | [], _ => ⟨rfl, rfl, Nat.zero_le _⟩
  | d :: ds, h => by
    obtain ⟨i1, i2, i3⟩ := okD_list (ds := ds) fun x hx => h x (List.mem_cons_of_mem _ hx)
    have h1 := Bool.and_eq_true_iff.mp (h d (.head _))
    have h2 := Bool.and_eq_true_iff.mp h1.2
    have h3 := of_decide_eq_true h2.2
    refine ⟨?_, ?_, ?_⟩
    · show (isData d && isDataL ds) = true
      rw [h1.1, i1]; rfl
    · show ((pd d).canLay0 && PyData.canLayAll0 (pdL ds)) = true
      rw [h2.1, i2]; rfl
    · show max (pd d).depth (PyData.depthAll (pdL ds)) ≤ k
      omega
theorem okD_tup {k : Nat} {ds : List D} (h : ∀ d ∈ ds, okD_ k d = true) : okD_ (k + 1) (.tup ds) = true := by
  obtain ⟨h1, h2, h3⟩ := okD_list h
  show (isDataL ds && (PyData.canLayAll0 (pdL ds) && decide (PyData.depthAll (pdL ds) + 1 ≤ k + 1))) = true
  rw [h1, h2, decide_eq_true (by omega)]
  rfl
theorem okD_int {k : Nat} {i : Int} : okD_ k (.int i) = true := by
  show (true && (true && decide (0 ≤ k))) = true
  rw [decide_eq_true (Nat.zero_le _)]; rfl
theorem okD_ints (ns : List Int) : okD_ 1 (.tup (ns.map D.int)) = true := okD_tup fun d hd => by
  obtain ⟨n, _, rfl⟩ := List.mem_map.mp hd
  exact okD_int
theorem okD_intsL (ns : List Int) : okD_ 1 (.lst (ns.map D.int)) = true := okD_ints ns
end Dv

namespace K75
open PySem L2 Dv Hx
abbrev wd (Ed : XKD) : WXD := fun x _ S => Ed x S
abbrev wd0 : WXD := fun _ _ _ => False
abbrev k_LEAST_SQUARE : D := .int 2
abbrev k_PARTS : D := .tup [.str "top", .str "often", .str "square", .str "bottom"]
def k_LOOKS (z : Str) : Option D := if z = "top" then some (.fn "is_whole") else if z = "often" then some (.fn "is_whole") else if z = "square" then some (.fn "is_under_root") else if z = "bottom" then some (.fn "is_bottom") else none
theorem look_top : k_LOOKS "top" = some (.fn "is_whole") := by unfold k_LOOKS; rw [if_pos rfl]
theorem look_often : k_LOOKS "often" = some (.fn "is_whole") := by unfold k_LOOKS; rw [if_neg (by decide +kernel), if_pos rfl]
theorem look_square : k_LOOKS "square" = some (.fn "is_under_root") := by unfold k_LOOKS; rw [if_neg (by decide +kernel), if_neg (by decide +kernel), if_pos rfl]
theorem look_bottom : k_LOOKS "bottom" = some (.fn "is_bottom") := by unfold k_LOOKS; rw [if_neg (by decide +kernel), if_neg (by decide +kernel), if_neg (by decide +kernel), if_pos rfl]
/-! ### squares -/
open Classical in
noncomputable def isSqB (n : Int) : Bool := decide (∃ y : Int, 0 ≤ y ∧ y * y = n)
theorem isSqB_true {n y : Int} (y0 : 0 ≤ y) (h : y * y = n) : isSqB n = true := by
  unfold isSqB
  simp only [decide_eq_true_eq]
  exact ⟨y, y0, h⟩
theorem isSqB_false {n : Int} (h : ∀ y : Int, 0 ≤ y → y * y ≠ n) : isSqB n = false := by
  unfold isSqB
  simp only [decide_eq_false_iff_not]
  exact fun ⟨y, y0, e⟩ => h y y0 e
theorem sq_between {n r : Int} (r0 : 0 ≤ r) (h1 : r * r < n) (h2 : n < (r + 1) * (r + 1)) (y : Int) (y0 : 0 ≤ y) : y * y ≠ n := fun e => by
  rcases Int.lt_or_le r y with c | c
  · have : (r + 1) * (r + 1) ≤ y * y := Int.mul_le_mul c c (by omega) (by omega)
    omega
  · have : y * y ≤ r * r := Int.mul_le_mul c c y0 r0
    omega
theorem root_ex : ∀ x : Nat, ∃ r : Nat, r * r ≤ x ∧ x < (r + 1) * (r + 1)
  | 0 => ⟨0, by decide, by decide⟩
  | x + 1 => by
    obtain ⟨r, h1, h2⟩ := root_ex x
    by_cases c : x + 1 < (r + 1) * (r + 1)
    · exact ⟨r, by omega, c⟩
    · exact ⟨r + 1, by omega, by
        have e : (r + 1 + 1) * (r + 1 + 1) = (r + 1) * (r + 1) + 2 * (r + 1) + 1 := by grind
        omega⟩
/-- Heron's step never falls below the root -/
theorem heron_le {x s r : Int} (s1 : 1 ≤ s) (r0 : 0 ≤ r) (h : r * r ≤ x) : r ≤ (s + x / s) / 2 := by
  have h1 : x / s * s ≤ x := Int.ediv_mul_le x (by omega)
  have h2 : x < (x / s + 1) * s := Int.lt_ediv_add_one_mul_self x (by omega)
  generalize x / s = q at *
  have h3 : 2 * r ≤ s + q := by
    rcases Int.lt_or_le (s + q) (2 * r) with c | c
    · exfalso
      have e1 : q + 1 ≤ 2 * r - s := by omega
      have e2 : (q + 1) * s ≤ (2 * r - s) * s := Int.mul_le_mul_of_nonneg_right e1 (by omega)
      have e3 : 0 ≤ (r - s) * (r - s) := by
        rcases Int.le_total 0 (r - s) with c | c
        · exact Int.mul_nonneg c c
        · have := Int.mul_nonneg (a := -(r - s)) (b := -(r - s)) (by omega) (by omega)
          grind
      have e4 : (2 * r - s) * s = r * r - (r - s) * (r - s) := by grind
      omega
    · exact c
  omega
theorem heron_stop {x s : Int} (s1 : 1 ≤ s) (h : s ≤ (s + x / s) / 2) : s * s ≤ x := by
  have h1 : x / s * s ≤ x := Int.ediv_mul_le x (by omega)
  generalize x / s = q at *
  have e : s ≤ q := by omega
  have : s * s ≤ q * s := Int.mul_le_mul_of_nonneg_right e (by omega)
  omega
/-! ### parts -/
noncomputable def undB : D → Bool
  | .int n => decide (2 ≤ n) && !isSqB n
  | _ => false
def botB : D → Bool
  | .int n => decide (1 ≤ n)
  | _ => false
noncomputable def badP (t o s b : D) : Option Str := if isWh t = false then some "top" else if isWh o = false then some "often" else if undB s = false then some "square" else if botB b = false then some "bottom" else none
def gR (T O B : Int) : Int := (Int.gcd (Int.gcd T O : Nat) B : Nat)
def lowD (T O q B : Int) : D := .tup [.int (T.fdiv (gR T O B)), .int (O.fdiv (gR T O B)), .int q, .int (B.fdiv (gR T O B))]
/-- four parts of a number, small enough -/
structure RtI (n : Nat) (T O q B : Int) : Prop where
  bT : T.natAbs < 2 ^ n
  bO : O.natAbs < 2 ^ n
  bq : q.natAbs < 2 ^ n
  bB : B.natAbs < 2 ^ n
  q2 : 2 ≤ q
  sq : isSqB q = false
  B1 : 1 ≤ B
abbrev ptD (T O q B : Int) : D := .tup [.int T, .int O, .int q, .int B]
theorem RtI.mono {n m : Nat} {T O q B : Int} (h : RtI n T O q B) (k : n ≤ m) : RtI m T O q B := by
  have p : (2 : Nat) ^ n ≤ 2 ^ m := Nat.pow_le_pow_right (by decide) k
  exact ⟨Nat.lt_of_lt_of_le h.bT p, Nat.lt_of_lt_of_le h.bO p, Nat.lt_of_lt_of_le h.bq p, Nat.lt_of_lt_of_le h.bB p, h.q2, h.sq, h.B1⟩
theorem two_no : isSqB 2 = false := isSqB_false (sq_between (r := 1) (by decide) (by decide) (by decide))

abbrev k_MOST_NUMBER : D := .int 999999
abbrev k_MOST_RING : D := .int 40
def ringD (L : List Int) : D := .tup (L.map D.int)
structure RowI (L : List Int) : Prop where
  el : ∀ a ∈ L, 1 ≤ a ∧ a ≤ 999999
  l0 : 1 ≤ L.length
  l1 : L.length ≤ 40
structure T4 where
  p : Int
  q : Int
  r : Int
  s : Int
def t4S (t : T4) (a : Int) : T4 := ⟨t.p * a + t.q, t.p, t.r * a + t.s, t.r⟩
def t4L (L : List Int) : T4 := L.foldl t4S ⟨1, 0, 0, 1⟩
theorem t4_snoc (L : List Int) (a : Int) : t4L (L ++ [a]) = t4S (t4L L) a := by unfold t4L; rw [List.foldl_append]; rfl
structure T4I (t : T4) (n : Nat) : Prop where
  p0 : 0 ≤ t.p
  q0 : 0 ≤ t.q
  r0 : 0 ≤ t.r
  s0 : 0 ≤ t.s
  rs : 1 ≤ t.r + t.s
  p1 : t.p ≤ 2 ^ (20 * n)
  q1 : t.q ≤ 2 ^ (20 * n)
  r1 : t.r ≤ 2 ^ (20 * n)
  s1 : t.s ≤ 2 ^ (20 * n)
theorem t4_up {m x y a : Int} (hx : 0 ≤ x) (x1 : x ≤ m) (y1 : y ≤ m) (ha : 1 ≤ a ∧ a ≤ 999999) : x * a + y ≤ m * 1048576 ∧ x ≤ x * a := by
  have h1 : x * a ≤ x * 999999 := Int.mul_le_mul_of_nonneg_left ha.2 hx
  have h2 : x * 1 ≤ x * a := Int.mul_le_mul_of_nonneg_left ha.1 hx
  omega
theorem T4I.step {t : T4} {n : Nat} (I : T4I t n) {a : Int} (ha : 1 ≤ a ∧ a ≤ 999999) : T4I (t4S t a) (n + 1) := by
  have e : (2 : Int) ^ (20 * (n + 1)) = 2 ^ (20 * n) * 1048576 := by rw [Nat.mul_succ, Int.pow_add]; rfl
  obtain ⟨p0, q0, r0, s0, rs, p1, q1, r1, s1⟩ := I
  have hp := t4_up p0 p1 q1 ha
  have hr := t4_up r0 r1 s1 ha
  generalize (2 : Int) ^ (20 * n) = m at *
  refine ⟨?_, ?_, ?_, ?_, ?_, ?_, ?_, ?_, ?_⟩ <;> (try rw [e]) <;> show _ ≤ _ <;> unfold t4S <;> simp only <;> omega
theorem t4_all {L : List Int} (h : ∀ a ∈ L, 1 ≤ a ∧ a ≤ 999999) : T4I (t4L L) L.length := by
  have go : ∀ (L : List Int) (t : T4) (n : Nat), T4I t n → (∀ a ∈ L, 1 ≤ a ∧ a ≤ 999999) → T4I (L.foldl t4S t) (n + L.length) := by
    intro L
    induction L with
    | nil => exact fun _ _ h _ => h
    | cons a L ih =>
      intro t n I h
      have := ih (t4S t a) (n + 1) (I.step (h a (by simp))) fun b hb => h b (List.mem_cons_of_mem _ hb)
      rw [List.length_cons, show n + (L.length + 1) = n + 1 + L.length by omega]
      exact this
  have := go L ⟨1, 0, 0, 1⟩ 0 ⟨by decide, by decide, by decide, by decide, by decide, by decide, by decide, by decide, by decide⟩ h
  rw [Nat.zero_add] at this
  exact this
theorem t4_r {L : List Int} (R : RowI L) : 1 ≤ (t4L L).r := by
  obtain ⟨M, a, rfl⟩ : ∃ M a, L = M ++ [a] := by
    have h0 := R.l0
    have hne : L ≠ [] := fun e => by rw [e] at h0; exact absurd h0 (by decide)
    exact ⟨L.dropLast, L.getLast hne, (List.dropLast_concat_getLast hne).symm⟩
  rw [t4_snoc]
  have I := t4_all (L := M) fun b hb => R.el b (List.mem_append_left _ hb)
  have ha := R.el a (by simp)
  have h2 : (t4L M).r * 1 ≤ (t4L M).r * a := Int.mul_le_mul_of_nonneg_left ha.1 I.r0
  have := I.rs
  show 1 ≤ (t4L M).r * a + (t4L M).s
  omega
theorem t4_abs {L : List Int} (h : ∀ a ∈ L, 1 ≤ a ∧ a ≤ 999999) (hl : L.length ≤ 40) : (t4L L).p.natAbs < 2 ^ 801 ∧ (t4L L).q.natAbs < 2 ^ 801 ∧ (t4L L).r.natAbs < 2 ^ 801 ∧ (t4L L).s.natAbs < 2 ^ 801 := by
  have I := t4_all h
  have e : (2 : Int) ^ (20 * L.length) ≤ 2 ^ 800 := by exact_mod_cast Nat.pow_le_pow_right (by decide : 0 < 2) (by omega : 20 * L.length ≤ 800)
  have e2 : (2 : Int) ^ 800 < 2 ^ 801 := by decide +kernel
  have k : ∀ {x : Int}, 0 ≤ x → x ≤ 2 ^ (20 * L.length) → x.natAbs < 2 ^ 801 := fun h0 h1 => abs_lt_of h0 (Int.lt_of_le_of_lt (Int.le_trans h1 e) e2)
  exact ⟨k I.p0 I.p1, k I.q0 I.q1, k I.r0 I.r1, k I.s0 I.s1⟩
def upN (t : T4) : Int := (t.p - t.s) * (t.p - t.s) + 4 * t.q * t.r
def loN (t : T4) : Int := t.r * t.r
def inD : D → Bool
  | .int a => decide (1 ≤ a ∧ a ≤ 999999)
  | _ => false
def isRingD : D → Bool
  | .tup xs => decide (1 ≤ xs.length ∧ xs.length ≤ 40) && xs.all inD
  | _ => false
theorem ring_is {L : List Int} (R : RowI L) : isRingD (ringD L) = true := by
  unfold isRingD ringD
  simp only [List.length_map, Bool.and_eq_true, decide_eq_true_eq, List.all_eq_true, List.mem_map]
  exact ⟨⟨R.l0, R.l1⟩, fun d ⟨a, ha, e⟩ => by rw [← e]; exact decide_eq_true (R.el a ha)⟩
theorem cutD_from {xs : List D} {i : Nat} (h : i ≤ xs.length) : cutD xs (some (i : Int)) none = xs.drop i := by
  unfold cutD
  rw [sIx_lo (by omega) (by omega)]
  show (xs.drop i).take (xs.length - i) = _
  rw [← List.length_drop, List.take_length]
theorem cutD_to {xs : List D} {i : Nat} (h : i ≤ xs.length) : cutD xs none (some (i : Int)) = xs.take i := by
  unfold cutD
  rw [sIx_lo (by omega) (by omega)]
  show (xs.drop 0).take (i - 0) = _
  rw [List.drop_zero, Nat.sub_zero]
theorem up_abs {L : List Int} (R : RowI L) : 1 ≤ loN (t4L L) ∧ (upN (t4L L)).natAbs < 2 ^ 1700 ∧ (loN (t4L L)).natAbs < 2 ^ 1700 := by
  obtain ⟨hp, hq, hr, hs⟩ := t4_abs R.el R.l1
  have r1 := t4_r R
  have I := t4_all R.el
  have a1 : ((t4L L).p - (t4L L).s).natAbs < 2 ^ 801 := by have := I.p0; have := I.s0; omega
  have a2 := wide_lt a1 a1
  have a3 : (4 * (t4L L).q).natAbs < 2 ^ (3 + 801) := wide_lt (by decide) hq
  have a4 := wide_lt a3 hr
  have a5 := wide_lt hr hr
  have e1 : (2 : Nat) ^ (801 + 801) ≤ 2 ^ 1605 := Nat.pow_le_pow_right (by decide) (by decide)
  have e2 : (2 : Nat) ^ (3 + 801 + 801) ≤ 2 ^ 1605 := Nat.pow_le_pow_right (by decide) (by decide)
  have e3 : (2 : Nat) ^ 1606 = 2 * 2 ^ 1605 := by rw [show 1606 = 1 + 1605 from rfl, Nat.pow_add]
  have e4 : (2 : Nat) ^ 1606 ≤ 2 ^ 1700 := Nat.pow_le_pow_right (by decide) (by decide)
  unfold upN loN
  refine ⟨?_, by omega, by omega⟩
  have : 1 * 1 ≤ (t4L L).r * (t4L L).r := Int.mul_le_mul r1 r1 (by decide) (by omega)
  omega
/-! the tables of rings, turned, told often, turned about -/
def t4M (x y : T4) : T4 := ⟨x.p * y.p + x.q * y.r, x.p * y.q + x.q * y.s, x.r * y.p + x.s * y.r, x.r * y.q + x.s * y.s⟩
def t4T (x : T4) : T4 := ⟨x.p, x.r, x.q, x.s⟩
theorem t4_fold (Y : List Int) : ∀ x : T4, Y.foldl t4S x = t4M x (t4L Y) := by
  induction Y with
  | nil => intro x; show x = _; unfold t4M t4L; simp
  | cons a Y ih =>
    intro x
    rw [List.foldl_cons, ih]
    have e : t4L (a :: Y) = t4M (t4S ⟨1, 0, 0, 1⟩ a) (t4L Y) := by unfold t4L; rw [List.foldl_cons]; exact ih _
    rw [e]
    unfold t4M t4S
    simp only [T4.mk.injEq]
    refine ⟨?_, ?_, ?_, ?_⟩ <;> grind
theorem t4_app (X Y : List Int) : t4L (X ++ Y) = t4M (t4L X) (t4L Y) := by
  rw [← t4_fold]
  unfold t4L
  rw [List.foldl_append]
theorem t4_one (a : Int) : t4L [a] = ⟨a, 1, 1, 0⟩ := by unfold t4L t4S; simp
theorem t4_rev (X : List Int) : t4L X.reverse = t4T (t4L X) := by
  induction X with
  | nil => rfl
  | cons a X ih =>
    rw [List.reverse_cons, t4_app, ih, show a :: X = [a] ++ X from rfl, t4_app, t4_one]
    unfold t4M t4T
    simp only [T4.mk.injEq]
    refine ⟨?_, ?_, ?_, ?_⟩ <;> grind
def trT (x : T4) : Int := x.p + x.s
def dtT (x : T4) : Int := x.p * x.s - x.q * x.r
theorem up_tr (x : T4) : upN x = trT x * trT x - 4 * dtT x := by unfold upN trT dtT; grind
theorem dt_mul (x y : T4) : dtT (t4M x y) = dtT x * dtT y := by unfold dtT t4M; grind
theorem dt_L (X : List Int) : dtT (t4L X) = (-1) ^ X.length := by
  induction X with
  | nil => rfl
  | cons a X ih =>
    rw [show a :: X = [a] ++ X from rfl, t4_app, dt_mul, ih, t4_one, List.length_append, List.length_singleton, Int.pow_add]
    show (a * 0 - 1 * 1) * _ = _
    rw [show a * 0 - 1 * 1 = -1 by omega]
    rfl
theorem up_rev (L : List Int) : upN (t4L L.reverse) = upN (t4L L) := by
  rw [t4_rev]
  unfold upN t4T
  dsimp only
  grind
/-- numbers of a table -/
structure Tb (t : T4) (n : Nat) : Prop where
  p0 : 1 ≤ t.p
  q0 : 0 ≤ t.q
  r0 : 0 ≤ t.r
  s0 : 0 ≤ t.s
  big : 2 ≤ n → 2 ≤ t.p ∧ 1 ≤ t.s
  one : 1 ≤ n → 1 ≤ t.r ∧ 1 ≤ t.q
theorem tb_all {L : List Int} (h : ∀ a ∈ L, 1 ≤ a ∧ a ≤ 999999) : Tb (t4L L) L.length := by
  have go : ∀ (L : List Int) (t : T4) (n : Nat), Tb t n → (0 < n ∨ (t.r = 0 ∧ t.s = 1)) → (∀ a ∈ L, 1 ≤ a ∧ a ≤ 999999) → Tb (L.foldl t4S t) (n + L.length) := by
    intro L
    induction L with
    | nil => exact fun _ _ h _ _ => h
    | cons a L ih =>
      intro t n I c h
      have ha := (h a (by simp)).1
      obtain ⟨p0, q0, r0, s0, big, one⟩ := I
      have h1 : t.p * 1 ≤ t.p * a := Int.mul_le_mul_of_nonneg_left ha (by omega)
      have h2 : t.r * 1 ≤ t.r * a := Int.mul_le_mul_of_nonneg_left ha (by omega)
      have st : Tb (t4S t a) (n + 1) := by
        unfold t4S
        refine ⟨by dsimp only; omega, by dsimp only; omega, by dsimp only; omega, by dsimp only; omega, fun hn => ?_, fun _ => ?_⟩
        · have := one (by omega)
          dsimp only
          omega
        · dsimp only
          rcases c with c | c
          · have := one (by omega)
            omega
          · omega
      have := ih (t4S t a) (n + 1) st (.inl (by omega)) fun b hb => h b (List.mem_cons_of_mem _ hb)
      rw [List.length_cons, show n + (L.length + 1) = n + 1 + L.length by omega]
      exact this
  have := go L ⟨1, 0, 0, 1⟩ 0 ⟨by decide, by decide, by decide, by decide, fun h => absurd h (by decide), fun h => absurd h (by decide)⟩ (.inr ⟨rfl, rfl⟩) h
  rw [Nat.zero_add] at this
  exact this
theorem neg_pow (n : Nat) : ((-1 : Int) ^ n = 1 ∧ n % 2 = 0) ∨ ((-1 : Int) ^ n = -1 ∧ n % 2 = 1) := by
  induction n with
  | zero => exact .inl ⟨rfl, rfl⟩
  | succ n ih =>
    rw [Int.pow_succ]
    rcases ih with ⟨e, h⟩ | ⟨e, h⟩
    · exact .inr ⟨by rw [e]; rfl, by omega⟩
    · exact .inl ⟨by rw [e]; rfl, by omega⟩
/-- what lies between two squares is none -/
theorem no_sq {t y : Int} (t0 : 0 ≤ t) (h : t * t < y * y) (g : y * y < (t + 1) * (t + 1)) : False := by
  have key : ∀ y : Int, 0 ≤ y → t * t < y * y → y * y < (t + 1) * (t + 1) → False := fun y y0 h g => by
    rcases Int.lt_or_le t y with c | c
    · have : (t + 1) * (t + 1) ≤ y * y := Int.mul_le_mul c c (by omega) (by omega)
      omega
    · have : y * y ≤ t * t := Int.mul_le_mul c c (by omega) (by omega)
      omega
  rcases Int.le_total 0 y with c | c
  · exact key y c h g
  · exact key (-y) (by omega) (by rw [Int.neg_mul_neg]; exact h) (by rw [Int.neg_mul_neg]; exact g)
theorem up_pos {L : List Int} (R : RowI L) : 1 ≤ upN (t4L L) ∧ ∀ y : Int, y * y ≠ upN (t4L L) := by
  have T := tb_all R.el
  have l0 := R.l0
  have o := T.one l0
  have p0 := T.p0
  have s0 := T.s0
  have e : upN (t4L L) = trT (t4L L) * trT (t4L L) - 4 * (-1) ^ L.length := by rw [up_tr, dt_L]
  have ht : trT (t4L L) = (t4L L).p + (t4L L).s := rfl
  generalize trT (t4L L) = t at *
  rcases neg_pow L.length with ⟨e1, hn⟩ | ⟨e1, hn⟩
  · have big := T.big (by omega)
    have t3 : 3 ≤ t := by omega
    have h9 : 3 * t ≤ t * t := Int.mul_le_mul_of_nonneg_right t3 (by omega)
    have e2 : (t - 1) * (t - 1) = t * t - 2 * t + 1 := by grind
    rw [e1] at e
    refine ⟨by omega, fun y hy => no_sq (t := t - 1) (y := y) (by omega) ?_ ?_⟩
    · rw [e2, hy]; omega
    · rw [hy, show t - 1 + 1 = t by omega]; omega
  · have t1 : 1 ≤ t := by omega
    have h1 : 1 * t ≤ t * t := Int.mul_le_mul_of_nonneg_right t1 (by omega)
    rw [e1] at e
    refine ⟨by omega, fun y hy => ?_⟩
    have e2 : (t + 1) * (t + 1) = t * t + 2 * t + 1 := by grind
    have e3 : (t + 1 + 1) * (t + 1 + 1) = t * t + 4 * t + 4 := by grind
    by_cases c : 2 ≤ t
    · exact no_sq (t := t) (y := y) (by omega) (by omega) (by omega)
    · have : t = 1 := by omega
      subst this
      exact no_sq (t := 2) (y := y) (by decide) (by omega) (by omega)
theorem RowI.rev {L : List Int} (R : RowI L) : RowI L.reverse := ⟨fun a h => R.el a (List.mem_reverse.mp h), by rw [List.length_reverse]; exact R.l0, by rw [List.length_reverse]; exact R.l1⟩
abbrev k_MOST_AHEAD : D := .int 20
/-! ### the shortest beginning that makes a row; stairs by the fewest numbers -/
def told (P : List Int) (m : Nat) : List Int := (List.replicate m P).flatten
theorem told_D (L : List Int) (m : Nat) : (List.replicate m (L.map D.int)).flatten = (told L m).map D.int := by
  unfold told
  rw [List.map_flatten, List.map_replicate]
theorem cutD_ring (L : List Int) {s : Nat} (h : s ≤ L.length) : cutD (L.map D.int) none (some (s : Int)) = (L.take s).map D.int := by
  rw [cutD_to (by rw [List.length_map]; exact h), List.map_take]
theorem deqL_ringE : ∀ {ns ms : List Int}, deqL (ns.map D.int) (ms.map D.int) = decide (ns = ms)
  | [], [] => by simp [deqL]
  | [], _ :: _ => by simp [deqL]
  | _ :: _, [] => by simp [deqL]
  | n :: ns, m :: ms => by
    show ((n == m) && deqL (ns.map D.int) (ms.map D.int)) = _
    rw [deqL_ringE, Bool.eq_iff_iff]
    simp
def sizeOk (L : List Int) (s : Nat) : Bool := decide (L.length % s = 0) && decide (told (L.take s) (L.length / s) = L)
/-- what the search from 1 on finds -/
def shS (L : List Int) : List Int := match (List.range (L.length - 1)).find? fun i => sizeOk L (i + 1) with
  | some i => L.take (i + 1)
  | none => L
theorem shS_first {L : List Int} {i : Nat} (h : i < L.length - 1) (hno : ∀ j, j < i → sizeOk L (j + 1) = false) (ho : sizeOk L (i + 1) = true) : shS L = L.take (i + 1) := by
  unfold shS
  have e : (List.range (L.length - 1)).find? (fun i => sizeOk L (i + 1)) = some i := by
    rw [List.find?_eq_some_iff_append]
    refine ⟨ho, List.range i, (List.range (L.length - 1 - (i + 1))).map (fun k => i + 1 + k), ?_, fun a ha => ?_⟩
    · conv => lhs; rw [show L.length - 1 = i + 1 + (L.length - 1 - (i + 1)) by omega, List.range_add, List.range_succ]
      simp
    · rw [hno a (List.mem_range.mp ha)]; rfl
  rw [e]
theorem shS_none {L : List Int} (hno : ∀ j, j < L.length - 1 → sizeOk L (j + 1) = false) : shS L = L := by
  unfold shS
  have e : (List.range (L.length - 1)).find? (fun i => sizeOk L (i + 1)) = none := by
    rw [List.find?_eq_none]
    intro a ha h
    exact absurd (h.symm.trans (hno a (List.mem_range.mp ha))) (by decide)
  rw [e]
theorem told_one (L : List Int) : told L 1 = L := by unfold told; simp
theorem size_self {L : List Int} (h : 1 ≤ L.length) : sizeOk L L.length = true := by
  unfold sizeOk
  rw [Nat.mod_self, Nat.div_self h, List.take_length, told_one]
  simp
/-- the least size -/
theorem shS_char {L : List Int} (h : 1 ≤ L.length) : ∃ s, 1 ≤ s ∧ s ≤ L.length ∧ sizeOk L s = true ∧ (∀ r, 1 ≤ r → r < s → sizeOk L r = false) ∧ shS L = L.take s := by
  by_cases c : ∃ i, i < L.length - 1 ∧ sizeOk L (i + 1) = true
  · obtain ⟨i, h1, h2, h3⟩ : ∃ i, i < L.length - 1 ∧ sizeOk L (i + 1) = true ∧ ∀ j, j < i → sizeOk L (j + 1) = false := by
      obtain ⟨i, h1, h2⟩ := c
      induction i using Nat.strongRecOn with
      | _ i ih =>
        by_cases e : ∃ j, j < i ∧ sizeOk L (j + 1) = true
        · obtain ⟨j, j1, j2⟩ := e
          exact ih j j1 (by omega) j2
        · exact ⟨i, h1, h2, fun j hj => by
            cases z : sizeOk L (j + 1) with
            | true => exact absurd ⟨j, hj, z⟩ e
            | false => rfl⟩
    exact ⟨i + 1, by omega, by omega, h2, fun r r1 r2 => by
      have := h3 (r - 1) (by omega)
      rwa [show r - 1 + 1 = r by omega] at this, shS_first h1 h3 h2⟩
  · have hno : ∀ j, j < L.length - 1 → sizeOk L (j + 1) = false := fun j hj => by
      cases z : sizeOk L (j + 1) with
      | true => exact absurd ⟨j, hj, z⟩ c
      | false => rfl
    refine ⟨L.length, h, Nat.le_refl _, size_self h, fun r r1 r2 => ?_, ?_⟩
    · have := hno (r - 1) (by omega)
      rwa [show r - 1 + 1 = r by omega] at this
    · rw [shS_none hno, List.take_length]
theorem shS_len {L : List Int} (h : 1 ≤ L.length) : 1 ≤ (shS L).length ∧ (shS L).length ≤ L.length := by
  obtain ⟨s, h1, h2, _, _, e⟩ := shS_char h
  rw [e, List.length_take]
  omega
/-- the last number comes to the front -/
def rotB (R : List Int) : List Int := R.drop (R.length - 1) ++ R.take (R.length - 1)
theorem rotB_len (R : List Int) : (rotB R).length = R.length := by unfold rotB; rw [List.length_append, List.length_drop, List.length_take]; omega
def fwR : List Int → List Int → List Int × List Int
  | [], R => ([], R)
  | a :: A, R => if R.getLast? = some a then fwR A (rotB R) else ((a :: A).reverse, R)
/-- ahead and ring by the fewest numbers -/
def fewest (A R : List Int) : List Int × List Int := fwR A.reverse (shS R)
/-- one round of the loop -/
theorem fwR_last {A R : List Int} {x : Int} (h : R.getLast? = some x) : fwR (A ++ [x]).reverse R = fwR A.reverse (rotB R) := by
  rw [List.reverse_append, List.reverse_singleton, List.singleton_append]
  show (if R.getLast? = some x then _ else _) = _
  rw [if_pos h]
theorem fwR_stop {A R : List Int} {x : Int} (h : R.getLast? ≠ some x) : fwR (A ++ [x]).reverse R = (A ++ [x], R) := by
  rw [List.reverse_append, List.reverse_singleton, List.singleton_append]
  show (if R.getLast? = some x then _ else _) = _
  rw [if_neg h, List.reverse_cons, List.reverse_reverse]
theorem last_at {R : List Int} {x : Int} : atI ((R ++ [x]).map D.int) (-1) = some (.int x) := by
  rw [List.map_append, List.map_singleton]
  generalize List.map D.int R = l
  unfold atI ixN
  rw [if_neg (by decide), List.length_append, List.length_singleton, if_pos (by omega)]
  have e : ((-1 : Int) + ((l.length + 1 : Nat) : Int)).toNat = l.length := by omega
  show (l ++ [D.int x])[((-1 : Int) + ((l.length + 1 : Nat) : Int)).toNat]? = _
  rw [e]
  simp
theorem cut_last {A : List Int} {x : Int} : cutD ((A ++ [x]).map D.int) none (some (-1)) = A.map D.int := by
  unfold cutD
  have e1 : HT.sIx ((A ++ [x]).map D.int).length ((A ++ [x]).map D.int).length (some (-1)) = A.length := by
    unfold HT.sIx
    simp
    try omega
  rw [e1, HT.sIx_none]
  simp
theorem cut_from_last {A : List Int} {x : Int} : cutD ((A ++ [x]).map D.int) (some (-1)) none = [.int x] := by
  unfold cutD
  have e1 : HT.sIx ((A ++ [x]).map D.int).length 0 (some (-1)) = A.length := by
    unfold HT.sIx
    simp
    try omega
  rw [e1, HT.sIx_none]
  simp
theorem split_last {R : List Int} (h : 1 ≤ R.length) : ∃ B x, R = B ++ [x] := by
  have hne : R ≠ [] := fun e => by rw [e] at h; exact absurd h (by decide)
  exact ⟨R.dropLast, R.getLast hne, (List.dropLast_concat_getLast hne).symm⟩
theorem rotB_last (B : List Int) (x : Int) : rotB (B ++ [x]) = x :: B := by
  unfold rotB
  rw [List.length_append, List.length_singleton, Nat.add_sub_cancel, List.drop_left, List.take_left]
  rfl

/-! ### a comprehension whose calls want the store to stand -/
/-- what is walked over is drawn -/
theorem comp_draw {ti : TID} {g : TGD} {tt : TTD} {te : TED} {vs : List Nat} {σ : Si} {S : Sd} {Q : DK} (h : ti σ S fun xs S1 => dComp (fun _ _ R => R xs S1) g tt te vs σ S1 Q) : dComp ti g tt te vs σ S Q := h
/-! ### what stands behind two statements -/
theorem ifs_step {c : TTD} {A B R : TSD} {E : EndsD} {σ : Si} {S : Sd} (h : ∀ a : TSD, a = A → dSeq (dIfS c a B) R E σ S) : dSeq (dIfS c A B) R E σ S := h A rfl
/-! ### comprehensions with a test, without a trace -/
/-! ### signs -/
def abI (x : Int) : Int := if x < 0 then -x else x
def sgI (x : Int) : Int := (if 0 < x then 1 else 0) - (if x < 0 then 1 else 0)
def rtF (T O q : Int) : Int := T * abI T + q * O * abI O
theorem sg_mul {g x : Int} (h : 0 < g) : sgI (g * x) = sgI x := by
  unfold sgI
  rcases Int.lt_trichotomy x 0 with c | c | c
  · have := Int.mul_neg_of_pos_of_neg h c
    rw [if_neg (show ¬ 0 < g * x by omega), if_pos this, if_neg (show ¬ 0 < x by omega), if_pos c]
  · subst c; rw [Int.mul_zero]
  · have := Int.mul_pos h c
    rw [if_pos this, if_pos c, if_neg (show ¬ g * x < 0 by omega), if_neg (show ¬ x < 0 by omega)]
theorem ab_mul {g x : Int} (h : 0 < g) : abI (g * x) = g * abI x := by
  unfold abI
  rcases Int.lt_or_le x 0 with c | c
  · have := Int.mul_neg_of_pos_of_neg h c
    rw [if_pos this, if_pos c, Int.mul_neg]
  · have := Int.mul_nonneg (Int.le_of_lt h) c
    rw [if_neg (by omega), if_neg (by omega)]
theorem rtF_mul {g T O q : Int} (h : 0 < g) : rtF (g * T) (g * O) q = g * g * rtF T O q := by
  unfold rtF
  rw [ab_mul h, ab_mul h]
  grind
theorem sg_rt {g T O q : Int} (h : 0 < g) : sgI (rtF (g * T) (g * O) q) = sgI (rtF T O q) := by
  rw [rtF_mul h, sg_mul (Int.mul_pos h h)]
theorem no_root {x O q : Int} (h : isSqB q = false) (hO : O ≠ 0) : x * x ≠ O * O * q := fun e => by
  have d : O ∣ x := by
    have : O ^ 2 ∣ x ^ 2 := ⟨q, by grind⟩
    exact (Int.pow_dvd_pow_iff (by decide)).mp this
  obtain ⟨k, rfl⟩ := d
  have e2 : (O * O) * (k * k) = (O * O) * q := by grind
  have e3 := Int.eq_of_mul_eq_mul_left (Int.mul_ne_zero hO hO) e2
  rcases Int.le_total 0 k with c | c
  · rw [isSqB_true c e3] at h; cases h
  · rw [isSqB_true (y := -k) (by omega) (by rw [Int.neg_mul_neg]; exact e3)] at h; cases h
def sdR (O r : Int) : Int := if O < 0 then -1 - r else r
/-! ### the sign of a sum of two roots -/
def s2I (u f q s p : Int) : Int := if 0 ≤ sgI (rtF u f q) * sgI s then sgI (sgI (rtF u f q) + sgI s) else sgI (rtF u f q) * sgI (rtF (u * u + f * f * q - s * s * p) (2 * u * f) q)
theorem ab_sg (x : Int) : x * abI x = sgI x * (x * x) := by
  unfold abI sgI
  rcases Int.lt_trichotomy x 0 with c | c | c
  · rw [if_pos c, if_neg (by omega), if_pos c]; grind
  · subst c; simp
  · rw [if_neg (by omega), if_pos c, if_neg (by omega)]; grind
theorem rtF_sq (u f q : Int) : rtF u f q = sgI u * (u * u) + sgI f * (f * f * q) := by
  unfold rtF
  have e : q * f * abI f = q * (f * abI f) := by grind
  rw [e, ab_sg, ab_sg]
  grind
theorem sg_mul2 (x y : Int) : sgI (x * y) = sgI x * sgI y := by
  rcases Int.lt_trichotomy x 0 with c | c | c <;> rcases Int.lt_trichotomy y 0 with d | d | d
  · have := Int.mul_pos_of_neg_of_neg c d
    unfold sgI; rw [if_pos this, if_neg (by omega), if_neg (by omega), if_pos c, if_neg (by omega), if_pos d]; decide
  · subst d; simp [sgI]
  · have := Int.mul_neg_of_neg_of_pos c d
    unfold sgI; rw [if_neg (by omega), if_pos this, if_neg (by omega), if_pos c, if_pos d, if_neg (by omega)]; decide
  · subst c; simp [sgI]
  · subst c; simp [sgI]
  · subst c; simp [sgI]
  · have := Int.mul_neg_of_pos_of_neg c d
    unfold sgI; rw [if_neg (by omega), if_pos this, if_pos c, if_neg (by omega), if_neg (by omega), if_pos d]; decide
  · subst d; simp [sgI]
  · have := Int.mul_pos c d
    unfold sgI; rw [if_pos this, if_neg (by omega), if_pos c, if_neg (by omega), if_pos d, if_neg (by omega)]; decide
theorem sg_tri (x : Int) : (x < 0 ∧ sgI x = -1) ∨ (x = 0 ∧ sgI x = 0) ∨ (0 < x ∧ sgI x = 1) := by
  unfold sgI
  rcases Int.lt_trichotomy x 0 with c | c | c
  · exact .inl ⟨c, by rw [if_neg (by omega), if_pos c]; rfl⟩
  · exact .inr (.inl ⟨c, by subst c; rfl⟩)
  · exact .inr (.inr ⟨c, by rw [if_pos c, if_neg (by omega)]; rfl⟩)
theorem sg_one {x : Int} (h : 0 < x) : sgI x = 1 := by rcases sg_tri x with c | c | c <;> omega
theorem sg_mone {x : Int} (h : x < 0) : sgI x = -1 := by rcases sg_tri x with c | c | c <;> omega
theorem sg_opp (x : Int) : sgI (-x) = -sgI x := by rcases sg_tri x with c | c | c <;> rcases sg_tri (-x) with d | d | d <;> omega
theorem sq_lt' {x y : Int} (h0 : 0 ≤ x) (h : x < y) : x * x < y * y := by
  have := Int.mul_le_mul_of_nonneg_left (Int.le_of_lt h) h0
  have := Int.mul_lt_mul_of_pos_right h (show 0 < y by omega)
  omega
/-- the sign of a√P + b√Q + c√R, by squares, the root of R set apart -/
def TT (a P b Q c R : Int) : Int := if 0 ≤ sgI (a * P + b * Q) * c then sgI (sgI (a * P + b * Q) + c) else sgI (a * P + b * Q) * sgI (sgI (P + Q - R) * ((P + Q - R) * (P + Q - R)) + a * b * (4 * (P * Q)))
def Sg (a P : Int) : Prop := a = -1 ∧ 0 < P ∨ a = 0 ∧ P = 0 ∨ a = 1 ∧ 0 < P
theorem sgsq (x : Int) : 0 ≤ x * x := by
  rcases Int.le_total 0 x with c | c
  · exact Int.mul_nonneg c c
  · have := Int.mul_nonneg (a := -x) (b := -x) (by omega) (by omega)
    rw [Int.neg_mul_neg] at this
    exact this
theorem sgsg (x : Int) : sgI (sgI x) = sgI x := by rcases sg_tri x with ⟨_, e⟩ | ⟨_, e⟩ | ⟨_, e⟩ <;> rw [e] <;> rfl
theorem sg_mulp {g x : Int} (h : 0 < g) : sgI (g * x) = sgI x := by
  rcases sg_tri x with ⟨c, e⟩ | ⟨c, e⟩ | ⟨c, e⟩
  · rw [e]; exact sg_mone (Int.mul_neg_of_pos_of_neg h c)
  · subst c; rw [Int.mul_zero]
  · rw [e]; exact sg_one (Int.mul_pos h c)
theorem sg_sqs (x : Int) : sgI (sgI x * (x * x)) = sgI x := by
  rcases sg_tri x with ⟨c, e⟩ | ⟨c, e⟩ | ⟨c, e⟩ <;> rw [e]
  · exact sg_mone (by have := Int.mul_pos_of_neg_of_neg c c; omega)
  · subst c; rfl
  · exact sg_one (by have := Int.mul_pos c c; omega)
theorem TT_mul {k a P b Q c R : Int} (h : 0 < k) : TT a (k * P) b (k * Q) c (k * R) = TT a P b Q c R := by
  unfold TT
  have e1 : a * (k * P) + b * (k * Q) = k * (a * P + b * Q) := by grind
  have e2 : k * P + k * Q - k * R = k * (P + Q - R) := by grind
  have e3 : sgI (P + Q - R) * (k * (P + Q - R) * (k * (P + Q - R))) + a * b * (4 * (k * P * (k * Q))) = k * k * (sgI (P + Q - R) * ((P + Q - R) * (P + Q - R)) + a * b * (4 * (P * Q))) := by grind
  rw [e1, e2, sg_mulp h, sg_mulp h, e3, sg_mulp (Int.mul_pos h h)]
theorem Sg_sq (x : Int) : Sg (sgI x) (x * x) := by
  rcases sg_tri x with ⟨c, e⟩ | ⟨c, e⟩ | ⟨c, e⟩
  · exact .inl ⟨e, Int.mul_pos_of_neg_of_neg c c⟩
  · exact .inr (.inl ⟨e, by subst c; rfl⟩)
  · exact .inr (.inr ⟨e, Int.mul_pos c c⟩)
theorem Sg_rt {x q : Int} (h : 0 < q) : Sg (sgI x) (x * x * q) := by
  rcases Sg_sq x with ⟨e, c⟩ | ⟨e, c⟩ | ⟨e, c⟩
  · exact .inl ⟨e, Int.mul_pos c h⟩
  · exact .inr (.inl ⟨e, by rw [c, Int.zero_mul]⟩)
  · exact .inr (.inr ⟨e, Int.mul_pos c h⟩)
theorem s2_TT (u f q s p : Int) : s2I u f q s p = TT (sgI u) (u * u) (sgI f) (f * f * q) (sgI s) (s * s * p) := by
  unfold s2I TT
  rw [rtF_sq u f q, rtF_sq (u * u + f * f * q - s * s * p)]
  have e1 : sgI (2 * u * f) = sgI u * sgI f := by rw [sg_mul2, sg_mul2, show sgI 2 = 1 from rfl, Int.one_mul]
  have e2 : 2 * u * f * (2 * u * f) * q = 4 * (u * u * (f * f * q)) := by grind
  rw [e1, e2]
/-- the sum of a whole number's square and a root's is no square -/
theorem rt_zero {u f q : Int} (q2 : 2 ≤ q) (hq : isSqB q = false) (h : sgI (rtF u f q) = 0) : u = 0 ∧ f = 0 := by
  have hn : f ≠ 0 → u * u ≠ f * f * q := no_root hq
  rw [rtF_sq] at h
  have z : sgI u * (u * u) + sgI f * (f * f * q) = 0 := by
    rcases sg_tri (sgI u * (u * u) + sgI f * (f * f * q)) with ⟨c, e⟩ | ⟨c, e⟩ | ⟨c, e⟩ <;> omega
  clear h
  have hu := Sg_sq u
  have hf := Sg_rt (x := f) (show 0 < q by omega)
  have f0 : f * f * q = 0 → f = 0 := fun e => by
    rcases Int.mul_eq_zero.mp e with e | e
    · rcases Int.mul_eq_zero.mp e with e | e <;> exact e
    · omega
  have q0 : f = 0 → f * f * q = 0 := fun e => by rw [e]; simp
  have u0 : u * u = 0 → u = 0 := fun e => by rcases Int.mul_eq_zero.mp e with e | e <;> exact e
  generalize sgI u = a at *
  generalize sgI f = b at *
  generalize u * u = P at *
  generalize f * f * q = Q at *
  rcases hu with ⟨rfl, hp⟩ | ⟨rfl, hp⟩ | ⟨rfl, hp⟩ <;> rcases hf with ⟨rfl, hr⟩ | ⟨rfl, hr⟩ | ⟨rfl, hr⟩
  · omega
  · omega
  · by_cases c : f = 0
    · have := q0 c
      omega
    · have := hn c
      omega
  · omega
  · exact ⟨u0 hp, f0 hr⟩
  · omega
  · by_cases c : f = 0
    · have := q0 c
      omega
    · have := hn c
      omega
  · omega
  · omega

theorem sg_val (x : Int) : sgI x = -1 ∨ sgI x = 0 ∨ sgI x = 1 := by rcases sg_tri x with ⟨_, e⟩ | ⟨_, e⟩ | ⟨_, e⟩ <;> simp [e]
/-! ### numbers reckoned with -/
abbrev rtD (T O q B : Int) : D := .inst "Root" ["held"] [ptD T O q B]
/-- another number's parts by a square of both -/
inductive Seen (T O q B T2 O2 q2 B2 : Int) : Int → Int → Int → Int → Prop
  | whole (h : O2 = 0) : Seen T O q B T2 O2 q2 B2 T2 0 B2 q
  | here (h : O2 ≠ 0) (k : O = 0) : Seen T O q B T2 O2 q2 B2 T2 O2 B2 q2
  | both (y : Int) (h : O2 ≠ 0) (k : O ≠ 0) (y0 : 0 ≤ y) (e : y * y = q * q2) : Seen T O q B T2 O2 q2 B2 (T2 * q) (O2 * y) (B2 * q) q
def NoKinP (O q O2 q2 : Int) : Prop := O2 ≠ 0 ∧ O ≠ 0 ∧ isSqB (q * q2) = false
theorem big1 {x : Int} {n : Nat} (h : x.natAbs < 2 ^ n) (hn : n ≤ 100000) : x.natAbs < 2 ^ 100000 := Nat.lt_of_lt_of_le h (Nat.pow_le_pow_right (by decide) hn)
theorem mul_big {a b : Int} (ha : a.natAbs < 2 ^ 100000) (hb : b.natAbs < 2 ^ 100000) : a.natAbs.log2 + b.natAbs.log2 < 1000000 := mulOk 100000 100000 ha hb (by decide) (by decide) (by decide)
theorem seen_big {n : Nat} {T O q B T2 O2 q2 B2 t o b s : Int} (R1 : RtI n T O q B) (R2 : RtI n T2 O2 q2 B2) (h : Seen T O q B T2 O2 q2 B2 t o b s) : t.natAbs < 2 ^ (n + n) ∧ o.natAbs < 2 ^ (n + n) ∧ b.natAbs < 2 ^ (n + n) ∧ s.natAbs < 2 ^ n := by
  have up : ∀ {x : Int}, x.natAbs < 2 ^ n → x.natAbs < 2 ^ (n + n) := fun h => Nat.lt_of_lt_of_le h (Nat.pow_le_pow_right (by decide) (by omega))
  cases h with
  | whole h => exact ⟨up R2.bT, by show (0 : Nat) < _; exact Nat.pow_pos (by decide), up R2.bB, R1.bq⟩
  | here h k => exact ⟨up R2.bT, up R2.bO, up R2.bB, R2.bq⟩
  | both y h k y0 e =>
    refine ⟨wide_lt R2.bT R1.bq, wide_lt R2.bO ?_, wide_lt R2.bB R1.bq, R1.bq⟩
    -- y * y = q * q2 < 2 ^ (2 n)
    have h1 : (q * q2).natAbs < 2 ^ (n + n) := wide_lt R1.bq R2.bq
    rw [← e, Int.natAbs_mul] at h1
    refine Decidable.byContradiction fun h2 => ?_
    have h3 : 2 ^ n ≤ y.natAbs := by omega
    have := Nat.mul_le_mul h3 h3
    rw [← Nat.pow_add] at this
    omega

/-! ### numbers (t and the root of U) over b, walked number by number; s is the root's whole part -/
structure SqR (s U : Int) : Prop where
  s0 : 0 ≤ s
  lt : s * s < U
  gt : U < (s + 1) * (s + 1)
/-- above 1, its mate between -1 and 0 -/
def RedS (s t b : Int) : Prop := 0 < b ∧ b ≤ t + s ∧ t ≤ s ∧ s < t + b
/-- above 1 -/
def Gt1 (s t b : Int) : Prop := (0 < b ∧ b ≤ t + s) ∨ (b < 0 ∧ t + s < b)
/-- the number n and 1 over (t', b') -/
structure PvS (U n t' b' t b : Int) : Prop where
  eb : b * b' = U - t' * t'
  et : t = n * b - t'
theorem sq_ne {s U t : Int} (S : SqR s U) : U - t * t ≠ 0 := by
  intro h
  obtain ⟨s0, lt, gt⟩ := S
  have key : ∀ t : Int, 0 ≤ t → U - t * t = 0 → False := fun t t0 h => by
    rcases Int.lt_or_le s t with c | c
    · have := Int.mul_le_mul (show s + 1 ≤ t from c) (show s + 1 ≤ t from c) (by omega) (by omega)
      omega
    · have := Int.mul_le_mul c c t0 s0
      omega
  rcases Int.le_total 0 t with c | c
  · exact key t c h
  · exact key (-t) (by omega) (by rw [Int.neg_mul_neg]; exact h)
theorem sq_in {s U t : Int} (S : SqR s U) (h1 : t ≤ s) (h2 : -s ≤ t) : 0 < U - t * t := by
  obtain ⟨s0, lt, gt⟩ := S
  have h : (s - t) * (s + t) = s * s - t * t := by grind
  have := Int.mul_nonneg (show 0 ≤ s - t by omega) (show 0 ≤ s + t by omega)
  omega
theorem sq_out {s U t : Int} (S : SqR s U) (h : s < t ∨ t < -s) : U - t * t < 0 := by
  obtain ⟨s0, lt, gt⟩ := S
  rcases h with h | h
  · have := Int.mul_le_mul (show s + 1 ≤ t from h) (show s + 1 ≤ t from h) (by omega) (by omega)
    omega
  · have := Int.mul_le_mul (show s + 1 ≤ -t by omega) (show s + 1 ≤ -t by omega) (by omega) (by omega)
    rw [Int.neg_mul_neg] at this
    omega
/-- behind n stands something below 1 -/
theorem pv_floor {s U n t' b' t b : Int} (S : SqR s U) (P : PvS U n t' b' t b) (g : Gt1 s t' b') : (0 < b ∧ t' ≤ s ∧ s < t' + b) ∨ (b < 0 ∧ s < t' ∧ t' + b ≤ s) := by
  have s0 := S.s0
  have lt := S.lt
  have gt := S.gt
  have eb := P.eb
  have hs : (s + 1) * (s + 1) = s * s + 2 * s + 1 := by grind
  rcases g with ⟨b0, h⟩ | ⟨b0, h⟩
  · by_cases c : t' ≤ s
    · by_cases c2 : -s ≤ t'
      · have hp := sq_in S c c2
        have bp : 0 < b := by
          rcases Int.lt_or_le 0 b with h | h
          · exact h
          · have := Int.mul_nonpos_of_nonpos_of_nonneg h (show 0 ≤ b' by omega)
            omega
        refine .inl ⟨bp, c, ?_⟩
        refine Decidable.byContradiction fun h2 => ?_
        have h3 := Int.mul_le_mul (show b ≤ s - t' by omega) (show b' ≤ t' + s by omega) (by omega) (by omega)
        have e : (s - t') * (t' + s) = s * s - t' * t' := by grind
        omega
      · omega
    · have hn := sq_out S (.inl (show s < t' by omega))
      have bn : b < 0 := by
        rcases Int.lt_or_le b 0 with h | h
        · exact h
        · have := Int.mul_nonneg h (show 0 ≤ b' by omega)
          omega
      refine .inr ⟨bn, by omega, ?_⟩
      refine Decidable.byContradiction fun h2 => ?_
      have h3 := Int.mul_le_mul (show -b ≤ t' - s - 1 by omega) (show b' ≤ t' + s by omega) (by omega) (by omega)
      have e : (t' - s - 1) * (t' + s) = t' * t' - s * s - t' - s := by grind
      have e2 : -b * b' = -(b * b') := Int.neg_mul _ _
      omega
  · have hn := sq_out S (.inr (show t' < -s by omega))
    have bp : 0 < b := by
      rcases Int.lt_or_le 0 b with h | h
      · exact h
      · have := Int.mul_nonneg_of_nonpos_of_nonpos h (show b' ≤ 0 by omega)
        omega
    refine .inl ⟨bp, by omega, ?_⟩
    refine Decidable.byContradiction fun h2 => ?_
    have h3 := Int.mul_le_mul (show b ≤ s - t' by omega) (show -b' ≤ -t' - s - 1 by omega) (by omega) (by omega)
    have e : (s - t') * (-t' - s - 1) = t' * t' - s * s - s + t' := by grind
    have e2 : b * -b' = -(b * b') := Int.mul_neg _ _
    omega
theorem pv_gt1 {s U n t' b' t b : Int} (S : SqR s U) (P : PvS U n t' b' t b) (g : Gt1 s t' b') (hn : 1 ≤ n) : Gt1 s t b := by
  have et := P.et
  rcases pv_floor S P g with ⟨h1, h2, h3⟩ | ⟨h1, h2, h3⟩
  · have := Int.mul_le_mul_of_nonneg_right hn (show 0 ≤ b by omega)
    exact .inl ⟨h1, by omega⟩
  · have := Int.mul_le_mul_of_nonpos_right hn (show b ≤ 0 by omega)
    exact .inr ⟨h1, by omega⟩
/-- the whole part is n -/
theorem pv_whole {s U n t' b' t b : Int} (S : SqR s U) (P : PvS U n t' b' t b) (g : Gt1 s t' b') :
    (0 < b → n * b ≤ t + s ∧ t + s < n * b + b) ∧ (b < 0 → (-1 - n) * (-b) ≤ t + s ∧ t + s < (-1 - n) * (-b) + (-b)) := by
  have et := P.et
  have e : (-1 - n) * (-b) = b + n * b := by grind
  rcases pv_floor S P g with ⟨h1, h2, h3⟩ | ⟨h1, h2, h3⟩
  · exact ⟨fun _ => by omega, fun h => by omega⟩
  · exact ⟨fun h => by omega, fun _ => by omega⟩
/-- what stands behind a reduced one is reduced -/
theorem red_next {s U n t' b' t b : Int} (S : SqR s U) (P : PvS U n t' b' t b) (g : Gt1 s t' b') (h : RedS s t b) : RedS s t' b' := by
  obtain ⟨b0, h1, h2, h3⟩ := h
  have et := P.et
  have eb := P.eb
  have lt := S.lt
  have gt := S.gt
  have s0 := S.s0
  have hs : (s + 1) * (s + 1) = s * s + 2 * s + 1 := by grind
  rcases pv_floor S P g with ⟨_, g2, g3⟩ | ⟨g1, _, _⟩
  · -- n is 1 at least
    have n1 : 1 ≤ n := by
      rcases Int.lt_or_le 0 n with h | h
      · omega
      · have := Int.mul_le_mul_of_nonneg_right (show n ≤ 0 from h) (show 0 ≤ b by omega)
        omega
    have nb := Int.mul_le_mul_of_nonneg_right n1 (show 0 ≤ b by omega)
    have hp := sq_in (t := t') S g2 (by omega)
    have bp : 0 < b' := by
      rcases Int.lt_or_le 0 b' with h | h
      · exact h
      · have := Int.mul_nonpos_of_nonneg_of_nonpos (show 0 ≤ b by omega) h
        omega
    refine ⟨bp, ?_, g2, ?_⟩
    · refine Decidable.byContradiction fun h4 => ?_
      have h5 := Int.mul_le_mul (show s + 1 - t' ≤ b by omega) (show t' + s + 1 ≤ b' by omega) (by omega) (by omega)
      have e : (s + 1 - t') * (t' + s + 1) = (s + 1) * (s + 1) - t' * t' := by grind
      omega
    · refine Decidable.byContradiction fun h4 => ?_
      have h5 := Int.mul_le_mul (show b ≤ s + t' by omega) (show b' ≤ s - t' by omega) (by omega) (by omega)
      have e : (s + t') * (s - t') = s * s - t' * t' := by grind
      omega
  · omega
/-- of two reduced ones with the same behind, the numbers are one -/
theorem red_one {s U n m t' b' t b t2 b2 : Int} (hb : b' ≠ 0) (P : PvS U n t' b' t b) (P2 : PvS U m t' b' t2 b2) (h : RedS s t b) (h2 : RedS s t2 b2) : n = m := by
  have e : b = b2 := Int.eq_of_mul_eq_mul_right hb (P.eb.trans P2.eb.symm)
  subst e
  obtain ⟨b0, _, a1, a2⟩ := h
  obtain ⟨_, _, c1, c2⟩ := h2
  have e1 := P.et
  have e2 := P2.et
  rcases Int.lt_trichotomy n m with c | c | c
  · have := Int.mul_le_mul_of_nonneg_right (show n + 1 ≤ m from c) (show 0 ≤ b by omega)
    have e3 : (n + 1) * b = n * b + b := by grind
    omega
  · exact c
  · have := Int.mul_le_mul_of_nonneg_right (show m + 1 ≤ n from c) (show 0 ≤ b by omega)
    have e3 : (m + 1) * b = m * b + b := by grind
    omega

/-! ### rows' tables and the numbers they lead to -/
theorem tw_fold (L : List Int) : ∀ x : T4, L.foldl t4S x = ⟨x.p * (t4L L).p + x.q * (t4L L).r, x.p * (t4L L).q + x.q * (t4L L).s, x.r * (t4L L).p + x.s * (t4L L).r, x.r * (t4L L).q + x.s * (t4L L).s⟩ := by
  induction L with
  | nil => intro x; obtain ⟨p, q, r, s⟩ := x; simp [t4L]
  | cons a L ih =>
    intro x
    have h1 : t4L (a :: L) = L.foldl t4S (t4S ⟨1, 0, 0, 1⟩ a) := rfl
    rw [List.foldl_cons, ih, h1, ih]
    unfold t4S
    simp only [T4.mk.injEq]
    refine ⟨?_, ?_, ?_, ?_⟩ <;> grind
theorem tw_cons (n : Int) (L : List Int) : t4L (n :: L) = ⟨n * (t4L L).p + (t4L L).r, n * (t4L L).q + (t4L L).s, (t4L L).p, (t4L L).q⟩ := by
  have h1 : t4L (n :: L) = L.foldl t4S (t4S ⟨1, 0, 0, 1⟩ n) := rfl
  rw [h1, tw_fold]
  unfold t4S
  simp only [T4.mk.injEq]
  refine ⟨?_, ?_, ?_, ?_⟩ <;> grind
theorem tw_last (n : Int) (L : List Int) : t4L (L ++ [n]) = ⟨(t4L L).p * n + (t4L L).q, (t4L L).p, (t4L L).r * n + (t4L L).s, (t4L L).r⟩ := by unfold t4L; rw [List.foldl_append]; rfl
structure TwN (t : T4) : Prop where
  q1 : 1 ≤ t.q
  r1 : 1 ≤ t.r
  s0 : 0 ≤ t.s
  pq : t.q ≤ t.p
  pr : t.r ≤ t.p
  qs : t.s ≤ t.q
  rs : t.s ≤ t.r
  d : t.p * t.s - t.q * t.r = 1 ∨ t.p * t.s - t.q * t.r = -1
theorem tw_row : ∀ L : List Int, (∀ a ∈ L, 1 ≤ a) → L ≠ [] → TwN (t4L L)
  | [], _, h => absurd rfl h
  | [n], h, _ => by
    have := h n (by simp)
    rw [tw_cons, show t4L [] = ⟨1, 0, 0, 1⟩ from rfl]
    refine ⟨?_, ?_, ?_, ?_, ?_, ?_, ?_, ?_⟩ <;> dsimp only <;> omega
  | n :: m :: L, h, _ => by
    have h1 := h n (by simp)
    obtain ⟨q1, r1, s0, pq, pr, qs, rs, d⟩ := tw_row (m :: L) (fun a ha => h a (List.mem_cons_of_mem _ ha)) (by simp)
    rw [tw_cons]
    generalize t4L (m :: L) = t at *
    have a1 := Int.mul_nonneg (show 0 ≤ n - 1 by omega) (show 0 ≤ t.p by omega)
    have a2 := Int.mul_nonneg (show 0 ≤ n - 1 by omega) (show 0 ≤ t.q by omega)
    have a3 := Int.mul_nonneg (show 0 ≤ n - 1 by omega) (show 0 ≤ t.p - t.q by omega)
    have e1 : (n - 1) * t.p = n * t.p - t.p := by grind
    have e2 : (n - 1) * t.q = n * t.q - t.q := by grind
    have e3 : (n - 1) * (t.p - t.q) = n * t.p - n * t.q - t.p + t.q := by grind
    have e4 : (n * t.p + t.r) * t.q - (n * t.q + t.s) * t.p = -(t.p * t.s - t.q * t.r) := by grind
    refine ⟨?_, ?_, ?_, ?_, ?_, ?_, ?_, ?_⟩ <;> dsimp only <;> omega
theorem TwN.st {t : T4} (h : TwN t) : t.r + t.s < t.p + t.q ∧ t.q + t.s < t.p + t.r := by
  obtain ⟨q1, r1, s0, pq, pr, qs, rs, d⟩ := h
  constructor
  · refine Decidable.byContradiction fun hc => ?_
    have e1 : t.p = t.r := by omega
    have e2 : t.q = t.s := by omega
    rw [e1, e2, Int.mul_comm] at d
    omega
  · refine Decidable.byContradiction fun hc => ?_
    have e1 : t.p = t.q := by omega
    have e2 : t.r = t.s := by omega
    rw [e1, e2] at d
    omega
/-- the number of a ring, k times as much -/
def rgS (k : Int) (R : List Int) : Int × Int := (k * ((t4L R).p - (t4L R).s), 2 * (k * (t4L R).r))
def rgU (k : Int) (R : List Int) : Int := k * k * upN (t4L R)
theorem rg_turn (k n : Int) (X : List Int) : rgU k (X ++ [n]) = rgU k (n :: X) := by
  unfold rgU upN
  rw [tw_cons, tw_last]
  dsimp only
  grind
theorem rg_pv (k n : Int) (X : List Int) : PvS (rgU k (n :: X)) n (rgS k (X ++ [n])).1 (rgS k (X ++ [n])).2 (rgS k (n :: X)).1 (rgS k (n :: X)).2 := by
  unfold rgU upN rgS
  rw [tw_cons, tw_last]
  dsimp only
  constructor <;> grind
theorem sqw_le {s U w : Int} (S : SqR s U) (h : w * w < U) : w ≤ s := by
  refine Decidable.byContradiction fun hc => ?_
  have s0 := S.s0
  have := Int.mul_le_mul (show s + 1 ≤ w by omega) (show s + 1 ≤ w by omega) (by omega) (by omega)
  have := S.gt
  omega
theorem sqw_gt {s U w : Int} (S : SqR s U) (w0 : 0 ≤ w) (h : U < w * w) : s < w := by
  refine Decidable.byContradiction fun hc => ?_
  have := Int.mul_le_mul (show w ≤ s by omega) (show w ≤ s by omega) w0 S.s0
  have := S.lt
  omega
theorem rg_red {k s : Int} {R : List Int} (hk : 1 ≤ k) (h1 : ∀ a ∈ R, 1 ≤ a) (h0 : R ≠ []) (S : SqR s (rgU k R)) : RedS s (rgS k R).1 (rgS k R).2 := by
  have T := tw_row R h1 h0
  obtain ⟨st1, st2⟩ := T.st
  obtain ⟨q1, r1, s0, pq, pr, qs, rs, d⟩ := T
  unfold rgU upN at S
  unfold rgS
  dsimp only
  generalize t4L R = t at *
  have kk : 1 * 1 ≤ k * k := Int.mul_le_mul hk hk (by decide) (by omega)
  have qr : 0 < t.q * t.r := Int.mul_pos (by omega) (by omega)
  have kr := Int.mul_pos (show 0 < k by omega) (show 0 < t.r by omega)
  have lt : ∀ w : Int, w * w < (t.p - t.s) * (t.p - t.s) + 4 * t.q * t.r → k * w ≤ s := fun w hw => sqw_le S (by
    have := Int.mul_lt_mul_of_pos_left hw (show 0 < k * k by omega)
    have e : k * w * (k * w) = k * k * (w * w) := by grind
    omega)
  have gt : ∀ w : Int, 0 ≤ w → (t.p - t.s) * (t.p - t.s) + 4 * t.q * t.r < w * w → s < k * w := fun w w0 hw => sqw_gt S (Int.mul_nonneg (by omega) w0) (by
    have := Int.mul_lt_mul_of_pos_left hw (show 0 < k * k by omega)
    have e : k * w * (k * w) = k * k * (w * w) := by grind
    omega)
  refine ⟨by omega, ?_, ?_, ?_⟩
  · have := lt (2 * t.r - (t.p - t.s)) (by
      have e : (2 * t.r - (t.p - t.s)) * (2 * t.r - (t.p - t.s)) = (t.p - t.s) * (t.p - t.s) + 4 * t.q * t.r - 4 * (t.r * (t.p + t.q - t.r - t.s)) := by grind
      have := Int.mul_pos (show 0 < t.r by omega) (show 0 < t.p + t.q - t.r - t.s by omega)
      omega)
    have e : k * (2 * t.r - (t.p - t.s)) = 2 * (k * t.r) - k * (t.p - t.s) := by grind
    omega
  · exact lt (t.p - t.s) (by
      have e : 4 * t.q * t.r = 4 * (t.q * t.r) := by grind
      omega)
  · have := gt (t.p - t.s + 2 * t.r) (by omega) (by
      have e : (t.p - t.s + 2 * t.r) * (t.p - t.s + 2 * t.r) = (t.p - t.s) * (t.p - t.s) + 4 * t.q * t.r + 4 * (t.r * (t.p + t.r - t.q - t.s)) := by grind
      have := Int.mul_pos (show 0 < t.r by omega) (show 0 < t.p + t.r - t.q - t.s by omega)
      omega)
    have e : k * (t.p - t.s + 2 * t.r) = k * (t.p - t.s) + 2 * (k * t.r) := by grind
    omega
theorem RedS.g {s t b : Int} (h : RedS s t b) : Gt1 s t b := .inl ⟨h.1, h.2.1⟩
/-- led from a ring's number through the numbers ahead -/
def Wk (U t0 b0 : Int) : List Int → Int → Int → Prop
  | [], t, b => t = t0 ∧ b = b0
  | a :: A, t, b => ∃ t' b', Wk U t0 b0 A t' b' ∧ PvS U a t' b' t b
theorem wk_gt1 {s U t0 b0 : Int} (S : SqR s U) (g : Gt1 s t0 b0) : ∀ (A : List Int) (t b : Int), (∀ a ∈ A, 1 ≤ a) → Wk U t0 b0 A t b → Gt1 s t b
  | [], t, b, _, h => by rw [h.1, h.2]; exact g
  | a :: A, t, b, hA, ⟨t', b', h, P⟩ => pv_gt1 S P (wk_gt1 S g A t' b' (fun x hx => hA x (List.mem_cons_of_mem _ hx)) h) (hA a List.mem_cons_self)
/-- none that stands ahead is reduced, where the last one is unlike the ring's last -/
theorem wk_not {k s x : Int} {R : List Int} (hk : 1 ≤ k) (h1 : ∀ a ∈ R, 1 ≤ a) (S : SqR s (rgU k R)) {X : List Int} {n : Int} (eR : R = X ++ [n]) (hx : x ≠ n) :
    ∀ (A : List Int) (t b : Int), (∀ a ∈ (A ++ [x]).tail, 1 ≤ a) → Wk (rgU k R) (rgS k R).1 (rgS k R).2 (A ++ [x]) t b → ¬ RedS s t b
  | [], t, b, _, ⟨t', b', ⟨e1, e2⟩, P⟩ => fun hr => by
    subst e1 e2
    have U2 := rg_turn k n X
    have P2 := rg_pv k n X
    rw [← U2] at P2
    subst eR
    have hp : RedS s (rgS k (n :: X)).1 (rgS k (n :: X)).2 := rg_red hk (fun a ha => h1 a (by
      rcases List.mem_cons.mp ha with e | e
      · simp [e]
      · simp [e])) (by simp) (by rw [← U2]; exact S)
    have hb := (rg_red hk h1 (by simp) S).1
    exact hx (red_one (by omega) P P2 hr hp)
  | a :: A, t, b, hA, ⟨t', b', h, P⟩ => fun hr => by
    have hA' : ∀ c ∈ A ++ [x], 1 ≤ c := fun c hc => hA c hc
    have h0 : R ≠ [] := by rw [eR]; simp
    have g := wk_gt1 S (rg_red hk h1 h0 S).g (A ++ [x]) t' b' hA' h
    exact wk_not hk h1 S eR hx A t' b' (fun c hc => hA' c (List.mem_of_mem_tail hc)) h (red_next S P g hr)
theorem wk_ex {U t0 b0 c0 : Int} {s : Int} (S : SqR s U) (hb : b0 ≠ 0) (hc : c0 * b0 = U - t0 * t0) : ∀ A : List Int, ∃ t b c, Wk U t0 b0 A t b ∧ b ≠ 0 ∧ c * b = U - t * t
  | [] => ⟨t0, b0, c0, ⟨rfl, rfl⟩, hb, hc⟩
  | a :: A => by
    obtain ⟨t', b', c, h, h0, e⟩ := wk_ex S hb hc A
    refine ⟨a * c - t', c, b' + 2 * a * t' - a * a * c, ⟨t', b', h, ⟨e, rfl⟩⟩, fun e0 => ?_, ?_⟩
    · rw [e0, Int.zero_mul] at e
      exact sq_ne S e.symm
    · have : (b' + 2 * a * t' - a * a * c) * c = c * b' + 2 * a * t' * c - a * a * c * c := by grind
      rw [this, e]
      grind
/-- through a table -/
theorem wk_tab {U t0 b0 : Int} : ∀ (A : List Int) (t b : Int), b0 ≠ 0 → Wk U t0 b0 A t b → b ≠ 0 → (∀ A' t' b', Wk U t0 b0 A' t' b' → b' ≠ 0) →
    t * ((t4L A).r * t0 + (t4L A).s * b0) + (t4L A).r * U = b * ((t4L A).p * t0 + (t4L A).q * b0) ∧ t * (t4L A).r + ((t4L A).r * t0 + (t4L A).s * b0) = b * (t4L A).p
  | [], t, b, _, ⟨e1, e2⟩, _, _ => by
    subst e1 e2
    rw [show t4L [] = ⟨1, 0, 0, 1⟩ from rfl]
    dsimp only
    constructor <;> grind
  | a :: A, t1, b1, hb, ⟨t, b, h, P⟩, hb1, all => by
    have b' := all A t b h
    obtain ⟨i1, i2⟩ := wk_tab A t b hb h b' all
    obtain ⟨eb, et⟩ := P
    rw [tw_cons]
    dsimp only
    generalize (t4L A).p = p at *
    generalize (t4L A).q = q at *
    generalize (t4L A).r = r at *
    generalize (t4L A).s = s at *
    subst et
    constructor
    · refine Int.eq_of_mul_eq_mul_left b' ?_
      grind
    · refine Int.eq_of_mul_eq_mul_left b' ?_
      grind

/-! ### the walk as it is reckoned -/
def flW (s t b : Int) : Int := if b < 0 then -1 - (t + s).fdiv (-b) else (t + s).fdiv b
def nxW (s U : Int) (x : Int × Int) : Int × Int := (flW s x.1 x.2 * x.2 - x.1, (U - (flW s x.1 x.2 * x.2 - x.1) * (flW s x.1 x.2 * x.2 - x.1)).fdiv x.2)
def stW (s U : Int) (x : Int × Int) : Nat → Int × Int
  | 0 => x
  | i + 1 => nxW s U (stW s U x i)
def dgW (s U : Int) (x : Int × Int) (i : Nat) : Int := flW s (stW s U x i).1 (stW s U x i).2
def dgsW (s U : Int) (x : Int × Int) (i m : Nat) : List Int := (List.range m).map fun j => dgW s U x (i + j)
theorem stW_add (s U : Int) (x : Int × Int) (i : Nat) : ∀ j, stW s U x (i + j) = stW s U (stW s U x i) j
  | 0 => rfl
  | j + 1 => by
    show nxW s U (stW s U x (i + j)) = nxW s U (stW s U (stW s U x i) j)
    rw [stW_add s U x i j]
theorem dgW_add (s U : Int) (x : Int × Int) (i j : Nat) : dgW s U x (i + j) = dgW s U (stW s U x i) j := by unfold dgW; rw [stW_add]
theorem dgsW_add (s U : Int) (x : Int × Int) (i m : Nat) : dgsW s U x i m = dgsW s U (stW s U x i) 0 m := by
  unfold dgsW
  refine List.map_congr_left fun j _ => ?_
  rw [dgW_add, Nat.zero_add]
theorem dgsW_succ (s U : Int) (x : Int × Int) (m : Nat) : dgsW s U x 0 (m + 1) = dgW s U x 0 :: dgsW s U (nxW s U x) 0 m := by
  unfold dgsW
  rw [List.range_succ_eq_map, List.map_cons, List.map_map]
  congr 1
  refine List.map_congr_left fun j _ => ?_
  show dgW s U x (0 + (j + 1)) = dgW s U (nxW s U x) (0 + j)
  rw [Nat.zero_add, Nat.zero_add, Nat.add_comm, dgW_add]
  rfl
theorem dgsW_snoc (s U : Int) (x : Int × Int) (i m : Nat) : dgsW s U x i (m + 1) = dgsW s U x i m ++ [dgW s U x (i + m)] := by
  unfold dgsW
  rw [List.range_succ, List.map_append]
  rfl
theorem fdiv_is {a b n : Int} (hb : 0 < b) (h1 : n * b ≤ a) (h2 : a < n * b + b) : a.fdiv b = n := by
  rw [Int.fdiv_eq_ediv_of_nonneg _ (by omega)]
  have e1 : n ≤ a / b := (Int.le_ediv_iff_mul_le hb).mpr h1
  have e2 : a / b < n + 1 := (Int.ediv_lt_iff_lt_mul hb).mpr (by
    have : (n + 1) * b = n * b + b := by grind
    omega)
  omega
theorem pv_fl {s U n t' b' t b : Int} (S : SqR s U) (P : PvS U n t' b' t b) (g : Gt1 s t' b') (hb : b ≠ 0) : flW s t b = n ∧ nxW s U (t, b) = (t', b') := by
  obtain ⟨w1, w2⟩ := pv_whole S P g
  have e : flW s t b = n := by
    unfold flW
    split
    · rename_i h
      obtain ⟨h1, h2⟩ := w2 h
      rw [fdiv_is (by omega) h1 h2]
      omega
    · obtain ⟨h1, h2⟩ := w1 (by omega)
      exact fdiv_is (by omega) h1 h2
  refine ⟨e, ?_⟩
  have et := P.et
  have eb := P.eb
  unfold nxW
  dsimp only
  rw [e, show n * b - t = t' by omega, ← eb, Int.mul_comm, Int.mul_fdiv_cancel _ hb]
/-- a ring's numbers, read on and on -/
def rwN : Nat → List Int → List Int
  | 0, _ => []
  | _ + 1, [] => []
  | n + 1, a :: X => a :: rwN n (X ++ [a])
def trn : Nat → List Int → List Int
  | 0, L => L
  | _ + 1, [] => []
  | n + 1, a :: X => trn n (X ++ [a])
theorem rwN_app : ∀ (X Y : List Int), rwN X.length (X ++ Y) = X
  | [], Y => rfl
  | a :: X, Y => by
    show a :: rwN X.length (X ++ Y ++ [a]) = a :: X
    rw [List.append_assoc, rwN_app X]
theorem rwN_self (X : List Int) : rwN X.length X = X := by
  have := rwN_app X []
  rwa [List.append_nil] at this
theorem trn_app : ∀ (X Y : List Int), trn X.length (X ++ Y) = Y ++ X
  | [], Y => by simp [trn]
  | a :: X, Y => by
    show trn X.length (X ++ Y ++ [a]) = Y ++ a :: X
    rw [List.append_assoc, trn_app X]
    simp
theorem trn_len : ∀ (j : Nat) (L : List Int), (trn j L).length = L.length
  | 0, _ => rfl
  | _ + 1, [] => rfl
  | j + 1, a :: X => by
    show (trn j (X ++ [a])).length = _
    rw [trn_len j, List.length_append]
    rfl
theorem trn_mem : ∀ (j : Nat) (L : List Int) (x : Int), x ∈ trn j L → x ∈ L
  | 0, _, _, h => h
  | _ + 1, [], _, h => h
  | j + 1, a :: X, x, h => by
    have := trn_mem j (X ++ [a]) x h
    simpa [or_comm] using this
theorem trn_take {j : Nat} {L : List Int} (h : j ≤ L.length) : trn j L = L.drop j ++ L.take j := by
  have := trn_app (L.take j) (L.drop j)
  rw [List.take_append_drop, List.length_take, Nat.min_eq_left h] at this
  exact this
theorem ne_len {L : List Int} (h : L ≠ []) : 0 < L.length := List.length_pos_iff.mpr h
theorem trn_ne {j : Nat} {L : List Int} (h : L ≠ []) : trn j L ≠ [] := fun e => by
  have := congrArg List.length e
  rw [trn_len, List.length_nil] at this
  have := ne_len h
  omega
/-- of a ring's number the walk tells the ring -/
theorem rg_walk {k s : Int} (hk : 1 ≤ k) : ∀ (n : Nat) (R : List Int), (∀ a ∈ R, 1 ≤ a) → R ≠ [] → SqR s (rgU k R) → stW s (rgU k R) (rgS k R) n = rgS k (trn n R) ∧ dgsW s (rgU k R) (rgS k R) 0 n = rwN n R ∧ rgU k (trn n R) = rgU k R
  | 0, R, _, _, _ => ⟨rfl, rfl, rfl⟩
  | n + 1, [], _, h0, _ => absurd rfl h0
  | n + 1, a :: X, h1, h0, S => by
    have h1' : ∀ c ∈ X ++ [a], 1 ≤ c := fun c hc => h1 c (by
      rcases List.mem_append.mp hc with h | h
      · exact List.mem_cons_of_mem _ h
      · rw [List.mem_singleton.mp h]; exact List.mem_cons_self)
    have eU := rg_turn k a X
    have S' : SqR s (rgU k (X ++ [a])) := by rw [eU]; exact S
    have hr := rg_red hk h1' (by simp) S'
    have hb := (rg_red hk h1 h0 S).1
    obtain ⟨f, nx⟩ := pv_fl S (rg_pv k a X) hr.g (by omega)
    obtain ⟨i1, i2, i3⟩ := rg_walk hk n (X ++ [a]) h1' (by simp) S'
    rw [eU] at i1 i2 i3
    have nx' : nxW s (rgU k (a :: X)) (rgS k (a :: X)) = rgS k (X ++ [a]) := nx
    refine ⟨?_, ?_, i3⟩
    · rw [show trn (n + 1) (a :: X) = trn n (X ++ [a]) from rfl, Nat.add_comm, stW_add, show stW s (rgU k (a :: X)) (rgS k (a :: X)) 1 = nxW s (rgU k (a :: X)) (rgS k (a :: X)) from rfl, nx']
      exact i1
    · rw [dgsW_succ, nx', i2, show dgW s (rgU k (a :: X)) (rgS k (a :: X)) 0 = flW s (rgS k (a :: X)).1 (rgS k (a :: X)).2 from rfl, f]
      rfl
/-- two turned rings of one number are the same -/
theorem rg_inj {k s : Int} {R : List Int} (hk : 1 ≤ k) (h1 : ∀ a ∈ R, 1 ≤ a) (h0 : R ≠ []) (S : SqR s (rgU k R)) {j : Nat} (e : rgS k (trn j R) = rgS k R) : trn j R = R := by
  have hl := trn_len j R
  have w := rg_walk hk R.length R h1 h0 S
  have u := (rg_walk hk j R h1 h0 S).2.2
  have w2 := rg_walk hk R.length (trn j R) (fun a ha => h1 a (trn_mem j R a ha)) (trn_ne h0) (by rw [u]; exact S)
  rw [u, e] at w2
  have a1 := w.2.1
  rw [w2.2.1, rwN_self, ← hl, rwN_self] at a1
  exact a1
/-- the walk through the numbers ahead -/
theorem wk_walk {s U t0 b0 : Int} (S : SqR s U) (g : Gt1 s t0 b0) : ∀ (A : List Int) (t b : Int), (∀ a ∈ A.tail, 1 ≤ a) → (∀ A' t' b', Wk U t0 b0 A' t' b' → b' ≠ 0) → Wk U t0 b0 A t b →
    stW s U (t, b) A.length = (t0, b0) ∧ dgsW s U (t, b) 0 A.length = A ∧ ∀ i, i < A.length → ∃ t' b', stW s U (t, b) i = (t', b') ∧ Wk U t0 b0 (A.drop i) t' b'
  | [], t, b, _, _, ⟨e1, e2⟩ => by
    subst e1 e2
    exact ⟨rfl, rfl, fun i h => absurd h (Nat.not_lt_zero i)⟩
  | a :: A, t, b, hA, all, hw => by
    obtain ⟨t', b', h, P⟩ := hw
    have g' := wk_gt1 S g A t' b' hA h
    obtain ⟨f, nx⟩ := pv_fl S P g' (all (a :: A) t b ⟨t', b', h, P⟩)
    obtain ⟨i1, i2, i3⟩ := wk_walk S g A t' b' (fun c hc => hA c (List.mem_of_mem_tail hc)) all h
    refine ⟨?_, ?_, fun i hi => ?_⟩
    · rw [List.length_cons, Nat.add_comm, stW_add, show stW s U (t, b) 1 = nxW s U (t, b) from rfl, nx]
      exact i1
    · rw [List.length_cons, dgsW_succ, nx, i2, show dgW s U (t, b) 0 = flW s t b from rfl, f]
    · match i, hi with
      | 0, _ => exact ⟨t, b, rfl, ⟨t', b', h, P⟩⟩
      | i + 1, hi =>
        rw [Nat.add_comm, stW_add, show stW s U (t, b) 1 = nxW s U (t, b) from rfl, nx, Nat.add_comm 1 i, List.drop_succ_cons]
        exact i3 i (by rw [List.length_cons] at hi; omega)
/-- no turn but the whole is the ring -/
def Prm (R : List Int) : Prop := ∀ j, 0 < j → j < R.length → trn j R ≠ R
/-- the whole walk of a stair's number -/
theorem st_walk {k s : Int} {A R : List Int} {t b : Int} (hk : 1 ≤ k) (h1 : ∀ a ∈ R, 1 ≤ a) (h0 : R ≠ []) (S : SqR s (rgU k R)) (hp : Prm R) (hA : ∀ a ∈ A.tail, 1 ≤ a) (hlast : A = [] ∨ A.getLast? ≠ R.getLast?)
    (all : ∀ A' t' b', Wk (rgU k R) (rgS k R).1 (rgS k R).2 A' t' b' → b' ≠ 0) (hw : Wk (rgU k R) (rgS k R).1 (rgS k R).2 A t b) :
    (∀ i, i < A.length → ¬ RedS s (stW s (rgU k R) (t, b) i).1 (stW s (rgU k R) (t, b) i).2) ∧ RedS s (stW s (rgU k R) (t, b) A.length).1 (stW s (rgU k R) (t, b) A.length).2 ∧
    dgsW s (rgU k R) (t, b) 0 A.length = A ∧ (∀ j, 0 < j → j < R.length → stW s (rgU k R) (t, b) (A.length + j) ≠ stW s (rgU k R) (t, b) A.length) ∧
    stW s (rgU k R) (t, b) (A.length + R.length) = stW s (rgU k R) (t, b) A.length ∧ dgsW s (rgU k R) (t, b) A.length R.length = R := by
  have red := rg_red hk h1 h0 S
  obtain ⟨w1, w2, w3⟩ := wk_walk S red.g A t b hA all hw
  have e0 : ((rgS k R).1, (rgS k R).2) = rgS k R := rfl
  rw [e0] at w1
  refine ⟨fun i hi => ?_, by rw [w1]; exact red, w2, fun j j0 j1 h => ?_, ?_, ?_⟩
  · obtain ⟨t', b', e, h⟩ := w3 i hi
    rw [e]
    have hne : A ≠ [] := fun e => by rw [e] at hi; exact absurd hi (Nat.not_lt_zero i)
    have hd : A.drop i ≠ [] := fun e => by
      have := congrArg List.length e
      rw [List.length_drop, List.length_nil] at this
      omega
    obtain ⟨B, x, eB⟩ : ∃ B x, A.drop i = B ++ [x] := ⟨_, _, (List.dropLast_concat_getLast hd).symm⟩
    obtain ⟨X, n, eX⟩ : ∃ X n, R = X ++ [n] := ⟨_, _, (List.dropLast_concat_getLast h0).symm⟩
    have hl := hlast.resolve_left hne
    have l1 : A.getLast? = some x := by
      rw [← List.take_append_drop i A, eB, ← List.append_assoc, List.getLast?_concat]
    have l2 : R.getLast? = some n := by rw [eX, List.getLast?_concat]
    rw [l1, l2] at hl
    rw [eB] at h
    refine wk_not hk h1 S eX (fun e => hl (by rw [e])) B t' b' (fun c hc => ?_) h
    rw [← eB] at hc
    refine hA c ?_
    -- the tail of a rest is in the tail
    match A, i, hc with
    | [], _, hc => simp at hc
    | a :: A, 0, hc => exact hc
    | a :: A, i + 1, hc =>
      rw [List.drop_succ_cons] at hc
      exact List.mem_of_mem_drop (List.mem_of_mem_tail hc)
  · rw [stW_add, w1, (rg_walk hk j R h1 h0 S).1] at h
    exact hp j j0 j1 (rg_inj hk h1 h0 S h)
  · rw [stW_add, w1, (rg_walk hk R.length R h1 h0 S).1]
    congr 1
    have := trn_app R []
    simpa using this
  · rw [dgsW_add, w1, (rg_walk hk R.length R h1 h0 S).2.1, rwN_self]

/-! ### the number of a stair, told by four parts, walks the stair -/
theorem tw_pos {L : List Int} (h : ∀ a ∈ L, 1 ≤ a) (h0 : L ≠ []) : 5 ≤ upN (t4L L) ∧ ∀ y : Int, y * y ≠ upN (t4L L) := by
  obtain ⟨q1, r1, s0, pq, pr, qs, rs, d⟩ := tw_row L h h0
  have e : upN (t4L L) = ((t4L L).p + (t4L L).s) * ((t4L L).p + (t4L L).s) - 4 * ((t4L L).p * (t4L L).s - (t4L L).q * (t4L L).r) := by unfold upN; grind
  rw [e]
  have qr : 1 ≤ (t4L L).q * (t4L L).r := by
    have := Int.mul_le_mul q1 r1 (by omega) (by omega)
    omega
  generalize (t4L L).p = p at *
  generalize (t4L L).q = q at *
  generalize (t4L L).r = r at *
  generalize (t4L L).s = s at *
  rcases d with d | d <;> rw [d]
  · have s1 : 1 ≤ s := by
      rcases Int.lt_or_le 0 s with c | c
      · exact c
      · rw [show s = 0 by omega, Int.mul_zero] at d
        omega
    have p2 : 2 ≤ p := by
      rcases Int.lt_or_le 1 p with c | c
      · exact c
      · rw [show p = 1 by omega, show s = 1 by omega] at d
        omega
    generalize ht : p + s = t at *
    have h9 : 3 * t ≤ t * t := Int.mul_le_mul_of_nonneg_right (by omega) (by omega)
    have e2 : (t - 1) * (t - 1) = t * t - 2 * t + 1 := by grind
    refine ⟨by omega, fun y hy => no_sq (t := t - 1) (y := y) (by omega) (by rw [hy]; omega) (by rw [hy, show t - 1 + 1 = t by omega]; omega)⟩
  · generalize ht : p + s = t at *
    have t1 : 1 ≤ t := by omega
    have h1 : 1 * t ≤ t * t := Int.mul_le_mul_of_nonneg_right t1 (by omega)
    refine ⟨by omega, fun y hy => ?_⟩
    by_cases c : 2 ≤ t
    · have e3 : (t + 1) * (t + 1) = t * t + 2 * t + 1 := by grind
      exact no_sq (t := t) (y := y) (by omega) (by omega) (by omega)
    · have : t = 1 := by omega
      subst this
      exact no_sq (t := 2) (y := y) (by omega) (by omega) (by omega)
/-- whole roots -/
theorem sq_root : ∀ n : Nat, ∃ r : Nat, r * r ≤ n ∧ n < (r + 1) * (r + 1)
  | 0 => ⟨0, by decide, by decide⟩
  | n + 1 => by
    obtain ⟨r, h1, h2⟩ := sq_root n
    by_cases c : n + 1 < (r + 1) * (r + 1)
    · exact ⟨r, by omega, c⟩
    · refine ⟨r + 1, by omega, ?_⟩
      have : (r + 1 + 1) * (r + 1 + 1) = (r + 1) * (r + 1) + 2 * r + 3 := by grind
      omega
theorem sqR_ex {U : Int} (u0 : 0 ≤ U) (hn : ∀ y : Int, y * y ≠ U) : ∃ s, SqR s U := by
  obtain ⟨r, h1, h2⟩ := sq_root U.toNat
  have e1 : ((r * r : Nat) : Int) ≤ U := by omega
  have e2 : U < (((r + 1) * (r + 1) : Nat) : Int) := by omega
  rw [Int.natCast_mul] at e1 e2
  have e3 := hn r
  refine ⟨r, by omega, by omega, ?_⟩
  rw [Int.natCast_add] at e2
  exact e2
theorem sqR_no {s U : Int} (S : SqR s U) : ∀ y : Int, y * y ≠ U := fun y e => sq_ne (t := y) S (by omega)
theorem sqR_le {s U : Int} (S : SqR s U) : s ≤ U ∧ 1 ≤ U := by
  obtain ⟨s0, lt, gt⟩ := S
  have h1 : 0 ≤ s * s := Int.mul_nonneg s0 s0
  refine ⟨?_, by omega⟩
  rcases Int.lt_or_le 0 s with c | c
  · have := Int.mul_le_mul_of_nonneg_right (show 1 ≤ s from c) s0
    omega
  · omega
theorem sqR_uniq {s s' U : Int} (S : SqR s U) (S' : SqR s' U) : s = s' := by
  obtain ⟨s0, lt, gt⟩ := S
  obtain ⟨s0', lt', gt'⟩ := S'
  rcases Int.lt_trichotomy s s' with c | c | c
  · have := Int.mul_le_mul (show s + 1 ≤ s' from c) (show s + 1 ≤ s' from c) (by omega) (by omega)
    omega
  · exact c
  · have := Int.mul_le_mul (show s' + 1 ≤ s from c) (show s' + 1 ≤ s from c) (by omega) (by omega)
    omega
/-- a state that may be walked on from -/
def DvS (U : Int) (x : Int × Int) : Prop := x.2 ≠ 0 ∧ ∃ c, c * x.2 = U - x.1 * x.1
theorem nx_dv {s U : Int} {x : Int × Int} (S : SqR s U) (h : DvS U x) : DvS U (nxW s U x) := by
  obtain ⟨b0, c, e⟩ := h
  obtain ⟨t, b⟩ := x
  dsimp only at b0 e
  unfold nxW
  dsimp only
  generalize flW s t b = n
  have e1 : U - (n * b - t) * (n * b - t) = (c + 2 * n * t - n * n * b) * b := by
    have : (c + 2 * n * t - n * n * b) * b = c * b + 2 * n * t * b - n * n * b * b := by grind
    rw [this, e]
    grind
  have e2 : (U - (n * b - t) * (n * b - t)).fdiv b = c + 2 * n * t - n * n * b := by rw [e1, Int.mul_fdiv_cancel _ b0]
  refine ⟨?_, b, ?_⟩ <;> dsimp only <;> rw [e2]
  · intro h
    rw [h, Int.zero_mul] at e1
    exact sq_ne S e1
  · rw [e1, Int.mul_comm]
theorem st_dv {s U : Int} {x : Int × Int} (S : SqR s U) (h : DvS U x) : ∀ i, DvS U (stW s U x i)
  | 0 => h
  | i + 1 => by
    rw [stW_add]
    exact nx_dv S (st_dv S h i)
theorem fl_near {s t b : Int} (hb : b ≠ 0) : s - (b.natAbs : Int) ≤ flW s t b * b - t ∧ flW s t b * b - t ≤ s + (b.natAbs : Int) := by
  unfold flW
  split
  · rename_i c
    have h1 := Int.fmod_lt_of_pos (t + s) (show 0 < -b by omega)
    have h2 := Int.fmod_nonneg_of_pos (t + s) (show 0 < -b by omega)
    have h3 := Int.mul_fdiv_add_fmod (t + s) (-b)
    generalize (t + s).fdiv (-b) = m at *
    generalize (t + s).fmod (-b) = r at *
    have e : (-1 - m) * b = -b + (-b) * m := by grind
    rw [e]
    omega
  · rename_i c
    have h1 := Int.fmod_lt_of_pos (t + s) (show 0 < b by omega)
    have h2 := Int.fmod_nonneg_of_pos (t + s) (show 0 < b by omega)
    have h3 := Int.mul_fdiv_add_fmod (t + s) b
    generalize (t + s).fdiv b = m at *
    generalize (t + s).fmod b = r at *
    have e : m * b = b * m := Int.mul_comm ..
    rw [e]
    omega
theorem nx_mul {s U : Int} {x : Int × Int} (S : SqR s U) (h : DvS U x) : x.2 * (nxW s U x).2 = U - (nxW s U x).1 * (nxW s U x).1 := by
  obtain ⟨b0, c, e⟩ := h
  obtain ⟨t, b⟩ := x
  dsimp only at b0 e
  unfold nxW
  dsimp only
  generalize flW s t b = n
  have e1 : U - (n * b - t) * (n * b - t) = (c + 2 * n * t - n * n * b) * b := by
    have : (c + 2 * n * t - n * n * b) * b = c * b + 2 * n * t * b - n * n * b * b := by grind
    rw [this, e]
    grind
  rw [e1, Int.mul_fdiv_cancel _ b0, Int.mul_comm]
theorem nx_near {s U : Int} {x : Int × Int} (S : SqR s U) (h : DvS U x) : (nxW s U x).1.natAbs ≤ U.natAbs + x.2.natAbs ∧ (nxW s U x).2.natAbs ≤ x.2.natAbs + 4 * U.natAbs := by
  have h2 := nx_mul S h
  obtain ⟨b0, _⟩ := h
  obtain ⟨l1, l2⟩ := sqR_le S
  have e1 : (nxW s U x).1 = flW s x.1 x.2 * x.2 - x.1 := rfl
  obtain ⟨t, b⟩ := x
  have hf := fl_near (s := s) (t := t) b0
  have s0 := S.s0
  have lt := S.lt
  dsimp only at b0 hf h2 e1 ⊢
  rw [← e1] at hf
  clear e1
  generalize (nxW s U (t, b)).1 = t' at *
  generalize (nxW s U (t, b)).2 = b' at *
  refine ⟨by omega, ?_⟩
  have tt : t' * t' ≤ (s + (b.natAbs : Int)) * (s + (b.natAbs : Int)) := by
    have key : ∀ u : Int, 0 ≤ u → u ≤ s + (b.natAbs : Int) → u * u ≤ (s + (b.natAbs : Int)) * (s + (b.natAbs : Int)) := fun u u0 u1 => Int.mul_le_mul u1 u1 u0 (by omega)
    rcases Int.le_total 0 t' with c | c
    · exact key t' c hf.2
    · have := key (-t') (by omega) (by omega)
      rw [Int.neg_mul_neg] at this
      exact this
  have t2 : 0 ≤ t' * t' := by
    rcases Int.le_total 0 t' with c | c
    · exact Int.mul_nonneg c c
    · have := Int.mul_nonneg (show 0 ≤ -t' by omega) (show 0 ≤ -t' by omega)
      rw [Int.neg_mul_neg] at this
      exact this
  rcases Nat.lt_or_ge (b.natAbs + 4 * U.natAbs) b'.natAbs with c | c
  · exfalso
    have m : (b.natAbs : Int) * (b'.natAbs : Int) = ((U - t' * t').natAbs : Int) := by rw [← h2, Int.natAbs_mul]; rfl
    have a1 : (1 : Int) ≤ (b.natAbs : Int) := by omega
    have a2 : (b.natAbs : Int) * ((b.natAbs : Int) + 4 * U + 1) ≤ (b.natAbs : Int) * (b'.natAbs : Int) := Int.mul_le_mul_of_nonneg_left (by omega) (by omega)
    have a3 : s * (b.natAbs : Int) ≤ U * (b.natAbs : Int) := Int.mul_le_mul_of_nonneg_right l1 (by omega)
    have a4 : U * 1 ≤ U * (b.natAbs : Int) := Int.mul_le_mul_of_nonneg_left a1 (by omega)
    generalize hB : (b.natAbs : Int) = B at *
    have e2 : (s + B) * (s + B) = s * s + 2 * (s * B) + B * B := by grind
    have e3 : B * (B + 4 * U + 1) = B * B + 4 * (U * B) + B := by grind
    have a5 : 0 ≤ B * B := Int.mul_nonneg (by omega) (by omega)
    omega
  · exact c
theorem st_snoc (s U : Int) (x : Int × Int) (i : Nat) : stW s U x (i + 1) = nxW s U (stW s U x i) := by
  rw [stW_add]; rfl
theorem st_near {s U : Int} {x : Int × Int} (S : SqR s U) (h : DvS U x) (i : Nat) : (stW s U x i).2.natAbs ≤ x.2.natAbs + i * (4 * U.natAbs) ∧ (stW s U x i).1.natAbs ≤ x.1.natAbs + x.2.natAbs + U.natAbs + i * (4 * U.natAbs) := by
  induction i with
  | zero => exact ⟨by show x.2.natAbs ≤ _; omega, by show x.1.natAbs ≤ _; omega⟩
  | succ i ih =>
    have n := nx_near S (st_dv S h i)
    rw [st_snoc, Nat.succ_mul]
    constructor <;> omega
/-- the parts of a number by which it is walked -/
def sgT (O : Int) : Int := if O < 0 then -1 else 1
def stX (T O B : Int) : Int × Int := (sgT O * (T * B), sgT O * (B * B))
theorem sgT_sq (O : Int) : sgT O * sgT O = 1 := by unfold sgT; split <;> rfl
theorem sgT_abs (O : Int) : sgT O * O = (O.natAbs : Int) := by unfold sgT; split <;> omega
theorem stX_dv {T O B q : Int} (hB : 1 ≤ B) : DvS ((O * B) * (O * B) * q) (stX T O B) := by
  have h := sgT_sq O
  unfold stX
  refine ⟨fun e => ?_, sgT O * (O * O * q - T * T), ?_⟩
  · dsimp only at e
    have b2 : 1 ≤ B * B := by
      have := Int.mul_le_mul hB hB (by omega) (by omega)
      omega
    have : sgT O * (sgT O * (B * B)) = 0 := by rw [e, Int.mul_zero]
    rw [← Int.mul_assoc, h] at this
    omega
  · dsimp only
    have e1 : sgT O * (O * O * q - T * T) * (sgT O * (B * B)) = (sgT O * sgT O) * ((O * O * q - T * T) * (B * B)) := by grind
    have e2 : sgT O * (T * B) * (sgT O * (T * B)) = (sgT O * sgT O) * ((T * B) * (T * B)) := by grind
    rw [e1, e2, h]
    grind
/-- the number (T and O roots of D) over B is the one of a stair: its table's upper row over its lower one -/
structure NumS (A R : List Int) (T O B : Int) : Prop where
  e1 : T * (t4L A).r + O * ((t4L A).r * ((t4L R).p - (t4L R).s) + (t4L A).s * (2 * (t4L R).r)) = B * (t4L A).p
  e2 : T * ((t4L A).r * ((t4L R).p - (t4L R).s) + (t4L A).s * (2 * (t4L R).r)) + (t4L A).r * O * upN (t4L R) = B * ((t4L A).p * ((t4L R).p - (t4L R).s) + (t4L A).q * (2 * (t4L R).r))
theorem tw_det : ∀ A : List Int, (t4L A).p * (t4L A).s - (t4L A).q * (t4L A).r = 1 ∨ (t4L A).p * (t4L A).s - (t4L A).q * (t4L A).r = -1
  | [] => .inl rfl
  | a :: A => by
    have := tw_det A
    rw [tw_cons]
    dsimp only
    have e : (a * (t4L A).p + (t4L A).r) * (t4L A).q - (a * (t4L A).q + (t4L A).s) * (t4L A).p = -((t4L A).p * (t4L A).s - (t4L A).q * (t4L A).r) := by grind
    rw [e]
    omega
theorem two_eq {u v X Y r p : Int} (k1 : u * Y = v * X) (k2 : u * r = v * p) : v * (X * r - p * Y) = 0 ∧ u * (X * r - p * Y) = 0 := by
  constructor
  · have e : v * (X * r - p * Y) = (v * X) * r - (v * p) * Y := by grind
    rw [e, ← k1, ← k2]
    grind
  · have e : u * (X * r - p * Y) = (u * r) * X - (u * Y) * p := by grind
    rw [e, k1, k2]
    grind
theorem num_wk {A R : List Int} {T O B : Int} (h1 : ∀ a ∈ R, 1 ≤ a) (h0 : R ≠ []) (hO : O ≠ 0) (hB : 1 ≤ B) (N : NumS A R T O B) :
    Wk (rgU (O * B).natAbs R) (rgS (O * B).natAbs R).1 (rgS (O * B).natAbs R).2 A (stX T O B).1 (stX T O B).2 ∧ rgU (O * B).natAbs R = (O * B) * (O * B) * upN (t4L R) ∧
    (∀ A' t' b', Wk (rgU (O * B).natAbs R) (rgS (O * B).natAbs R).1 (rgS (O * B).natAbs R).2 A' t' b' → b' ≠ 0) := by
  obtain ⟨e1, e2⟩ := N
  obtain ⟨q1, r1, s0', pq, pr, qs, rs, d⟩ := tw_row R h1 h0
  have up := tw_pos h1 h0
  have kk : (((O * B).natAbs : Int)) = sgT O * (O * B) := by
    rw [Int.natAbs_mul, Int.natCast_mul, ← sgT_abs, show ((B.natAbs : Nat) : Int) = B by omega, Int.mul_assoc]
  have hU : rgU (O * B).natAbs R = (O * B) * (O * B) * upN (t4L R) := by
    unfold rgU
    rw [kk]
    have e : ∀ g x V : Int, g * x * (g * x) * V = (g * g) * (x * x * V) := fun g x V => by grind
    rw [e, sgT_sq, Int.one_mul]
  have k1 : 1 ≤ (((O * B).natAbs : Nat) : Int) := by
    have : (O * B) ≠ 0 := Int.mul_ne_zero hO (by omega)
    omega
  generalize hk : (((O * B).natAbs : Nat) : Int) = k at *
  have nsq : ∀ y : Int, y * y ≠ rgU k R := fun y e => by
    unfold rgU at e
    have hd : k * k ∣ y * y := ⟨upN (t4L R), e⟩
    have hd2 : k ∣ y := by
      have := Int.pow_dvd_pow_iff (a := k) (b := y) (n := 2) (by decide)
      rw [Int.pow_succ, Int.pow_succ, Int.pow_zero, Int.one_mul, Int.pow_succ, Int.pow_succ, Int.pow_zero, Int.one_mul] at this
      exact this.mp hd
    obtain ⟨z, rfl⟩ := hd2
    refine up.2 z ?_
    have : k * k * (z * z) = k * k * upN (t4L R) := by rw [← e]; grind
    exact Int.eq_of_mul_eq_mul_left (by have := Int.mul_pos (show 0 < k by omega) (show 0 < k by omega); omega) this
  have uk : 0 ≤ rgU k R := by
    unfold rgU
    exact Int.mul_nonneg (Int.mul_nonneg (by omega) (by omega)) (by omega)
  obtain ⟨s, S⟩ := sqR_ex uk nsq
  have b0 : (rgS k R).2 ≠ 0 := by
    show 2 * (k * (t4L R).r) ≠ 0
    have := Int.mul_pos (show 0 < k by omega) (show 0 < (t4L R).r by omega)
    omega
  have c0 : (2 * (k * (t4L R).q)) * (rgS k R).2 = rgU k R - (rgS k R).1 * (rgS k R).1 := by
    show (2 * (k * (t4L R).q)) * (2 * (k * (t4L R).r)) = k * k * upN (t4L R) - (k * ((t4L R).p - (t4L R).s)) * (k * ((t4L R).p - (t4L R).s))
    unfold upN
    grind
  have fn : ∀ A' t1 b1 t2 b2, Wk (rgU k R) (rgS k R).1 (rgS k R).2 A' t1 b1 → Wk (rgU k R) (rgS k R).1 (rgS k R).2 A' t2 b2 → b1 ≠ 0 → t2 = t1 ∧ b2 = b1 := by
    intro A'
    induction A' with
    | nil => rintro t1 b1 t2 b2 ⟨rfl, rfl⟩ ⟨rfl, rfl⟩ _; exact ⟨rfl, rfl⟩
    | cons a A' ih =>
      rintro t1 b1 t2 b2 ⟨t3, b3, w3, P3⟩ ⟨t4, b4, w4, P4⟩ _
      obtain ⟨t5, b5, c5, w5, n5, _⟩ := wk_ex S b0 c0 A'
      obtain ⟨x1, x2⟩ := ih t5 b5 t3 b3 w5 w3 n5
      obtain ⟨x3, x4⟩ := ih t5 b5 t4 b4 w5 w4 n5
      subst x1 x2 x3 x4
      have hb : b2 = b1 := Int.eq_of_mul_eq_mul_right n5 (P4.eb.trans P3.eb.symm)
      subst hb
      exact ⟨P4.et.trans P3.et.symm, rfl⟩
  have all : ∀ A' t' b', Wk (rgU k R) (rgS k R).1 (rgS k R).2 A' t' b' → b' ≠ 0 := fun A' t' b' w => by
    obtain ⟨t5, b5, c5, w5, n5, _⟩ := wk_ex S b0 c0 A'
    rw [(fn A' t5 b5 t' b' w5 w n5).2]
    exact n5
  refine ⟨?_, hU, all⟩
  obtain ⟨t, b, c, w, bn, _⟩ := wk_ex S b0 c0 A
  obtain ⟨i1, i2⟩ := wk_tab A t b b0 w bn all
  have det := tw_det A
  suffices h : (stX T O B).1 = t ∧ (stX T O B).2 = b by rw [h.1, h.2]; exact w
  have j1 : (stX T O B).1 * ((t4L A).r * (rgS k R).1 + (t4L A).s * (rgS k R).2) + (t4L A).r * rgU k R = (stX T O B).2 * ((t4L A).p * (rgS k R).1 + (t4L A).q * (rgS k R).2) := by
    rw [hU]
    show sgT O * (T * B) * ((t4L A).r * (k * ((t4L R).p - (t4L R).s)) + (t4L A).s * (2 * (k * (t4L R).r))) + (t4L A).r * (O * B * (O * B) * upN (t4L R)) = sgT O * (B * B) * ((t4L A).p * (k * ((t4L R).p - (t4L R).s)) + (t4L A).q * (2 * (k * (t4L R).r)))
    rw [kk]
    have g := sgT_sq O
    generalize sgT O = g0 at *
    have l : g0 * (T * B) * ((t4L A).r * (g0 * (O * B) * ((t4L R).p - (t4L R).s)) + (t4L A).s * (2 * (g0 * (O * B) * (t4L R).r))) = (g0 * g0) * (O * B * B * (T * ((t4L A).r * ((t4L R).p - (t4L R).s) + (t4L A).s * (2 * (t4L R).r)))) := by grind
    have r : g0 * (B * B) * ((t4L A).p * (g0 * (O * B) * ((t4L R).p - (t4L R).s)) + (t4L A).q * (2 * (g0 * (O * B) * (t4L R).r))) = (g0 * g0) * (O * B * B * (B * ((t4L A).p * ((t4L R).p - (t4L R).s) + (t4L A).q * (2 * (t4L R).r)))) := by grind
    rw [l, r, g, ← e2]
    grind
  have j2 : (stX T O B).1 * (t4L A).r + ((t4L A).r * (rgS k R).1 + (t4L A).s * (rgS k R).2) = (stX T O B).2 * (t4L A).p := by
    show sgT O * (T * B) * (t4L A).r + ((t4L A).r * (k * ((t4L R).p - (t4L R).s)) + (t4L A).s * (2 * (k * (t4L R).r))) = sgT O * (B * B) * (t4L A).p
    rw [kk]
    generalize sgT O = g0 at *
    have : g0 * (B * B) * (t4L A).p = g0 * B * (B * (t4L A).p) := by grind
    rw [this, ← e1]
    grind
  generalize (stX T O B).1 = t2 at *
  generalize (stX T O B).2 = b2 at *
  generalize (rgS k R).1 = t0 at *
  generalize (rgS k R).2 = bb at *
  generalize (t4L A).p = p at *
  generalize (t4L A).q = q at *
  generalize (t4L A).r = r at *
  generalize (t4L A).s = s' at *
  -- two equations, one answer
  have k1 : (t2 - t) * (r * t0 + s' * bb) = (b2 - b) * (p * t0 + q * bb) := by rw [Int.sub_mul, Int.sub_mul]; omega
  have k2 : (t2 - t) * r = (b2 - b) * p := by rw [Int.sub_mul, Int.sub_mul]; omega
  obtain ⟨k3, k4⟩ := two_eq k1 k2
  have e3 : (p * t0 + q * bb) * r - p * (r * t0 + s' * bb) = -((p * s' - q * r) * bb) := by clear j1 j2 i1 i2 k1 k2 k3 k4; grind
  rw [e3] at k3 k4
  have nz : -((p * s' - q * r) * bb) ≠ 0 := by rcases det with d | d <;> rw [d] <;> omega
  have := (Int.mul_eq_zero.mp k3).resolve_right nz
  have := (Int.mul_eq_zero.mp k4).resolve_right nz
  constructor <;> omega
/-- all that stair_of needs of a stair's number -/
theorem num_walk {A R : List Int} {T O B s : Int} (h1 : ∀ a ∈ R, 1 ≤ a) (h0 : R ≠ []) (hp : Prm R) (hA : ∀ a ∈ A.tail, 1 ≤ a) (hlast : A = [] ∨ A.getLast? ≠ R.getLast?) (hO : O ≠ 0) (hB : 1 ≤ B) (N : NumS A R T O B) (S : SqR s ((O * B) * (O * B) * upN (t4L R))) :
    (∀ i, i < A.length → ¬ RedS s (stW s ((O * B) * (O * B) * upN (t4L R)) (stX T O B) i).1 (stW s ((O * B) * (O * B) * upN (t4L R)) (stX T O B) i).2) ∧
    RedS s (stW s ((O * B) * (O * B) * upN (t4L R)) (stX T O B) A.length).1 (stW s ((O * B) * (O * B) * upN (t4L R)) (stX T O B) A.length).2 ∧
    dgsW s ((O * B) * (O * B) * upN (t4L R)) (stX T O B) 0 A.length = A ∧ (∀ j, 0 < j → j < R.length → stW s ((O * B) * (O * B) * upN (t4L R)) (stX T O B) (A.length + j) ≠ stW s ((O * B) * (O * B) * upN (t4L R)) (stX T O B) A.length) ∧
    stW s ((O * B) * (O * B) * upN (t4L R)) (stX T O B) (A.length + R.length) = stW s ((O * B) * (O * B) * upN (t4L R)) (stX T O B) A.length ∧ dgsW s ((O * B) * (O * B) * upN (t4L R)) (stX T O B) A.length R.length = R := by
  obtain ⟨w, hU, all⟩ := num_wk h1 h0 hO hB N
  have k1 : 1 ≤ (((O * B).natAbs : Nat) : Int) := by
    have : (O * B) ≠ 0 := Int.mul_ne_zero hO (by omega)
    omega
  rw [← hU] at S
  have := st_walk (t := (stX T O B).1) (b := (stX T O B).2) k1 h1 h0 S hp hA hlast all w
  rw [hU] at this
  exact this

/-! ### rings that no turn but the whole leads to themselves; shortest parts -/
theorem trn_add (i j : Nat) : ∀ L : List Int, trn (i + j) L = trn j (trn i L) := by
  induction i with
  | zero => intro L; rw [Nat.zero_add]; rfl
  | succ i ih =>
    intro L
    rw [Nat.succ_add]
    match L with
    | [] =>
      show trn (i + j + 1) [] = trn j (trn (i + 1) [])
      have : ∀ n, trn n ([] : List Int) = [] := fun n => by cases n <;> rfl
      rw [this, this, this]
    | a :: X =>
      show trn (i + j) (X ++ [a]) = trn j (trn i (X ++ [a]))
      exact ih _
theorem trn_all (L : List Int) : trn L.length L = L := by
  have := trn_app L []
  simpa using this
theorem trn_com (i j : Nat) (L : List Int) : trn i (trn j L) = trn j (trn i L) := by rw [← trn_add, ← trn_add, Nat.add_comm]
theorem trn_mul {i : Nat} {L : List Int} (h : trn i L = L) : ∀ m, trn (i * m) L = L
  | 0 => rfl
  | m + 1 => by rw [Nat.mul_succ, trn_add, trn_mul h m, h]
theorem trn_gcd {L : List Int} : ∀ i j : Nat, trn i L = L → trn j L = L → trn (Nat.gcd i j) L = L := by
  intro i
  induction i using Nat.strongRecOn with
  | _ i ih =>
    intro j hi hj
    match i, hi, ih with
    | 0, _, _ => rw [Nat.gcd_zero_left]; exact hj
    | i + 1, hi, ih =>
      rw [Nat.gcd_rec]
      refine ih _ (Nat.mod_lt _ (Nat.succ_pos i)) _ ?_ hi
      have e := Nat.div_add_mod j (i + 1)
      rw [← e, trn_add, trn_mul hi] at hj
      exact hj
theorem told_succ (P : List Int) (m : Nat) : told P (m + 1) = P ++ told P m := by unfold told; rw [List.replicate_succ, List.flatten_cons]
theorem told_add (P : List Int) (a : Nat) : ∀ b, told P (b + a) = told P b ++ told P a
  | 0 => by rw [Nat.zero_add]; rfl
  | b + 1 => by rw [Nat.succ_add, told_succ, told_succ, told_add P a b, List.append_assoc]
theorem told_told (P : List Int) (a : Nat) : ∀ b, told (told P a) b = told P (a * b)
  | 0 => rfl
  | b + 1 => by rw [told_succ, told_told P a b, Nat.mul_succ, Nat.add_comm (a * b), told_add]
theorem told_len (P : List Int) : ∀ m, (told P m).length = m * P.length
  | 0 => by rw [Nat.zero_mul]; rfl
  | m + 1 => by rw [told_succ, List.length_append, told_len P m, Nat.succ_mul, Nat.add_comm]
theorem com_told {P : List Int} : ∀ (m : Nat) (X : List Int), X.length = m * P.length → P ++ X = X ++ P → X = told P m
  | 0, X, h, _ => by
    rw [Nat.zero_mul] at h
    exact List.length_eq_zero_iff.mp h
  | m + 1, X, h, e => by
    have h1 : P.length ≤ X.length := by rw [h, Nat.succ_mul]; exact Nat.le_add_left _ _
    have h2 : X.take P.length = P := by
      have := congrArg (List.take P.length) e
      rw [List.take_left', List.take_append_of_le_length h1] at this
      · exact this.symm
      · rfl
    have h3 : X = P ++ X.drop P.length := by conv => lhs; rw [← List.take_append_drop P.length X, h2]
    rw [told_succ, ← com_told m (X.drop P.length) (by rw [List.length_drop, h, Nat.succ_mul, Nat.add_sub_cancel]) ?_]
    · exact h3
    · rw [h3, List.append_assoc] at e
      have := List.append_cancel_left e
      exact this
theorem trn_told {L : List Int} {d : Nat} (h0 : L ≠ []) (hd : d ≤ L.length) (hn : L.length % d = 0) (h : trn d L = L) : L = told (L.take d) (L.length / d) := by
  rw [trn_take hd] at h
  have l0 := ne_len h0
  have d0 : 0 < d := Nat.pos_of_ne_zero fun e => by rw [e, Nat.mod_zero] at hn; omega
  have e1 : L.take d ++ L.drop d = L.drop d ++ L.take d := by rw [List.take_append_drop, h]
  obtain ⟨m, em⟩ := Nat.dvd_of_mod_eq_zero hn
  have m0 : 0 < m := Nat.pos_of_ne_zero fun e => by rw [e, Nat.mul_zero] at em; omega
  obtain ⟨k, rfl⟩ : ∃ k, m = k + 1 := ⟨m - 1, by omega⟩
  have lt : (L.take d).length = d := by rw [List.length_take]; omega
  have e2 := com_told k (L.drop d) (by rw [List.length_drop, lt, em, Nat.mul_succ, Nat.mul_comm]; omega) e1
  rw [em, Nat.mul_div_cancel_left _ d0, told_succ, ← e2, List.take_append_drop]
theorem told_trn (P : List Int) (m : Nat) : trn P.length (told P (m + 1)) = told P (m + 1) := by
  conv => lhs; rw [told_succ]
  rw [trn_app, show told P m ++ P = told P m ++ told P 1 by unfold told; simp, ← told_add]
theorem sizeOk_trn {L : List Int} {s : Nat} (h0 : L ≠ []) (s1 : 1 ≤ s) (s2 : s ≤ L.length) (h : sizeOk L s = true) : trn s L = L := by
  unfold sizeOk at h
  rw [Bool.and_eq_true, decide_eq_true_iff, decide_eq_true_iff] at h
  obtain ⟨hd, e⟩ := h
  have q : 1 ≤ L.length / s := Nat.div_pos s2 s1
  obtain ⟨k, ek⟩ : ∃ k, L.length / s = k + 1 := ⟨L.length / s - 1, by omega⟩
  rw [ek] at e
  have lt : (L.take s).length = s := by rw [List.length_take]; omega
  have := told_trn (L.take s) k
  rw [e, lt] at this
  exact this
theorem trn_sizeOk {L : List Int} {d : Nat} (h0 : L ≠ []) (hd : d ≤ L.length) (hn : L.length % d = 0) (h : trn d L = L) : sizeOk L d = true := by
  unfold sizeOk
  rw [Bool.and_eq_true, decide_eq_true_iff, decide_eq_true_iff]
  exact ⟨hn, (trn_told h0 hd hn h).symm⟩
theorem trn_gcd_ok {L : List Int} {j : Nat} (h0 : L ≠ []) (j0 : 0 < j) (h : trn j L = L) : sizeOk L (Nat.gcd j L.length) = true ∧ 1 ≤ Nat.gcd j L.length ∧ Nat.gcd j L.length ≤ j ∧ Nat.gcd j L.length ∣ j := by
  have g := trn_gcd j L.length h (trn_all L)
  have l0 := ne_len h0
  have d1 := Nat.gcd_dvd_left j L.length
  have d2 := Nat.gcd_dvd_right j L.length
  exact ⟨trn_sizeOk h0 (Nat.le_of_dvd l0 d2) (Nat.mod_eq_zero_of_dvd d2) g, Nat.gcd_pos_of_pos_left _ j0, Nat.le_of_dvd j0 d1, d1⟩
theorem prm_sh {L : List Int} (h : 1 ≤ L.length) : Prm (shS L) ∧ shS L ≠ [] := by
  obtain ⟨s, s1, s2, ok, no, e⟩ := shS_char h
  have h0 : L ≠ [] := fun e => by rw [e] at h; exact absurd h (by decide)
  have lt : (L.take s).length = s := by rw [List.length_take]; omega
  have hne : L.take s ≠ [] := fun e => by rw [e] at lt; simp at lt; omega
  rw [e]
  refine ⟨fun j j0 j1 hj => ?_, hne⟩
  rw [lt] at j1
  obtain ⟨g1, g2, g3, _⟩ := trn_gcd_ok hne j0 hj
  rw [lt] at g1 g2 g3
  generalize hd : Nat.gcd j s = d at *
  have ds : d ∣ s := by rw [← hd]; exact Nat.gcd_dvd_right j s
  have n := no d g2 (by omega)
  unfold sizeOk at g1 ok
  rw [Bool.and_eq_true, decide_eq_true_iff, decide_eq_true_iff] at g1 ok
  rw [lt, List.take_take, Nat.min_eq_left (by omega)] at g1
  have : sizeOk L d = true := by
    unfold sizeOk
    rw [Bool.and_eq_true, decide_eq_true_iff, decide_eq_true_iff]
    have sn : s ∣ L.length := Nat.dvd_of_mod_eq_zero ok.1
    refine ⟨Nat.mod_eq_zero_of_dvd (Nat.dvd_trans ds sn), ?_⟩
    have e2 : told (told (L.take d) (s / d)) (L.length / s) = L := by rw [g1.2, ok.2]
    rw [told_told] at e2
    obtain ⟨x, rfl⟩ := ds
    obtain ⟨y, ey⟩ := sn
    have d0 : 0 < d := g2
    have x0 : 0 < x := Nat.pos_of_ne_zero fun e => by rw [e, Nat.mul_zero] at s1; omega
    rw [ey, Nat.mul_div_cancel_left _ d0, Nat.mul_div_cancel_left _ (Nat.mul_pos d0 x0)] at e2
    rw [ey, Nat.mul_assoc, Nat.mul_div_cancel_left _ d0]
    exact e2
  rw [this] at n
  cases n
theorem prm_trn {R : List Int} (h : Prm R) (j : Nat) : Prm (trn j R) := fun i i0 i1 e => by
  rw [trn_len] at i1
  refine h i i0 i1 ?_
  have h0 : R.length ≠ 0 := by omega
  -- lead on to a whole round
  have back : ∀ X : List Int, X.length = R.length → ∃ m, trn m (trn j X) = X := fun X hX => by
    refine ⟨j * R.length - j, ?_⟩
    rw [← trn_add, show j + (j * R.length - j) = R.length * j from by
      have : j * 1 ≤ j * R.length := Nat.mul_le_mul_left _ (by omega)
      rw [Nat.mul_comm R.length]
      omega]
    have := trn_mul (L := X) (trn_all X) j
    rw [hX] at this
    exact this
  have key : ∀ m, trn m (trn j R) = R → trn m (trn j (trn i R)) = trn i R := fun m hm => by
    rw [trn_com j i, trn_com m i, hm]
  obtain ⟨m, hm⟩ := back R rfl
  have := key m hm
  rw [trn_com j i, e, hm] at this
  exact this.symm
theorem prm_sh_self {R : List Int} (h0 : R ≠ []) (h : Prm R) : shS R = R := by
  have l0 := ne_len h0
  obtain ⟨s, s1, s2, ok, no, e⟩ := shS_char (L := R) l0
  by_cases c : s < R.length
  · exact absurd (sizeOk_trn h0 s1 s2 ok) (h s s1 c)
  · rw [e, show s = R.length by omega, List.take_length]
theorem prm_fewest {A R : List Int} (h0 : R ≠ []) (h : Prm R) (hl : A = [] ∨ A.getLast? ≠ R.getLast?) : fewest A R = (A, R) := by
  unfold fewest
  rw [prm_sh_self h0 h]
  rcases hl with rfl | hl
  · rfl
  · by_cases c : A = []
    · rw [c]; rfl
    · obtain ⟨B, x, rfl⟩ : ∃ B x, A = B ++ [x] := ⟨_, _, (List.dropLast_concat_getLast c).symm⟩
      rw [List.getLast?_concat] at hl
      rw [List.reverse_append]
      show (if R.getLast? = some x then _ else _) = _
      rw [if_neg (fun e => hl e.symm)]
      simp
/-! ### a stair's number as the law reckons it -/
def lnT (R : List Int) : Int := (t4L R).p - (t4L R).s
def lnX (A R : List Int) : Int := (t4L A).p * lnT R + (t4L A).q * (2 * (t4L R).r)
def lnY (A R : List Int) : Int := (t4L A).r * lnT R + (t4L A).s * (2 * (t4L R).r)
def lnU (A R : List Int) : Int := lnY A R * lnY A R - (t4L A).r * (t4L A).r * upN (t4L R)
def lnO (A R : List Int) : Int := (t4L A).p * lnY A R - lnX A R * (t4L A).r
def lnN (A R : List Int) : Int := lnX A R * lnY A R - (t4L A).p * (t4L A).r * upN (t4L R)
def lnS (A R : List Int) : Int := if 0 < lnU A R then 1 else -1
theorem ln_o (A R : List Int) : lnO A R = ((t4L A).p * (t4L A).s - (t4L A).q * (t4L A).r) * (2 * (t4L R).r) := by
  unfold lnO lnX lnY
  generalize lnT R = x
  generalize (t4L R).r = y
  grind
theorem ln_u0 {A R : List Int} (h1 : ∀ a ∈ R, 1 ≤ a) (h0 : R ≠ []) : lnU A R ≠ 0 := fun e => by
  have up := (tw_pos h1 h0).2
  have r1 := (tw_row R h1 h0).r1
  have det := tw_det A
  unfold lnU at e
  by_cases c : (t4L A).r = 0
  · have ey : lnY A R = (t4L A).s * (2 * (t4L R).r) := by unfold lnY; rw [c]; omega
    rw [c, Int.mul_zero, Int.zero_mul, ey] at e
    rw [c, Int.mul_zero] at det
    have s0 : (t4L A).s ≠ 0 := fun h => by rw [h, Int.mul_zero] at det; omega
    have : (t4L A).s * (2 * (t4L R).r) ≠ 0 := Int.mul_ne_zero s0 (by omega)
    exact Int.mul_ne_zero this this (by omega)
  · generalize lnY A R = y at *
    have hd : (t4L A).r * (t4L A).r ∣ y * y := ⟨upN (t4L R), by omega⟩
    have hd2 : (t4L A).r ∣ y := by
      have := Int.pow_dvd_pow_iff (a := (t4L A).r) (b := y) (n := 2) (by decide)
      rw [Int.pow_succ, Int.pow_succ, Int.pow_zero, Int.one_mul, Int.pow_succ, Int.pow_succ, Int.pow_zero, Int.one_mul] at this
      exact this.mp hd
    obtain ⟨z, rfl⟩ := hd2
    refine up z ?_
    have : (t4L A).r * (t4L A).r * (z * z) = (t4L A).r * (t4L A).r * upN (t4L R) := by
      have : (t4L A).r * z * ((t4L A).r * z) = (t4L A).r * (t4L A).r * (z * z) := by grind
      omega
    exact Int.eq_of_mul_eq_mul_left (Int.mul_ne_zero c c) this
theorem ln_b {A R : List Int} (h1 : ∀ a ∈ R, 1 ≤ a) (h0 : R ≠ []) : 1 ≤ lnS A R * lnU A R ∧ lnS A R * lnO A R ≠ 0 := by
  have u := ln_u0 (A := A) h1 h0
  have r1 := (tw_row R h1 h0).r1
  have det := tw_det A
  have o : lnO A R ≠ 0 := by
    rw [ln_o]
    rcases det with d | d <;> rw [d] <;> omega
  unfold lnS
  constructor
  · split <;> omega
  · split <;> omega
theorem cancel3 {g a b c : Int} (g0 : g ≠ 0) (h : g * a + g * b = g * c) : a + b = c := Int.eq_of_mul_eq_mul_left g0 (by rw [Int.mul_add]; exact h)
theorem num_low {A R : List Int} {T O B g T' O' B' : Int} (g0 : g ≠ 0) (eT : T = g * T') (eO : O = g * O') (eB : B = g * B') (h : NumS A R T O B) : NumS A R T' O' B' := by
  subst eT eO eB
  obtain ⟨e1, e2⟩ := h
  refine ⟨cancel3 g0 ?_, cancel3 g0 ?_⟩
  · rw [← Int.mul_assoc, ← Int.mul_assoc g O', ← Int.mul_assoc g B']; exact e1
  · rw [← Int.mul_assoc, ← Int.mul_assoc g B', ← e2]
    generalize upN (t4L R) = D
    generalize (t4L A).r * ((t4L R).p - (t4L R).s) + (t4L A).s * (2 * (t4L R).r) = y
    clear e1 e2
    grind
/-- how great a row's table can be -/
theorem t4_wide {c : Nat} : ∀ {L : List Int}, (∀ a ∈ L, a.natAbs + 1 ≤ 2 ^ c) → (t4L L).p.natAbs ≤ 2 ^ (c * L.length) ∧ (t4L L).q.natAbs ≤ 2 ^ (c * L.length) ∧ (t4L L).r.natAbs ≤ 2 ^ (c * L.length) ∧ (t4L L).s.natAbs ≤ 2 ^ (c * L.length)
  | [], _ => by
    rw [show t4L [] = ⟨1, 0, 0, 1⟩ from rfl, List.length_nil, Nat.mul_zero]
    decide
  | a :: L, h => by
    obtain ⟨h1, h2, h3, h4⟩ := t4_wide (L := L) fun b hb => h b (List.mem_cons_of_mem _ hb)
    have ha := h a List.mem_cons_self
    rw [tw_cons, List.length_cons, Nat.mul_succ, Nat.pow_add]
    dsimp only
    generalize (2 : Nat) ^ (c * L.length) = m at *
    generalize (2 : Nat) ^ c = k at *
    have up : ∀ x y : Int, x.natAbs ≤ m → y.natAbs ≤ m → (a * x + y).natAbs ≤ m * k := fun x y hx hy => by
      have e := Int.natAbs_add_le (a * x) y
      have e2 : (a * x).natAbs ≤ a.natAbs * m := by rw [Int.natAbs_mul]; exact Nat.mul_le_mul_left _ hx
      have e3 : (a.natAbs + 1) * m ≤ k * m := Nat.mul_le_mul_right _ ha
      rw [Nat.mul_comm m k]
      rw [Nat.succ_mul] at e3
      omega
    have one : m ≤ m * k := Nat.le_mul_of_pos_right _ (by omega)
    exact ⟨up _ _ h1 h3, up _ _ h2 h4, by omega, by omega⟩

/-! ### the signs of the numbers m + n * (root of d) -/
def nmF (d m n : Int) : Int := m * m - n * n * d
theorem nm_mul (d a b c e : Int) : nmF d (a * c + b * e * d) (a * e + b * c) = nmF d a b * nmF d c e := by unfold nmF; grind
theorem nm_null {d m n : Int} (hd : isSqB d = false) (h : nmF d m n = 0) : m = 0 ∧ n = 0 := by
  unfold nmF at h
  have hn : n = 0 := Decidable.byContradiction fun c => no_root (x := m) hd c (by omega)
  subst hn
  have : m * m = 0 := by simpa using h
  exact ⟨by rcases Int.mul_eq_zero.mp this with c | c <;> exact c, rfl⟩
theorem sg_nmp {d m n : Int} (d0 : 0 ≤ d) (h : 0 < nmF d m n) : sgI (rtF m n d) = sgI m := by
  rw [rtF_sq]
  unfold nmF at h
  have h1 : 0 ≤ n * n * d := Int.mul_nonneg (sgsq n) d0
  generalize n * n * d = P at *
  generalize hM : m * m = M at *
  rcases sg_val n with e | e | e <;> rw [e] <;> rcases sg_tri m with ⟨c, e'⟩ | ⟨c, e'⟩ | ⟨c, e'⟩ <;> rw [e']
  all_goals first
    | (subst c; simp at hM; omega)
    | exact sg_mone (by omega)
    | exact sg_one (by omega)
theorem sg_nmn {d m n : Int} (h : nmF d m n < 0) : sgI (rtF m n d) = sgI n := by
  rw [rtF_sq]
  unfold nmF at h
  have h1 := sgsq m
  generalize hN : n * n * d = P at *
  generalize m * m = M at *
  rcases sg_val m with e | e | e <;> rw [e] <;> rcases sg_tri n with ⟨c, e'⟩ | ⟨c, e'⟩ | ⟨c, e'⟩ <;> rw [e']
  all_goals first
    | (subst c; simp at hN; omega)
    | exact sg_mone (by omega)
    | exact sg_one (by omega)
theorem sg_dom {A B : Int} (h : B * B < A * A) : sgI (A + B) = sgI A := by
  rcases sg_tri A with ⟨c, e⟩ | ⟨c, e⟩ | ⟨c, e⟩
  · rw [e]
    refine sg_mone ?_
    rcases Int.lt_or_le (A + B) 0 with g | g
    · exact g
    · have := Int.mul_le_mul (show -A ≤ B by omega) (show -A ≤ B by omega) (by omega) (by omega)
      rw [Int.neg_mul_neg] at this
      omega
  · subst c
    have := sgsq B
    simp at h
    omega
  · rw [e]
    refine sg_one ?_
    rcases Int.lt_or_le 0 (A + B) with g | g
    · exact g
    · have := Int.mul_le_mul (show A ≤ -B by omega) (show A ≤ -B by omega) (by omega) (by omega)
      rw [Int.neg_mul_neg] at this
      omega
theorem mul_lt2 {a b c e : Int} (a0 : 0 ≤ a) (h : a < b) (c0 : 0 ≤ c) (k : c < e) : a * c < b * e := by
  have h1 : a * c ≤ a * e := Int.mul_le_mul_of_nonneg_left (Int.le_of_lt k) a0
  have h2 : a * e < b * e := Int.mul_lt_mul_of_pos_right h (by omega)
  omega
theorem fl_cases {d : Int} (m n : Int) (hd : isSqB d = false) : (m = 0 ∧ n = 0) ∨ 0 < nmF d m n ∨ nmF d m n < 0 := by
  rcases Int.lt_trichotomy (nmF d m n) 0 with c | c | c
  · exact .inr (.inr c)
  · exact .inl (nm_null hd c)
  · exact .inr (.inl c)
theorem rtF_00 (d : Int) : rtF 0 0 d = 0 := by unfold rtF; simp
/-- signs of products -/
theorem sg_fmul {d : Int} (d0 : 0 < d) (hd : isSqB d = false) (a b c e : Int) : sgI (rtF (a * c + b * e * d) (a * e + b * c) d) = sgI (rtF a b d) * sgI (rtF c e d) := by
  have d0' := Int.le_of_lt d0
  have N := nm_mul d a b c e
  have s1 := Int.mul_nonneg (sgsq b) d0'
  have s2 := Int.mul_nonneg (sgsq e) d0'
  have s3 := sgsq a
  have s4 := sgsq c
  rcases fl_cases a b hd with ⟨rfl, rfl⟩ | h1 | h1
  · simp [rtF_00, show sgI 0 = 0 from rfl]
  · rcases fl_cases c e hd with ⟨rfl, rfl⟩ | h2 | h2
    · simp [rtF_00, show sgI 0 = 0 from rfl]
    · rw [sg_nmp d0' (by rw [N]; exact Int.mul_pos h1 h2), sg_nmp d0' h1, sg_nmp d0' h2, ← sg_mul2]
      refine sg_dom ?_
      have e1 : b * e * d * (b * e * d) = b * b * d * (e * e * d) := by ac_rfl
      have e2 : a * c * (a * c) = a * a * (c * c) := by ac_rfl
      unfold nmF at h1 h2
      rw [e1, e2]
      exact mul_lt2 s1 (by omega) s2 (by omega)
    · rw [sg_nmn (by rw [N]; exact Int.mul_neg_of_pos_of_neg h1 h2), sg_nmp d0' h1, sg_nmn h2, ← sg_mul2]
      refine sg_dom ?_
      unfold nmF at h1 h2
      have h3 := mul_lt2 s1 (show b * b * d < a * a by omega) s4 (show c * c < e * e * d by omega)
      have e1 : b * b * d * (c * c) = d * (b * c * (b * c)) := by ac_rfl
      have e2 : a * a * (e * e * d) = d * (a * e * (a * e)) := by ac_rfl
      rw [e1, e2] at h3
      exact Int.lt_of_mul_lt_mul_left h3 d0'
  · rcases fl_cases c e hd with ⟨rfl, rfl⟩ | h2 | h2
    · simp [rtF_00, show sgI 0 = 0 from rfl]
    · rw [sg_nmn (by rw [N]; exact Int.mul_neg_of_neg_of_pos h1 h2), sg_nmn h1, sg_nmp d0' h2, ← sg_mul2, Int.add_comm]
      refine sg_dom ?_
      unfold nmF at h1 h2
      have h3 := mul_lt2 s3 (show a * a < b * b * d by omega) s2 (show e * e * d < c * c by omega)
      have e1 : a * a * (e * e * d) = d * (a * e * (a * e)) := by ac_rfl
      have e2 : b * b * d * (c * c) = d * (b * c * (b * c)) := by ac_rfl
      rw [e1, e2] at h3
      exact Int.lt_of_mul_lt_mul_left h3 d0'
    · rw [sg_nmp d0' (by rw [N]; exact Int.mul_pos_of_neg_of_neg h1 h2), sg_nmn h1, sg_nmn h2, ← sg_mul2, Int.add_comm]
      have e0 : sgI (b * e * d) = sgI (b * e) := by rw [sg_mul2, sg_one d0, Int.mul_one]
      rw [← e0]
      refine sg_dom ?_
      have e1 : b * e * d * (b * e * d) = b * b * d * (e * e * d) := by ac_rfl
      have e2 : a * c * (a * c) = a * a * (c * c) := by ac_rfl
      unfold nmF at h1 h2
      rw [e1, e2]
      exact mul_lt2 s3 (by omega) s4 (by omega)
theorem ab_neg (x : Int) : abI (-x) = abI x := by unfold abI; split <;> split <;> omega
theorem rtF_neg (m n d : Int) : rtF (-m) (-n) d = -rtF m n d := by
  unfold rtF
  rw [ab_neg, ab_neg]
  grind
theorem sg_fneg (m n d : Int) : sgI (rtF (-m) (-n) d) = -sgI (rtF m n d) := by rw [rtF_neg, sg_opp]
theorem rtF_int (k d : Int) : sgI (rtF k 0 d) = sgI k := by
  rw [rtF_sq]
  simp only [Int.zero_mul, Int.mul_zero, Int.add_zero]
  exact sg_sqs k
theorem sg_fone {d k m n : Int} (d0 : 0 < d) (hd : isSqB d = false) (k0 : 0 < k) (h : 0 < sgI (rtF m n d)) : 0 < sgI (rtF (k + m) n d) := by
  have d0' := Int.le_of_lt d0
  rcases fl_cases m n hd with ⟨rfl, rfl⟩ | c | c
  · rw [Int.add_zero, rtF_int, sg_one k0]; decide
  · rw [sg_nmp d0' c] at h
    have m0 : 0 < m := by rcases sg_tri m with ⟨c, e⟩ | ⟨c, e⟩ | ⟨c, e⟩ <;> omega
    have e : nmF d (k + m) n = nmF d m n + 2 * (k * m) + k * k := by unfold nmF; grind
    have := Int.mul_pos k0 m0
    have := sgsq k
    rw [sg_nmp d0' (by omega), sg_one (by omega)]
    decide
  · rw [sg_nmn c] at h
    have n0 : 0 < n := by rcases sg_tri n with ⟨c, e⟩ | ⟨c, e⟩ | ⟨c, e⟩ <;> omega
    rcases fl_cases (k + m) n hd with ⟨_, e⟩ | g | g
    · omega
    · rw [sg_nmp d0' g]
      rcases Int.lt_or_le 0 (k + m) with z | z
      · rw [sg_one z]; decide
      · exfalso
        have := Int.mul_le_mul (show -(k + m) ≤ -m by omega) (show -(k + m) ≤ -m by omega) (by omega) (by omega)
        rw [Int.neg_mul_neg, Int.neg_mul_neg] at this
        unfold nmF at c g
        omega
    · rw [sg_nmn g, sg_one n0]; decide
/-- signs of sums -/
theorem sg_fadd {d : Int} (d0 : 0 < d) (hd : isSqB d = false) {a b c e : Int} (h1 : 0 < sgI (rtF a b d)) (h2 : 0 < sgI (rtF c e d)) : 0 < sgI (rtF (a + c) (b + e) d) := by
  have d0' := Int.le_of_lt d0
  have N0 : nmF d a b ≠ 0 := fun z => by
    obtain ⟨rfl, rfl⟩ := nm_null hd z
    rw [rtF_00] at h1
    exact absurd h1 (by decide)
  obtain ⟨s, hs⟩ : ∃ s : Int, 0 < s * nmF d a b := by
    rcases Int.lt_or_gt_of_ne N0 with c | c
    · exact ⟨-1, by omega⟩
    · exact ⟨1, by omega⟩
  have m1 := sg_fmul d0 hd a b (s * a) (-(s * b))
  have e1 : a * (s * a) + b * -(s * b) * d = s * nmF d a b := by unfold nmF; grind
  have e2 : a * -(s * b) + b * (s * a) = 0 := by grind
  rw [e1, e2, rtF_int, sg_one hs] at m1
  have t1 : 0 < sgI (rtF (s * a) (-(s * b)) d) := by
    rcases sg_val (rtF (s * a) (-(s * b)) d) with z | z | z <;> rw [z] at m1 ⊢
    · omega
    · omega
    · decide
  have m2 := sg_fmul d0 hd c e (s * a) (-(s * b))
  have t2 : 0 < sgI (rtF (c * (s * a) + e * -(s * b) * d) (c * -(s * b) + e * (s * a)) d) := by rw [m2]; exact Int.mul_pos h2 t1
  have t3 := sg_fone d0 hd hs t2
  have m3 := sg_fmul d0 hd (a + c) (b + e) (s * a) (-(s * b))
  have e3 : (a + c) * (s * a) + (b + e) * -(s * b) * d = s * nmF d a b + (c * (s * a) + e * -(s * b) * d) := by unfold nmF; grind
  have e4 : (a + c) * -(s * b) + (b + e) * (s * a) = c * -(s * b) + e * (s * a) := by grind
  rw [e3, e4] at m3
  rw [m3] at t3
  rcases Int.lt_or_le 0 (sgI (rtF (a + c) (b + e) d)) with z | z
  · exact z
  · have := Int.mul_le_mul_of_nonneg_right z (Int.le_of_lt t1)
    omega
theorem sg_fsum {d : Int} (d2 : 2 ≤ d) (hd : isSqB d = false) {a b c e : Int} (h1 : 0 ≤ sgI (rtF a b d)) (h2 : 0 ≤ sgI (rtF c e d)) : sgI (rtF (a + c) (b + e) d) = sgI (sgI (rtF a b d) + sgI (rtF c e d)) := by
  rcases sg_val (rtF a b d) with z | z | z
  · omega
  · obtain ⟨rfl, rfl⟩ := rt_zero d2 hd z
    rw [z, Int.zero_add, Int.zero_add, Int.zero_add, sgsg]
  · rcases sg_val (rtF c e d) with y | y | y
    · omega
    · obtain ⟨rfl, rfl⟩ := rt_zero d2 hd y
      rw [y, Int.add_zero, Int.add_zero, Int.add_zero, sgsg]
    · have h3 := sg_fadd (by omega) hd (a := a) (b := b) (c := c) (e := e) (by omega) (by omega)
      rw [z, y]
      rcases sg_val (rtF (a + c) (b + e) d) with x | x | x
      · omega
      · omega
      · rw [x]; rfl
theorem sg_fsumN {d : Int} (d2 : 2 ≤ d) (hd : isSqB d = false) {a b c e : Int} (h1 : sgI (rtF a b d) ≤ 0) (h2 : sgI (rtF c e d) ≤ 0) : sgI (rtF (a + c) (b + e) d) = sgI (sgI (rtF a b d) + sgI (rtF c e d)) := by
  have n1 := sg_fneg a b d
  have n2 := sg_fneg c e d
  have := sg_fsum d2 hd (a := -a) (b := -b) (c := -c) (e := -e) (by omega) (by omega)
  have e1 : -a + -c = -(a + c) := by omega
  have e2 : -b + -e = -(b + e) := by omega
  rw [e1, e2, sg_fneg, n1, n2] at this
  have e3 : -sgI (rtF a b d) + -sgI (rtF c e d) = -(sgI (rtF a b d) + sgI (rtF c e d)) := by omega
  rw [e3, sg_opp] at this
  omega

/-! ### parts of a number, by any square, beside m + n * (root of d) over k -/
structure Rl (d T O q B m n k : Int) : Prop where
  k1 : 1 ≤ k
  b1 : 1 ≤ B
  t : T * k = m * B
  o : (O = 0 ∧ n = 0) ∨ ∃ r, 0 < r ∧ r * r = q * d ∧ O * k * q = n * B * r
theorem sq_inj {a b : Int} (a0 : 0 ≤ a) (b0 : 0 ≤ b) (h : a * a = b * b) : a = b := by
  rcases Int.lt_trichotomy a b with c | c | c
  · have := sq_lt' a0 c; omega
  · exact c
  · have := sq_lt' b0 c; omega
theorem mul_can {a b c : Int} (h : a ≠ 0) (e : a * b = a * c) : b = c := Int.eq_of_mul_eq_mul_left h e
theorem Rl.rr {d T O q B m n k : Int} (h : Rl d T O q B m n k) {r : Int} (r0 : 0 < r) (e : r * r = q * d) : O * k * q = n * B * r := by
  rcases h.o with ⟨rfl, rfl⟩ | ⟨r', p0, e', f⟩
  · simp
  · have : r' = r := sq_inj (by omega) (by omega) (by omega)
    rw [← this]; exact f
theorem Rl.n0 {d T O q B m n k : Int} (h : Rl d T O q B m n k) (e : O = 0) : n = 0 := by
  rcases h.o with ⟨_, f⟩ | ⟨r, p0, _, f⟩
  · exact f
  · subst e
    have f' : n * B * r = 0 := by simpa using f.symm
    rcases Int.mul_eq_zero.mp f' with f | f
    · rcases Int.mul_eq_zero.mp f with f | f
      · exact f
      · have := h.b1; omega
    · omega
theorem Rl.nz {d T O q B m n k : Int} (h : Rl d T O q B m n k) (q0 : 0 < q) (e : O ≠ 0) : ∃ r, 0 < r ∧ r * r = q * d ∧ O * k * q = n * B * r := by
  rcases h.o with ⟨f, _⟩ | f
  · exact absurd f e
  · exact f
theorem rl_seen {d T O q B m1 n1 k1 T2 O2 q2 B2 m2 n2 k2 t o b s : Int} (h1 : Rl d T O q B m1 n1 k1) (h2 : Rl d T2 O2 q2 B2 m2 n2 k2) (q0 : 0 < q) (p0 : 0 < q2) (S : Seen T O q B T2 O2 q2 B2 t o b s) :
    0 < s ∧ Rl d T O s B m1 n1 k1 ∧ Rl d t o s b m2 n2 k2 := by
  cases S with
  | whole h => exact ⟨q0, h1, h2.k1, h2.b1, h2.t, .inl ⟨rfl, h2.n0 h⟩⟩
  | here h k => exact ⟨p0, ⟨h1.k1, h1.b1, h1.t, .inl ⟨k, h1.n0 k⟩⟩, h2⟩
  | both y h k y0 e =>
    obtain ⟨r1, a0, a1, a2⟩ := h1.nz q0 k
    obtain ⟨r2, c0, c1, c2⟩ := h2.nz p0 h
    have b1 := h2.b1
    have ey : r2 * y = r1 * q2 := sq_inj (Int.mul_nonneg (by omega) y0) (Int.mul_nonneg (by omega) (by omega)) (by
      have x1 : r2 * y * (r2 * y) = r2 * r2 * (y * y) := by ac_rfl
      have x2 : r1 * q2 * (r1 * q2) = r1 * r1 * (q2 * q2) := by ac_rfl
      rw [x1, x2, a1, c1, e]
      ac_rfl)
    refine ⟨q0, h1, h2.k1, ?_, ?_, .inr ⟨r1, a0, a1, ?_⟩⟩
    · have := Int.mul_pos (show 0 < B2 by omega) q0; omega
    · have := h2.t
      calc T2 * q * k2 = T2 * k2 * q := by ac_rfl
        _ = m2 * (B2 * q) := by rw [this]; ac_rfl
    · have e3 : q2 * (O2 * y * k2) = q2 * (n2 * B2 * r1) := by
        calc q2 * (O2 * y * k2) = O2 * k2 * q2 * y := by ac_rfl
          _ = n2 * B2 * (r2 * y) := by rw [c2]; ac_rfl
          _ = q2 * (n2 * B2 * r1) := by rw [ey]; ac_rfl
      have e4 := mul_can (by omega) e3
      calc O2 * y * k2 * q = n2 * B2 * r1 * q := by rw [e4]
        _ = n2 * (B2 * q) * r1 := by ac_rfl
theorem Rl.two {d T O s B m1 n1 k1 t o b m2 n2 k2 : Int} (h1 : Rl d T O s B m1 n1 k1) (h2 : Rl d t o s b m2 n2 k2) : (O = 0 ∧ n1 = 0 ∧ o = 0 ∧ n2 = 0) ∨ ∃ r, 0 < r ∧ r * r = s * d ∧ O * k1 * s = n1 * B * r ∧ o * k2 * s = n2 * b * r := by
  rcases h1.o with ⟨a, b⟩ | ⟨r, r0, e, f⟩
  · rcases h2.o with ⟨c, g⟩ | ⟨r, r0, e, f⟩
    · exact .inl ⟨a, b, c, g⟩
    · exact .inr ⟨r, r0, e, h1.rr r0 e, f⟩
  · exact .inr ⟨r, r0, e, f, h2.rr r0 e⟩
theorem mul_one1 {a b : Int} (h : 1 ≤ a) (k : 1 ≤ b) : 1 ≤ a * b := by have := Int.mul_pos (show 0 < a by omega) (show 0 < b by omega); omega
theorem rl_add {d T O s B m1 n1 k1 t o b m2 n2 k2 : Int} (h1 : Rl d T O s B m1 n1 k1) (h2 : Rl d t o s b m2 n2 k2) : Rl d (T * b + t * B) (O * b + o * B) s (B * b) (m1 * k2 + m2 * k1) (n1 * k2 + n2 * k1) (k1 * k2) := by
  refine ⟨mul_one1 h1.k1 h2.k1, mul_one1 h1.b1 h2.b1, ?_, ?_⟩
  · have e1 := h1.t
    have e2 := h2.t
    calc (T * b + t * B) * (k1 * k2) = (T * k1) * (b * k2) + (t * k2) * (B * k1) := by grind
      _ = (m1 * k2 + m2 * k1) * (B * b) := by rw [e1, e2]; grind
  · rcases h1.two h2 with ⟨rfl, rfl, rfl, rfl⟩ | ⟨r, r0, e, f, g⟩
    · exact .inl ⟨by simp, by simp⟩
    · refine .inr ⟨r, r0, e, ?_⟩
      calc (O * b + o * B) * (k1 * k2) * s = (O * k1 * s) * (b * k2) + (o * k2 * s) * (B * k1) := by grind
        _ = (n1 * k2 + n2 * k1) * (B * b) * r := by rw [f, g]; grind
theorem rl_mul {d T O s B m1 n1 k1 t o b m2 n2 k2 : Int} (s0 : 0 < s) (h1 : Rl d T O s B m1 n1 k1) (h2 : Rl d t o s b m2 n2 k2) : Rl d (T * t + O * o * s) (T * o + O * t) s (B * b) (m1 * m2 + n1 * n2 * d) (m1 * n2 + n1 * m2) (k1 * k2) := by
  have e1 := h1.t
  have e2 := h2.t
  refine ⟨mul_one1 h1.k1 h2.k1, mul_one1 h1.b1 h2.b1, ?_, ?_⟩
  · have e3 : O * o * s * (k1 * k2) = n1 * n2 * d * (B * b) := by
      rcases h1.two h2 with ⟨rfl, rfl, rfl, rfl⟩ | ⟨r, r0, e, f, g⟩
      · simp
      · refine mul_can (a := s) (by omega) ?_
        calc s * (O * o * s * (k1 * k2)) = (O * k1 * s) * (o * k2 * s) := by ac_rfl
          _ = n1 * B * (n2 * b) * (r * r) := by rw [f, g]; ac_rfl
          _ = s * (n1 * n2 * d * (B * b)) := by rw [e]; ac_rfl
    calc (T * t + O * o * s) * (k1 * k2) = (T * k1) * (t * k2) + O * o * s * (k1 * k2) := by grind
      _ = (m1 * m2 + n1 * n2 * d) * (B * b) := by rw [e1, e2, e3]; grind
  · rcases h1.two h2 with ⟨rfl, rfl, rfl, rfl⟩ | ⟨r, r0, e, f, g⟩
    · exact .inl ⟨by simp, by simp⟩
    · refine .inr ⟨r, r0, e, ?_⟩
      calc (T * o + O * t) * (k1 * k2) * s = (T * k1) * (o * k2 * s) + (O * k1 * s) * (t * k2) := by grind
        _ = (m1 * n2 + n1 * m2) * (B * b) * r := by rw [e1, e2, f, g]; grind
theorem Rl.mate {d T O q B m n k : Int} (h : Rl d T O q B m n k) : Rl d T (0 - O) q B m (-n) k := by
  refine ⟨h.k1, h.b1, h.t, ?_⟩
  rcases h.o with ⟨rfl, rfl⟩ | ⟨r, r0, e, f⟩
  · exact .inl ⟨by simp, by simp⟩
  · exact .inr ⟨r, r0, e, by grind⟩
theorem Rl.neg {d T O q B m n k : Int} (h : Rl d T O q B m n k) : Rl d (0 - T) (0 - O) q B (-m) (-n) k := by
  have := h.mate
  exact ⟨h.k1, h.b1, by have := h.t; grind, this.o⟩
theorem Rl.low {d g T O q B m n k : Int} (g1 : 1 ≤ g) (b1 : 1 ≤ B) (h : Rl d (g * T) (g * O) q (g * B) m n k) : Rl d T O q B m n k := by
  have g0 : g ≠ 0 := by omega
  refine ⟨h.k1, b1, mul_can g0 (by have := h.t; grind), ?_⟩
  rcases h.o with ⟨e, f⟩ | ⟨r, r0, e, f⟩
  · exact .inl ⟨by rcases Int.mul_eq_zero.mp e with c | c <;> omega, f⟩
  · exact .inr ⟨r, r0, e, mul_can g0 (by grind)⟩
/-- by squares -/
theorem Rl.sq {d T O q B m n k : Int} (h : Rl d T O q B m n k) (q0 : 0 < q) : O * k * (O * k) * q = n * B * (n * B) * d := by
  rcases h.o with ⟨rfl, rfl⟩ | ⟨r, r0, e, f⟩
  · simp
  · refine mul_can (a := q) (by omega) ?_
    calc q * (O * k * (O * k) * q) = (O * k * q) * (O * k * q) := by ac_rfl
      _ = n * B * (n * B) * (r * r) := by rw [f]; ac_rfl
      _ = q * (n * B * (n * B) * d) := by rw [e]; ac_rfl
theorem sg_mulr {g x : Int} (h : 0 < g) : sgI (x * g) = sgI x := by rw [Int.mul_comm, sg_mul h]
theorem Rl.so {d T O q B m n k : Int} (h : Rl d T O q B m n k) (q0 : 0 < q) : sgI O = sgI n := by
  have k1 := h.k1
  have b1 := h.b1
  rcases h.o with ⟨rfl, rfl⟩ | ⟨r, r0, e, f⟩
  · rfl
  · have := congrArg sgI f
    rwa [sg_mulr q0, sg_mulr (by omega), sg_mulr r0, sg_mulr (by omega)] at this
theorem Rl.st {d T O q B m n k : Int} (h : Rl d T O q B m n k) : sgI T = sgI m := by
  have := congrArg sgI h.t
  have k1 := h.k1
  have b1 := h.b1
  rwa [sg_mulr (by omega), sg_mulr (by omega)] at this
theorem Rl.sign {d T O q B m n k : Int} (h : Rl d T O q B m n k) (q0 : 0 < q) : sgI (rtF T O q) = sgI (rtF m n d) := by
  have k1 := h.k1
  have b1 := h.b1
  have kk : 0 < k * k := Int.mul_pos (by omega) (by omega)
  have bb : 0 < B * B := Int.mul_pos (by omega) (by omega)
  have e : k * k * rtF T O q = B * B * rtF m n d := by
    rw [rtF_sq, rtF_sq, h.st, h.so q0]
    have e1 : T * k * (T * k) = m * B * (m * B) := by rw [h.t]
    have e2 := h.sq q0
    calc k * k * (sgI m * (T * T) + sgI n * (O * O * q)) = sgI m * (T * k * (T * k)) + sgI n * (O * k * (O * k) * q) := by grind
      _ = B * B * (sgI m * (m * m) + sgI n * (n * n * d)) := by rw [e1, e2]; grind
  rw [← sg_mul kk, e, sg_mul bb]
/-- whether two numbers are the same, by their parts -/
def eqB (T O q B T2 O2 q2 B2 : Int) : Bool := decide (T * B2 = T2 * B) && (decide (sgI O = sgI O2) && decide (O * B2 * (O * B2) * q = O2 * B * (O2 * B) * q2))
theorem sg_sq_inj {a b : Int} (h : sgI a = sgI b) (e : a * a = b * b) : a = b := by
  rcases sg_tri a with ⟨c, f⟩ | ⟨c, f⟩ | ⟨c, f⟩ <;> rcases sg_tri b with ⟨c', f'⟩ | ⟨c', f'⟩ | ⟨c', f'⟩ <;> rw [f, f'] at h
  all_goals first
    | (exact absurd h (by decide))
    | omega
    | exact sq_inj (by omega) (by omega) e
    | (have := sq_inj (a := -a) (b := -b) (by omega) (by omega) (by rw [Int.neg_mul_neg, Int.neg_mul_neg]; exact e); omega)
theorem rl_eq {d T O q B m1 n1 k1 T2 O2 q2 B2 m2 n2 k2 : Int} (d0 : 0 < d) (h1 : Rl d T O q B m1 n1 k1) (h2 : Rl d T2 O2 q2 B2 m2 n2 k2) (q0 : 0 < q) (p0 : 0 < q2) : eqB T O q B T2 O2 q2 B2 = decide (m1 * k2 = m2 * k1 ∧ n1 * k2 = n2 * k1) := by
  have a1 := h1.k1
  have a2 := h2.k1
  have a3 := h1.b1
  have a4 := h2.b1
  have kk := mul_one1 a1 a2
  have bb := mul_one1 a3 a4
  have iff1 : T * B2 = T2 * B ↔ m1 * k2 = m2 * k1 := by
    have e1 : k1 * k2 * (T * B2) = B * B2 * (m1 * k2) := by
      calc k1 * k2 * (T * B2) = T * k1 * (k2 * B2) := by ac_rfl
        _ = _ := by rw [h1.t]; ac_rfl
    have e2 : k1 * k2 * (T2 * B) = B * B2 * (m2 * k1) := by
      calc k1 * k2 * (T2 * B) = T2 * k2 * (k1 * B) := by ac_rfl
        _ = _ := by rw [h2.t]; ac_rfl
    constructor
    · intro e
      exact mul_can (a := B * B2) (by omega) (by rw [← e1, ← e2, e])
    · intro e
      exact mul_can (a := k1 * k2) (by omega) (by rw [e1, e2, e])
  have s1 : sgI O = sgI (n1 * k2) := by rw [h1.so q0, sg_mulr (by omega)]
  have s2 : sgI O2 = sgI (n2 * k1) := by rw [h2.so p0, sg_mulr (by omega)]
  have e1 : k1 * k2 * (k1 * k2) * (O * B2 * (O * B2) * q) = B * B2 * (B * B2) * d * (n1 * k2 * (n1 * k2)) := by
    calc k1 * k2 * (k1 * k2) * (O * B2 * (O * B2) * q) = O * k1 * (O * k1) * q * (k2 * k2 * (B2 * B2)) := by ac_rfl
      _ = _ := by rw [h1.sq q0]; ac_rfl
  have e2 : k1 * k2 * (k1 * k2) * (O2 * B * (O2 * B) * q2) = B * B2 * (B * B2) * d * (n2 * k1 * (n2 * k1)) := by
    calc k1 * k2 * (k1 * k2) * (O2 * B * (O2 * B) * q2) = O2 * k2 * (O2 * k2) * q2 * (k1 * k1 * (B * B)) := by ac_rfl
      _ = _ := by rw [h2.sq p0]; ac_rfl
  have z1 : k1 * k2 * (k1 * k2) ≠ 0 := by have := mul_one1 kk kk; omega
  have z2 : B * B2 * (B * B2) * d ≠ 0 := by have := mul_one1 (mul_one1 bb bb) (show 1 ≤ d by omega); omega
  unfold eqB
  rw [Bool.eq_iff_iff]
  simp only [Bool.and_eq_true, decide_eq_true_eq]
  constructor
  · rintro ⟨x, y, z⟩
    refine ⟨iff1.mp x, sg_sq_inj (by rw [← s1, ← s2, y]) (mul_can z2 (by rw [← e1, ← e2, z]))⟩
  · rintro ⟨x, y⟩
    exact ⟨iff1.mpr x, by rw [s1, s2, y], mul_can z1 (by rw [e1, e2, y])⟩
theorem s2_same {d M N P : Int} (d2 : 2 ≤ d) (hd : isSqB d = false) : s2I M N d P d = sgI (rtF M (N + P) d) := by
  have p0 : sgI (rtF 0 P d) = sgI P := by
    rw [rtF_sq]
    have e : sgI 0 * (0 * 0) + sgI P * (P * P * d) = d * (sgI P * (P * P)) := by grind
    rw [e, sg_mul (by omega), sg_sqs]
  have p1 : sgI (rtF 0 (-P) d) = -sgI P := by
    have := sg_fneg 0 P d
    rw [p0] at this
    exact this
  unfold s2I
  split
  · rename_i c
    have : (0 ≤ sgI (rtF M N d) ∧ 0 ≤ sgI P) ∨ (sgI (rtF M N d) ≤ 0 ∧ sgI P ≤ 0) := by
      rcases sg_val (rtF M N d) with z | z | z <;> rcases sg_val P with y | y | y <;> rw [z, y] at c ⊢ <;> omega
    rcases this with ⟨a, b⟩ | ⟨a, b⟩
    · have := sg_fsum d2 hd (a := M) (b := N) (c := 0) (e := P) a (by omega)
      rw [p0, Int.add_zero] at this
      exact this.symm
    · have := sg_fsumN d2 hd (a := M) (b := N) (c := 0) (e := P) a (by omega)
      rw [p0, Int.add_zero] at this
      exact this.symm
  · rename_i c
    have e1 := sg_fmul (by omega) hd M (N - P) M (N + P)
    have x1 : M * M + (N - P) * (N + P) * d = M * M + N * N * d - P * P * d := by grind
    have x2 : M * (N + P) + (N - P) * M = 2 * M * N := by grind
    rw [x1, x2] at e1
    rw [e1]
    have e2 : sgI (rtF M (N - P) d) = sgI (rtF M N d) ∧ (sgI (rtF M N d) = 1 ∨ sgI (rtF M N d) = -1) := by
      rcases sg_val (rtF M N d) with z | z | z <;> rcases sg_val P with y | y | y
      all_goals first
        | (exfalso; apply c; rw [z, y]; decide)
        | skip
      · have := sg_fsumN d2 hd (a := M) (b := N) (c := 0) (e := -P) (by omega) (by omega)
        rw [p1, Int.add_zero, z, y] at this
        have e : N + -P = N - P := by omega
        rw [e] at this
        rw [this, z]
        exact ⟨rfl, .inr rfl⟩
      · have := sg_fsum d2 hd (a := M) (b := N) (c := 0) (e := -P) (by omega) (by omega)
        rw [p1, Int.add_zero, z, y] at this
        have e : N + -P = N - P := by omega
        rw [e] at this
        rw [this, z]
        exact ⟨rfl, .inl rfl⟩
    rw [e2.1]
    rcases e2.2 with e | e <;> rw [e] <;> omega
theorem rl_low2 {d T O q B m1 n1 k1 T2 O2 q2 B2 m2 n2 k2 : Int} (d2 : 2 ≤ d) (hd : isSqB d = false) (h1 : Rl d T O q B m1 n1 k1) (h2 : Rl d T2 O2 q2 B2 m2 n2 k2) (q0 : 0 < q) (p0 : 0 < q2) :
    s2I (T2 * B - T * B2) (O2 * B) q2 (0 - O * B2) q = sgI (rtF (m2 * k1 - m1 * k2) (n2 * k1 - n1 * k2) d) := by
  have a1 := h1.k1
  have a2 := h2.k1
  have a3 := h1.b1
  have a4 := h2.b1
  have kk := mul_one1 a1 a2
  have bb := mul_one1 a3 a4
  have e0 : n2 * k1 - n1 * k2 = n2 * k1 + -(n1 * k2) := by omega
  rw [e0, ← s2_same d2 hd, s2_TT, s2_TT]
  have u : k1 * k2 * (T2 * B - T * B2) = B * B2 * (m2 * k1 - m1 * k2) := by
    have x1 := h1.t
    have x2 := h2.t
    calc k1 * k2 * (T2 * B - T * B2) = T2 * k2 * (k1 * B) - T * k1 * (k2 * B2) := by grind
      _ = _ := by rw [x1, x2]; grind
  have su : sgI (T2 * B - T * B2) = sgI (m2 * k1 - m1 * k2) := by rw [← sg_mul (show 0 < k1 * k2 by omega), u, sg_mul (by omega)]
  have sf : sgI (O2 * B) = sgI (n2 * k1) := by rw [sg_mulr (by omega), sg_mulr (by omega), h2.so p0]
  have ss : sgI (0 - O * B2) = sgI (-(n1 * k2)) := by rw [Int.zero_sub, sg_opp, sg_opp, sg_mulr (by omega), sg_mulr (by omega), h1.so q0]
  rw [su, sf, ss]
  have z1 : 0 < k1 * k2 * (k1 * k2) := by have := mul_one1 kk kk; omega
  have z2 : 0 < B * B2 * (B * B2) := by have := mul_one1 bb bb; omega
  rw [← TT_mul z1 (P := (T2 * B - T * B2) * (T2 * B - T * B2)), ← TT_mul z2 (P := (m2 * k1 - m1 * k2) * (m2 * k1 - m1 * k2))]
  have w1 : k1 * k2 * (k1 * k2) * ((T2 * B - T * B2) * (T2 * B - T * B2)) = B * B2 * (B * B2) * ((m2 * k1 - m1 * k2) * (m2 * k1 - m1 * k2)) := by
    calc k1 * k2 * (k1 * k2) * ((T2 * B - T * B2) * (T2 * B - T * B2)) = k1 * k2 * (T2 * B - T * B2) * (k1 * k2 * (T2 * B - T * B2)) := by ac_rfl
      _ = _ := by rw [u]; ac_rfl
  have w2 : k1 * k2 * (k1 * k2) * (O2 * B * (O2 * B) * q2) = B * B2 * (B * B2) * (n2 * k1 * (n2 * k1) * d) := by
    calc k1 * k2 * (k1 * k2) * (O2 * B * (O2 * B) * q2) = O2 * k2 * (O2 * k2) * q2 * (k1 * k1 * (B * B)) := by ac_rfl
      _ = _ := by rw [h2.sq p0]; ac_rfl
  have w3 : k1 * k2 * (k1 * k2) * ((0 - O * B2) * (0 - O * B2) * q) = B * B2 * (B * B2) * (-(n1 * k2) * -(n1 * k2) * d) := by
    rw [Int.zero_sub, Int.neg_mul_neg, Int.neg_mul_neg]
    calc k1 * k2 * (k1 * k2) * (O * B2 * (O * B2) * q) = O * k1 * (O * k1) * q * (k2 * k2 * (B2 * B2)) := by ac_rfl
      _ = _ := by rw [h1.sq q0]; ac_rfl
  rw [w1, w2, w3]

/-! ### stairs of one row have one number -/
theorem t4_apx (A B : List Int) : t4L (A ++ B) = ⟨(t4L A).p * (t4L B).p + (t4L A).q * (t4L B).r, (t4L A).p * (t4L B).q + (t4L A).q * (t4L B).s, (t4L A).r * (t4L B).p + (t4L A).s * (t4L B).r, (t4L A).r * (t4L B).q + (t4L A).s * (t4L B).s⟩ := by
  have : t4L (A ++ B) = B.foldl t4S (t4L A) := by unfold t4L; rw [List.foldl_append]
  rw [this, tw_fold]
/-- two stairs of one number -/
def SameN (A R A' R' : List Int) : Prop := ∃ f f' c c' : Int, f ≠ 0 ∧ f' ≠ 0 ∧ 1 ≤ c ∧ 1 ≤ c' ∧ f * (c' * c') * lnU A R = f' * (c * c) * lnU A' R' ∧ f * (c' * c') * lnN A R = f' * (c * c) * lnN A' R' ∧ f * c' * lnO A R = f' * c * lnO A' R' ∧ c' * c' * upN (t4L R) = c * c * upN (t4L R')
theorem SameN.refl (A R : List Int) : SameN A R A R := ⟨1, 1, 1, 1, by decide, by decide, by decide, by decide, rfl, rfl, rfl, rfl⟩
theorem SameN.symm {A R A' R' : List Int} (h : SameN A R A' R') : SameN A' R' A R := by
  obtain ⟨f, f', c, c', h1, h2, h3, h4, e1, e2, e3, e4⟩ := h
  exact ⟨f', f, c', c, h2, h1, h4, h3, e1.symm, e2.symm, e3.symm, e4.symm⟩
theorem trans_alg {f f' g g' c c' d d' u v w : Int} (h1 : f * (c' * c') * u = f' * (c * c) * v) (h2 : g * (d' * d') * v = g' * (d * d) * w) : f * g * ((c' * d') * (c' * d')) * u = f' * g' * ((c * d) * (c * d)) * w := by
  have e1 : f * g * ((c' * d') * (c' * d')) * u = g * (d' * d') * (f * (c' * c') * u) := by grind
  have e2 : f' * g' * ((c * d) * (c * d)) * w = f' * (c * c) * (g' * (d * d) * w) := by grind
  rw [e1, e2, h1, ← h2]
  grind
theorem trans_alg1 {f f' g g' c c' d d' u v w : Int} (h1 : f * c' * u = f' * c * v) (h2 : g * d' * v = g' * d * w) : f * g * (c' * d') * u = f' * g' * (c * d) * w := by
  have e1 : f * g * (c' * d') * u = g * d' * (f * c' * u) := by grind
  have e2 : f' * g' * (c * d) * w = f' * c * (g' * d * w) := by grind
  rw [e1, e2, h1, ← h2]
  grind
theorem trans_alg0 {c c' d d' u v w : Int} (h1 : c' * c' * u = c * c * v) (h2 : d' * d' * v = d * d * w) : (c' * d') * (c' * d') * u = (c * d) * (c * d) * w := by
  have e1 : (c' * d') * (c' * d') * u = d' * d' * (c' * c' * u) := by grind
  have e2 : (c * d) * (c * d) * w = c * c * (d * d * w) := by grind
  rw [e1, e2, h1, ← h2]
  grind
theorem SameN.trans {A R A1 R1 A2 R2 : List Int} (h : SameN A R A1 R1) (k : SameN A1 R1 A2 R2) : SameN A R A2 R2 := by
  obtain ⟨f, f', c, c', h1, h2, h3, h4, e1, e2, e3, e4⟩ := h
  obtain ⟨g, g', d, d', k1, k2, k3, k4, i1, i2, i3, i4⟩ := k
  have p : ∀ {x y : Int}, 1 ≤ x → 1 ≤ y → 1 ≤ x * y := fun hx hy => by
    have := Int.mul_le_mul hx hy (by omega) (by omega)
    omega
  exact ⟨f * g, f' * g', c * d, c' * d', Int.mul_ne_zero h1 k1, Int.mul_ne_zero h2 k2, p h3 k3, p h4 k4, trans_alg e1 i1, trans_alg e2 i2, trans_alg1 e3 i3, trans_alg0 e4 i4⟩
theorem same_turn {A X : List Int} {n : Int} (h1 : ∀ a ∈ n :: X, 1 ≤ a) : SameN (A ++ [n]) (X ++ [n]) A (n :: X) := by
  have P := rg_pv 1 n X
  have hU := rg_turn 1 n X
  have u1 : ∀ R, rgU 1 R = upN (t4L R) := fun R => by unfold rgU; omega
  rw [u1, u1] at hU
  obtain ⟨eb, et⟩ := P
  rw [u1] at eb
  have s1 : ∀ R, (rgS 1 R).1 = lnT R := fun R => by show 1 * _ = _; rw [Int.one_mul]; rfl
  have s2 : ∀ R, (rgS 1 R).2 = 2 * (t4L R).r := fun R => by show 2 * (1 * _) = _; rw [Int.one_mul]
  rw [s1, s1, s2] at et
  rw [s2, s2, s1] at eb
  have bx := (tw_row (n :: X) h1 (by simp)).r1
  have by1 := (tw_row (X ++ [n]) (fun a ha => h1 a (by simpa [or_comm] using ha)) (by simp)).r1
  have eA := tw_last n A
  generalize hb1 : 2 * (t4L (n :: X)).r = b1 at *
  generalize hb0 : 2 * (t4L (X ++ [n])).r = b0 at *
  generalize hD : upN (t4L (n :: X)) = D at *
  generalize ht0 : lnT (X ++ [n]) = t0 at *
  generalize ht1 : lnT (n :: X) = t1 at *
  have dX1 : lnX A (n :: X) = (t4L A).p * t1 + (t4L A).q * b1 := by unfold lnX; rw [ht1, hb1]
  have dY1 : lnY A (n :: X) = (t4L A).r * t1 + (t4L A).s * b1 := by unfold lnY; rw [ht1, hb1]
  have dX : b1 * lnX (A ++ [n]) (X ++ [n]) = t0 * lnX A (n :: X) + (t4L A).p * D := by
    unfold lnX; rw [ht0, hb0, ht1, hb1, eA]; dsimp only
    have : D = b1 * b0 + t0 * t0 := by omega
    rw [this, et]; grind
  have dY : b1 * lnY (A ++ [n]) (X ++ [n]) = t0 * lnY A (n :: X) + (t4L A).r * D := by
    unfold lnY; rw [ht0, hb0, ht1, hb1, eA]; dsimp only
    have : D = b1 * b0 + t0 * t0 := by omega
    rw [this, et]; grind
  have dp : b1 * (t4L (A ++ [n])).p = lnX A (n :: X) + t0 * (t4L A).p := by rw [dX1, eA]; dsimp only; rw [et]; grind
  have dr : b1 * (t4L (A ++ [n])).r = lnY A (n :: X) + t0 * (t4L A).r := by rw [dY1, eA]; dsimp only; rw [et]; grind
  have hb : t0 * t0 - D = -(b0 * b1) := by rw [Int.mul_comm b0]; omega
  have c1 : b1 * 1 ≠ 0 := by omega
  refine ⟨b1, -b0, 1, 1, by omega, by omega, by decide, by decide, ?_, ?_, ?_, by rw [hU, hD]⟩
  · refine Int.eq_of_mul_eq_mul_left (a := b1) (by omega) ?_
    unfold lnU
    rw [hU, hD]
    have e1 : b1 * (b1 * (1 * 1) * (lnY (A ++ [n]) (X ++ [n]) * lnY (A ++ [n]) (X ++ [n]) - (t4L (A ++ [n])).r * (t4L (A ++ [n])).r * D)) = (b1 * lnY (A ++ [n]) (X ++ [n])) * (b1 * lnY (A ++ [n]) (X ++ [n])) - (b1 * (t4L (A ++ [n])).r) * (b1 * (t4L (A ++ [n])).r) * D := by grind
    have e2 : b1 * (-b0 * (1 * 1) * (lnY A (n :: X) * lnY A (n :: X) - (t4L A).r * (t4L A).r * D)) = -(b0 * b1) * (lnY A (n :: X) * lnY A (n :: X) - (t4L A).r * (t4L A).r * D) := by grind
    rw [e1, e2, dY, dr, ← hb]
    grind
  · refine Int.eq_of_mul_eq_mul_left (a := b1) (by omega) ?_
    unfold lnN
    rw [hU, hD]
    have e1 : b1 * (b1 * (1 * 1) * (lnX (A ++ [n]) (X ++ [n]) * lnY (A ++ [n]) (X ++ [n]) - (t4L (A ++ [n])).p * (t4L (A ++ [n])).r * D)) = (b1 * lnX (A ++ [n]) (X ++ [n])) * (b1 * lnY (A ++ [n]) (X ++ [n])) - (b1 * (t4L (A ++ [n])).p) * (b1 * (t4L (A ++ [n])).r) * D := by grind
    have e2 : b1 * (-b0 * (1 * 1) * (lnX A (n :: X) * lnY A (n :: X) - (t4L A).p * (t4L A).r * D)) = -(b0 * b1) * (lnX A (n :: X) * lnY A (n :: X) - (t4L A).p * (t4L A).r * D) := by grind
    rw [e1, e2, dY, dX, dp, dr, ← hb]
    grind
  · refine Int.eq_of_mul_eq_mul_left (a := b1) (by omega) ?_
    unfold lnO
    have e1 : b1 * (b1 * 1 * ((t4L (A ++ [n])).p * lnY (A ++ [n]) (X ++ [n]) - lnX (A ++ [n]) (X ++ [n]) * (t4L (A ++ [n])).r)) = (b1 * (t4L (A ++ [n])).p) * (b1 * lnY (A ++ [n]) (X ++ [n])) - (b1 * lnX (A ++ [n]) (X ++ [n])) * (b1 * (t4L (A ++ [n])).r) := by grind
    have e2 : b1 * (-b0 * 1 * ((t4L A).p * lnY A (n :: X) - lnX A (n :: X) * (t4L A).r)) = -(b0 * b1) * ((t4L A).p * lnY A (n :: X) - lnX A (n :: X) * (t4L A).r) := by grind
    rw [e1, e2, dY, dX, dp, dr, ← hb]
    grind

/-! ### the endless row of a stair -/
def rowF (A R : List Int) (i : Nat) : Int := if i < A.length then A.getD i 0 else R.getD ((i - A.length) % R.length) 0
theorem gD_app1 {A B : List Int} {i : Nat} (h : i < A.length) : (A ++ B).getD i 0 = A.getD i 0 := by
  rw [List.getD_eq_getElem?_getD, List.getD_eq_getElem?_getD, List.getElem?_append_left h]
theorem gD_app2 {A B : List Int} {i : Nat} (h : A.length ≤ i) : (A ++ B).getD i 0 = B.getD (i - A.length) 0 := by
  rw [List.getD_eq_getElem?_getD, List.getD_eq_getElem?_getD, List.getElem?_append_right h]
theorem row_turn (A X : List Int) (n : Int) (i : Nat) : rowF (A ++ [n]) (X ++ [n]) i = rowF A (n :: X) i := by
  unfold rowF
  have l1 : (A ++ [n]).length = A.length + 1 := by simp
  have l2 : (X ++ [n]).length = X.length + 1 := by simp
  have l3 : (n :: X).length = X.length + 1 := rfl
  rw [l1, l2, l3]
  rcases Nat.lt_trichotomy i A.length with c | c | c
  · rw [if_pos (by omega), if_pos c, gD_app1 c]
  · subst c
    rw [if_pos (by omega), if_neg (by omega), gD_app2 (Nat.le_refl _), Nat.sub_self, Nat.zero_mod]
    rfl
  · rw [if_neg (by omega), if_neg (by omega)]
    obtain ⟨j, rfl⟩ : ∃ j, i = A.length + 1 + j := ⟨i - A.length - 1, by omega⟩
    rw [show A.length + 1 + j - (A.length + 1) = j by omega, show A.length + 1 + j - A.length = j + 1 by omega]
    have hk : j % (X.length + 1) < X.length + 1 := Nat.mod_lt _ (by omega)
    have hm := Nat.mod_add_div j (X.length + 1)
    by_cases c2 : j % (X.length + 1) = X.length
    · have e : (j + 1) % (X.length + 1) = 0 := by
        rw [Nat.add_mod, c2]
        by_cases c3 : X.length = 0
        · rw [c3]
        · rw [Nat.mod_eq_of_lt (show 1 < X.length + 1 by omega), Nat.mod_self]
      rw [e, c2, gD_app2 (Nat.le_refl _), Nat.sub_self]
      rfl
    · have e : (j + 1) % (X.length + 1) = j % (X.length + 1) + 1 := by
        rw [Nat.add_mod, Nat.mod_eq_of_lt (show 1 < X.length + 1 by omega), Nat.mod_eq_of_lt (by omega)]
      rw [e, gD_app1 (by omega)]
      rfl
theorem told_gD {P : List Int} (h0 : P ≠ []) : ∀ (m j : Nat), j < m * P.length → (told P m).getD j 0 = P.getD (j % P.length) 0
  | 0, j, h => by rw [Nat.zero_mul] at h; exact absurd h (Nat.not_lt_zero _)
  | m + 1, j, h => by
    have l0 := ne_len h0
    rw [told_succ]
    by_cases c : j < P.length
    · rw [gD_app1 c, Nat.mod_eq_of_lt c]
    · rw [gD_app2 (by omega), told_gD h0 m (j - P.length) (by rw [Nat.succ_mul] at h; omega), ← Nat.mod_eq_sub_mod (by omega)]
theorem row_told (A P : List Int) (h0 : P ≠ []) (m i : Nat) : rowF A (told P (m + 1)) i = rowF A P i := by
  unfold rowF
  split
  · rfl
  · have l0 := ne_len h0
    rw [told_len, told_gD h0 (m + 1) _ (Nat.mod_lt _ (Nat.mul_pos (by omega) l0)), Nat.mod_mul_left_mod]
theorem rwN_len : ∀ (n : Nat) (R : List Int), R ≠ [] → (rwN n R).length = n
  | 0, _, _ => rfl
  | n + 1, [], h => absurd rfl h
  | n + 1, a :: X, _ => by
    show (a :: rwN n (X ++ [a])).length = _
    rw [List.length_cons, rwN_len n _ (by simp)]
theorem same_roll : ∀ (n : Nat) (A R : List Int), (∀ a ∈ R, 1 ≤ a) → R ≠ [] → SameN A R (A ++ rwN n R) (trn n R) ∧ ∀ i, rowF (A ++ rwN n R) (trn n R) i = rowF A R i
  | 0, A, R, _, _ => by
    show SameN A R (A ++ []) R ∧ ∀ i, rowF (A ++ []) R i = rowF A R i
    rw [List.append_nil]
    exact ⟨SameN.refl A R, fun _ => rfl⟩
  | n + 1, A, [], _, h => absurd rfl h
  | n + 1, A, a :: X, h1, _ => by
    obtain ⟨i1, i2⟩ := same_roll n (A ++ [a]) (X ++ [a]) (fun x hx => h1 x (by simpa [or_comm] using hx)) (by simp)
    show SameN A (a :: X) (A ++ (a :: rwN n (X ++ [a]))) (trn n (X ++ [a])) ∧ ∀ i, rowF (A ++ (a :: rwN n (X ++ [a]))) (trn n (X ++ [a])) i = rowF A (a :: X) i
    rw [List.append_assoc] at i1 i2
    exact ⟨(same_turn h1).symm.trans i1, fun i => (i2 i).trans (row_turn A X a i)⟩
theorem row_inj {A R A' R' : List Int} (hA : A.length = A'.length) (hR : R.length = R'.length) (h : ∀ i, rowF A R i = rowF A' R' i) : A = A' ∧ R = R' := by
  have gd : ∀ {L L' : List Int}, L.length = L'.length → (∀ i, i < L.length → L.getD i 0 = L'.getD i 0) → L = L' := fun {L L'} hl hg => by
    refine List.ext_getElem? fun i => ?_
    by_cases c : i < L.length
    · have := hg i c
      rw [List.getD_eq_getElem?_getD, List.getD_eq_getElem?_getD, List.getElem?_eq_getElem c, List.getElem?_eq_getElem (hl ▸ c)] at this
      rw [List.getElem?_eq_getElem c, List.getElem?_eq_getElem (hl ▸ c)]
      exact congrArg some this
    · rw [List.getElem?_eq_none (by omega), List.getElem?_eq_none (by omega)]
  refine ⟨gd hA fun i hi => ?_, gd hR fun i hi => ?_⟩
  · have := h i
    unfold rowF at this
    rw [if_pos hi, if_pos (by omega)] at this
    exact this
  · have := h (A.length + i)
    unfold rowF at this
    rw [if_neg (by omega), if_neg (by omega), show A.length + i - A.length = i by omega, show A.length + i - A'.length = i by omega, ← hR, Nat.mod_eq_of_lt hi] at this
    exact this
/-- what a stair is kept by -/
structure FewS (A R A' R' : List Int) : Prop where
  prm : Prm R'
  r0 : R' ≠ []
  rm : ∀ a ∈ R', a ∈ R
  rl : R'.length ≤ R.length
  at_ : ∃ k, A' = A.take k
  last : A' = [] ∨ A'.getLast? ≠ R'.getLast?
  row : ∀ i, rowF A' R' i = rowF A R i
theorem rotB_trn {R : List Int} (h0 : R ≠ []) : rotB R = trn (R.length - 1) R := by
  unfold rotB
  rw [trn_take (by omega)]
theorem fw_few : ∀ (A R : List Int), Prm R → R ≠ [] → FewS A.reverse R (fwR A R).1 (fwR A R).2
  | [], R, hp, h0 => ⟨hp, h0, fun _ h => h, Nat.le_refl _, ⟨0, rfl⟩, .inl rfl, fun _ => rfl⟩
  | a :: A, R, hp, h0 => by
    show FewS _ R (if R.getLast? = some a then fwR A (rotB R) else ((a :: A).reverse, R)).1 (if R.getLast? = some a then fwR A (rotB R) else ((a :: A).reverse, R)).2
    by_cases c : R.getLast? = some a
    · rw [if_pos c]
      obtain ⟨X, n, rfl⟩ : ∃ X n, R = X ++ [n] := ⟨_, _, (List.dropLast_concat_getLast h0).symm⟩
      rw [List.getLast?_concat] at c
      obtain rfl := Option.some.inj c
      have er : rotB (X ++ [n]) = n :: X := by unfold rotB; rw [List.length_append]; simp
      have ih := fw_few A (rotB (X ++ [n])) (by rw [rotB_trn h0]; exact prm_trn hp _) (by rw [er]; simp)
      rw [er] at ih ⊢
      obtain ⟨i1, i2, i3, i4, ⟨k, i5⟩, i6, i7⟩ := ih
      rw [List.reverse_cons]
      refine ⟨i1, i2, fun x hx => by have := i3 x hx; simpa [or_comm] using this, by rw [List.length_append]; exact i4, ⟨min k A.length, ?_⟩, i6, fun i => ?_⟩
      · rw [i5, List.take_append_of_le_length (by rw [List.length_reverse]; omega)]
        by_cases c : k ≤ A.length
        · rw [Nat.min_eq_left c]
        · rw [Nat.min_eq_right (by omega), List.take_of_length_le (by rw [List.length_reverse]; omega), List.take_of_length_le (by rw [List.length_reverse]; omega)]
      · rw [i7, row_turn]
    · rw [if_neg c]
      refine ⟨hp, h0, fun _ h => h, Nat.le_refl _, ⟨(a :: A).reverse.length, by rw [List.take_length]⟩, .inr ?_, fun _ => rfl⟩
      rw [List.reverse_cons, List.getLast?_concat]
      exact fun e => c e.symm
theorem few_few {A R : List Int} (h0 : R ≠ []) : FewS A R (fewest A R).1 (fewest A R).2 := by
  have l0 := ne_len h0
  obtain ⟨hp, hn⟩ := prm_sh (L := R) l0
  have f := fw_few A.reverse (shS R) hp hn
  rw [List.reverse_reverse] at f
  obtain ⟨i1, i2, i3, i4, i5, i6, i7⟩ := f
  obtain ⟨s, s1, s2, ok, _, e⟩ := shS_char (L := R) l0
  unfold sizeOk at ok
  rw [Bool.and_eq_true, decide_eq_true_iff, decide_eq_true_iff] at ok
  have q : 1 ≤ R.length / s := Nat.div_pos s2 s1
  obtain ⟨k, ek⟩ : ∃ k, R.length / s = k + 1 := ⟨R.length / s - 1, by omega⟩
  have eR : R = told (shS R) (k + 1) := by rw [e, ← ek]; exact ok.2.symm
  have ls : (shS R).length ≤ R.length := by rw [e, List.length_take]; omega
  refine ⟨i1, i2, fun a ha => ?_, Nat.le_trans i4 ls, i5, i6, fun i => ?_⟩
  · have := i3 a ha
    rw [e] at this
    exact List.mem_of_mem_take this
  · show rowF (fwR A.reverse (shS R)).1 (fwR A.reverse (shS R)).2 i = _
    rw [i7]
    conv => rhs; rw [eR]
    rw [row_told A (shS R) hn k i]

theorem cross_alg {a b u v t o w q : Int} (e1 : t * a + o * u = w * b) (e2 : t * u + a * o * q = w * v) : t * (u * u - a * a * q) = w * (v * u - b * a * q) ∧ o * (u * u - a * a * q) = w * (b * u - v * a) := by
  constructor
  · have e : t * (u * u - a * a * q) = (t * u + a * o * q) * u - (t * a + o * u) * a * q := by grind
    rw [e, e1, e2]; grind
  · have e : o * (u * u - a * a * q) = (t * a + o * u) * u - (t * u + a * o * q) * a := by grind
    rw [e, e1, e2]; grind
theorem num_cross {A R : List Int} {T O B : Int} (N : NumS A R T O B) : T * lnU A R = B * lnN A R ∧ O * lnU A R = B * lnO A R := by
  obtain ⟨e1, e2⟩ := N
  exact cross_alg e1 e2
theorem num_bound {A R : List Int} {T O B : Int} (N : NumS A R T O B) (hB : 1 ≤ B) (g : Int.gcd (Int.gcd T O : Nat) B = 1) : ∃ k, lnU A R = B * k ∧ lnN A R = T * k ∧ lnO A R = O * k := by
  obtain ⟨c1, c2⟩ := num_cross N
  have d1 : B ∣ T * lnU A R := ⟨_, c1⟩
  have d2 : B ∣ O * lnU A R := ⟨_, c2⟩
  have d3 : B ∣ lnU A R := by
    have h1 : (B.natAbs : Nat) ∣ Nat.gcd (T * lnU A R).natAbs (O * lnU A R).natAbs := Nat.dvd_gcd (Int.natAbs_dvd_natAbs.mpr d1) (Int.natAbs_dvd_natAbs.mpr d2)
    rw [Int.natAbs_mul, Int.natAbs_mul, Nat.gcd_mul_right] at h1
    have h2 : (B.natAbs : Nat) ∣ Nat.gcd (Nat.gcd T.natAbs O.natAbs * (lnU A R).natAbs) (B.natAbs * (lnU A R).natAbs) := Nat.dvd_gcd h1 (Nat.dvd_mul_right _ _)
    rw [Nat.gcd_mul_right] at h2
    have g' : Nat.gcd (Nat.gcd T.natAbs O.natAbs) B.natAbs = 1 := g
    rw [g', Nat.one_mul] at h2
    exact Int.natAbs_dvd_natAbs.mp h2
  obtain ⟨k, ek⟩ := d3
  refine ⟨k, ek, ?_, ?_⟩
  · refine Int.eq_of_mul_eq_mul_left (show B ≠ 0 by omega) ?_
    rw [← c1, ek]; grind
  · refine Int.eq_of_mul_eq_mul_left (show B ≠ 0 by omega) ?_
    rw [← c2, ek]; grind
theorem num_sz {A R : List Int} {T O B : Int} (h1 : ∀ a ∈ R, 1 ≤ a) (h0 : R ≠ []) (N : NumS A R T O B) (hB : 1 ≤ B) (g : Int.gcd (Int.gcd T O : Nat) B = 1) : T.natAbs ≤ (lnN A R).natAbs ∧ O.natAbs ≤ (lnO A R).natAbs ∧ B.natAbs ≤ (lnU A R).natAbs ∧ O ≠ 0 := by
  obtain ⟨k, e1, e2, e3⟩ := num_bound N hB g
  have u := ln_u0 (A := A) h1 h0
  have o := (ln_b (A := A) h1 h0).2
  have k0 : k ≠ 0 := fun e => by rw [e, Int.mul_zero] at e1; exact u e1
  have k1 : 1 ≤ k.natAbs := by omega
  have le : ∀ x : Int, x.natAbs ≤ (x * k).natAbs := fun x => by rw [Int.natAbs_mul]; exact Nat.le_mul_of_pos_right _ k1
  refine ⟨by rw [e2]; exact le T, by rw [e3]; exact le O, by rw [e1]; exact le B, fun e => ?_⟩
  rw [e3, e, Int.zero_mul, Int.mul_zero] at o
  exact o rfl
theorem num_nil (R : List Int) : NumS [] R (lnT R) 1 (2 * (t4L R).r) := by
  constructor
  · rw [show t4L [] = ⟨1, 0, 0, 1⟩ from rfl]
    dsimp only
    omega
  · rw [show t4L [] = ⟨1, 0, 0, 1⟩ from rfl]
    unfold lnT
    dsimp only
    grind
/-- 1 over a number, and a whole one -/
theorem num_step {A R : List Int} {T O B T3 O3 B3 d v n : Int} (N : NumS A R T O B) (hd : d * v = T * T - upN (t4L R) * (O * O)) (hv : v * v = 1) (g0 : d ≠ 0) (k : Int) (k0 : k ≠ 0) (e1 : v * B * T = k * T3) (e2 : 0 - v * B * O = k * O3) (e3 : d = k * B3) : NumS (n :: A) R (n * B3 + T3) O3 B3 := by
  obtain ⟨i1, i2⟩ := N
  have hc := tw_cons n A
  generalize hX : (t4L A).p * ((t4L R).p - (t4L R).s) + (t4L A).q * (2 * (t4L R).r) = X at *
  generalize hY : (t4L A).r * ((t4L R).p - (t4L R).s) + (t4L A).s * (2 * (t4L R).r) = Y at *
  have eX : (n * (t4L A).p + (t4L A).r) * ((t4L R).p - (t4L R).s) + (n * (t4L A).q + (t4L A).s) * (2 * (t4L R).r) = n * X + Y := by rw [← hX, ← hY]; grind
  generalize hD : upN (t4L R) = D at *
  have q1 : T3 * (t4L A).p + O3 * X = B3 * (t4L A).r := by
    refine Int.eq_of_mul_eq_mul_left k0 ?_
    have l : k * (T3 * (t4L A).p + O3 * X) = (k * T3) * (t4L A).p + (k * O3) * X := by grind
    have r : k * (B3 * (t4L A).r) = (k * B3) * (t4L A).r := by grind
    rw [l, r, ← e1, ← e2, ← e3]
    have m : v * B * T * (t4L A).p + (0 - v * B * O) * X = v * (T * (B * (t4L A).p) - O * (B * X)) := by grind
    rw [m, ← i1, ← i2]
    have z : T * (T * (t4L A).r + O * Y) - O * (T * Y + (t4L A).r * O * D) = (T * T - D * (O * O)) * (t4L A).r := by grind
    rw [z, ← hd]
    have w : v * (d * v * (t4L A).r) = (v * v) * (d * (t4L A).r) := by grind
    rw [w, hv, Int.one_mul]
  have q2 : T3 * X + (t4L A).p * O3 * D = B3 * Y := by
    refine Int.eq_of_mul_eq_mul_left k0 ?_
    have l : k * (T3 * X + (t4L A).p * O3 * D) = (k * T3) * X + (t4L A).p * (k * O3) * D := by grind
    have r : k * (B3 * Y) = (k * B3) * Y := by grind
    rw [l, r, ← e1, ← e2, ← e3]
    have m : v * B * T * X + (t4L A).p * (0 - v * B * O) * D = v * (T * (B * X) - O * D * (B * (t4L A).p)) := by grind
    rw [m, ← i1, ← i2]
    have z : T * (T * Y + (t4L A).r * O * D) - O * D * (T * (t4L A).r + O * Y) = (T * T - D * (O * O)) * Y := by grind
    rw [z, ← hd]
    have w : v * (d * v * Y) = (v * v) * (d * Y) := by grind
    rw [w, hv, Int.one_mul]
  constructor
  · rw [hc]; dsimp only
    rw [hX]
    have : (n * B3 + T3) * (t4L A).p + O3 * X = n * B3 * (t4L A).p + (T3 * (t4L A).p + O3 * X) := by grind
    rw [this, q1]; grind
  · rw [hc]; dsimp only
    rw [hX, eX, hD]
    have : (n * B3 + T3) * X + (t4L A).p * O3 * D = n * B3 * X + (T3 * X + (t4L A).p * O3 * D) := by grind
    rw [this, q2]; grind
/-- the whole part, by the number's own parts and as it is walked -/
theorem whole_walk {T O B q r s : Int} (hB : 1 ≤ B) (r0 : 0 ≤ r) (s0 : 0 ≤ s) (h1 : r * r ≤ O * O * q) (h2 : O * O * q < (r + 1) * (r + 1)) (h3 : s * s ≤ (O * B) * (O * B) * q) (h4 : (O * B) * (O * B) * q < (s + 1) * (s + 1)) :
    flW s (stX T O B).1 (stX T O B).2 = (T + (if O < 0 then -1 - r else r)).fdiv B := by
  have e : (O * B) * (O * B) * q = B * B * (O * O * q) := by grind
  rw [e] at h3 h4
  have bb : 0 < B * B := Int.mul_pos (by omega) (by omega)
  have a1 : B * r ≤ s := by
    rcases Int.lt_or_le s (B * r) with c | c
    · exfalso
      have m1 : (s + 1) * (s + 1) ≤ (B * r) * (B * r) := Int.mul_le_mul c c (by omega) (by omega)
      have m2 : B * B * (r * r) ≤ B * B * (O * O * q) := Int.mul_le_mul_of_nonneg_left h1 (by omega)
      have m3 : (B * r) * (B * r) = B * B * (r * r) := by grind
      omega
    · exact c
  have a2 : s < B * (r + 1) := by
    rcases Int.lt_or_le s (B * (r + 1)) with c | c
    · exact c
    · exfalso
      have z : 0 ≤ B * (r + 1) := Int.mul_nonneg (by omega) (by omega)
      have m1 : (B * (r + 1)) * (B * (r + 1)) ≤ s * s := Int.mul_le_mul c c z s0
      have m2 : B * B * (O * O * q) < B * B * ((r + 1) * (r + 1)) := Int.mul_lt_mul_of_pos_left h2 bb
      have m3 : (B * (r + 1)) * (B * (r + 1)) = B * B * ((r + 1) * (r + 1)) := by grind
      omega
  unfold flW stX sgT
  by_cases c : O < 0
  · simp only [if_pos c]
    have ng : -1 * (B * B) < 0 := by omega
    rw [if_pos ng, show -(-1 * (B * B)) = B * B by omega]
    have d1 := Int.mul_fdiv_add_fmod (-1 * (T * B) + s) (B * B)
    have d2 := Int.fmod_nonneg_of_pos (-1 * (T * B) + s) bb
    have d3 := Int.fmod_lt_of_pos (-1 * (T * B) + s) bb
    generalize (-1 * (T * B) + s).fdiv (B * B) = m at *
    generalize (-1 * (T * B) + s).fmod (B * B) = w at *
    symm
    refine fdiv_is (by omega) ?_ ?_
    · -- (-1-m) B <= T - 1 - r
      have : B * (r + (-1 * T)) < B * ((m + 1) * B) := by
        have x1 : B * (r + (-1 * T)) = B * r - T * B := by grind
        have x2 : B * ((m + 1) * B) = B * B * m + B * B := by grind
        omega
      have := Int.lt_of_mul_lt_mul_left this (by omega)
      have x3 : (m + 1) * B = m * B + B := by grind
      have x4 : (-1 - m) * B = -(m * B) - B := by grind
      omega
    · have : B * (m * B) < B * (r + 1 + (-1 * T)) := by
        have x1 : B * (r + 1 + (-1 * T)) = B * (r + 1) - T * B := by grind
        have x2 : B * (m * B) = B * B * m := by grind
        omega
      have := Int.lt_of_mul_lt_mul_left this (by omega)
      have x4 : (-1 - m) * B = -(m * B) - B := by grind
      omega
  · simp only [if_neg c]
    rw [if_neg (by omega), Int.one_mul, Int.one_mul]
    have d1 := Int.mul_fdiv_add_fmod (T * B + s) (B * B)
    have d2 := Int.fmod_nonneg_of_pos (T * B + s) bb
    have d3 := Int.fmod_lt_of_pos (T * B + s) bb
    generalize (T * B + s).fdiv (B * B) = m at *
    generalize (T * B + s).fmod (B * B) = w at *
    symm
    refine fdiv_is (by omega) ?_ ?_
    · have : B * (m * B) < B * (T + r + 1) := by
        have x1 : B * (T + r + 1) = T * B + B * (r + 1) := by grind
        have x2 : B * (m * B) = B * B * m := by grind
        omega
      have := Int.lt_of_mul_lt_mul_left this (by omega)
      omega
    · have : B * (T + r) < B * (m * B + B) := by
        have x1 : B * (T + r) = T * B + B * r := by grind
        have x2 : B * (m * B + B) = B * B * m + B * B := by grind
        omega
      exact Int.lt_of_mul_lt_mul_left this (by omega)

theorem gD_drop (L : List Int) (m i : Nat) : (L.drop m).getD i 0 = L.getD (m + i) 0 := by
  rw [List.getD_eq_getElem?_getD, List.getD_eq_getElem?_getD, List.getElem?_drop]
theorem gD_take {L : List Int} {m i : Nat} (h : i < m) : (L.take m).getD i 0 = L.getD i 0 := by
  rw [List.getD_eq_getElem?_getD, List.getD_eq_getElem?_getD, List.getElem?_take, if_pos h]
theorem trn_gD {R : List Int} {t j : Nat} (ht : t ≤ R.length) (hj : j < R.length) : (trn t R).getD j 0 = R.getD ((t + j) % R.length) 0 := by
  rw [trn_take ht]
  by_cases c : j < R.length - t
  · rw [gD_app1 (by rw [List.length_drop]; exact c), gD_drop, Nat.mod_eq_of_lt (by omega)]
  · rw [gD_app2 (by rw [List.length_drop]; omega), List.length_drop, gD_take (by omega), show t + j = (j - (R.length - t)) + R.length by omega, Nat.add_mod_right, Nat.mod_eq_of_lt (by omega)]
theorem le_mul2 {a b : Int} {m n k : Nat} (ha : a.natAbs ≤ 2 ^ m) (hb : b.natAbs ≤ 2 ^ n) (hk : m + n ≤ k) : (a * b).natAbs ≤ 2 ^ k := by
  rw [Int.natAbs_mul]
  refine Nat.le_trans (Nat.mul_le_mul ha hb) ?_
  rw [← Nat.pow_add]
  exact Nat.pow_le_pow_right (by decide) hk
theorem le_add2 {a b : Int} {n k : Nat} (ha : a.natAbs ≤ 2 ^ n) (hb : b.natAbs ≤ 2 ^ n) (hk : n + 1 ≤ k) : (a + b).natAbs ≤ 2 ^ k := by
  have h : 2 ^ (n + 1) ≤ 2 ^ k := Nat.pow_le_pow_right (by decide) hk
  rw [Nat.pow_succ] at h
  have := Int.natAbs_add_le a b
  omega
theorem le_sub2 {a b : Int} {n k : Nat} (ha : a.natAbs ≤ 2 ^ n) (hb : b.natAbs ≤ 2 ^ n) (hk : n + 1 ≤ k) : (a - b).natAbs ≤ 2 ^ k := by
  have := le_add2 ha (b := -b) (by rw [Int.natAbs_neg]; exact hb) hk
  rw [Int.sub_eq_add_neg]
  exact this
theorem le_up {a : Int} {n k : Nat} (ha : a.natAbs ≤ 2 ^ n) (hk : n ≤ k) : a.natAbs ≤ 2 ^ k := Nat.le_trans ha (Nat.pow_le_pow_right (by decide) hk)
structure T4B (t : T4) (m : Nat) : Prop where
  p : t.p.natAbs ≤ 2 ^ m
  q : t.q.natAbs ≤ 2 ^ m
  r : t.r.natAbs ≤ 2 ^ m
  s : t.s.natAbs ≤ 2 ^ m
theorem ln_sz {A R : List Int} {m n : Nat} (hR : T4B (t4L R) m) (hA : T4B (t4L A) n) :
    (lnT R).natAbs ≤ 2 ^ (m + 1) ∧ (upN (t4L R)).natAbs ≤ 2 ^ (2 * m + 3) ∧ (lnX A R).natAbs ≤ 2 ^ (n + m + 2) ∧ (lnY A R).natAbs ≤ 2 ^ (n + m + 2) ∧
    (lnU A R).natAbs ≤ 2 ^ (2 * n + 2 * m + 5) ∧ (lnO A R).natAbs ≤ 2 ^ (2 * n + m + 3) ∧ (lnN A R).natAbs ≤ 2 ^ (2 * n + 2 * m + 5) := by
  obtain ⟨p1, q1, r1, s1⟩ := hR
  obtain ⟨p2, q2, r2, s2⟩ := hA
  have hT : (lnT R).natAbs ≤ 2 ^ (m + 1) := le_sub2 p1 s1 (Nat.le_refl _)
  have four : (4 : Int).natAbs ≤ 2 ^ 2 := by decide
  have two : (2 : Int).natAbs ≤ 2 ^ 1 := by decide
  have hD : (upN (t4L R)).natAbs ≤ 2 ^ (2 * m + 3) := by
    unfold upN
    refine le_add2 (n := 2 * m + 2) ?_ ?_ (by omega)
    · exact le_mul2 hT hT (by omega)
    · exact le_mul2 (le_mul2 four q1 (Nat.le_refl _)) r1 (by omega)
  have hX : (lnX A R).natAbs ≤ 2 ^ (n + m + 2) := by
    unfold lnX
    exact le_add2 (n := n + m + 1) (le_mul2 p2 hT (by omega)) (le_mul2 q2 (le_mul2 two r1 (Nat.le_refl _)) (by omega)) (by omega)
  have hY : (lnY A R).natAbs ≤ 2 ^ (n + m + 2) := by
    unfold lnY
    exact le_add2 (n := n + m + 1) (le_mul2 r2 hT (by omega)) (le_mul2 s2 (le_mul2 two r1 (Nat.le_refl _)) (by omega)) (by omega)
  refine ⟨hT, hD, hX, hY, ?_, ?_, ?_⟩
  · unfold lnU
    exact le_sub2 (n := 2 * n + 2 * m + 4) (le_mul2 hY hY (by omega)) (le_mul2 (le_mul2 r2 r2 (Nat.le_refl _)) hD (by omega)) (by omega)
  · unfold lnO
    exact le_sub2 (n := 2 * n + m + 2) (le_mul2 p2 hY (by omega)) (le_mul2 hX r2 (by omega)) (by omega)
  · unfold lnN
    exact le_sub2 (n := 2 * n + 2 * m + 4) (le_mul2 hX hY (by omega)) (le_mul2 (le_mul2 p2 r2 (Nat.le_refl _)) hD (by omega)) (by omega)
/-- all that stood in a store stands in another one, too -/
def Ext (S S' : Sd) : Prop := ∀ x y, S x = some y → S' x = some y
theorem Ext.refl {S : Sd} : Ext S S := fun _ _ h => h
theorem Ext.trans {S S1 S2 : Sd} (h : Ext S S1) (k : Ext S1 S2) : Ext S S2 := fun x y e => k x y (h x y e)
theorem Ext.ups {S : Sd} {p : Addr} {v : SO} (hp : S p = none) : Ext S (upS S p v) := fun x y e => by
  have : x ≠ p := fun h => by rw [h, hp] at e; cases e
  rw [upS_ne this]
  exact e
theorem no_rt {x O q : Int} (h : isSqB q = false) (hO : O ≠ 0) : x * x ≠ O * O * q := fun e => by
  have d : O ∣ x := by
    have : O ^ 2 ∣ x ^ 2 := ⟨q, by grind⟩
    exact (Int.pow_dvd_pow_iff (by decide)).mp this
  obtain ⟨k, rfl⟩ := d
  have e2 : (O * O) * (k * k) = (O * O) * q := by grind
  have e3 := Int.eq_of_mul_eq_mul_left (Int.mul_ne_zero hO hO) e2
  rcases Int.le_total 0 k with c | c
  · rw [isSqB_true c e3] at h; cases h
  · rw [isSqB_true (y := -k) (by omega) (by rw [Int.neg_mul_neg]; exact e3)] at h; cases h
theorem tup_at {S : Sd} {p : Addr} {ds : List D} {Q : DK} (h : S p = some (.lst ds)) (q : Q (.tup ds) S) : rdTupA [.obj p] S Q := by
  show (match itemsD S (.obj p) with | some ds => Q (.tup ds) S | none => False)
  have e : itemsD S (.obj p) = some ds := by
    show (match S p with | some (.lst ds) => some ds | _ => none) = _
    rw [h]
  rw [e]
  exact q
theorem len_at {S : Sd} {p : Addr} {ds : List D} {Q : DK} (h : S p = some (.lst ds)) (q : Q (.int ds.length) S) : rdLen [.obj p] S Q := by
  show (match itemsD S (.obj p) with | some ds => Q (.int ds.length) S | none => False)
  have e : itemsD S (.obj p) = some ds := by
    show (match S p with | some (.lst ds) => some ds | _ => none) = _
    rw [h]
  rw [e]
  exact q
theorem app_at {S : Sd} {p : Addr} {ds : List D} {v : D} {Q : DK} (h : S p = some (.lst ds)) (hl : ds.length < 16777216) (q : Q (.non) (upS S p (.lst (ds ++ [v])))) : rdApp (.obj p) [v] S Q := by
  have app : ∀ Q : DK, appQ S v Q (.obj p) → rdApp (.obj p) [v] S Q := fun _ h => h
  refine app _ ?_
  rw [x_app h]
  exact ⟨by omega, q⟩
theorem mpI_split {L : List Int} {p r : List D} {x : D} (e : L.map D.int = p ++ x :: r) : ∃ (M : List Int) (a : Int) (R : List Int), L = M ++ a :: R ∧ x = .int a ∧ p = M.map D.int := by
  obtain ⟨M, T, rfl, h1, h2⟩ := List.map_eq_append_iff.mp e
  obtain ⟨a, R, rfl, h3, h4⟩ := List.map_eq_cons_iff.mp h2
  exact ⟨M, a, R, rfl, h3.symm, h1.symm⟩
theorem mpI_inj {L M : List Int} (h : L.map D.int = M.map D.int) : L = M := List.map_inj_right (fun _ _ h => by injection h) |>.mp h
theorem neO_nil {a : Addr} {l : List Int} {S : Sd} {Q : DK} (h : S a = some (.lst (l.map D.int))) (q : Q (.bl (!decide (l = []))) S) : rdNeO (.obj a) (.lst []) S Q := by
  show neV_ _ _ S Q
  unfold neV_
  rw [x_val h]
  refine ⟨⟨okD_eqOk (okD_intsL l) (by decide), rfl⟩, ?_⟩
  show Q (.bl (!deqL (l.map D.int) (([] : List Int).map D.int))) S
  rw [deqL_ringE]
  exact q
/-! fractions of a row: by turns below and above its number -/
theorem num_turn {A X : List Int} {n T O B : Int} (h1 : ∀ a ∈ n :: X, 1 ≤ a) (N : NumS A (n :: X) T O B) : NumS (A ++ [n]) (X ++ [n]) T O B := by
  obtain ⟨n1, n2⟩ := N
  have P := rg_pv 1 n X
  have hU := rg_turn 1 n X
  have u1 : ∀ R, rgU 1 R = upN (t4L R) := fun R => by unfold rgU; omega
  rw [u1, u1] at hU
  obtain ⟨eb, et⟩ := P
  rw [u1] at eb
  have s1 : ∀ R, (rgS 1 R).1 = lnT R := fun R => by show 1 * _ = _; rw [Int.one_mul]; rfl
  have s2 : ∀ R, (rgS 1 R).2 = 2 * (t4L R).r := fun R => by show 2 * (1 * _) = _; rw [Int.one_mul]
  rw [s1, s1, s2] at et
  rw [s2, s2, s1] at eb
  have bx := (tw_row (n :: X) h1 (by simp)).r1
  have eA := tw_last n A
  have tt : ∀ R, (t4L R).p - (t4L R).s = lnT R := fun R => rfl
  rw [tt] at n1 n2
  have m1 : T * (t4L (A ++ [n])).r + O * ((t4L (A ++ [n])).r * lnT (X ++ [n]) + (t4L (A ++ [n])).s * (2 * (t4L (X ++ [n])).r)) = B * (t4L (A ++ [n])).p ∧ T * ((t4L (A ++ [n])).r * lnT (X ++ [n]) + (t4L (A ++ [n])).s * (2 * (t4L (X ++ [n])).r)) + (t4L (A ++ [n])).r * O * upN (t4L (X ++ [n])) = B * ((t4L (A ++ [n])).p * lnT (X ++ [n]) + (t4L (A ++ [n])).q * (2 * (t4L (X ++ [n])).r)) := by
    rw [hU]
    generalize hb1 : 2 * (t4L (n :: X)).r = b1 at *
    generalize 2 * (t4L (X ++ [n])).r = b0 at *
    generalize upN (t4L (n :: X)) = D at *
    generalize lnT (X ++ [n]) = t0 at *
    generalize lnT (n :: X) = t1 at *
    rw [eA]
    dsimp only
    generalize (t4L A).p = p at *
    generalize (t4L A).q = q at *
    generalize (t4L A).r = r at *
    generalize (t4L A).s = s at *
    have hD : D = b1 * b0 + t0 * t0 := by omega
    have b10 : b1 ≠ 0 := by omega
    subst hD et
    constructor
    · refine Int.eq_of_mul_eq_mul_left (a := b1) b10 ?_
      grind
    · refine Int.eq_of_mul_eq_mul_left (a := b1) b10 ?_
      grind
  exact ⟨m1.1, m1.2⟩
theorem num_roll {T O B : Int} : ∀ (m : Nat) (A R : List Int), (∀ a ∈ R, 1 ≤ a) → NumS A R T O B → NumS (A ++ rwN m R) (trn m R) T O B
  | 0, A, R, _, N => by
    show NumS (A ++ []) R T O B
    rw [List.append_nil]
    exact N
  | m + 1, A, [], _, N => by
    show NumS (A ++ []) [] T O B
    rw [List.append_nil]
    exact N
  | m + 1, A, a :: X, h, N => by
    have k := num_roll m (A ++ [a]) (X ++ [a]) (fun x hx => h x (by simpa [or_comm] using hx)) (num_turn h N)
    rw [List.append_assoc] at k
    exact k
theorem tw_par : ∀ L : List Int, (t4L L).p * (t4L L).s - (t4L L).q * (t4L L).r = if L.length % 2 = 0 then 1 else -1
  | [] => rfl
  | a :: A => by
    have ih := tw_par A
    rw [tw_cons]
    dsimp only
    have e : (a * (t4L A).p + (t4L A).r) * (t4L A).q - (a * (t4L A).q + (t4L A).s) * (t4L A).p = -((t4L A).p * (t4L A).s - (t4L A).q * (t4L A).r) := by grind
    rw [e, ih, List.length_cons]
    by_cases c : A.length % 2 = 0
    · rw [if_pos c, if_neg (by omega)]
    · rw [if_neg c, if_pos (by omega)]; rfl
structure Tw0 (t : T4) : Prop where
  p : 1 ≤ t.p
  q : 0 ≤ t.q
  r : 0 ≤ t.r
  s : 0 ≤ t.s
  rs : 1 ≤ t.r + t.s
theorem tw_nn (L : List Int) (h : ∀ a ∈ L, 1 ≤ a) : Tw0 (t4L L) := by
  by_cases c : L = []
  · subst c
    exact ⟨by decide, by decide, by decide, by decide, by decide⟩
  · obtain ⟨q1, r1, s0, pq, pr, qs, rs, d⟩ := tw_row L h c
    exact ⟨by omega, by omega, by omega, by omega, by omega⟩
theorem rtF_one {y r d : Int} (hd : 0 < d) (h0 : 0 ≤ y) (h1 : 0 ≤ r) (h : 1 ≤ y ∨ 1 ≤ r) : sgI (rtF y r d) = 1 := by
  refine sg_one ?_
  unfold rtF abI
  rw [if_neg (by omega), if_neg (by omega)]
  have a1 : 0 ≤ y * y := Int.mul_nonneg h0 h0
  have a2 : 0 ≤ d * r * r := Int.mul_nonneg (Int.mul_nonneg (by omega) h1) h1
  rcases h with h | h
  · have := Int.mul_pos (show 0 < y by omega) (show 0 < y by omega); omega
  · have := Int.mul_pos (Int.mul_pos hd (show 0 < r by omega)) (show 0 < r by omega); omega
theorem conv_sign {P S R : List Int} {T O B : Int} (hR : ∀ a ∈ R, 1 ≤ a) (h0 : R ≠ []) (hP : ∀ a ∈ P.tail, 1 ≤ a) (P0 : P ≠ []) (hS : ∀ a ∈ S, 1 ≤ a) (hB : 1 ≤ B) (N : NumS (P ++ S) R T O B) :
    sgI (rtF (T * (t4L P).r - (t4L P).p * B) (O * (t4L P).r) (upN (t4L R))) = if P.length % 2 = 1 then 1 else -1 := by
  obtain ⟨n1, n2⟩ := N
  have up := tw_pos hR h0
  have sq : isSqB (upN (t4L R)) = false := isSqB_false fun y _ => up.2 y
  have d0 : 0 < upN (t4L R) := by omega
  have tr := tw_row R hR h0
  have t0 : 0 ≤ (t4L R).p - (t4L R).s := by have := tr.pq; have := tr.qs; omega
  have w0 : 2 ≤ 2 * (t4L R).r := by have := tr.r1; omega
  have k1 : 1 ≤ (t4L (P ++ S)).r ∧ 0 ≤ (t4L (P ++ S)).s := by
    cases P with
    | nil => exact absurd rfl P0
    | cons x P =>
      rw [List.cons_append, tw_cons]
      have := tw_nn (P ++ S) (fun a ha => by
        rcases List.mem_append.mp ha with h | h
        · exact hP a h
        · exact hS a h)
      exact ⟨this.p, this.q⟩
  have ks := tw_nn S hS
  have par := tw_par P
  have ap := t4_apx P S
  have Y0 : 0 ≤ (t4L (P ++ S)).r * ((t4L R).p - (t4L R).s) + (t4L (P ++ S)).s * (2 * (t4L R).r) := by
    have a1 := Int.mul_nonneg (show 0 ≤ (t4L (P ++ S)).r by omega) t0
    have a2 := Int.mul_nonneg k1.2 (show 0 ≤ 2 * (t4L R).r by omega)
    omega
  have Z0 : 0 ≤ (t4L S).r * ((t4L R).p - (t4L R).s) + (t4L S).s * (2 * (t4L R).r) := by
    have a1 := Int.mul_nonneg ks.r t0
    have a2 := Int.mul_nonneg ks.s (show 0 ≤ 2 * (t4L R).r by omega)
    omega
  have Z1 : 1 ≤ (t4L S).r * ((t4L R).p - (t4L R).s) + (t4L S).s * (2 * (t4L R).r) ∨ 1 ≤ (t4L S).r := by
    by_cases c : 1 ≤ (t4L S).r
    · exact .inr c
    · have := ks.rs
      have e : (t4L S).r = 0 := by have := ks.r; omega
      left
      rw [e, Int.zero_mul, Int.zero_add]
      have := Int.mul_pos (show 0 < (t4L S).s by omega) (show 0 < 2 * (t4L R).r by omega)
      omega
  have f1 := rtF_one d0 Y0 (show 0 ≤ (t4L (P ++ S)).r by omega) (.inr k1.1)
  have f2 := rtF_one d0 Z0 ks.r Z1
  have fm := sg_fmul d0 sq (T * (t4L P).r - (t4L P).p * B) (O * (t4L P).r) ((t4L (P ++ S)).r * ((t4L R).p - (t4L R).s) + (t4L (P ++ S)).s * (2 * (t4L R).r)) (t4L (P ++ S)).r
  rw [f1, Int.mul_one] at fm
  rw [← fm]
  generalize upN (t4L R) = U at *
  generalize 2 * (t4L R).r = w at *
  generalize (t4L R).p - (t4L R).s = t at *
  rw [ap] at n1 n2 ⊢
  dsimp only at n1 n2 ⊢
  clear fm f1 ap k1 Y0 Z1
  generalize (t4L S).p = p' at *
  generalize (t4L S).q = q' at *
  generalize hr' : (t4L S).r = r' at *
  generalize hs' : (t4L S).s = s' at *
  generalize (t4L P).p = p at *
  generalize (t4L P).q = q at *
  generalize (t4L P).r = r at *
  generalize (t4L P).s = s at *
  have e1 : (T * r - p * B) * ((r * p' + s * r') * t + (r * q' + s * s') * w) + O * r * (r * p' + s * r') * U = B * (-(p * s - q * r)) * (r' * t + s' * w) := by
    have : (T * r - p * B) * ((r * p' + s * r') * t + (r * q' + s * s') * w) + O * r * (r * p' + s * r') * U = r * (T * ((r * p' + s * r') * t + (r * q' + s * s') * w) + (r * p' + s * r') * O * U) - p * B * ((r * p' + s * r') * t + (r * q' + s * s') * w) := by grind
    rw [this, n2]
    grind
  have e2 : (T * r - p * B) * (r * p' + s * r') + O * r * ((r * p' + s * r') * t + (r * q' + s * s') * w) = B * (-(p * s - q * r)) * r' := by
    have : (T * r - p * B) * (r * p' + s * r') + O * r * ((r * p' + s * r') * t + (r * q' + s * s') * w) = r * (T * (r * p' + s * r') + O * ((r * p' + s * r') * t + (r * q' + s * s') * w)) - p * B * (r * p' + s * r') := by grind
    rw [this, n1]
    grind
  rw [e1, e2, par]
  by_cases c : P.length % 2 = 0
  · rw [if_pos c, if_neg (by omega)]
    have : ∀ x : Int, B * -1 * x = -(B * x) := fun x => by grind
    rw [this, this, sg_fneg, sg_rt (by omega), f2]
  · rw [if_neg c, if_pos (by omega)]
    have : ∀ x : Int, B * - -1 * x = B * x := fun x => by grind
    rw [this, this, sg_rt (by omega), f2]
theorem take_row {X : List Int} {n : Nat} {f : Nat → Int} (hl : n ≤ X.length) (h : ∀ i, i < n → X.getD i 0 = f i) : X.take n = (List.range n).map f := by
  refine List.ext_getElem (by simp; omega) (fun i h1 h2 => ?_)
  have hi : i < n := by simp at h1; omega
  rw [List.getElem_take, List.getElem_map, List.getElem_range]
  have := h i hi
  rw [List.getD_eq_getElem?_getD, List.getElem?_eq_getElem (by omega)] at this
  exact this
theorem roll_take {A R : List Int} (h1 : ∀ a ∈ R, 1 ≤ a) (h0 : R ≠ []) (n : Nat) : (A ++ rwN n R).take n = (List.range n).map (rowF A R) := by
  have l2 : (rwN n R).length = n := rwN_len n R h0
  refine take_row (by rw [List.length_append, l2]; omega) fun i hi => ?_
  have e := (same_roll n A R h1 h0).2 i
  unfold rowF at e
  rw [if_pos (by rw [List.length_append, l2]; omega)] at e
  rw [e]
  rfl
theorem trn_up : ∀ (m : Nat) (R : List Int), upN (t4L (trn m R)) = upN (t4L R)
  | 0, _ => rfl
  | _ + 1, [] => rfl
  | m + 1, a :: X => by
    have hU := rg_turn 1 a X
    have u1 : ∀ R, rgU 1 R = upN (t4L R) := fun R => by unfold rgU; omega
    rw [u1, u1] at hU
    show upN (t4L (trn m (X ++ [a]))) = _
    rw [trn_up m, hU]
theorem trn_in : ∀ (m : Nat) (R : List Int) (a : Int), a ∈ trn m R → a ∈ R
  | 0, _, _, h => h
  | _ + 1, [], _, h => h
  | m + 1, b :: X, a, h => by
    have := trn_in m (X ++ [b]) a h
    simpa [or_comm] using this
theorem trn_nil : ∀ (m : Nat) (R : List Int), R ≠ [] → trn m R ≠ []
  | 0, _, h => h
  | _ + 1, [], h => absurd rfl h
  | m + 1, b :: X, _ => trn_nil m (X ++ [b]) (by simp)
theorem rwN_in : ∀ (m : Nat) (R : List Int) (a : Int), a ∈ rwN m R → a ∈ R
  | 0, _, _, h => by cases h
  | _ + 1, [], _, h => by cases h
  | m + 1, b :: X, a, h => by
    rcases List.mem_cons.mp (show a ∈ b :: rwN m (X ++ [b]) from h) with rfl | h
    · simp
    · have := rwN_in m (X ++ [b]) a h
      simpa [or_comm] using this
theorem row_tl {A R : List Int} (h1 : ∀ a ∈ R, 1 ≤ a) (h0 : R ≠ []) (hA : ∀ a ∈ A.tail, 1 ≤ a) (n : Nat) : ∀ a ∈ ((List.range n).map (rowF A R)).tail, 1 ≤ a := fun a ha => by
  rw [← roll_take h1 h0 n] at ha
  have all : ∀ a ∈ (A ++ rwN n R).tail, 1 ≤ a := fun a ha => by
    cases A with
    | nil => exact h1 a (rwN_in n R a (List.mem_of_mem_tail ha))
    | cons x A =>
      rcases List.mem_append.mp ha with h | h
      · exact hA a h
      · exact h1 a (rwN_in n R a h)
  cases hX : A ++ rwN n R with
  | nil => rw [hX] at ha; simp at ha
  | cons x X =>
    rw [hX] at ha all
    cases n with
    | zero => simp at ha
    | succ n =>
      rw [List.take_succ_cons, List.tail_cons] at ha
      exact all a (List.mem_of_mem_take ha)
/-- the first numbers' fraction lies by turns below and above the row's number -/
theorem conv_row {A R : List Int} {T O B : Int} (h1 : ∀ a ∈ R, 1 ≤ a) (h0 : R ≠ []) (hA : ∀ a ∈ A.tail, 1 ≤ a) (hB : 1 ≤ B) (N : NumS A R T O B) {n : Nat} (n1 : 1 ≤ n) :
    sgI (rtF (T * (t4L ((List.range n).map (rowF A R))).r - (t4L ((List.range n).map (rowF A R))).p * B) (O * (t4L ((List.range n).map (rowF A R))).r) (upN (t4L R))) = if n % 2 = 1 then 1 else -1 := by
  rw [← roll_take h1 h0 n, ← trn_up n R]
  have l2 : (rwN n R).length = n := rwN_len n R h0
  have ln : ((A ++ rwN n R).take n).length = n := by rw [List.length_take, List.length_append, l2]; omega
  have all : ∀ a ∈ (A ++ rwN n R).tail, 1 ≤ a := fun a ha => by
    cases A with
    | nil => exact h1 a (rwN_in n R a (List.mem_of_mem_tail ha))
    | cons x A =>
      rcases List.mem_append.mp ha with h | h
      · exact hA a h
      · exact h1 a (rwN_in n R a h)
  have NR := num_roll n A R h1 N
  rw [← List.take_append_drop n (A ++ rwN n R)] at NR
  have h := conv_sign (P := (A ++ rwN n R).take n) (S := (A ++ rwN n R).drop n) (fun a ha => h1 a (trn_in n R a ha)) (trn_nil n R h0) (fun a ha => all a ?_) (fun e => by rw [e] at ln; simp at ln; omega) (fun a ha => all a ?_) hB NR
  · rw [ln] at h
    exact h
  · cases hX : A ++ rwN n R with
    | nil => rw [hX] at ha; simp at ha
    | cons x X =>
      rw [hX] at ha
      match n, n1, ha with
      | n + 1, _, ha =>
        rw [List.take_succ_cons, List.tail_cons] at ha
        exact List.mem_of_mem_take ha
  · cases hX : A ++ rwN n R with
    | nil => rw [hX] at ha; simp at ha
    | cons x X =>
      rw [hX] at ha
      match n, n1, ha with
      | n + 1, _, ha =>
        rw [List.drop_succ_cons] at ha
        exact List.mem_of_mem_drop ha

/-! the fewest numbers, sought in the row -/
theorem row_per {A R : List Int} (i : Nat) (h : A.length ≤ i) : rowF A R (i + R.length) = rowF A R i := by
  unfold rowF
  rw [if_neg (by omega), if_neg (by omega), show i + R.length - A.length = (i - A.length) + R.length by omega, Nat.add_mod_right]
theorem row_no {A R : List Int} (h0 : R ≠ []) (hp : Prm R) {b : Nat} (hA : A.length ≤ b) {t : Nat} (t0 : 0 < t) (t1 : t < R.length) (h : ∀ m, m < R.length → rowF A R (b + m) = rowF A R (b + t + m)) : False := by
  refine hp t t0 t1 ?_
  have p0 := ne_len h0
  refine List.ext_getElem (trn_len t R) fun j j1 j2 => ?_
  have hj : j < R.length := j2
  have e := trn_gD (R := R) (t := t) (j := j) (by omega) hj
  rw [List.getD_eq_getElem?_getD, List.getElem?_eq_getElem j1, List.getD_eq_getElem?_getD] at e
  have lt : (t + j) % R.length < R.length := Nat.mod_lt _ p0
  rw [List.getElem?_eq_getElem lt] at e
  simp only [Option.getD_some] at e
  rw [e]
  -- the place in the window
  obtain ⟨m, hm, em⟩ : ∃ m, m < R.length ∧ (b + m - A.length) % R.length = j := by
    have d : (b - A.length) % R.length < R.length := Nat.mod_lt _ p0
    by_cases c : (b - A.length) % R.length ≤ j
    · refine ⟨j - (b - A.length) % R.length, by omega, ?_⟩
      have e2 := Nat.div_add_mod (b - A.length) R.length
      rw [show b + (j - (b - A.length) % R.length) - A.length = j + R.length * ((b - A.length) / R.length) by omega, Nat.add_mul_mod_self_left, Nat.mod_eq_of_lt hj]
    · refine ⟨j + R.length - (b - A.length) % R.length, by omega, ?_⟩
      have e2 := Nat.div_add_mod (b - A.length) R.length
      rw [show b + (j + R.length - (b - A.length) % R.length) - A.length = (j + R.length) + R.length * ((b - A.length) / R.length) by omega, Nat.add_mul_mod_self_left, Nat.add_mod_right, Nat.mod_eq_of_lt hj]
  have hh := h m hm
  unfold rowF at hh
  rw [if_neg (by omega), if_neg (by omega), em] at hh
  have em2 : (b + t + m - A.length) % R.length = (t + j) % R.length := by
    rw [show b + t + m - A.length = t + (b + m - A.length) by omega, Nat.add_mod, em, Nat.add_mod t j, Nat.mod_eq_of_lt hj]
  rw [em2] at hh
  rw [List.getD_eq_getElem?_getD, List.getElem?_eq_getElem hj, List.getD_eq_getElem?_getD, List.getElem?_eq_getElem lt] at hh
  exact hh.symm
theorem row_last {A R : List Int} (h0 : R ≠ []) (hl : A = [] ∨ A.getLast? ≠ R.getLast?) (hA : 0 < A.length) : rowF A R (A.length - 1) ≠ rowF A R (A.length - 1 + R.length) := fun e => by
  have p0 := ne_len h0
  rcases hl with rfl | hl
  · exact absurd hA (by decide)
  · refine hl ?_
    rw [List.getLast?_eq_getElem?, List.getLast?_eq_getElem?]
    unfold rowF at e
    rw [if_pos (by omega), if_neg (by omega), show A.length - 1 + R.length - A.length = R.length - 1 by omega, Nat.mod_eq_of_lt (by omega)] at e
    rw [List.getD_eq_getElem?_getD, List.getElem?_eq_getElem (by omega), List.getD_eq_getElem?_getD, List.getElem?_eq_getElem (by omega)] at e
    rw [List.getElem?_eq_getElem (by omega), List.getElem?_eq_getElem (by omega)]
    exact congrArg some e
theorem row_perq {A R : List Int} (i : Nat) (h : A.length ≤ i) : ∀ q, rowF A R (i + q * R.length) = rowF A R i
  | 0 => by rw [Nat.zero_mul, Nat.add_zero]
  | q + 1 => by
    rw [Nat.succ_mul, ← Nat.add_assoc, row_per _ (by omega), row_perq i h q]
theorem kept_dvd {A R A' R' : List Int} (h0' : R' ≠ []) (hp' : Prm R') (hrow : ∀ i, rowF A R i = rowF A' R' i) : R'.length ∣ R.length := by
  have p0 := ne_len h0'
  by_cases c : R.length % R'.length = 0
  · exact Nat.dvd_of_mod_eq_zero c
  · have e2 := Nat.div_add_mod' R.length R'.length
    have t1 : R.length % R'.length < R'.length := Nat.mod_lt _ p0
    generalize R.length % R'.length = t at *
    generalize R.length / R'.length = q at *
    exact (row_no (A := A') h0' hp' (b := A.length + A'.length) (by omega) (t := t) (by omega) t1 fun m hm => by
      have e1 := row_per (A := A) (R := R) (A.length + A'.length + m) (by omega)
      rw [hrow, hrow] at e1
      have e3 := row_perq (A := A') (R := R') (A.length + A'.length + t + m) (by omega) q
      generalize q * R'.length = z at *
      rw [show A.length + A'.length + t + m + z = A.length + A'.length + m + R.length by omega] at e3
      rw [← e1, e3]).elim
theorem kept_le {A R A' R' : List Int} (h0' : R' ≠ []) (hl' : A' = [] ∨ A'.getLast? ≠ R'.getLast?) (hrow : ∀ i, rowF A R i = rowF A' R' i) (hR : R.length = R'.length) : A'.length ≤ A.length := by
  by_cases c : A'.length ≤ A.length
  · exact c
  · have h1 := row_last h0' hl' (by omega)
    have h2 := row_per (A := A) (R := R) (A'.length - 1) (by omega)
    rw [hrow, hrow, hR] at h2
    exact (h1 h2.symm).elim
/-- a row is kept in one way alone -/
theorem kept_uniq {A R A' R' : List Int} (h0 : R ≠ []) (h0' : R' ≠ []) (hp : Prm R) (hp' : Prm R') (hl : A = [] ∨ A.getLast? ≠ R.getLast?) (hl' : A' = [] ∨ A'.getLast? ≠ R'.getLast?) (hrow : ∀ i, rowF A R i = rowF A' R' i) : A = A' ∧ R = R' := by
  have e : R.length = R'.length := Nat.dvd_antisymm (kept_dvd h0 hp fun i => (hrow i).symm) (kept_dvd h0' hp' hrow)
  have l1 := kept_le h0' hl' hrow e
  have l2 := kept_le h0 hl (fun i => (hrow i).symm) e.symm
  exact row_inj (by omega) e hrow
theorem few_uniq {A R A' R' : List Int} (h0 : R ≠ []) (h0' : R' ≠ []) (hrow : ∀ i, rowF A R i = rowF A' R' i) : fewest A R = fewest A' R' := by
  obtain ⟨a1, a2, _, _, _, a6, a7⟩ := few_few (A := A) h0
  obtain ⟨b1, b2, _, _, _, b6, b7⟩ := few_few (A := A') h0'
  obtain ⟨e1, e2⟩ := kept_uniq a2 b2 a1 b1 a6 b6 fun i => by rw [a7, b7, hrow]
  exact Prod.ext e1 e2

/-! a stair's number, its rest, its mate; numbers and rows -/
/-- the number is its first one and 1 over the rest's number -/
theorem prod_rest {A R : List Int} {n T O B T2 O2 B2 : Int} (h1 : ∀ a ∈ R, 1 ≤ a) (h0 : R ≠ []) (N : NumS (n :: A) R T O B) (M : NumS A R T2 O2 B2) :
    (T - n * B) * T2 + O * O2 * upN (t4L R) = B * B2 ∧ (T - n * B) * O2 + O * T2 = 0 := by
  obtain ⟨a1, a2⟩ := N
  obtain ⟨b1, b2⟩ := M
  have u0 := ln_u0 (A := A) h1 h0
  unfold lnU lnY lnT at u0
  rw [tw_cons] at a1 a2
  dsimp only at a1 a2
  generalize (t4L R).p - (t4L R).s = u at *
  generalize 2 * (t4L R).r = w at *
  generalize upN (t4L R) = d at *
  generalize (t4L A).p = p at *
  generalize (t4L A).q = q at *
  generalize (t4L A).r = r at *
  generalize (t4L A).s = s at *
  have hX : p * u + q * w = p * u + q * w := rfl
  generalize hY : r * u + s * w = Y at *
  have c1 : (T - n * B) * p + O * (p * u + q * w) = B * r := by
    have : T * p + O * (p * u + q * w) = B * (n * p + r) := a1
    have e : (T - n * B) * p + O * (p * u + q * w) = (T * p + O * (p * u + q * w)) - n * B * p := by grind
    rw [e, this]; grind
  have c2 : (T - n * B) * (p * u + q * w) + p * O * d = B * Y := by
    have e : (T - n * B) * (p * u + q * w) + p * O * d = (T * (p * u + q * w) + p * O * d) - n * B * (p * u + q * w) := by grind
    rw [e, a2, ← hY]; grind
  clear a1 a2 hX
  generalize p * u + q * w = X at *
  generalize T - n * B = t at *
  have f1 : (t * T2 + O * O2 * d - B * B2) * Y + (t * O2 + O * T2) * (r * d) = 0 := by
    have : (t * T2 + O * O2 * d - B * B2) * Y + (t * O2 + O * T2) * (r * d) = t * (T2 * Y + r * O2 * d) + O * d * (T2 * r + O2 * Y) - B * B2 * Y := by grind
    rw [this, b1, b2]
    have : t * (B2 * X) + O * d * (B2 * p) - B * B2 * Y = B2 * (t * X + p * O * d - B * Y) := by grind
    rw [this, c2]; grind
  have f2 : (t * T2 + O * O2 * d - B * B2) * r + (t * O2 + O * T2) * Y = 0 := by
    have : (t * T2 + O * O2 * d - B * B2) * r + (t * O2 + O * T2) * Y = t * (T2 * r + O2 * Y) + O * (T2 * Y + r * O2 * d) - B * B2 * r := by grind
    rw [this, b1, b2]
    have : t * (B2 * p) + O * (B2 * X) - B * B2 * r = B2 * (t * p + O * X - B * r) := by grind
    rw [this, c1]; grind
  have g1 : (t * T2 + O * O2 * d - B * B2) * (Y * Y - r * r * d) = 0 := by
    have : (t * T2 + O * O2 * d - B * B2) * (Y * Y - r * r * d) = Y * ((t * T2 + O * O2 * d - B * B2) * Y + (t * O2 + O * T2) * (r * d)) - r * d * ((t * T2 + O * O2 * d - B * B2) * r + (t * O2 + O * T2) * Y) := by grind
    rw [this, f1, f2]; grind
  have g2 : (t * O2 + O * T2) * (Y * Y - r * r * d) = 0 := by
    have : (t * O2 + O * T2) * (Y * Y - r * r * d) = Y * ((t * T2 + O * O2 * d - B * B2) * r + (t * O2 + O * T2) * Y) - r * ((t * T2 + O * O2 * d - B * B2) * Y + (t * O2 + O * T2) * (r * d)) := by grind
    rw [this, f1, f2]; grind
  have h3 := (Int.mul_eq_zero.mp g1).resolve_right u0
  have h4 := (Int.mul_eq_zero.mp g2).resolve_right u0
  exact ⟨by omega, h4⟩
/-- a row begins with its first one -/
theorem num_rest {A R : List Int} {T O B : Int} (h1 : ∀ a ∈ R, 1 ≤ a) (h0 : R ≠ []) (N : NumS A R T O B) : NumS (rowF A R 0 :: A.drop 1) (trn ((1 - A.length) % R.length) R) T O B := by
  match A, R, h0, N with
  | n :: A, R, _, N =>
    rw [show 1 - (n :: A).length = 0 by rw [List.length_cons]; omega, Nat.zero_mod]
    exact N
  | [], [n], _, N =>
    have := num_turn (A := []) (X := []) h1 N
    rw [show (1 - ([] : List Int).length) % [n].length = 0 by rw [List.length_cons, List.length_nil]]
    exact this
  | [], n :: m :: X, _, N =>
    have := num_turn (A := []) (X := m :: X) h1 N
    rw [show (1 - ([] : List Int).length) % (n :: m :: X).length = 1 by rw [List.length_cons, List.length_cons]; exact Nat.mod_eq_of_lt (by simp)]
    exact this
/-- each prefix stands on its side -/
theorem conv_all {A R : List Int} {T O B : Int} (h1 : ∀ a ∈ R, 1 ≤ a) (h0 : R ≠ []) (hA : ∀ a ∈ A.tail, 1 ≤ a) (hB : 1 ≤ B) (N : NumS A R T O B) (n : Nat) :
    sgI (rtF (T * (t4L ((List.range n).map (rowF A R))).r - (t4L ((List.range n).map (rowF A R))).p * B) (O * (t4L ((List.range n).map (rowF A R))).r) (upN (t4L R))) = if n % 2 = 1 then 1 else -1 := by
  by_cases c : 1 ≤ n
  · exact conv_row h1 h0 hA hB N c
  · have e : n = 0 := by omega
    subst e
    show sgI (rtF (T * 0 - 1 * B) (O * 0) _) = -1
    rw [Int.mul_zero, Int.mul_zero, Int.one_mul, Int.zero_sub, rtF_int, sg_opp, sg_one (by omega)]
theorem range_snoc (f : Nat → Int) (n : Nat) : (List.range (n + 1)).map f = (List.range n).map f ++ [f n] := by rw [List.range_succ, List.map_append]; rfl
theorem num_gt {A R : List Int} {T O B : Int} (h1 : ∀ a ∈ R, 1 ≤ a) (h0 : R ≠ []) (hA : ∀ a ∈ A.tail, 1 ≤ a) (hB : 1 ≤ B) (N : NumS A R T O B) : 0 < sgI (rtF (T - rowF A R 0 * B) O (upN (t4L R))) := by
  have h := conv_all h1 h0 hA hB N 1
  have e : t4L ((List.range 1).map (rowF A R)) = ⟨rowF A R 0 * 1 + 0, rowF A R 0 * 0 + 1, 1, 0⟩ := tw_cons _ _
  rw [e] at h
  dsimp only at h
  rw [Int.mul_one, Int.mul_one, Int.mul_one, Int.add_zero] at h
  rw [h]
  decide
theorem sg_more {d : Int} (d0 : 0 < d) (hd : isSqB d = false) {a b c e k : Int} (hk : 0 ≤ k) (h1 : 0 < sgI (rtF a b d)) (h2 : 0 < sgI (rtF c e d)) : 0 < sgI (rtF (a + k * c) (b + k * e) d) := by
  by_cases c : k = 0
  · subst c
    rw [Int.zero_mul, Int.zero_mul, Int.add_zero, Int.add_zero]
    exact h1
  · exact sg_fadd d0 hd h1 (by rw [sg_rt (by omega)]; exact h2)
theorem num_gt1 {A R : List Int} {T O B : Int} (h1 : ∀ a ∈ R, 1 ≤ a) (h0 : R ≠ []) (hA : ∀ a ∈ A, 1 ≤ a) (hB : 1 ≤ B) (N : NumS A R T O B) : 0 < sgI (rtF (T - B) O (upN (t4L R))) := by
  have h := num_gt h1 h0 (fun a ha => hA a (List.mem_of_mem_tail ha)) hB N
  have up := tw_pos h1 h0
  have a1 : 1 ≤ rowF A R 0 := by
    have l0 := ne_len h0
    unfold rowF
    split
    · rename_i c
      rw [List.getD_eq_getElem?_getD, List.getElem?_eq_getElem c]
      exact hA _ (List.getElem_mem c)
    · rename_i c
      have lt : (0 - A.length) % R.length < R.length := Nat.mod_lt _ l0
      rw [List.getD_eq_getElem?_getD, List.getElem?_eq_getElem lt]
      exact h1 _ (List.getElem_mem lt)
  have := sg_more (k := rowF A R 0 - 1) (c := B) (e := 0) (by omega) (isSqB_false fun y _ => up.2 y) (by omega) h (by rw [rtF_int, sg_one (by omega)]; decide)
  rw [Int.mul_zero, Int.add_zero] at this
  rw [show T - B = T - rowF A R 0 * B + (rowF A R 0 - 1) * B by grind]
  exact this
/-! above 1, the mate between -1 and 0: just where nothing is ahead -/
theorem sq_up {s U v : Int} (S : SqR s U) : (v ≤ s ↔ v < 0 ∨ v * v < U) ∧ (s < v ↔ 0 < v ∧ U < v * v) := by
  obtain ⟨s0, lt, gt⟩ := S
  have k1 : v ≤ s → v < 0 ∨ v * v < U := fun h => by
    by_cases c : v < 0
    · exact .inl c
    · right
      have := Int.mul_le_mul h h (by omega) s0
      omega
  have k2 : s < v → 0 < v ∧ U < v * v := fun h => by
    refine ⟨by omega, ?_⟩
    have := Int.mul_le_mul (show s + 1 ≤ v by omega) (show s + 1 ≤ v by omega) (by omega) (by omega)
    omega
  refine ⟨⟨k1, fun h => ?_⟩, ⟨k2, fun h => ?_⟩⟩
  · rcases Int.lt_or_le s v with c | c
    · have := k2 c
      omega
    · exact c
  · rcases Int.lt_or_le s v with c | c
    · exact c
    · have := k1 c
      omega
theorem sg_lt {v k d s : Int} (k0 : 0 < k) (S : SqR s (k * k * d)) : (0 < sgI (rtF (-v) k d) ↔ v ≤ s) ∧ (0 < sgI (rtF v (-k) d) ↔ s < v) := by
  obtain ⟨u1, u2⟩ := sq_up (v := v) S
  have pos : ∀ x : Int, 0 < sgI x ↔ 0 < x := fun x => by rcases sg_tri x with ⟨c, e⟩ | ⟨c, e⟩ | ⟨c, e⟩ <;> rw [e] <;> constructor <;> intro h <;> omega
  have e1 : rtF (-v) k d = -(v * abI v) + k * k * d := by
    unfold rtF
    rw [ab_neg]
    unfold abI
    rw [if_neg (show ¬ k < 0 by omega)]
    grind
  have e2 : rtF v (-k) d = v * abI v - k * k * d := by
    unfold rtF
    rw [ab_neg]
    unfold abI
    rw [if_neg (show ¬ k < 0 by omega)]
    grind
  have lt := S.lt
  have s0 := Int.mul_nonneg S.s0 S.s0
  rw [pos, pos, u1, u2, e1, e2]
  generalize k * k * d = U at *
  unfold abI
  by_cases c : v < 0
  · rw [if_pos c]
    have : 0 < v * v := Int.mul_pos_of_neg_of_neg c c
    have e : v * -v = -(v * v) := by grind
    rw [e]
    omega
  · rw [if_neg c]
    have : 0 ≤ v * v := Int.mul_nonneg (by omega) (by omega)
    by_cases z : v = 0
    · subst z; omega
    · omega
/-- the walk's word for it, told by signs -/
theorem red_sign {T O B d s : Int} (hO : O ≠ 0) (hB : 1 ≤ B) (S : SqR s ((O * B) * (O * B) * d)) :
    RedS s (stX T O B).1 (stX T O B).2 ↔ 0 < sgI (rtF (T - B) O d) ∧ 0 < sgI (rtF (-T) O d) ∧ 0 < sgI (rtF (T + B) (-O) d) := by
  have h1 : ∀ x y : Int, sgI (rtF (B * x) (B * y) d) = sgI (rtF x y d) := fun x y => sg_rt (by omega)
  have bb : 0 < B * B := Int.mul_pos (by omega) (by omega)
  rcases Int.lt_or_gt_of_ne hO with c | c
  · have e : stX T O B = (-(T * B), -(B * B)) := by
      unfold stX sgT
      rw [if_pos c]
      grind
    rw [e]
    constructor
    · rintro ⟨b0, _⟩
      dsimp only at b0
      omega
    · rintro ⟨f1, f2, _⟩
      exfalso
      -- both of the number's signs
      have g := rtF_00 d
      have f3 := sg_opp (rtF (T - B) O d)
      rw [← rtF_neg] at f3
      have pos : ∀ x : Int, 0 < sgI x ↔ 0 < x := fun x => by rcases sg_tri x with ⟨c, e⟩ | ⟨c, e⟩ | ⟨c, e⟩ <;> rw [e] <;> constructor <;> intro h <;> omega
      rw [pos] at f1 f2
      unfold rtF at f1 f2
      have d0 : 0 < d := by
        have lt := S.lt
        have s0 := Int.mul_nonneg S.s0 S.s0
        have ob : 0 < (O * B) * (O * B) := by
          have : O * B < 0 := Int.mul_neg_of_neg_of_pos c (by omega)
          exact Int.mul_pos_of_neg_of_neg this this
        rcases Int.lt_or_le 0 d with q | q
        · exact q
        · have := Int.mul_le_mul_of_nonneg_left q (Int.le_of_lt ob)
          omega
      have dd : d * O * abI O < 0 := by
        unfold abI
        rw [if_pos c]
        have := Int.mul_pos d0 (Int.mul_pos_of_neg_of_neg c c)
        have e : d * O * -O = -(d * (O * O)) := by grind
        omega
      rw [ab_neg] at f2
      generalize d * O * abI O = z at *
      have t1 : 0 < (T - B) * abI (T - B) := by omega
      have t2 : 0 < -T * abI T := by omega
      have sgn : ∀ x : Int, 0 < x * abI x → 0 < x := fun x h => by
        unfold abI at h
        by_cases q : x < 0
        · rw [if_pos q] at h
          have := Int.mul_pos_of_neg_of_neg q q
          have e : x * -x = -(x * x) := by grind
          omega
        · by_cases w : x = 0
          · subst w; simp at h
          · omega
      have a1 := sgn _ t1
      have a2 := sgn (-T) (by rw [ab_neg]; exact t2)
      omega
  · have e : stX T O B = (T * B, B * B) := by
      unfold stX sgT
      rw [if_neg (by omega)]
      grind
    have k0 : 0 < O * B := Int.mul_pos c (by omega)
    rw [e]
    have r1 := (sg_lt (v := B * B - T * B) k0 S).1
    have r2 := (sg_lt (v := T * B) k0 S).1
    have r3 := (sg_lt (v := T * B + B * B) k0 S).2
    rw [show -(B * B - T * B) = B * (T - B) by grind, show O * B = B * O from Int.mul_comm .., h1] at r1
    rw [show -(T * B) = B * (-T) by grind, show O * B = B * O from Int.mul_comm .., h1] at r2
    rw [show T * B + B * B = B * (T + B) by grind, show -(O * B) = B * -O by grind, h1] at r3
    rw [r1, r2, r3]
    unfold RedS
    dsimp only
    constructor
    · rintro ⟨_, a, b, c⟩
      exact ⟨by omega, b, by rw [Int.mul_add, Int.mul_comm B T]; exact c⟩
    · rintro ⟨a, b, c⟩
      rw [Int.mul_add, Int.mul_comm B T] at c
      exact ⟨bb, by omega, b, c⟩
/-! numbers and rows -/
theorem row_dif {A R A2 R2 : List Int} {T O B T2 O2 B2 : Int} (h1 : ∀ a ∈ R, 1 ≤ a) (h0 : R ≠ []) (hA : ∀ a ∈ A.tail, 1 ≤ a) (hB : 1 ≤ B) (N : NumS A R T O B)
    (h1' : ∀ a ∈ R2, 1 ≤ a) (h0' : R2 ≠ []) (hA' : ∀ a ∈ A2.tail, 1 ≤ a) (hB' : 1 ≤ B2) (N' : NumS A2 R2 T2 O2 B2)
    (tr : ∀ p r : Int, sgI (rtF (T2 * r - p * B2) (O2 * r) (upN (t4L R2))) = sgI (rtF (T * r - p * B) (O * r) (upN (t4L R))))
    {n : Nat} (hp : (List.range n).map (rowF A R) = (List.range n).map (rowF A2 R2)) (lt : rowF A R n < rowF A2 R2 n) : False := by
  have up := tw_pos h1 h0
  have hd : isSqB (upN (t4L R)) = false := isSqB_false fun y _ => up.2 y
  have d0 : 0 < upN (t4L R) := by omega
  have c0 := conv_all h1 h0 hA hB N n
  have c1 := conv_all h1 h0 hA hB N (n + 1)
  have c2 := conv_all h1 h0 hA hB N (n + 1 + 1)
  have c3 := conv_all h1' h0' hA' hB' N' (n + 1)
  rw [tr] at c3
  have tl : 1 ≤ rowF A R (n + 1) := row_tl h1 h0 hA (n + 1 + 1) _ (by
    have : rowF A R (n + 1) ∈ ((List.range (n + 1 + 1)).map (rowF A R)).tail := by
      rw [List.range_succ_eq_map, List.map_cons, List.tail_cons, List.map_map]
      exact List.mem_map.mpr ⟨n, List.mem_range.mpr (by omega), rfl⟩
    exact this)
  rw [range_snoc _ (n + 1), range_snoc _ n, tw_last, tw_last] at c2
  rw [range_snoc _ n, tw_last] at c1 c3
  rw [← hp] at c3
  dsimp only at c1 c2 c3
  generalize t4L ((List.range n).map (rowF A R)) = t at *
  generalize rowF A R n = f at *
  generalize rowF A2 R2 n = g at *
  generalize rowF A R (n + 1) = f' at *
  generalize upN (t4L R) = d at *
  generalize t.p = p at *
  generalize t.q = q at *
  generalize t.r = r at *
  generalize t.s = s at *
  -- where the first is even or odd
  have key : ∀ σ : Int, (σ = 1 ∨ σ = -1) → sgI (rtF (T * r - p * B) (O * r) d) = -σ → sgI (rtF (T * (r * f + s) - (p * f + q) * B) (O * (r * f + s)) d) = σ →
      sgI (rtF (T * ((r * f + s) * f' + r) - ((p * f + q) * f' + p) * B) (O * ((r * f + s) * f' + r)) d) = -σ → sgI (rtF (T * (r * g + s) - (p * g + q) * B) (O * (r * g + s)) d) = σ → False := by
    intro σ hσ e0 e1 e2 e3
    have m : ∀ x y : Int, sgI (rtF (σ * x) (σ * y) d) = σ * sgI (rtF x y d) := fun x y => by
      rcases hσ with rfl | rfl
      · rw [Int.one_mul, Int.one_mul, Int.one_mul]
      · rw [Int.neg_mul, Int.neg_mul, Int.one_mul, Int.one_mul, sg_fneg]; omega
    have ss : σ * σ = 1 := by rcases hσ with rfl | rfl <;> rfl
    have p0 : 0 < sgI (rtF (-σ * (T * r - p * B)) (-σ * (O * r)) d) := by
      rw [Int.neg_mul, Int.neg_mul, sg_fneg, m, e0, Int.mul_neg, ss]; decide
    have p2 : 0 < sgI (rtF (-σ * (T * ((r * f + s) * f' + r) - ((p * f + q) * f' + p) * B)) (-σ * (O * ((r * f + s) * f' + r))) d) := by
      rw [Int.neg_mul, Int.neg_mul, sg_fneg, m, e2, Int.mul_neg, ss]; decide
    have p3 : 0 < sgI (rtF (σ * (T * (r * g + s) - (p * g + q) * B)) (σ * (O * (r * g + s))) d) := by
      rw [m, e3, ss]; decide
    have p1 : 0 < sgI (rtF (σ * (T * (r * f + s) - (p * f + q) * B)) (σ * (O * (r * f + s))) d) := by
      rw [m, e1, ss]; decide
    have q1 := sg_more d0 hd (show 0 ≤ g - f - 1 by omega) p2 p0
    have q2 := sg_more d0 hd (show 0 ≤ f' - 1 by omega) p3 p1
    have q3 := sg_fadd d0 hd q1 q2
    have z1 : -σ * (T * ((r * f + s) * f' + r) - ((p * f + q) * f' + p) * B) + (g - f - 1) * (-σ * (T * r - p * B)) + (σ * (T * (r * g + s) - (p * g + q) * B) + (f' - 1) * (σ * (T * (r * f + s) - (p * f + q) * B))) = 0 := by grind
    have z2 : -σ * (O * ((r * f + s) * f' + r)) + (g - f - 1) * (-σ * (O * r)) + (σ * (O * (r * g + s)) + (f' - 1) * (σ * (O * (r * f + s)))) = 0 := by grind
    rw [z1, z2, rtF_00] at q3
    exact absurd q3 (by decide)
  by_cases c : n % 2 = 1
  · rw [if_pos c] at c0
    rw [if_neg (by omega)] at c1 c3
    rw [if_pos (by omega)] at c2
    exact key (-1) (.inr rfl) (by rw [c0]; rfl) c1 (by rw [c2]; rfl) c3
  · rw [if_neg c] at c0
    rw [if_pos (by omega)] at c1 c3
    rw [if_neg (by omega)] at c2
    exact key 1 (.inl rfl) c0 c1 c2 c3
/-- one number has one row -/
theorem num_inj {A R A2 R2 : List Int} {T O B T2 O2 B2 : Int} (h1 : ∀ a ∈ R, 1 ≤ a) (h0 : R ≠ []) (hA : ∀ a ∈ A.tail, 1 ≤ a) (hB : 1 ≤ B) (N : NumS A R T O B)
    (h1' : ∀ a ∈ R2, 1 ≤ a) (h0' : R2 ≠ []) (hA' : ∀ a ∈ A2.tail, 1 ≤ a) (hB' : 1 ≤ B2) (N' : NumS A2 R2 T2 O2 B2)
    (tr : ∀ p r : Int, sgI (rtF (T2 * r - p * B2) (O2 * r) (upN (t4L R2))) = sgI (rtF (T * r - p * B) (O * r) (upN (t4L R)))) : ∀ n, (List.range n).map (rowF A R) = (List.range n).map (rowF A2 R2)
  | 0 => rfl
  | n + 1 => by
    have ih := num_inj h1 h0 hA hB N h1' h0' hA' hB' N' tr n
    rw [range_snoc, range_snoc, ih]
    rcases Int.lt_trichotomy (rowF A R n) (rowF A2 R2 n) with c | c | c
    · exact (row_dif h1 h0 hA hB N h1' h0' hA' hB' N' tr ih c).elim
    · rw [c]
    · exact (row_dif h1' h0' hA' hB' N' h1 h0 hA hB N (fun p r => (tr p r).symm) ih.symm c).elim
theorem eq_tr {T O B d T2 O2 B2 d2 : Int} (hB : 1 ≤ B) (hB' : 1 ≤ B2) (e : eqB T O d B T2 O2 d2 B2 = true) (p r : Int) : sgI (rtF (T2 * r - p * B2) (O2 * r) d2) = sgI (rtF (T * r - p * B) (O * r) d) := by
  unfold eqB at e
  rw [Bool.and_eq_true, Bool.and_eq_true, decide_eq_true_iff, decide_eq_true_iff, decide_eq_true_iff] at e
  obtain ⟨e1, e2, e3⟩ := e
  rw [← sg_rt (g := B) (by omega) (T := T2 * r - p * B2), ← sg_rt (g := B2) (by omega) (T := T * r - p * B)]
  congr 1
  have x : B * (T2 * r - p * B2) = B2 * (T * r - p * B) := by
    have : B * (T2 * r - p * B2) = (T2 * B) * r - p * B * B2 := by grind
    rw [this, ← e1]; grind
  unfold rtF
  rw [x]
  congr 1
  -- the other half
  have s1 : sgI (O2 * B) = sgI (O * B2) := by rw [sg_mulr (by omega), sg_mulr (by omega), e2]
  have y1 : B * (O2 * r) = (O2 * B) * r := by grind
  have y2 : B2 * (O * r) = (O * B2) * r := by grind
  rw [y1, y2]
  generalize O2 * B = u at *
  generalize O * B2 = v at *
  have ab : ∀ z w : Int, abI (z * w) = abI z * abI w := fun z w => by
    have : ∀ y : Int, abI y = (y.natAbs : Int) := fun y => by unfold abI; split <;> omega
    rw [this, this, this, Int.natAbs_mul, Int.natCast_mul]
  have as : ∀ z : Int, abI z = sgI z * z := fun z => by
    unfold abI
    rcases sg_tri z with ⟨c, e⟩ | ⟨c, e⟩ | ⟨c, e⟩ <;> rw [e]
    · rw [if_pos c]; omega
    · rw [if_neg (by omega)]; omega
    · rw [if_neg (by omega)]; omega
  rw [ab, ab, as u, as v, s1]
  have l : d2 * (u * r) * (sgI v * u * abI r) = (u * u * d2) * (sgI v * r * abI r) := by grind
  have l2 : d * (v * r) * (sgI v * v * abI r) = (v * v * d) * (sgI v * r * abI r) := by grind
  rw [l, l2, ← e3]
/-! the ring backward -/
theorem trn_rev {R : List Int} {j : Nat} (h : j ≤ R.length) : (trn j R.reverse).reverse = trn (R.length - j) R := by
  rw [trn_take (by rw [List.length_reverse]; exact h), trn_take (by omega), List.reverse_append, List.reverse_take, List.reverse_drop, List.reverse_reverse, List.length_reverse]
theorem prm_rev {R : List Int} (h : Prm R) : Prm R.reverse := fun j j0 j1 e => by
  rw [List.length_reverse] at j1
  have := congrArg List.reverse e
  rw [trn_rev (by omega), List.reverse_reverse] at this
  exact h (R.length - j) (by omega) (by omega) this
theorem num_back {R : List Int} {T O B e : Int} (h1 : ∀ a ∈ R, 1 ≤ a) (h0 : R ≠ []) (N : NumS [] R T O B) :
    NumS [] R.reverse (-(e * B * T)) (-(e * B * O)) (e * (T * T - upN (t4L R) * (O * O))) := by
  obtain ⟨a1, a2⟩ := N
  have tr := tw_row R h1 h0
  have r1 := tr.r1
  rw [show t4L [] = ⟨1, 0, 0, 1⟩ from rfl] at a1 a2
  dsimp only at a1 a2
  have hU : upN (t4L R) = ((t4L R).p - (t4L R).s) * ((t4L R).p - (t4L R).s) + 4 * (t4L R).q * (t4L R).r := by unfold upN; grind
  have b1 : O * (2 * (t4L R).r) = B := by
    have : O * (2 * (t4L R).r) = T * 0 + O * (0 * ((t4L R).p - (t4L R).s) + 1 * (2 * (t4L R).r)) := by grind
    rw [this, a1]; grind
  have b2 : T * (2 * (t4L R).r) = B * ((t4L R).p - (t4L R).s) := by
    have : T * (2 * (t4L R).r) = T * (0 * ((t4L R).p - (t4L R).s) + 1 * (2 * (t4L R).r)) + 0 * O * upN (t4L R) := by grind
    rw [this, a2]; grind
  have c1 : T = O * ((t4L R).p - (t4L R).s) := by
    refine Int.eq_of_mul_eq_mul_right (show 2 * (t4L R).r ≠ 0 by omega) ?_
    rw [b2, ← b1]; grind
  have c2 : T * T - upN (t4L R) * (O * O) = -(2 * (t4L R).q * B * O) := by
    rw [hU, ← b1, c1]; grind
  rw [c2]
  clear a1 a2 b1 b2 c2 hU tr r1 h1 h0
  refine ⟨?_, ?_⟩
  · rw [t4_rev, show t4L [] = ⟨1, 0, 0, 1⟩ from rfl]
    unfold t4T
    dsimp only
    clear c1
    generalize (t4L R).p = p
    generalize (t4L R).q = q
    generalize (t4L R).r = r
    generalize (t4L R).s = s
    simp only [Int.mul_zero, Int.zero_mul, Int.zero_add, Int.one_mul, Int.mul_one]
    grind
  · rw [t4_rev, show t4L [] = ⟨1, 0, 0, 1⟩ from rfl]
    unfold t4T
    dsimp only
    rw [c1]
    clear c1
    generalize upN _ = d
    generalize (t4L R).p = p
    generalize (t4L R).q = q
    generalize (t4L R).r = r
    generalize (t4L R).s = s
    simp only [Int.mul_zero, Int.zero_mul, Int.zero_add, Int.one_mul, Int.mul_one, Int.add_zero]
    grind

/-- a small stair as it is kept -/
structure StK (A R : List Int) : Prop where
  r1 : ∀ a ∈ R, 1 ≤ a ∧ a ≤ 999999
  r0 : R ≠ []
  r8 : R.length ≤ 8
  a9 : ∀ a ∈ A, a.natAbs ≤ 999999
  a6 : A.length ≤ 6
  tl : ∀ a ∈ A.tail, 1 ≤ a
  prm : Prm R
  last : A = [] ∨ A.getLast? ≠ R.getLast?
theorem few_StK {A R : List Int} (r1 : ∀ a ∈ R, 1 ≤ a ∧ a ≤ 999999) (r0 : R ≠ []) (r8 : R.length ≤ 8) (a9 : ∀ a ∈ A, a.natAbs ≤ 999999) (a6 : A.length ≤ 6) (tl : ∀ a ∈ A.tail, 1 ≤ a) : StK (fewest A R).1 (fewest A R).2 := by
  obtain ⟨fp, f0, fm, fl, fa, fx, _⟩ := few_few (A := A) r0
  obtain ⟨k, hk⟩ := fa
  refine ⟨fun a ha => r1 a (fm a ha), f0, by omega, fun a ha => ?_, by rw [hk, List.length_take]; omega, fun a ha => ?_, fp, fx⟩
  · rw [hk] at ha
    exact a9 a (List.mem_of_mem_take ha)
  · rw [hk] at ha
    match A, k, ha with
    | x :: A, k + 1, ha =>
      rw [List.take_succ_cons, List.tail_cons] at ha
      exact tl a (List.mem_of_mem_take ha)
    | [], 0, ha => cases ha
    | [], k + 1, ha => cases ha
    | x :: A, 0, ha => cases ha
theorem StK.few {A R : List Int} (K : StK A R) : fewest A R = (A, R) := prm_fewest K.r0 K.prm K.last
theorem StK.p1 {A R : List Int} (K : StK A R) : ∀ a ∈ R, 1 ≤ a := fun a ha => (K.r1 a ha).1
/-- a stair's rest is one, too -/
theorem StK.drop {A R : List Int} (K : StK A R) (m : Nat) : StK (fewest (A.drop m) (trn ((m - A.length) % R.length) R)).1 (fewest (A.drop m) (trn ((m - A.length) % R.length) R)).2 :=
  few_StK (fun a ha => K.r1 a (trn_mem _ _ _ ha)) (trn_ne K.r0) (by rw [trn_len]; exact K.r8) (fun a ha => K.a9 a (List.mem_of_mem_drop ha)) (by rw [List.length_drop]; have := K.a6; omega) (fun a ha => by
    have e : (A.drop m).tail = A.tail.drop m := by simp [List.tail_drop]
    rw [e] at ha
    exact K.tl a (List.mem_of_mem_drop ha))


def sp_is_whole : SpD := fun ds S Q _ => ∃ d, ds = [d] ∧ isData d = true ∧ Q (.bl (isWh d)) S
theorem len_is_whole : ∀ ds S Q E, sp_is_whole ds S Q E → ds.length = 1 := fun _ _ _ _ ⟨_, e, _⟩ => by rw [e]; rfl

def sp_shared_by : SpD := fun ds S Q _ => ∃ a b : Int, ds = [.int a, .int b] ∧ Q (.int (Int.gcd a b : Nat)) S
theorem len_shared_by : ∀ ds S Q E, sp_shared_by ds S Q E → ds.length = 2 := fun _ _ _ _ ⟨_, _, e, _⟩ => by rw [e]; rfl

def sp_sign_in : SpD := fun ds S Q _ => ∃ x : Int, ds = [.int x] ∧ Q (.int (sgI x)) S
theorem len_sign_in : ∀ ds S Q E, sp_sign_in ds S Q E → ds.length = 1 := fun _ _ _ _ ⟨_, e, _⟩ => by rw [e]; rfl

def sp_side_of : SpD := fun ds S Q _ => ∃ x : Int, ds = [.int x] ∧ 0 ≤ x ∧ x.natAbs < 2 ^ 8500 ∧ ∀ y : Int, 0 ≤ y → y * y ≤ x → x < (y + 1) * (y + 1) → Q (.int y) S
theorem len_side_of : ∀ ds S Q E, sp_side_of ds S Q E → ds.length = 1 := fun _ _ _ _ ⟨_, e, _⟩ => by rw [e]; rfl

def sp_is_square : SpD := fun ds S Q _ => ∃ x : Int, ds = [.int x] ∧ x.natAbs < 2 ^ 8000 ∧ Q (.bl (isSqB x)) S
theorem len_is_square : ∀ ds S Q E, sp_is_square ds S Q E → ds.length = 1 := fun _ _ _ _ ⟨_, e, _⟩ => by rw [e]; rfl

def sp_is_under_root : SpD := fun ds S Q _ => ∃ d, ds = [d] ∧ sm 8000 d = true ∧ Q (.bl (undB d)) S
theorem len_is_under_root : ∀ ds S Q E, sp_is_under_root ds S Q E → ds.length = 1 := fun _ _ _ _ ⟨_, e, _⟩ => by rw [e]; rfl

def sp_is_bottom : SpD := fun ds S Q _ => ∃ d, ds = [d] ∧ isData d = true ∧ Q (.bl (botB d)) S
theorem len_is_bottom : ∀ ds S Q E, sp_is_bottom ds S Q E → ds.length = 1 := fun _ _ _ _ ⟨_, e, _⟩ => by rw [e]; rfl

def sp_look_parts : SpD := fun ds S Q E => ∃ t o s b : D, ds = [.tup [t, o, s, b]] ∧ sm 8000 t = true ∧ sm 8000 o = true ∧ sm 8000 s = true ∧ sm 8000 b = true ∧ (badP t o s b = none → Q .non S) ∧ (∀ z, badP t o s b = some z → E ⟨"NoNumber", ["part"], [.str z]⟩ S)
theorem len_look_parts : ∀ ds S Q E, sp_look_parts ds S Q E → ds.length = 1 := fun _ _ _ _ ⟨_, _, _, _, e, _⟩ => by rw [e]; rfl

def sp_sign_of : SpD := fun ds S Q _ => ∃ T O q : Int, ds = [.int T, .int O, .int q] ∧ T.natAbs < 2 ^ 3400 ∧ O.natAbs < 2 ^ 3400 ∧ q.natAbs < 2 ^ 3400 ∧ Q (.int (sgI (rtF T O q))) S
theorem len_sign_of : ∀ ds S Q E, sp_sign_of ds S Q E → ds.length = 3 := fun _ _ _ _ ⟨_, _, _, e, _⟩ => by rw [e]; rfl

def sp_sign_of_two : SpD := fun ds S Q _ => ∃ u f q s p : Int, ds = [.int u, .int f, .int q, .int s, .int p] ∧ u.natAbs < 2 ^ 1300 ∧ f.natAbs < 2 ^ 1300 ∧ q.natAbs < 2 ^ 330 ∧ s.natAbs < 2 ^ 1300 ∧ p.natAbs < 2 ^ 330 ∧ Q (.int (s2I u f q s p)) S
theorem len_sign_of_two : ∀ ds S Q E, sp_sign_of_two ds S Q E → ds.length = 5 := fun _ _ _ _ ⟨_, _, _, _, _, e, _⟩ => by rw [e]; rfl

def sp_Root___init__ : SpD := fun ds S Q E => ∃ (a : Addr) (t o s b : D), ds = [.obj a, t, o, s, b] ∧ sm 8000 t = true ∧ sm 8000 o = true ∧ sm 8000 s = true ∧ sm 8000 b = true ∧ S a = some (.ins "Root" [] []) ∧
  (∀ T O q B : Int, t = .int T → o = .int O → s = .int q → b = .int B → badP t o s b = none → Q .non (upS S a (.ins "Root" ["held"] [lowD T O q B]))) ∧ (∀ z, badP t o s b = some z → E ⟨"NoNumber", ["part"], [.str z]⟩ S)
theorem len_Root___init__ : ∀ ds S Q E, sp_Root___init__ ds S Q E → ds.length = 5 := fun _ _ _ _ ⟨_, _, _, _, _, e, _⟩ => by rw [e]; rfl
theorem badP_ok {t o s b : D} (h : badP t o s b = none) : ∃ T O q B : Int, t = .int T ∧ o = .int O ∧ s = .int q ∧ b = .int B ∧ 2 ≤ q ∧ isSqB q = false ∧ 1 ≤ B := by
  unfold badP at h
  split at h
  · cases h
  · rename_i h1
    split at h
    · cases h
    · rename_i h2
      split at h
      · cases h
      · rename_i h3
        split at h
        · cases h
        · rename_i h4
          obtain ⟨T, rfl⟩ := isWh_int (by simpa using h1)
          obtain ⟨O, rfl⟩ := isWh_int (by simpa using h2)
          cases s with
          | int q =>
            cases b with
            | int B =>
              unfold undB at h3
              unfold botB at h4
              simp at h3 h4
              exact ⟨T, O, q, B, rfl, rfl, rfl, rfl, h3.1, h3.2, h4⟩
            | _ => exact absurd rfl h4
          | _ => exact absurd rfl h3
theorem gR_pos {T O B : Int} (h : 1 ≤ B) : 1 ≤ gR T O B ∧ gR T O B ≤ B := by
  unfold gR
  have h1 : (Int.gcd (Int.gcd T O : Nat) B : Nat) ≠ 0 := fun e => by
    have := (Int.gcd_eq_zero_iff.mp e).2
    omega
  have h2 : (Int.gcd (Int.gcd T O : Nat) B : Nat) ∣ B.natAbs := Int.gcd_dvd_natAbs_right ..
  have h3 := Nat.le_of_dvd (by omega) h2
  omega
theorem okP_bad {T O q B : Int} (h1 : 2 ≤ q) (h2 : isSqB q = false) (h3 : 1 ≤ B) : badP (.int T) (.int O) (.int q) (.int B) = none := by
  unfold badP
  rw [if_neg (by simp [isWh]), if_neg (by simp [isWh]), if_neg (by unfold undB; simp [h1, h2]), if_neg (by unfold botB; simp [h3])]

def sp_Root_parts : SpD := fun ds S Q _ => ∃ d : D, ds = [.inst "Root" ["held"] [d]] ∧ Q d S
theorem len_Root_parts : ∀ ds S Q E, sp_Root_parts ds S Q E → ds.length = 1 := fun _ _ _ _ ⟨_, e, _⟩ => by rw [e]; rfl

def sp_Root___eq__ : SpD := fun ds S Q _ => ∃ T O q B T2 O2 q2 B2 : Int, ds = [rtD T O q B, rtD T2 O2 q2 B2] ∧ RtI 4000 T O q B ∧ RtI 4000 T2 O2 q2 B2 ∧ Q (.bl (eqB T O q B T2 O2 q2 B2)) S
theorem len_Root___eq__ : ∀ ds S Q E, sp_Root___eq__ ds S Q E → ds.length = 2 := fun _ _ _ _ ⟨_, _, _, _, _, _, _, _, e, _⟩ => by rw [e]; rfl

def sp_Root_whole : SpD := fun ds S Q _ => ∃ T O q B : Int, ds = [.inst "Root" ["held"] [ptD T O q B]] ∧ RtI 2500 T O q B ∧ ∀ r : Int, 0 ≤ r → r * r ≤ O * O * q → O * O * q < (r + 1) * (r + 1) → Q (.int ((T + sdR O r).fdiv B)) S
theorem len_Root_whole : ∀ ds S Q E, sp_Root_whole ds S Q E → ds.length = 1 := fun _ _ _ _ ⟨_, _, _, _, e, _⟩ => by rw [e]; rfl

def sp_Root_mate : SpD := fun ds S Q _ => ∃ T O q B : Int, ds = [.inst "Root" ["held"] [.tup [.int T, .int O, .int q, .int B]]] ∧ T.natAbs < 2 ^ 3400 ∧ O.natAbs < 2 ^ 3400 ∧ q.natAbs < 2 ^ 3400 ∧ B.natAbs < 2 ^ 3400 ∧ 2 ≤ q ∧ isSqB q = false ∧ 1 ≤ B ∧ Q (.inst "Root" ["held"] [lowD T (0 - O) q B]) S
theorem len_Root_mate : ∀ ds S Q E, sp_Root_mate ds S Q E → ds.length = 1 := fun _ _ _ _ ⟨_, _, _, _, e, _⟩ => by rw [e]; rfl

/-- whether a number is below another one, by their parts -/
def lowB (T1 O1 q1 B1 T2 O2 q2 B2 : Int) : Bool := decide (0 < s2I (T2 * B1 - T1 * B2) (O2 * B1) q2 (0 - O1 * B2) q1)
def sp_Root_is_below : SpD := fun ds S Q _ => ∃ T1 O1 q1 B1 T2 O2 q2 B2 : Int, ds = [.inst "Root" ["held"] [ptD T1 O1 q1 B1], .inst "Root" ["held"] [ptD T2 O2 q2 B2]] ∧ RtI 600 T1 O1 q1 B1 ∧ RtI 600 T2 O2 q2 B2 ∧ q1.natAbs < 2 ^ 330 ∧ q2.natAbs < 2 ^ 330 ∧ Q (.bl (lowB T1 O1 q1 B1 T2 O2 q2 B2)) S
theorem len_Root_is_below : ∀ ds S Q E, sp_Root_is_below ds S Q E → ds.length = 2 := fun _ _ _ _ ⟨_, _, _, _, _, _, _, _, e, _⟩ => by rw [e]; rfl

def sp_Root_seen_by : SpD := fun ds S Q E => ∃ T O q B T2 O2 q2 B2 : Int, ds = [rtD T O q B, rtD T2 O2 q2 B2] ∧ RtI 4000 T O q B ∧ RtI 4000 T2 O2 q2 B2 ∧
  (∀ t o b s, Seen T O q B T2 O2 q2 B2 t o b s → Q (.tup [.int t, .int o, .int b, .int s]) S) ∧ (NoKinP O q O2 q2 → E ⟨"NoKin", [], []⟩ S)
theorem len_Root_seen_by : ∀ ds S Q E, sp_Root_seen_by ds S Q E → ds.length = 2 := fun _ _ _ _ ⟨_, _, _, _, _, _, _, _, e, _⟩ => by rw [e]; rfl

def sp_Root_plus : SpD := fun ds S Q E => ∃ T O q B T2 O2 q2 B2 : Int, ds = [rtD T O q B, rtD T2 O2 q2 B2] ∧ RtI 4000 T O q B ∧ RtI 4000 T2 O2 q2 B2 ∧
  (∀ t o b s, Seen T O q B T2 O2 q2 B2 t o b s → RtI 8000 (T * b + t * B) (O * b + o * B) s (B * b) ∧ Q (.inst "Root" ["held"] [lowD (T * b + t * B) (O * b + o * B) s (B * b)]) S) ∧ (NoKinP O q O2 q2 → E ⟨"NoKin", [], []⟩ S)
theorem len_Root_plus : ∀ ds S Q E, sp_Root_plus ds S Q E → ds.length = 2 := fun _ _ _ _ ⟨_, _, _, _, _, _, _, _, e, _⟩ => by rw [e]; rfl

def sp_Root_less : SpD := fun ds S Q E => ∃ T O q B T2 O2 q2 B2 : Int, ds = [rtD T O q B, rtD T2 O2 q2 B2] ∧ RtI 4000 T2 O2 q2 B2 ∧ sp_Root_plus [rtD T O q B, .inst "Root" ["held"] [lowD (0 - T2) (0 - O2) q2 B2]] S Q E
theorem len_Root_less : ∀ ds S Q E, sp_Root_less ds S Q E → ds.length = 2 := fun _ _ _ _ ⟨_, _, _, _, _, _, _, _, e, _⟩ => by rw [e]; rfl

def sp_Root_times : SpD := fun ds S Q E => ∃ T O q B T2 O2 q2 B2 : Int, ds = [rtD T O q B, rtD T2 O2 q2 B2] ∧ RtI 4000 T O q B ∧ RtI 4000 T2 O2 q2 B2 ∧
  (∀ t o b s, Seen T O q B T2 O2 q2 B2 t o b s → RtI 8000 (T * t + O * o * s) (T * o + O * t) s (B * b) ∧ Q (.inst "Root" ["held"] [lowD (T * t + O * o * s) (T * o + O * t) s (B * b)]) S) ∧ (NoKinP O q O2 q2 → E ⟨"NoKin", [], []⟩ S)
theorem len_Root_times : ∀ ds S Q E, sp_Root_times ds S Q E → ds.length = 2 := fun _ _ _ _ ⟨_, _, _, _, _, _, _, _, e, _⟩ => by rw [e]; rfl

def undI (T O q : Int) : Int := T * T - q * (O * O)
def sp_contrary_of : SpD := fun ds S Q _ => ∃ (T O q B : Int) (d : D), ds = [rtD T O q B, d] ∧ RtI 4000 T O q B ∧ undI T O q ≠ 0 ∧
  RtI 8000 ((((undI T O q).natAbs : Int).fdiv (undI T O q)) * B * T) (0 - (((undI T O q).natAbs : Int).fdiv (undI T O q)) * B * O) q ((undI T O q).natAbs : Int) ∧
  Q (.inst "Root" ["held"] [lowD ((((undI T O q).natAbs : Int).fdiv (undI T O q)) * B * T) (0 - (((undI T O q).natAbs : Int).fdiv (undI T O q)) * B * O) q ((undI T O q).natAbs : Int)]) S
theorem len_contrary_of : ∀ ds S Q E, sp_contrary_of ds S Q E → ds.length = 2 := fun _ _ _ _ ⟨_, _, _, _, _, e, _⟩ => by rw [e]; rfl

def sp_Root_over : SpD := fun ds S Q E => ∃ T O q B T2 O2 q2 B2 T3 O3 B3 : Int, ds = [rtD T O q B, rtD T2 O2 q2 B2] ∧ RtI 4000 T O q B ∧ RtI 4000 T2 O2 q2 B2 ∧ RtI 4000 T3 O3 q2 B3 ∧ undI T2 O2 q2 ≠ 0 ∧
  RtI 8000 ((((undI T2 O2 q2).natAbs : Int).fdiv (undI T2 O2 q2)) * B2 * T2) (0 - (((undI T2 O2 q2).natAbs : Int).fdiv (undI T2 O2 q2)) * B2 * O2) q2 ((undI T2 O2 q2).natAbs : Int) ∧
  lowD ((((undI T2 O2 q2).natAbs : Int).fdiv (undI T2 O2 q2)) * B2 * T2) (0 - (((undI T2 O2 q2).natAbs : Int).fdiv (undI T2 O2 q2)) * B2 * O2) q2 ((undI T2 O2 q2).natAbs : Int) = ptD T3 O3 q2 B3 ∧
  (∀ t o b s, Seen T O q B T3 O3 q2 B3 t o b s → RtI 8000 (T * t + O * o * s) (T * o + O * t) s (B * b) ∧ Q (.inst "Root" ["held"] [lowD (T * t + O * o * s) (T * o + O * t) s (B * b)]) S) ∧ (O3 = 0 ↔ O2 = 0) ∧ (NoKinP O q O2 q2 → E ⟨"NoKin", [], []⟩ S)
theorem len_Root_over : ∀ ds S Q E, sp_Root_over ds S Q E → ds.length = 2 := fun _ _ _ _ ⟨_, _, _, _, _, _, _, _, _, _, _, e, _⟩ => by rw [e]; rfl

def winD (lo hi : Int) : D → Bool
  | .int a => decide (lo ≤ a ∧ a ≤ hi)
  | _ => false
def sp_is_within : SpD := fun ds S Q _ => ∃ (d : D) (lo hi : Int), ds = [d, .int lo, .int hi] ∧ isData d = true ∧ Q (.bl (winD lo hi d)) S
theorem len_is_within : ∀ ds S Q E, sp_is_within ds S Q E → ds.length = 3 := fun _ _ _ _ ⟨_, _, _, e, _⟩ => by rw [e]; rfl

def rowD (lo hi : Int) : D → Bool
  | .tup xs => decide (lo ≤ (xs.length : Int) ∧ (xs.length : Int) ≤ hi) && xs.all (winD 1 999999)
  | _ => false
def sp_is_row : SpD := fun ds S Q _ => ∃ (d : D) (lo hi : Int) (n : Nat), ds = [d, .int lo, .int hi] ∧ sm n d = true ∧ hi ≤ 1000000 ∧ Q (.bl (rowD lo hi d)) S
theorem len_is_row : ∀ ds S Q E, sp_is_row ds S Q E → ds.length = 3 := fun _ _ _ _ ⟨_, _, _, _, e, _⟩ => by rw [e]; rfl

def sp_is_number_ring : SpD := fun ds S Q _ => ∃ (d : D) (n : Nat), ds = [d] ∧ sm n d = true ∧ Q (.bl (isRingD d)) S
theorem len_is_number_ring : ∀ ds S Q E, sp_is_number_ring ds S Q E → ds.length = 1 := fun _ _ _ _ ⟨_, _, e, _⟩ => by rw [e]; rfl
theorem win_in : ∀ d : D, winD 1 999999 d = inD d := fun d => by cases d <;> rfl
theorem row_ring (d : D) : rowD 1 40 d = isRingD d := by
  cases d with
  | tup xs =>
    show (decide ((1 : Int) ≤ (xs.length : Int) ∧ (xs.length : Int) ≤ 40) && xs.all (winD 1 999999)) = (decide (1 ≤ xs.length ∧ xs.length ≤ 40) && xs.all inD)
    rw [show winD 1 999999 = inD from funext win_in]
    congr 1
    rw [decide_eq_decide]
    omega
  | _ => rfl

def aheadD : D → Bool
  | .tup [] => true
  | .tup (x :: xs) => winD (-999999) 999999 x && rowD 0 19 (.tup xs)
  | _ => false
def sp_is_ahead : SpD := fun ds S Q _ => ∃ (d : D) (n : Nat), ds = [d] ∧ sm n d = true ∧ eqOk d = true ∧ Q (.bl (aheadD d)) S
theorem len_is_ahead : ∀ ds S Q E, sp_is_ahead ds S Q E → ds.length = 1 := fun _ _ _ _ ⟨_, _, e, _⟩ => by rw [e]; rfl

def sp_shortest_part : SpD := fun ds S Q _ => ∃ L : List Int, ds = [ringD L] ∧ 1 ≤ L.length ∧ L.length ≤ 1000 ∧ Q (ringD (shS L)) S
theorem len_shortest_part : ∀ ds S Q E, sp_shortest_part ds S Q E → ds.length = 1 := fun _ _ _ _ ⟨_, e, _⟩ => by rw [e]; rfl
theorem size_go {L : List Int} {s : Nat} {S : Sd} {Q : DK} (s1 : 1 ≤ s) (s2 : s ≤ L.length) (hd : L.length % s = 0) (l1 : L.length ≤ 1000) (q : Q (.bl (decide (told (L.take s) (L.length / s) = L))) S) :
    rdMulA (.tup (cutD (L.map D.int) none (some (s : Int)))) (.int (L.length / s : Nat)) S fun x S1 => rdEq x (ringD L) S1 Q := by
  have hq1 : 1 ≤ L.length / s := Nat.div_pos s2 (by omega)
  have hq2 : L.length / s ≤ L.length := Nat.div_le_self _ _
  rw [cutD_ring L s2]
  refine ⟨⟨fun e => ?_, by omega, by omega, by rw [List.length_map, List.length_take]; omega⟩, ?_⟩
  · have := congrArg List.length e
    rw [List.length_map, List.length_take, List.length_nil] at this
    omega
  rw [Int.toNat_natCast, told_D]
  refine ⟨⟨okD_eqOk (okD_ints _) (by decide), okD_eqOk (okD_ints _) (by decide)⟩, ?_⟩
  show Q (.bl (deqL ((told (L.take s) (L.length / s)).map D.int) (L.map D.int))) S
  rw [deqL_ringE]
  exact q
theorem nat_mod_div {n s : Nat} (s1 : 1 ≤ s) : (n : Int).fmod (s : Int) = ((n % s : Nat) : Int) ∧ (n : Int).fdiv (s : Int) = ((n / s : Nat) : Int) := by
  constructor
  · rw [Int.fmod_eq_emod_of_nonneg _ (by omega)]
    exact (Int.natCast_emod _ _).symm
  · rw [Int.fdiv_eq_ediv_of_nonneg _ (by omega)]
    exact (Int.natCast_ediv _ _).symm

def sp_table_of_row : SpD := fun ds S Q _ => ∃ (L : List Int) (c : Nat) (d : D), ds = [d] ∧ (d = ringD L ∨ d = .lst (L.map D.int)) ∧ (∀ a ∈ L, a.natAbs + 1 ≤ 2 ^ c) ∧ c ≤ 100 ∧ L.length ≤ 100 ∧ Q (.tup [.int (t4L L).p, .int (t4L L).q, .int (t4L L).r, .int (t4L L).s]) S
theorem len_table_of_row : ∀ ds S Q E, sp_table_of_row ds S Q E → ds.length = 1 := fun _ _ _ _ ⟨_, _, _, e, _⟩ => by rw [e]; rfl

theorem not_sq {L : List Int} (R : RowI L) : isSqB (upN (t4L L)) = false := isSqB_false fun y _ => (up_pos R).2 y
theorem upN_two {L : List Int} (R : RowI L) : 2 ≤ upN (t4L L) := by
  have h := up_pos R
  rcases Int.lt_or_le 1 (upN (t4L L)) with c | c
  · omega
  · have : upN (t4L L) = 1 := by omega
    exact absurd this.symm (h.2 1)
/-- a ring's number: (p - s and the root of upN) over 2 r -/
def rgT (L : List Int) : Int := (t4L L).p - (t4L L).s
theorem rg_rtI {L : List Int} (R : RowI L) : RtI 1700 (rgT L) 1 (upN (t4L L)) (2 * (t4L L).r) := by
  obtain ⟨b1, b2, b3, b4⟩ := t4_abs R.el R.l1
  have u := up_abs R
  have h2 := upN_two R
  have r1 := t4_r R
  have p1 : (2 : Nat) ^ 1700 = 2 ^ 899 * 2 ^ 801 := by rw [← Nat.pow_add]
  have p2 : 2 * 2 ^ 801 ≤ (2 : Nat) ^ 899 * 2 ^ 801 := Nat.mul_le_mul_right _ (Nat.le_trans (by decide : 2 ≤ 2 ^ 1) (Nat.pow_le_pow_right (by decide) (by decide)))
  unfold rgT
  refine ⟨by omega, by show (1 : Nat) < _; exact Nat.one_lt_two_pow (by decide), u.2.1, by omega, h2, not_sq R, by omega⟩
def sp_number_of_ring : SpD := fun ds S Q _ => ∃ L : List Int, ds = [ringD L] ∧ RowI L ∧ Q (rtD (rgT L) 1 (upN (t4L L)) (2 * (t4L L).r)) S
theorem len_number_of_ring : ∀ ds S Q E, sp_number_of_ring ds S Q E → ds.length = 1 := fun _ _ _ _ ⟨_, e, _⟩ => by rw [e]; rfl

def stD (A R : List Int) : D := .inst "Stair" ["held_ahead", "held_ring"] [ringD A, ringD R]
def stF (p : List Int × List Int) : D := stD p.1 p.2
def sp_Stair_keep_rows : SpD := fun ds S Q _ => ∃ (a : Addr) (A R : List Int), ds = [.obj a, ringD A, ringD R] ∧ A.length ≤ 1000 ∧ 1 ≤ R.length ∧ R.length ≤ 1000 ∧ (S a = some (.ins "Stair" [] []) ∨ ∃ x y, S a = some (.ins "Stair" ["held_ahead", "held_ring"] [x, y])) ∧ Q .non (upS S a (.ins "Stair" ["held_ahead", "held_ring"] [ringD (fewest A R).1, ringD (fewest A R).2]))
theorem len_Stair_keep_rows : ∀ ds S Q E, sp_Stair_keep_rows ds S Q E → ds.length = 3 := fun _ _ _ _ ⟨_, _, _, e, _⟩ => by rw [e]; rfl
theorem ne_nil {A : List Int} {S : Sd} {Q : DK} (q : Q (.bl (!decide (A = []))) S) : rdNe (ringD A) (.tup []) S Q := by
  refine ⟨⟨okD_eqOk (okD_ints _) (by decide), by decide⟩, ?_⟩
  have e : deq (ringD A) (.tup []) = decide (A = []) := by
    show deqL (A.map D.int) (([] : List Int).map D.int) = _
    rw [deqL_ringE]
  rw [e]
  exact q

def sp_Stair___init__ : SpD := fun ds S Q E => ∃ (a : Addr) (d1 d2 : D) (n : Nat), ds = [.obj a, d1, d2] ∧ sm n d1 = true ∧ sm n d2 = true ∧ eqOk d1 = true ∧ S a = some (.ins "Stair" [] []) ∧ ((aheadD d1 && isRingD d2) = false → E ⟨"NoStair", [], []⟩ S) ∧
  ((aheadD d1 && isRingD d2) = true → ∃ A R, d1 = ringD A ∧ d2 = ringD R ∧ A.length ≤ 20 ∧ RowI R ∧ Q .non (upS S a (.ins "Stair" ["held_ahead", "held_ring"] [ringD (fewest A R).1, ringD (fewest A R).2])))
theorem len_Stair___init__ : ∀ ds S Q E, sp_Stair___init__ ds S Q E → ds.length = 3 := fun _ _ _ _ ⟨_, _, _, _, e, _⟩ => by rw [e]; rfl

def sp_Stair_ahead : SpD := fun ds S Q _ => ∃ A R : List Int, ds = [stD A R] ∧ Q (ringD A) S
theorem len_Stair_ahead : ∀ ds S Q E, sp_Stair_ahead ds S Q E → ds.length = 1 := fun _ _ _ _ ⟨_, _, e, _⟩ => by rw [e]; rfl

def sp_Stair_ring : SpD := fun ds S Q _ => ∃ A R : List Int, ds = [stD A R] ∧ Q (ringD R) S
theorem len_Stair_ring : ∀ ds S Q E, sp_Stair_ring ds S Q E → ds.length = 1 := fun _ _ _ _ ⟨_, _, e, _⟩ => by rw [e]; rfl

def sp_Stair___eq__ : SpD := fun ds S Q _ => ∃ A R A2 R2 : List Int, ds = [stD A R, stD A2 R2] ∧ Q (.bl (decide (A = A2) && decide (R = R2))) S
theorem len_Stair___eq__ : ∀ ds S Q E, sp_Stair___eq__ ds S Q E → ds.length = 2 := fun _ _ _ _ ⟨_, _, _, _, e, _⟩ => by rw [e]; rfl

def atSt (A R : List Int) (p : Nat) : Int := if p < A.length then A.getD p 0 else R.getD ((p - A.length) % R.length) 0
def sp_Stair_at : SpD := fun ds S Q E => ∃ (A R : List Int) (p : Int), ds = [stD A R, .int p] ∧ 1 ≤ R.length ∧ R.length ≤ 1000 ∧ A.length ≤ 1000 ∧ (p < 0 → E ⟨"NoPlace", ["many", "place"], [.non, .int p]⟩ S) ∧ (0 ≤ p → Q (.int (atSt A R p.toNat)) S)
theorem len_Stair_at : ∀ ds S Q E, sp_Stair_at ds S Q E → ds.length = 2 := fun _ _ _ _ ⟨_, _, _, e, _⟩ => by rw [e]; rfl
theorem at_ints {A : List Int} {i : Nat} (h : i < A.length) : atI (A.map D.int) (i : Int) = some (.int (A.getD i 0)) := by
  refine atI_nat (j := i) ?_
  rw [List.getElem?_map, List.getD_eq_getElem?_getD, List.getElem?_eq_getElem h]
  rfl
theorem fld_a {A R : List Int} {S : Sd} {Q : DK} {to : TED} {σ : Si} (h : ∀ P : DK, P (stD A R) S → to σ S P) (q : Q (ringD A) S) : dFld "Stair" "held_ahead" to σ S Q := h _ ⟨_, _, _, rfl, rfl, q⟩
theorem fld_r {A R : List Int} {S : Sd} {Q : DK} {to : TED} {σ : Si} (h : ∀ P : DK, P (stD A R) S → to σ S P) (q : Q (ringD R) S) : dFld "Stair" "held_ring" to σ S Q := h _ ⟨_, _, _, rfl, rfl, q⟩

def sp_told_stair : SpD := fun ds S Q _ => ∃ A R : List Int, ds = [ringD A, ringD R] ∧ A.length ≤ 1000 ∧ 1 ≤ R.length ∧ R.length ≤ 1000 ∧ Q (stF (fewest A R)) S
theorem len_told_stair : ∀ ds S Q E, sp_told_stair ds S Q E → ds.length = 2 := fun _ _ _ _ ⟨_, _, e, _⟩ => by rw [e]; rfl

def sp_Stair_behind : SpD := fun ds S Q _ => ∃ (A R : List Int) (m : Nat), ds = [stD A R, .int m] ∧ A.length ≤ 100 ∧ R ≠ [] ∧ R.length ≤ 100 ∧ m ≤ 1000 ∧ Q (stF (fewest (A.drop m) (trn ((m - A.length) % R.length) R))) S
theorem len_Stair_behind : ∀ ds S Q E, sp_Stair_behind ds S Q E → ds.length = 2 := fun _ _ _ _ ⟨_, _, _, e, _⟩ => by rw [e]; rfl
theorem cutD_fromX (L : List Int) (m : Nat) : cutD (L.map D.int) (some (m : Int)) none = (L.drop m).map D.int := by
  by_cases h : m ≤ L.length
  · rw [cutD_from (by rw [List.length_map]; exact h), List.map_drop]
  · rw [List.drop_eq_nil_of_le (by omega)]
    unfold cutD
    rw [HT.sIx_nat, List.length_map, Nat.min_eq_right (by omega), List.drop_eq_nil_of_le (by rw [List.length_map]; exact Nat.le_refl _), List.take_nil]
    rfl
theorem trn_cut {L : List Int} {i : Nat} (h : i ≤ L.length) : D.tup (cutD (L.map D.int) (some (i : Int)) none ++ cutD (L.map D.int) none (some (i : Int))) = ringD (trn i L) := by
  rw [cutD_from (by rw [List.length_map]; exact h), cutD_to (by rw [List.length_map]; exact h), trn_take h]
  unfold ringD
  rw [List.map_append, List.map_drop, List.map_take]

/-- a row's numbers are small, and few: twenty ahead, forty in the ring -/
structure RowB (A R : List Int) : Prop where
  r1 : ∀ a ∈ R, 1 ≤ a ∧ a ≤ 999999
  r0 : R ≠ []
  rl : R.length ≤ 40
  a2 : ∀ a ∈ A, a.natAbs + 1 ≤ 2 ^ 20
  al : A.length ≤ 20
theorem RowB.p1 {A R : List Int} (h : RowB A R) : ∀ a ∈ R, 1 ≤ a := fun a ha => (h.r1 a ha).1
theorem RowB.rowI {A R : List Int} (h : RowB A R) : RowI R := ⟨h.r1, by have := ne_len h.r0; omega, h.rl⟩
theorem T4B.of {L : List Int} {c m : Nat} (h : ∀ a ∈ L, a.natAbs + 1 ≤ 2 ^ c) (hm : c * L.length ≤ m) : T4B (t4L L) m := by
  obtain ⟨h1, h2, h3, h4⟩ := t4_wide h
  exact ⟨le_up h1 hm, le_up h2 hm, le_up h3 hm, le_up h4 hm⟩
theorem RowB.tr {A R : List Int} (h : RowB A R) : T4B (t4L R) 800 := T4B.of (c := 20) (fun a ha => by have := h.r1 a ha; have e : (2 : Nat) ^ 20 = 1048576 := (by decide); omega) (by have := h.rl; omega)
theorem RowB.ta {A R : List Int} (h : RowB A R) : T4B (t4L A) 400 := T4B.of h.a2 (by have := h.al; omega)
theorem RowB.tail {a : Int} {A R : List Int} (h : RowB (a :: A) R) : RowB A R := ⟨h.r1, h.r0, h.rl, fun x hx => h.a2 x (List.mem_cons_of_mem _ hx), by have := h.al; rw [List.length_cons] at this; omega⟩
/-- a stair's number, brought down -/
structure NumL (A R : List Int) (T O B : Int) : Prop where
  n : NumS A R T O B
  g : Int.gcd (Int.gcd T O : Nat) B = 1
  b : 1 ≤ B
theorem numL_rt {A R : List Int} {T O B : Int} (H : RowB A R) (N : NumL A R T O B) : RtI 2410 T O (upN (t4L R)) B ∧ O ≠ 0 ∧ O.natAbs ≤ 2 ^ 1603 ∧ O.natAbs ≤ 2 ^ 801 := by
  obtain ⟨s1, s2, s3, s4, s5, s6, s7⟩ := ln_sz H.tr H.ta
  obtain ⟨b1, b2, b3, o0⟩ := num_sz H.p1 H.r0 N.n N.b N.g
  have up := tw_pos H.p1 H.r0
  have lt : ∀ {x y : Int} {k : Nat}, x.natAbs ≤ y.natAbs → y.natAbs ≤ 2 ^ k → k < 2410 → x.natAbs < 2 ^ 2410 := fun h1 h2 k => Nat.lt_of_le_of_lt (Nat.le_trans h1 h2) (Nat.pow_lt_pow_right (by decide) k)
  have o8 : (lnO A R).natAbs ≤ 2 ^ 801 := by
    rw [ln_o, Int.natAbs_mul]
    have hr := H.tr.r
    have e : (2 : Nat) ^ 801 = 2 * 2 ^ 800 := by rw [show 801 = 1 + 800 from rfl, Nat.pow_add]
    have d1 : ((t4L A).p * (t4L A).s - (t4L A).q * (t4L A).r).natAbs = 1 := by rcases tw_det A with d | d <;> rw [d] <;> rfl
    rw [d1]
    omega
  exact ⟨⟨lt b1 s7 (by decide), lt b2 s6 (by decide), lt (Nat.le_refl _) s2 (by decide), lt b3 s5 (by decide), by omega, isSqB_false fun y _ => up.2 y, N.b⟩, o0, Nat.le_trans b2 (Nat.le_trans o8 (Nat.pow_le_pow_right (by decide) (by decide))), Nat.le_trans b2 o8⟩
theorem und_ne {A R : List Int} {T O B : Int} (H : RowB A R) (N : NumL A R T O B) : undI T O (upN (t4L R)) ≠ 0 := fun e => by
  obtain ⟨rt, o0, _⟩ := numL_rt H N
  unfold undI at e
  exact no_rt (x := T) (O := O) rt.sq o0 (by rw [Int.mul_comm (upN (t4L R))] at e; omega)
def sp_Stair_number : SpD := fun ds S Q _ => ∃ (A R : List Int), ds = [stD A R] ∧ RowB A R ∧ ∀ T O B, NumL A R T O B → Q (rtD T O (upN (t4L R)) B) S
theorem len_Stair_number : ∀ ds S Q E, sp_Stair_number ds S Q E → ds.length = 1 := fun _ _ _ _ ⟨_, _, e, _⟩ => by rw [e]; rfl
theorem set_go {i : Nat} {t : TED} {E : EndsD} {σ : Si} {S : Sd} (h : t σ S fun x S1 => E.nx (σ.set i (some x)) S1) : dSet i t E σ S := h

/-- the first numbers of a stair -/
def rwA (A R : List Int) (n : Nat) : List Int := (List.range n).map (atSt A R)
def sp_Stair_fraction : SpD := fun ds S Q _ => ∃ (A R : List Int) (n : Nat), ds = [stD A R, .int n] ∧ 1 ≤ R.length ∧ R.length ≤ 1000 ∧ A.length ≤ 1000 ∧ (∀ a ∈ A, a.natAbs + 1 ≤ 2 ^ 20) ∧ (∀ a ∈ R, a.natAbs + 1 ≤ 2 ^ 20) ∧ n ≤ 100 ∧ Q (.tup [.int (t4L (rwA A R n)).p, .int (t4L (rwA A R n)).r]) S
theorem len_Stair_fraction : ∀ ds S Q E, sp_Stair_fraction ds S Q E → ds.length = 2 := fun _ _ _ _ ⟨_, _, _, e, _⟩ => by rw [e]; rfl

def redB (s t b : Int) : Bool := decide (0 < b) && decide (b ≤ t + s) && decide (t ≤ s) && decide (s < t + b)
theorem redB_iff {s t b : Int} : redB s t b = true ↔ RedS s t b := by
  unfold redB RedS
  simp only [Bool.and_eq_true, decide_eq_true_iff, and_assoc]
def sp_is_reduced : SpD := fun ds S Q _ => ∃ t b s : Int, ds = [.int t, .int b, .int s] ∧ Q (.bl (redB s t b)) S
theorem len_is_reduced : ∀ ds S Q E, sp_is_reduced ds S Q E → ds.length = 3 := fun _ _ _ _ ⟨_, _, _, e, _⟩ => by rw [e]; rfl

def sp_step_on : SpD := fun ds S Q _ => ∃ t b U s : Int, ds = [.int t, .int b, .int U] ∧ SqR s U ∧ b ≠ 0 ∧ U.natAbs < 2 ^ 8500 ∧ t.natAbs < 2 ^ 8600 ∧ b.natAbs < 2 ^ 8600 ∧ Q (.tup [.int (flW s t b), .int (nxW s U (t, b)).1, .int (nxW s U (t, b)).2]) S
theorem len_step_on : ∀ ds S Q E, sp_step_on ds S Q E → ds.length = 3 := fun _ _ _ _ ⟨_, _, _, _, e, _⟩ => by rw [e]; rfl

def sp_ring_from : SpD := fun ds S Q E => ∃ t b U s : Int, ds = [.int t, .int b, .int U] ∧ SqR s U ∧ DvS U (t, b) ∧ U.natAbs < 2 ^ 8500 ∧ t.natAbs < 2 ^ 8590 ∧ b.natAbs < 2 ^ 8590 ∧
  (∀ j, 1 ≤ j → j ≤ 40 → (∀ k, 0 < k → k < j → stW s U (t, b) k ≠ (t, b)) → stW s U (t, b) j = (t, b) → ∀ S', Ext S S' → Q (ringD (dgsW s U (t, b) 0 j)) S') ∧
  ((∀ k, 0 < k → k ≤ 40 → stW s U (t, b) k ≠ (t, b)) → ∀ S', Ext S S' → E ⟨"TooMany", ["most"], [.int 40]⟩ S')
theorem len_ring_from : ∀ ds S Q E, sp_ring_from ds S Q E → ds.length = 3 := fun _ _ _ _ ⟨_, _, _, _, e, _⟩ => by rw [e]; rfl
theorem st_small {s U t b : Int} (S : SqR s U) (h : DvS U (t, b)) (hU : U.natAbs < 2 ^ 8500) (ht : t.natAbs < 2 ^ 8590) (hb : b.natAbs < 2 ^ 8590) {i : Nat} (hi : i ≤ 100) : (stW s U (t, b) i).1.natAbs < 2 ^ 8592 ∧ (stW s U (t, b) i).2.natAbs < 2 ^ 8592 := by
  have n := st_near S h i
  dsimp only at n
  have p1 : (2 : Nat) ^ 8592 = 4 * 2 ^ 8590 := by rw [show 8592 = 2 + 8590 from rfl, Nat.pow_add]
  have p2 : 512 * 2 ^ 8500 ≤ (2 : Nat) ^ 8590 := by rw [show (512 : Nat) = 2 ^ 9 from rfl, ← Nat.pow_add]; exact Nat.pow_le_pow_right (by decide) (by decide)
  have p3 : i * (4 * U.natAbs) ≤ 100 * (4 * 2 ^ 8500) := Nat.mul_le_mul hi (by omega)
  omega

def rtD' (T O q B : Int) : D := .inst "Root" ["held"] [ptD T O q B]
def sp_stair_of : SpD := fun ds S Q E => ∃ T O q B : Int, ds = [rtD' T O q B] ∧ 1 ≤ B ∧ 2 ≤ q ∧ isSqB q = false ∧ ((O * B) * (O * B) * q).natAbs < 2 ^ 8500 ∧ (T * B).natAbs < 2 ^ 8580 ∧ (B * B).natAbs < 2 ^ 8580 ∧
  (O = 0 → E ⟨"NoStair", [], []⟩ S) ∧
  (O ≠ 0 → ∀ s, SqR s ((O * B) * (O * B) * q) →
    (∀ i j, i ≤ 20 → (∀ k, k < i → ¬ RedS s (stW s ((O * B) * (O * B) * q) (stX T O B) k).1 (stW s ((O * B) * (O * B) * q) (stX T O B) k).2) → RedS s (stW s ((O * B) * (O * B) * q) (stX T O B) i).1 (stW s ((O * B) * (O * B) * q) (stX T O B) i).2 →
      1 ≤ j → j ≤ 40 → (∀ k, 0 < k → k < j → stW s ((O * B) * (O * B) * q) (stX T O B) (i + k) ≠ stW s ((O * B) * (O * B) * q) (stX T O B) i) → stW s ((O * B) * (O * B) * q) (stX T O B) (i + j) = stW s ((O * B) * (O * B) * q) (stX T O B) i →
      ∀ S', Ext S S' → Q (stF (fewest (dgsW s ((O * B) * (O * B) * q) (stX T O B) 0 i) (dgsW s ((O * B) * (O * B) * q) (stX T O B) i j))) S') ∧
    (∀ i, i ≤ 20 → (∀ k, k < i → ¬ RedS s (stW s ((O * B) * (O * B) * q) (stX T O B) k).1 (stW s ((O * B) * (O * B) * q) (stX T O B) k).2) → RedS s (stW s ((O * B) * (O * B) * q) (stX T O B) i).1 (stW s ((O * B) * (O * B) * q) (stX T O B) i).2 →
      (∀ k, 0 < k → k ≤ 40 → stW s ((O * B) * (O * B) * q) (stX T O B) (i + k) ≠ stW s ((O * B) * (O * B) * q) (stX T O B) i) → ∀ S', Ext S S' → E ⟨"TooMany", ["most"], [.int 40]⟩ S') ∧
    ((∀ k, k ≤ 20 → ¬ RedS s (stW s ((O * B) * (O * B) * q) (stX T O B) k).1 (stW s ((O * B) * (O * B) * q) (stX T O B) k).2) → ∀ S', Ext S S' → E ⟨"TooMany", ["most"], [.int 20]⟩ S'))
theorem len_stair_of : ∀ ds S Q E, sp_stair_of ds S Q E → ds.length = 1 := fun _ _ _ _ ⟨_, _, _, _, e, _⟩ => by rw [e]; rfl

def sp_law_urn : SpD := fun ds S Q _ => ∃ (ns : List Int) (at_ : Int), ds = [.lst (ns.map D.int), .int at_] ∧ 0 ≤ at_ ∧ at_ < 100 ∧ ∀ u S', S u = none → Urn S' u 0 → Oth S S' u → Q (.obj u) S'
theorem len_law_urn : ∀ ds S Q E, sp_law_urn ds S Q E → ds.length = 2 := fun _ _ _ _ ⟨_, _, e, _⟩ => by rw [e]; rfl

def sp_law_draw : SpD := fun ds S Q _ => ∃ u w B, ds = [.obj u, .int w] ∧ Urn S u B ∧ B ≤ 2 ^ 100 ∧ 0 < w ∧ w < 2 ^ 1000 ∧ ∀ n S', 0 ≤ n → n < w → Urn S' u (B + 1) → Oth S S' u → Q (.int n) S'
theorem len_law_draw : ∀ ds S Q E, sp_law_draw ds S Q E → ds.length = 2 := fun _ _ _ _ ⟨_, _, _, e, _⟩ => by rw [e]; rfl

def sp_law_small_stair : SpD := fun ds S Q _ => ∃ (u : Addr) (B : Int), ds = [.obj u] ∧ Urn S u B ∧ B ≤ 2 ^ 97 ∧ ∀ (A R : List Int) S', StK A R → Urn S' u (B + 30) → Ext (Dv.del S u) S' → Q (stD A R) S'
theorem len_law_small_stair : ∀ ds S Q E, sp_law_small_stair ds S Q E → ds.length = 1 := fun _ _ _ _ ⟨_, _, e, _⟩ => by rw [e]; rfl

def sp_law_fractions_right : SpD := fun ds S Q _ => ∃ (A R : List Int) (T O B : Int), ds = [stD A R, rtD T O (upN (t4L R)) B] ∧ StK A R ∧ NumL A R T O B ∧ Q (.bl true) S
theorem len_law_fractions_right : ∀ ds S Q E, sp_law_fractions_right ds S Q E → ds.length = 2 := fun _ _ _ _ ⟨_, _, _, _, _, e, _⟩ => by rw [e]; rfl
/-- a number of the field of d, of less than so many figures to base two -/
def IsV (d : Int) (N : Nat) (x : D) (m n k : Int) : Prop := ∃ T O q B : Int, x = rtD T O q B ∧ T.natAbs < 2 ^ N ∧ O.natAbs < 2 ^ N ∧ B.natAbs < 2 ^ N ∧ q.natAbs < 2 ^ 330 ∧ 2 ≤ q ∧ isSqB q = false ∧ Rl d T O q B m n k

def sp_law_ring_alone_right : SpD := fun ds S Q _ => ∃ (A R : List Int) (T O B : Int), ds = [stD A R, rtD T O (upN (t4L R)) B] ∧ StK A R ∧ NumL A R T O B ∧ ∀ S', Ext S S' → Q (.bl true) S'
theorem len_law_ring_alone_right : ∀ ds S Q E, sp_law_ring_alone_right ds S Q E → ds.length = 2 := fun _ _ _ _ ⟨_, _, _, _, _, e, _⟩ => by rw [e]; rfl

def sp_law_is_one : SpD := fun ds S Q _ => ∃ A R : List Int, ds = [stD A R] ∧ StK A R ∧ ∀ S', Ext S S' → Q (.bl true) S'
theorem len_law_is_one : ∀ ds S Q E, sp_law_is_one ds S Q E → ds.length = 1 := fun _ _ _ _ ⟨_, _, e, _⟩ => by rw [e]; rfl

/-! readings, printed by gen.py -/
abbrev N_is_whole : List Str := ["thing"]
def t_is_whole (Ed : XKD) : TSD :=
  (dRet (dAndV (dCB rdIsi (dCons (dVar 0) (dCons (dC (.ty "int")) dNil))) (dNotV (dCB rdIsi (dCons (dVar 0) (dCons (dC (.ty "bool")) dNil))))))
theorem st_is_whole (a0 : D) : startD N_is_whole [a0] = [some a0] := rfl
abbrev N_shared_by : List Str := ["one", "other"]
def t_shared_by (Ed : XKD) : TSD :=
  (dSeq (dPar 0 1 (dCons (dCB rdAbs (dCons (dVar 0) dNil)) (dCons (dCB rdAbs (dCons (dVar 1) dNil)) dNil)))
  (dSeq (dWhile (dTest (dOp rdGt (dVar 1) (dC (.int 0))))
  (dPar 0 1 (dCons (dVar 1) (dCons (dOp rdMod (dVar 0) (dVar 1)) dNil))))
  (dRet (dVar 0))))
theorem st_shared_by (a0 a1 : D) : startD N_shared_by [a0, a1] = [some a0, some a1] := rfl
abbrev N_sign_in : List Str := ["number"]
def t_sign_in (Ed : XKD) : TSD :=
  (dRet (dOp rdSub (dCB rdInt (dCons (dOp rdGt (dVar 0) (dC (.int 0))) dNil)) (dCB rdInt (dCons (dOp rdLt (dVar 0) (dC (.int 0))) dNil))))
theorem st_sign_in (a0 : D) : startD N_sign_in [a0] = [some a0] := rfl
abbrev N_side_of : List Str := ["square", "side", "closer"]
def t_side_of (Ed : XKD) : TSD :=
  (dSeq (dIfS (dTest (dOp rdLt (dVar 0) (dC (.int 2)))) (dRet (dVar 0)) dNext)
  (dSeq (dSet 1 (dOp rdShl (dC (.int 1)) (dOp rdFdiv (dOp rdAdd (dBits (dVar 0)) (dC (.int 1))) (dC (.int 2)))))
  (dSeq (dSet 2 (dOp rdFdiv (dOp rdAdd (dVar 1) (dOp rdFdiv (dVar 0) (dVar 1))) (dC (.int 2))))
  (dSeq (dWhile (dTest (dOp rdLt (dVar 2) (dVar 1)))
  (dSeq (dSet 1 (dVar 2))
  (dSet 2 (dOp rdFdiv (dOp rdAdd (dVar 1) (dOp rdFdiv (dVar 0) (dVar 1))) (dC (.int 2))))))
  (dRet (dVar 1))))))
theorem st_side_of (a0 : D) : startD N_side_of [a0] = [some a0, none, none] := rfl
abbrev N_is_square : List Str := ["number"]
def t_is_square (Ed : XKD) : TSD :=
  (dRet (dAndV (dOp rdGe (dVar 0) (dC (.int 0))) (dOp rdEq (dOp rdPow (dCall sp_side_of [] (wd Ed) (dCons (dVar 0) dNil)) (dC (.int 2))) (dVar 0))))
theorem st_is_square (a0 : D) : startD N_is_square [a0] = [some a0] := rfl
abbrev N_is_under_root : List Str := ["thing"]
def t_is_under_root (Ed : XKD) : TSD :=
  (dRet (dAndV (dCall sp_is_whole [] (wd Ed) (dCons (dVar 0) dNil)) (dAndV (dOp rdGe (dVar 0) (dC k_LEAST_SQUARE)) (dNotV (dCall sp_is_square [] (wd Ed) (dCons (dVar 0) dNil))))))
theorem st_is_under_root (a0 : D) : startD N_is_under_root [a0] = [some a0] := rfl
abbrev N_is_bottom : List Str := ["thing"]
def t_is_bottom (Ed : XKD) : TSD :=
  (dRet (dAndV (dCall sp_is_whole [] (wd Ed) (dCons (dVar 0) dNil)) (dOp rdGe (dVar 0) (dC (.int 1)))))
theorem st_is_bottom (a0 : D) : startD N_is_bottom [a0] = [some a0] := rfl
abbrev N_look_parts : List Str := ["parts", "name", "part", "look"]
def t_look_parts (Ed : XKD) : TSD :=
  (dFor (dZipS (dCons (dC k_PARTS) (dCons (dVar 0) dNil))) (dTupG 2 (dGCons (dName 1) (dGCons (dName 2) dGNil)))
  (dSeq (dSet 3 (dKix k_LOOKS (dVar 1)))
  (dIfS (dNot (dTest (dCallV 3 [("is_whole", sp_is_whole), ("is_under_root", sp_is_under_root), ("is_bottom", sp_is_bottom)] (wd Ed) (dCons (dVar 2) dNil)))) (dRaiseF1 (wd Ed) "NoNumber" "part" (dCons (dVar 1) dNil)) dNext)))
theorem st_look_parts (a0 : D) : startD N_look_parts [a0] = [some a0, none, none, none] := rfl
abbrev N_sign_of : List Str := ["top", "often", "square"]
def t_sign_of (Ed : XKD) : TSD :=
  (dRet (dCall sp_sign_in [] (wd Ed) (dCons (dOp rdAdd (dOp rdMulA (dVar 0) (dCB rdAbs (dCons (dVar 0) dNil))) (dOp rdMulA (dOp rdMulA (dVar 2) (dVar 1)) (dCB rdAbs (dCons (dVar 1) dNil)))) dNil)))
theorem st_sign_of (a0 a1 a2 : D) : startD N_sign_of [a0, a1, a2] = [some a0, some a1, some a2] := rfl
abbrev N_sign_of_two : List Str := ["top", "often", "square", "other_often", "other_square", "ahead", "behind", "left"]
def t_sign_of_two (Ed : XKD) : TSD :=
  (dSeq (dPar 5 6 (dCons (dCall sp_sign_of [] (wd Ed) (dCons (dVar 0) (dCons (dVar 1) (dCons (dVar 2) dNil)))) (dCons (dCall sp_sign_in [] (wd Ed) (dCons (dVar 3) dNil)) dNil)))
  (dSeq (dIfS (dTest (dOp rdGe (dOp rdMulA (dVar 5) (dVar 6)) (dC (.int 0)))) (dRet (dCall sp_sign_in [] (wd Ed) (dCons (dOp rdAdd (dVar 5) (dVar 6)) dNil))) dNext)
  (dSeq (dSet 7 (dOp rdSub (dOp rdAdd (dOp rdPow (dVar 0) (dC (.int 2))) (dOp rdMulA (dOp rdPow (dVar 1) (dC (.int 2))) (dVar 2))) (dOp rdMulA (dOp rdPow (dVar 3) (dC (.int 2))) (dVar 4))))
  (dRet (dOp rdMulA (dVar 5) (dCall sp_sign_of [] (wd Ed) (dCons (dVar 7) (dCons (dOp rdMulA (dOp rdMulA (dC (.int 2)) (dVar 0)) (dVar 1)) (dCons (dVar 2) dNil)))))))))
theorem st_sign_of_two (a0 a1 a2 a3 a4 : D) : startD N_sign_of_two [a0, a1, a2, a3, a4] = [some a0, some a1, some a2, some a3, some a4, none, none, none] := rfl
abbrev N_Root___init__ : List Str := ["self", "top", "often", "square", "bottom", "both"]
def t_Root___init__ (Ed : XKD) : TSD :=
  (dSeq (dDrop (dCall sp_look_parts [] (wd Ed) (dCons (dTup (dCons (dVar 1) (dCons (dVar 2) (dCons (dVar 3) (dCons (dVar 4) dNil))))) dNil)))
  (dSeq (dSet 5 (dCall sp_shared_by [] (wd Ed) (dCons (dCall sp_shared_by [] (wd Ed) (dCons (dVar 1) (dCons (dVar 2) dNil))) (dCons (dVar 4) dNil))))
  (dPut "Root" "held" (dVar 0) (dTup (dCons (dOp rdFdiv (dVar 1) (dVar 5)) (dCons (dOp rdFdiv (dVar 2) (dVar 5)) (dCons (dVar 3) (dCons (dOp rdFdiv (dVar 4) (dVar 5)) dNil))))))))
theorem st_Root___init__ (a0 a1 a2 a3 a4 : D) : startD N_Root___init__ [a0, a1, a2, a3, a4] = [some a0, some a1, some a2, some a3, some a4, none] := rfl
abbrev N_Root_parts : List Str := ["self"]
def t_Root_parts (Ed : XKD) : TSD :=
  (dRet (dFld "Root" "held" (dVar 0)))
theorem st_Root_parts (a0 : D) : startD N_Root_parts [a0] = [some a0] := rfl
abbrev N_Root___eq__ : List Str := ["self", "other", "top", "often", "square", "bottom", "top_there", "often_there", "square_there", "bottom_there"]
def t_Root___eq__ (Ed : XKD) : TSD :=
  (dSeq (dIfS (dNot (dTest (dCB (rdIsiC "Root") (dCons (dVar 1) (dCons (dC (.fn "Root")) dNil))))) (dRet (dC (.bl false))) dNext)
  (dSeq (dAsg (dFld "Root" "held" (dVar 0)) (dTupG 4 (dGCons (dName 2) (dGCons (dName 3) (dGCons (dName 4) (dGCons (dName 5) dGNil))))))
  (dSeq (dAsg (dMeth "Root" "parts" sp_Root_parts [] (wd Ed) (dVar 1) dNil) (dTupG 4 (dGCons (dName 6) (dGCons (dName 7) (dGCons (dName 8) (dGCons (dName 9) dGNil))))))
  (dSeq (dIfS (dOr (dTest (dOp rdNe (dOp rdMulA (dVar 2) (dVar 9)) (dOp rdMulA (dVar 6) (dVar 5)))) (dTest (dOp rdNe (dCall sp_sign_in [] (wd Ed) (dCons (dVar 3) dNil)) (dCall sp_sign_in [] (wd Ed) (dCons (dVar 7) dNil))))) (dRet (dC (.bl false))) dNext)
  (dRet (dOp rdEq (dOp rdMulA (dOp rdPow (dOp rdMulA (dVar 3) (dVar 9)) (dC (.int 2))) (dVar 4)) (dOp rdMulA (dOp rdPow (dOp rdMulA (dVar 7) (dVar 5)) (dC (.int 2))) (dVar 8))))))))
theorem st_Root___eq__ (a0 a1 : D) : startD N_Root___eq__ [a0, a1] = [some a0, some a1, none, none, none, none, none, none, none, none] := rfl
abbrev N_Root_whole : List Str := ["self", "top", "often", "square", "bottom", "side"]
def t_Root_whole (Ed : XKD) : TSD :=
  (dSeq (dAsg (dFld "Root" "held" (dVar 0)) (dTupG 4 (dGCons (dName 1) (dGCons (dName 2) (dGCons (dName 3) (dGCons (dName 4) dGNil))))))
  (dSeq (dSet 5 (dCall sp_side_of [] (wd Ed) (dCons (dOp rdMulA (dOp rdPow (dVar 2) (dC (.int 2))) (dVar 3)) dNil)))
  (dSeq (dIfS (dTest (dOp rdLt (dVar 2) (dC (.int 0)))) (dSet 5 (dOp rdSub (dUn rdNeg (dC (.int 1))) (dVar 5))) dNext)
  (dRet (dOp rdFdiv (dOp rdAdd (dVar 1) (dVar 5)) (dVar 4))))))
theorem st_Root_whole (a0 : D) : startD N_Root_whole [a0] = [some a0, none, none, none, none, none] := rfl
abbrev N_Root_mate : List Str := ["self", "top", "often", "square", "bottom"]
def t_Root_mate (Ed : XKD) : TSD :=
  (dSeq (dAsg (dFld "Root" "held" (dVar 0)) (dTupG 4 (dGCons (dName 1) (dGCons (dName 2) (dGCons (dName 3) (dGCons (dName 4) dGNil))))))
  (dRet (dMake "Root" sp_Root___init__ [] (wd Ed) (dCons (dVar 1) (dCons (dOp rdSub (dC (.int 0)) (dVar 2)) (dCons (dVar 3) (dCons (dVar 4) dNil)))))))
theorem st_Root_mate (a0 : D) : startD N_Root_mate [a0] = [some a0, none, none, none, none] := rfl
abbrev N_Root_is_below : List Str := ["self", "other", "top", "often", "square", "bottom", "top_there", "often_there", "square_there", "bottom_there", "between"]
def t_Root_is_below (Ed : XKD) : TSD :=
  (dSeq (dAsg (dFld "Root" "held" (dVar 0)) (dTupG 4 (dGCons (dName 2) (dGCons (dName 3) (dGCons (dName 4) (dGCons (dName 5) dGNil))))))
  (dSeq (dAsg (dMeth "Root" "parts" sp_Root_parts [] (wd Ed) (dVar 1) dNil) (dTupG 4 (dGCons (dName 6) (dGCons (dName 7) (dGCons (dName 8) (dGCons (dName 9) dGNil))))))
  (dSeq (dSet 10 (dOp rdSub (dOp rdMulA (dVar 6) (dVar 5)) (dOp rdMulA (dVar 2) (dVar 9))))
  (dRet (dOp rdGt (dCall sp_sign_of_two [] (wd Ed) (dCons (dVar 10) (dCons (dOp rdMulA (dVar 7) (dVar 5)) (dCons (dVar 8) (dCons (dOp rdSub (dC (.int 0)) (dOp rdMulA (dVar 3) (dVar 9))) (dCons (dVar 4) dNil)))))) (dC (.int 0)))))))
theorem st_Root_is_below (a0 a1 : D) : startD N_Root_is_below [a0, a1] = [some a0, some a1, none, none, none, none, none, none, none, none, none] := rfl
abbrev N_Root_seen_by : List Str := ["self", "other", "square", "top", "often", "square_there", "bottom", "side"]
def t_Root_seen_by (Ed : XKD) : TSD :=
  (dSeq (dSet 2 (dOp rdIx (dFld "Root" "held" (dVar 0)) (dC (.int 2))))
  (dSeq (dAsg (dMeth "Root" "parts" sp_Root_parts [] (wd Ed) (dVar 1) dNil) (dTupG 4 (dGCons (dName 3) (dGCons (dName 4) (dGCons (dName 5) (dGCons (dName 6) dGNil))))))
  (dSeq (dIfS (dTest (dOp rdEq (dVar 4) (dC (.int 0)))) (dRet (dTup (dCons (dVar 3) (dCons (dC (.int 0)) (dCons (dVar 6) (dCons (dVar 2) dNil)))))) dNext)
  (dSeq (dIfS (dTest (dOp rdEq (dOp rdIx (dFld "Root" "held" (dVar 0)) (dC (.int 1))) (dC (.int 0)))) (dRet (dTup (dCons (dVar 3) (dCons (dVar 4) (dCons (dVar 6) (dCons (dVar 5) dNil)))))) dNext)
  (dSeq (dSet 7 (dCall sp_side_of [] (wd Ed) (dCons (dOp rdMulA (dVar 2) (dVar 5)) dNil)))
  (dSeq (dIfS (dTest (dOp rdNe (dOp rdPow (dVar 7) (dC (.int 2))) (dOp rdMulA (dVar 2) (dVar 5)))) (dRaise (wd Ed) ⟨"NoKin", [], []⟩) dNext)
  (dRet (dTup (dCons (dOp rdMulA (dVar 3) (dVar 2)) (dCons (dOp rdMulA (dVar 4) (dVar 7)) (dCons (dOp rdMulA (dVar 6) (dVar 2)) (dCons (dVar 2) dNil))))))))))))
theorem st_Root_seen_by (a0 a1 : D) : startD N_Root_seen_by [a0, a1] = [some a0, some a1, none, none, none, none, none, none] := rfl
abbrev N_Root_plus : List Str := ["self", "other", "top", "often", "bottom", "square", "here", "often_here", "square_here", "below"]
def t_Root_plus (Ed : XKD) : TSD :=
  (dSeq (dAsg (dMeth "Root" "seen_by" sp_Root_seen_by [] (wd Ed) (dVar 0) (dCons (dVar 1) dNil)) (dTupG 4 (dGCons (dName 2) (dGCons (dName 3) (dGCons (dName 4) (dGCons (dName 5) dGNil))))))
  (dSeq (dAsg (dFld "Root" "held" (dVar 0)) (dTupG 4 (dGCons (dName 6) (dGCons (dName 7) (dGCons (dName 8) (dGCons (dName 9) dGNil))))))
  (dRet (dMake "Root" sp_Root___init__ [] (wd Ed) (dCons (dOp rdAdd (dOp rdMulA (dVar 6) (dVar 4)) (dOp rdMulA (dVar 2) (dVar 9))) (dCons (dOp rdAdd (dOp rdMulA (dVar 7) (dVar 4)) (dOp rdMulA (dVar 3) (dVar 9))) (dCons (dVar 5) (dCons (dOp rdMulA (dVar 9) (dVar 4)) dNil))))))))
theorem st_Root_plus (a0 a1 : D) : startD N_Root_plus [a0, a1] = [some a0, some a1, none, none, none, none, none, none, none, none] := rfl
abbrev N_Root_less : List Str := ["self", "other", "top", "often", "square", "bottom"]
def t_Root_less (Ed : XKD) : TSD :=
  (dSeq (dAsg (dMeth "Root" "parts" sp_Root_parts [] (wd Ed) (dVar 1) dNil) (dTupG 4 (dGCons (dName 2) (dGCons (dName 3) (dGCons (dName 4) (dGCons (dName 5) dGNil))))))
  (dRet (dMeth "Root" "plus" sp_Root_plus [] (wd Ed) (dVar 0) (dCons (dMake "Root" sp_Root___init__ [] (wd Ed) (dCons (dOp rdSub (dC (.int 0)) (dVar 2)) (dCons (dOp rdSub (dC (.int 0)) (dVar 3)) (dCons (dVar 4) (dCons (dVar 5) dNil))))) dNil))))
theorem st_Root_less (a0 a1 : D) : startD N_Root_less [a0, a1] = [some a0, some a1, none, none, none, none] := rfl
abbrev N_Root_times : List Str := ["self", "other", "top", "often", "bottom", "square", "here", "often_here", "square_here", "below"]
def t_Root_times (Ed : XKD) : TSD :=
  (dSeq (dAsg (dMeth "Root" "seen_by" sp_Root_seen_by [] (wd Ed) (dVar 0) (dCons (dVar 1) dNil)) (dTupG 4 (dGCons (dName 2) (dGCons (dName 3) (dGCons (dName 4) (dGCons (dName 5) dGNil))))))
  (dSeq (dAsg (dFld "Root" "held" (dVar 0)) (dTupG 4 (dGCons (dName 6) (dGCons (dName 7) (dGCons (dName 8) (dGCons (dName 9) dGNil))))))
  (dRet (dMake "Root" sp_Root___init__ [] (wd Ed) (dCons (dOp rdAdd (dOp rdMulA (dVar 6) (dVar 2)) (dOp rdMulA (dOp rdMulA (dVar 7) (dVar 3)) (dVar 5))) (dCons (dOp rdAdd (dOp rdMulA (dVar 6) (dVar 3)) (dOp rdMulA (dVar 7) (dVar 2))) (dCons (dVar 5) (dCons (dOp rdMulA (dVar 9) (dVar 4)) dNil))))))))
theorem st_Root_times (a0 a1 : D) : startD N_Root_times [a0, a1] = [some a0, some a1, none, none, none, none, none, none, none, none] := rfl
abbrev N_contrary_of : List Str := ["number", "above", "top", "often", "square", "bottom", "under", "turn"]
def t_contrary_of (Ed : XKD) : TSD :=
  (dSeq (dAsg (dMeth "Root" "parts" sp_Root_parts [] (wd Ed) (dVar 0) dNil) (dTupG 4 (dGCons (dName 2) (dGCons (dName 3) (dGCons (dName 4) (dGCons (dName 5) dGNil))))))
  (dSeq (dSet 6 (dOp rdSub (dOp rdPow (dVar 2) (dC (.int 2))) (dOp rdMulA (dVar 4) (dOp rdPow (dVar 3) (dC (.int 2))))))
  (dSeq (dTryZ (dSet 7 (dOp rdFdiv (dCB rdAbs (dCons (dVar 6) dNil)) (dVar 6))))
  (dRet (dMake "Root" sp_Root___init__ [] (wd Ed) (dCons (dOp rdMulA (dOp rdMulA (dVar 7) (dVar 5)) (dVar 2)) (dCons (dOp rdSub (dC (.int 0)) (dOp rdMulA (dOp rdMulA (dVar 7) (dVar 5)) (dVar 3))) (dCons (dVar 4) (dCons (dCB rdAbs (dCons (dVar 6) dNil)) dNil)))))))))
theorem st_contrary_of (a0 a1 : D) : startD N_contrary_of [a0, a1] = [some a0, some a1, none, none, none, none, none, none] := rfl
abbrev N_Root_over : List Str := ["self", "other"]
def t_Root_over (Ed : XKD) : TSD :=
  (dSeq (dDrop (dMeth "Root" "seen_by" sp_Root_seen_by [] (wd Ed) (dVar 0) (dCons (dVar 1) dNil)))
  (dRet (dMeth "Root" "times" sp_Root_times [] (wd Ed) (dVar 0) (dCons (dCall sp_contrary_of [] (wd Ed) (dCons (dVar 1) (dCons (dVar 0) dNil))) dNil))))
theorem st_Root_over (a0 a1 : D) : startD N_Root_over [a0, a1] = [some a0, some a1] := rfl
abbrev N_is_within : List Str := ["thing", "least", "most"]
def t_is_within (Ed : XKD) : TSD :=
  (dRet (dAndV (dCall sp_is_whole [] (wd Ed) (dCons (dVar 0) dNil)) (dChain rdLe rdLe (dVar 1) (dVar 0) (dVar 2))))
theorem st_is_within (a0 a1 a2 : D) : startD N_is_within [a0, a1, a2] = [some a0, some a1, some a2] := rfl
abbrev N_is_row : List Str := ["thing", "least", "most", "number"]
def t_is_row (Ed : XKD) : TSD :=
  (dSeq (dIfS (dOr (dNot (dTest (dCB rdIsi (dCons (dVar 0) (dCons (dC (.ty "tuple")) dNil))))) (dNot (dTest (dChain rdLe rdLe (dVar 1) (dCB rdLen (dCons (dVar 0) dNil)) (dVar 2))))) (dRet (dC (.bl false))) dNext)
  (dRet (dCB rdAll (dCons (dComp (dItr (dVar 0)) (dName 3) dYes (dCall sp_is_within [] wd0 (dCons (dVar 3) (dCons (dC (.int 1)) (dCons (dC k_MOST_NUMBER) dNil)))) [3]) dNil))))
theorem st_is_row (a0 a1 a2 : D) : startD N_is_row [a0, a1, a2] = [some a0, some a1, some a2, none] := rfl
abbrev N_is_number_ring : List Str := ["thing"]
def t_is_number_ring (Ed : XKD) : TSD :=
  (dRet (dCall sp_is_row [] (wd Ed) (dCons (dVar 0) (dCons (dC (.int 1)) (dCons (dC k_MOST_RING) dNil)))))
theorem st_is_number_ring (a0 : D) : startD N_is_number_ring [a0] = [some a0] := rfl
abbrev N_is_ahead : List Str := ["thing"]
def t_is_ahead (Ed : XKD) : TSD :=
  (dSeq (dIfS (dOr (dNot (dTest (dCB rdIsi (dCons (dVar 0) (dCons (dC (.ty "tuple")) dNil))))) (dTest (dOp rdEq (dCB rdLen (dCons (dVar 0) dNil)) (dC (.int 0))))) (dRet (dOp rdEq (dVar 0) (dTup dNil))) dNext)
  (dSeq (dIfS (dNot (dTest (dCall sp_is_within [] (wd Ed) (dCons (dOp rdIx (dVar 0) (dC (.int 0))) (dCons (dOp rdSub (dC (.int 0)) (dC k_MOST_NUMBER)) (dCons (dC k_MOST_NUMBER) dNil)))))) (dRet (dC (.bl false))) dNext)
  (dRet (dCall sp_is_row [] (wd Ed) (dCons (dSl (dVar 0) (dPart (dC (.int 1))) dNoPart) (dCons (dC (.int 0)) (dCons (dOp rdSub (dC k_MOST_AHEAD) (dC (.int 1))) dNil)))))))
theorem st_is_ahead (a0 : D) : startD N_is_ahead [a0] = [some a0] := rfl
abbrev N_shortest_part : List Str := ["parts", "many", "size"]
def t_shortest_part (Ed : XKD) : TSD :=
  (dSeq (dSet 1 (dCB rdLen (dCons (dVar 0) dNil)))
  (dSeq (dFor (dRng2 (dCons (dC (.int 1)) (dCons (dVar 1) dNil))) (dName 2)
  (dIfS (dAnd (dTest (dOp rdEq (dOp rdMod (dVar 1) (dVar 2)) (dC (.int 0)))) (dTest (dOp rdEq (dOp rdMulA (dSl (dVar 0) dNoPart (dPart (dVar 2))) (dOp rdFdiv (dVar 1) (dVar 2))) (dVar 0)))) (dRet (dSl (dVar 0) dNoPart (dPart (dVar 2)))) dNext))
  (dRet (dVar 0))))
theorem st_shortest_part (a0 : D) : startD N_shortest_part [a0] = [some a0, none, none] := rfl
abbrev N_table_of_row : List Str := ["row", "p", "q", "r", "s", "number"]
def t_table_of_row (Ed : XKD) : TSD :=
  (dSeq (dAsg (dTup (dCons (dC (.int 1)) (dCons (dC (.int 0)) (dCons (dC (.int 0)) (dCons (dC (.int 1)) dNil))))) (dTupG 4 (dGCons (dName 1) (dGCons (dName 2) (dGCons (dName 3) (dGCons (dName 4) dGNil))))))
  (dSeq (dFor (dItr (dVar 0)) (dName 5)
  (dSeq (dPar 1 2 (dCons (dOp rdAdd (dOp rdMulA (dVar 1) (dVar 5)) (dVar 2)) (dCons (dVar 1) dNil)))
  (dPar 3 4 (dCons (dOp rdAdd (dOp rdMulA (dVar 3) (dVar 5)) (dVar 4)) (dCons (dVar 3) dNil)))))
  (dRet (dTup (dCons (dVar 1) (dCons (dVar 2) (dCons (dVar 3) (dCons (dVar 4) dNil))))))))
theorem st_table_of_row (a0 : D) : startD N_table_of_row [a0] = [some a0, none, none, none, none, none] := rfl
abbrev N_number_of_ring : List Str := ["ring", "p", "q", "r", "s"]
def t_number_of_ring (Ed : XKD) : TSD :=
  (dSeq (dAsg (dCall sp_table_of_row [] (wd Ed) (dCons (dVar 0) dNil)) (dTupG 4 (dGCons (dName 1) (dGCons (dName 2) (dGCons (dName 3) (dGCons (dName 4) dGNil))))))
  (dRet (dMake "Root" sp_Root___init__ [] (wd Ed) (dCons (dOp rdSub (dVar 1) (dVar 4)) (dCons (dC (.int 1)) (dCons (dOp rdAdd (dOp rdPow (dOp rdSub (dVar 1) (dVar 4)) (dC (.int 2))) (dOp rdMulA (dOp rdMulA (dC (.int 4)) (dVar 2)) (dVar 3))) (dCons (dOp rdMulA (dC (.int 2)) (dVar 3)) dNil)))))))
theorem st_number_of_ring (a0 : D) : startD N_number_of_ring [a0] = [some a0, none, none, none, none] := rfl
abbrev N_Stair_keep_rows : List Str := ["self", "ahead", "ring"]
def t_Stair_keep_rows (Ed : XKD) : TSD :=
  (dSeq (dSet 2 (dCall sp_shortest_part [] (wd Ed) (dCons (dVar 2) dNil)))
  (dSeq (dWhile (dAnd (dTest (dOp rdNe (dVar 1) (dTup dNil))) (dTest (dOp rdEq (dOp rdIx (dVar 1) (dUn rdNeg (dC (.int 1)))) (dOp rdIx (dVar 2) (dUn rdNeg (dC (.int 1)))))))
  (dSeq (dSet 1 (dSl (dVar 1) dNoPart (dPart (dUn rdNeg (dC (.int 1))))))
  (dSet 2 (dOp rdAdd (dSl (dVar 2) (dPart (dUn rdNeg (dC (.int 1)))) dNoPart) (dSl (dVar 2) dNoPart (dPart (dUn rdNeg (dC (.int 1)))))))))
  (dSeq (dPutB "Stair" "held_ahead" (dVar 0) (dVar 1))
  (dPutB "Stair" "held_ring" (dVar 0) (dVar 2)))))
theorem st_Stair_keep_rows (a0 a1 a2 : D) : startD N_Stair_keep_rows [a0, a1, a2] = [some a0, some a1, some a2] := rfl
abbrev N_Stair___init__ : List Str := ["self", "ahead", "ring"]
def t_Stair___init__ (Ed : XKD) : TSD :=
  (dSeq (dIfS (dOr (dNot (dTest (dCall sp_is_ahead [] (wd Ed) (dCons (dVar 1) dNil)))) (dNot (dTest (dCall sp_is_number_ring [] (wd Ed) (dCons (dVar 2) dNil))))) (dRaise (wd Ed) ⟨"NoStair", [], []⟩) dNext)
  (dDrop (dMethO "Stair" "keep_rows" sp_Stair_keep_rows [] (wd Ed) (dVar 0) (dCons (dVar 1) (dCons (dVar 2) dNil)))))
theorem st_Stair___init__ (a0 a1 a2 : D) : startD N_Stair___init__ [a0, a1, a2] = [some a0, some a1, some a2] := rfl
abbrev N_Stair_ahead : List Str := ["self"]
def t_Stair_ahead (Ed : XKD) : TSD :=
  (dRet (dFld "Stair" "held_ahead" (dVar 0)))
theorem st_Stair_ahead (a0 : D) : startD N_Stair_ahead [a0] = [some a0] := rfl
abbrev N_Stair_ring : List Str := ["self"]
def t_Stair_ring (Ed : XKD) : TSD :=
  (dRet (dFld "Stair" "held_ring" (dVar 0)))
theorem st_Stair_ring (a0 : D) : startD N_Stair_ring [a0] = [some a0] := rfl
abbrev N_Stair___eq__ : List Str := ["self", "other"]
def t_Stair___eq__ (Ed : XKD) : TSD :=
  (dSeq (dIfS (dNot (dTest (dCB (rdIsiC "Stair") (dCons (dVar 1) (dCons (dC (.fn "Stair")) dNil))))) (dRet (dC (.bl false))) dNext)
  (dRet (dAndV (dOp rdEq (dFld "Stair" "held_ahead" (dVar 0)) (dMeth "Stair" "ahead" sp_Stair_ahead [] (wd Ed) (dVar 1) dNil)) (dOp rdEq (dFld "Stair" "held_ring" (dVar 0)) (dMeth "Stair" "ring" sp_Stair_ring [] (wd Ed) (dVar 1) dNil)))))
theorem st_Stair___eq__ (a0 a1 : D) : startD N_Stair___eq__ [a0, a1] = [some a0, some a1] := rfl
abbrev N_Stair_at : List Str := ["self", "place"]
def t_Stair_at (Ed : XKD) : TSD :=
  (dSeq (dIfS (dTest (dOp rdLt (dVar 1) (dC (.int 0)))) (dRaiseF2 (wd Ed) "NoPlace" "place" "many" (dCons (dVar 1) (dCons (dC .non) dNil))) dNext)
  (dSeq (dIfS (dTest (dOp rdLt (dVar 1) (dCB rdLen (dCons (dFld "Stair" "held_ahead" (dVar 0)) dNil)))) (dRet (dOp rdIx (dFld "Stair" "held_ahead" (dVar 0)) (dVar 1))) dNext)
  (dRet (dOp rdIx (dFld "Stair" "held_ring" (dVar 0)) (dOp rdMod (dOp rdSub (dVar 1) (dCB rdLen (dCons (dFld "Stair" "held_ahead" (dVar 0)) dNil))) (dCB rdLen (dCons (dFld "Stair" "held_ring" (dVar 0)) dNil)))))))
theorem st_Stair_at (a0 a1 : D) : startD N_Stair_at [a0, a1] = [some a0, some a1] := rfl
abbrev N_told_stair : List Str := ["ahead", "ring", "found"]
def t_told_stair (Ed : XKD) : TSD :=
  (dSeq (dSet 2 (dMakeO "Stair" sp_Stair___init__ [] (wd Ed) (dCons (dTup dNil) (dCons (dTup (dCons (dC (.int 1)) dNil)) dNil))))
  (dSeq (dDrop (dMethO "Stair" "keep_rows" sp_Stair_keep_rows [] (wd Ed) (dVar 2) (dCons (dVar 0) (dCons (dVar 1) dNil))))
  (dRet (dFrzI (dVar 2)))))
theorem st_told_stair (a0 a1 : D) : startD N_told_stair [a0, a1] = [some a0, some a1, none] := rfl
abbrev N_Stair_behind : List Str := ["self", "many", "ahead", "turn"]
def t_Stair_behind (Ed : XKD) : TSD :=
  (dSeq (dSet 2 (dSl (dFld "Stair" "held_ahead" (dVar 0)) (dPart (dVar 1)) dNoPart))
  (dSeq (dSet 3 (dOp rdMod (dCB rdMax2 (dCons (dC (.int 0)) (dCons (dOp rdSub (dVar 1) (dCB rdLen (dCons (dFld "Stair" "held_ahead" (dVar 0)) dNil))) dNil))) (dCB rdLen (dCons (dFld "Stair" "held_ring" (dVar 0)) dNil))))
  (dRet (dCall sp_told_stair [] (wd Ed) (dCons (dVar 2) (dCons (dOp rdAdd (dSl (dFld "Stair" "held_ring" (dVar 0)) (dPart (dVar 3)) dNoPart) (dSl (dFld "Stair" "held_ring" (dVar 0)) dNoPart (dPart (dVar 3)))) dNil))))))
theorem st_Stair_behind (a0 a1 : D) : startD N_Stair_behind [a0, a1] = [some a0, some a1, none, none] := rfl
abbrev N_Stair_number : List Str := ["self", "found", "number"]
def t_Stair_number (Ed : XKD) : TSD :=
  (dSeq (dSet 1 (dCall sp_number_of_ring [] (wd Ed) (dCons (dFld "Stair" "held_ring" (dVar 0)) dNil)))
  (dSeq (dFor (dItr (dRev (dFld "Stair" "held_ahead" (dVar 0)))) (dName 2)
  (dSet 1 (dMeth "Root" "plus" sp_Root_plus [] (wd Ed) (dMake "Root" sp_Root___init__ [.int 0, .int 2, .int 1] (wd Ed) (dCons (dVar 2) dNil)) (dCons (dMeth "Root" "over" sp_Root_over [] (wd Ed) (dMake "Root" sp_Root___init__ [.int 0, .int 2, .int 1] (wd Ed) (dCons (dC (.int 1)) dNil)) (dCons (dVar 1) dNil)) dNil))))
  (dRet (dVar 1))))
theorem st_Stair_number (a0 : D) : startD N_Stair_number [a0] = [some a0, none, none] := rfl
abbrev N_Stair_fraction : List Str := ["self", "many", "p", "q", "r", "s", "place"]
def t_Stair_fraction (Ed : XKD) : TSD :=
  (dSeq (dAsg (dCall sp_table_of_row [] (wd Ed) (dCons (dComp (dRng1 (dCons (dVar 1) dNil)) (dName 6) dYes (dMeth "Stair" "at" sp_Stair_at [] wd0 (dVar 0) (dCons (dVar 6) dNil)) [6]) dNil)) (dTupG 4 (dGCons (dName 2) (dGCons (dName 3) (dGCons (dName 4) (dGCons (dName 5) dGNil))))))
  (dRet (dTup (dCons (dVar 2) (dCons (dVar 4) dNil)))))
theorem st_Stair_fraction (a0 a1 : D) : startD N_Stair_fraction [a0, a1] = [some a0, some a1, none, none, none, none, none] := rfl
abbrev N_is_reduced : List Str := ["top", "below", "side"]
def t_is_reduced (Ed : XKD) : TSD :=
  (dRet (dAndV (dChain rdLt rdLe (dC (.int 0)) (dVar 1) (dOp rdAdd (dVar 0) (dVar 2))) (dChain rdLe rdLt (dVar 0) (dVar 2) (dOp rdAdd (dVar 0) (dVar 1)))))
theorem st_is_reduced (a0 a1 a2 : D) : startD N_is_reduced [a0, a1, a2] = [some a0, some a1, some a2] := rfl
abbrev N_step_on : List Str := ["top", "below", "under", "side", "number"]
def t_step_on (Ed : XKD) : TSD :=
  (dSeq (dSet 3 (dCall sp_side_of [] (wd Ed) (dCons (dVar 2) dNil)))
  (dSeq (dSet 4 (dOp rdFdiv (dOp rdAdd (dVar 0) (dVar 3)) (dCB rdAbs (dCons (dVar 1) dNil))))
  (dSeq (dIfS (dTest (dOp rdLt (dVar 1) (dC (.int 0)))) (dSet 4 (dOp rdSub (dUn rdNeg (dC (.int 1))) (dVar 4))) dNext)
  (dSeq (dSet 0 (dOp rdSub (dOp rdMulA (dVar 4) (dVar 1)) (dVar 0)))
  (dRet (dTup (dCons (dVar 4) (dCons (dVar 0) (dCons (dOp rdFdiv (dOp rdSub (dVar 2) (dOp rdPow (dVar 0) (dC (.int 2)))) (dVar 1)) dNil)))))))))
theorem st_step_on (a0 a1 a2 : D) : startD N_step_on [a0, a1, a2] = [some a0, some a1, some a2, none, none] := rfl
abbrev N_ring_from : List Str := ["top", "below", "under", "found", "here", "turn", "number"]
def t_ring_from (Ed : XKD) : TSD :=
  (dSeq (dSet 3 (dLstO dNil))
  (dSeq (dSet 4 (dTup (dCons (dVar 0) (dCons (dVar 1) dNil))))
  (dSeq (dFor (dRng1 (dCons (dC k_MOST_RING) dNil)) (dName 5)
  (dSeq (dAsg (dCall sp_step_on [] (wd Ed) (dCons (dVar 0) (dCons (dVar 1) (dCons (dVar 2) dNil)))) (dTupG 3 (dGCons (dName 6) (dGCons (dName 0) (dGCons (dName 1) dGNil)))))
  (dSeq (dDrop (dBM "list" rdApp (dVar 3) (dCons (dVar 6) dNil)))
  (dIfS (dTest (dOp rdEq (dTup (dCons (dVar 0) (dCons (dVar 1) dNil))) (dVar 4))) (dRet (dCB rdTupA (dCons (dVar 3) dNil))) dNext))))
  (dRaiseF1 (wd Ed) "TooMany" "most" (dCons (dC k_MOST_RING) dNil)))))
theorem st_ring_from (a0 a1 a2 : D) : startD N_ring_from [a0, a1, a2] = [some a0, some a1, some a2, none, none, none, none] := rfl
abbrev N_stair_of : List Str := ["number", "top", "often", "square", "bottom", "under", "below", "ahead", "found"]
def t_stair_of (Ed : XKD) : TSD :=
  (dSeq (dAsg (dMeth "Root" "parts" sp_Root_parts [] (wd Ed) (dVar 0) dNil) (dTupG 4 (dGCons (dName 1) (dGCons (dName 2) (dGCons (dName 3) (dGCons (dName 4) dGNil))))))
  (dSeq (dIfS (dTest (dOp rdEq (dVar 2) (dC (.int 0)))) (dRaise (wd Ed) ⟨"NoStair", [], []⟩) dNext)
  (dSeq (dIfS (dTest (dOp rdLt (dVar 2) (dC (.int 0)))) (dPar3 1 2 4 (dCons (dOp rdSub (dC (.int 0)) (dVar 1)) (dCons (dOp rdSub (dC (.int 0)) (dVar 2)) (dCons (dOp rdSub (dC (.int 0)) (dVar 4)) dNil)))) dNext)
  (dSeq (dPar3 1 5 6 (dCons (dOp rdMulA (dVar 1) (dCB rdAbs (dCons (dVar 4) dNil))) (dCons (dOp rdMulA (dOp rdPow (dOp rdMulA (dVar 2) (dVar 4)) (dC (.int 2))) (dVar 3)) (dCons (dOp rdMulA (dVar 4) (dCB rdAbs (dCons (dVar 4) dNil))) dNil))))
  (dSeq (dSet 7 (dLstO dNil))
  (dSeq (dWhile (dNot (dTest (dCall sp_is_reduced [] (wd Ed) (dCons (dVar 1) (dCons (dVar 6) (dCons (dCall sp_side_of [] (wd Ed) (dCons (dVar 5) dNil)) dNil))))))
  (dSeq (dIfS (dTest (dOp rdEq (dCB rdLen (dCons (dVar 7) dNil)) (dC k_MOST_AHEAD))) (dRaiseF1 (wd Ed) "TooMany" "most" (dCons (dC k_MOST_AHEAD) dNil)) dNext)
  (dSeq (dAsg (dCall sp_step_on [] (wd Ed) (dCons (dVar 1) (dCons (dVar 6) (dCons (dVar 5) dNil)))) (dTupG 3 (dGCons (dName 8) (dGCons (dName 1) (dGCons (dName 6) dGNil)))))
  (dDrop (dBM "list" rdApp (dVar 7) (dCons (dVar 8) dNil))))))
  (dRet (dCall sp_told_stair [] (wd Ed) (dCons (dCB rdTupA (dCons (dVar 7) dNil)) (dCons (dCall sp_ring_from [] (wd Ed) (dCons (dVar 1) (dCons (dVar 6) (dCons (dVar 5) dNil)))) dNil))))))))))
theorem st_stair_of (a0 : D) : startD N_stair_of [a0] = [some a0, none, none, none, none, none, none, none, none] := rfl
abbrev N_law_urn : List Str := ["_law_script", "_law_at", "_law_cell", "_law_great"]
def t_law_urn (Ed : XKD) : TSD :=
  (dSeq (dSet 2 (dC (.int 0)))
  (dSeq (dIfS (dTest (dOp rdLt (dVar 1) (dCB rdLen (dCons (dVar 0) dNil)))) (dSet 2 (dOp rdIx (dVar 0) (dVar 1))) dNext)
  (dSeq (dSet 3 (dCB rdAbs (dCons (dVar 2) dNil)))
  (dSeq (dIfS (dTest (dOp rdLt (dVar 3) (dOp rdPow (dC (.int 10)) (dC (.int 18))))) (dSet 3 (dC (.int 0))) dNext)
  (dRet (dLstO (dCons (dVar 3) (dCons (dOp rdAdd (dOp rdAdd (dOp rdAdd (dOp rdMod (dVar 2) (dC (.int 1000000000000000003))) (dOp rdMulA (dOp rdMulA (dC (.int 97)) (dVar 1)) (dVar 1))) (dOp rdMulA (dC (.int 31)) (dVar 1))) (dC (.int 1))) (dCons (dC (.int 0)) dNil)))))))))
theorem st_law_urn (a0 a1 : D) : startD N_law_urn [a0, a1] = [some a0, some a1, none, none] := rfl
abbrev N_law_draw : List Str := ["_law_urn_here", "_law_wide", "_law_digit", "_law_primes", "_law_step", "_law_base", "_law_mixed"]
def t_law_draw (Ed : XKD) : TSD :=
  (dSeq (dIfS (dTest (dOp rdGt (dOp rdIx (dVar 0) (dC (.int 0))) (dC (.int 0)))) (dSeq (dSet 2 (dOp rdMod (dOp rdIx (dVar 0) (dC (.int 0))) (dVar 1)))
  (dSeq (dStore (dVar 0) (dC (.int 0)) (dOp rdFdiv (dOp rdIx (dVar 0) (dC (.int 0))) (dVar 1)))
  (dRet (dVar 2)))) dNext)
  (dSeq (dSet 3 (dTup (dCons (dC (.int 2147483647)) (dCons (dC (.int 2147483629)) (dCons (dC (.int 2147483587)) (dCons (dC (.int 2147483579)) (dCons (dC (.int 2147483563)) (dCons (dC (.int 2147483549)) (dCons (dC (.int 2147483543)) dNil)))))))))
  (dSeq (dStore (dVar 0) (dC (.int 2)) (dOp rdAdd (dOp rdIx (dVar 0) (dC (.int 2))) (dC (.int 1))))
  (dSeq (dSet 4 (dOp rdIx (dVar 0) (dC (.int 2))))
  (dSeq (dSet 5 (dOp rdAdd (dOp rdAdd (dOp rdMulA (dOp rdIx (dVar 0) (dC (.int 1))) (dOp rdAdd (dOp rdMulA (dC (.int 2)) (dVar 4)) (dC (.int 1)))) (dOp rdMulA (dOp rdMulA (dC (.int 6007)) (dVar 4)) (dVar 4))) (dC (.int 53))))
  (dSeq (dSet 6 (dOp rdMod (dOp rdPow (dVar 5) (dC (.int 3))) (dOp rdIx (dVar 3) (dOp rdMod (dVar 4) (dC (.int 7))))))
  (dRet (dOp rdMod (dOp rdFdiv (dOp rdMod (dOp rdMulA (dVar 6) (dOp rdAdd (dOp rdFdiv (dVar 6) (dC (.int 8191))) (dVar 4))) (dOp rdIx (dVar 3) (dOp rdMod (dOp rdAdd (dVar 4) (dC (.int 3))) (dC (.int 7))))) (dC (.int 16))) (dVar 1)))))))))
theorem st_law_draw (a0 a1 : D) : startD N_law_draw [a0, a1] = [some a0, some a1, none, none, none, none, none] := rfl
abbrev N_law_small_stair : List Str := ["_law_urn_here", "_law_wide", "_law_ring", "_law_ahead", "_law_k"]
def t_law_small_stair (Ed : XKD) : TSD :=
  (dSeq (dSet 1 (dOp rdIx (dLst (dCons (dC (.int 2)) (dCons (dC (.int 3)) (dCons (dC (.int 9)) (dCons (dC (.int 999999)) dNil))))) (dCall sp_law_draw [] (wd Ed) (dCons (dVar 0) (dCons (dC (.int 4)) dNil)))))
  (dSeq (dSet 2 (dCB rdTupA (dCons (dComp (dRng1 (dCons (dOp rdAdd (dC (.int 1)) (dCall sp_law_draw [] (wd Ed) (dCons (dVar 0) (dCons (dC (.int 8)) dNil)))) dNil)) (dName 4) dYes (dOp rdAdd (dC (.int 1)) (dCall sp_law_draw [] wd0 (dCons (dVar 0) (dCons (dVar 1) dNil)))) [4]) dNil)))
  (dSeq (dSet 3 (dCompO (dRng1 (dCons (dCall sp_law_draw [] (wd Ed) (dCons (dVar 0) (dCons (dC (.int 7)) dNil))) dNil)) (dName 4) dYes (dOp rdAdd (dC (.int 1)) (dCall sp_law_draw [] wd0 (dCons (dVar 0) (dCons (dVar 1) dNil)))) [4]))
  (dSeq (dIfS (dAnd (dTest (dOp rdNeO (dVar 3) (dLst dNil))) (dTest (dOp rdEq (dCall sp_law_draw [] (wd Ed) (dCons (dVar 0) (dCons (dC (.int 2)) dNil))) (dC (.int 0))))) (dStore (dVar 3) (dC (.int 0)) (dOp rdSub (dCall sp_law_draw [] (wd Ed) (dCons (dVar 0) (dCons (dOp rdAdd (dOp rdMulA (dC (.int 2)) (dVar 1)) (dC (.int 1))) dNil))) (dVar 1))) dNext)
  (dRet (dMake "Stair" sp_Stair___init__ [] (wd Ed) (dCons (dCB rdTupA (dCons (dVar 3) dNil)) (dCons (dVar 2) dNil))))))))
theorem st_law_small_stair (a0 : D) : startD N_law_small_stair [a0] = [some a0, none, none, none, none] := rfl
abbrev N_law_fractions_right : List Str := ["_law_stair", "_law_number", "_law_some", "_law_k", "_law_top", "_law_bottom", "_law_near", "_law_p", "_law_q", "_law_r", "_law_s", "_law_many"]
def t_law_fractions_right (Ed : XKD) : TSD :=
  (dSeq (dSet 2 (dComp (dRng2 (dCons (dC (.int 1)) (dCons (dC (.int 9)) dNil))) (dName 11) dYes (dMeth "Stair" "fraction" sp_Stair_fraction [] wd0 (dVar 0) (dCons (dVar 11) dNil)) [11]))
  (dSeq (dFor (dEnum (dCons (dVar 2) dNil)) (dTupG 2 (dGCons (dName 3) (dGCons (dTupG 2 (dGCons (dName 4) (dGCons (dName 5) dGNil))) dGNil)))
  (dSeq (dSet 6 (dMake "Root" sp_Root___init__ [] (wd Ed) (dCons (dVar 4) (dCons (dC (.int 0)) (dCons (dC (.int 2)) (dCons (dVar 5) dNil))))))
  (dIfS (dOr (dTest (dOp rdNe (dMeth "Root" "is_below" sp_Root_is_below [] (wd Ed) (dVar 6) (dCons (dVar 1) dNil)) (dOp rdEq (dOp rdMod (dVar 3) (dC (.int 2))) (dC (.int 0))))) (dTest (dOp rdEq (dMeth "Root" "is_below" sp_Root_is_below [] (wd Ed) (dVar 1) (dCons (dVar 6) dNil)) (dOp rdEq (dOp rdMod (dVar 3) (dC (.int 2))) (dC (.int 0)))))) (dRet (dC (.bl false))) dNext)))
  (dSeq (dFor (dRng1 (dCons (dC (.int 7)) dNil)) (dName 3)
  (dSeq (dAsg (dTup (dCons (dOp rdIx (dVar 2) (dVar 3)) (dCons (dOp rdIx (dVar 2) (dOp rdAdd (dVar 3) (dC (.int 1)))) dNil))) (dTupG 2 (dGCons (dTupG 2 (dGCons (dName 7) (dGCons (dName 8) dGNil))) (dGCons (dTupG 2 (dGCons (dName 9) (dGCons (dName 10) dGNil))) dGNil))))
  (dIfS (dTest (dOp rdNe (dOp rdSub (dOp rdMulA (dVar 9) (dVar 8)) (dOp rdMulA (dVar 7) (dVar 10))) (dOp rdIx (dLst (dCons (dC (.int 1)) (dCons (dUn rdNeg (dC (.int 1))) dNil))) (dOp rdMod (dVar 3) (dC (.int 2)))))) (dRet (dC (.bl false))) dNext)))
  (dRet (dC (.bl true))))))
theorem st_law_fractions_right (a0 a1 : D) : startD N_law_fractions_right [a0, a1] = [some a0, some a1, none, none, none, none, none, none, none, none, none, none] := rfl
abbrev N_law_ring_alone_right : List Str := ["_law_stair", "_law_number", "_law_mate", "_law_alone", "_law_back"]
def t_law_ring_alone_right (Ed : XKD) : TSD :=
  (dSeq (dSet 2 (dMeth "Root" "mate" sp_Root_mate [] (wd Ed) (dVar 1) dNil))
  (dSeq (dSet 3 (dAndV (dMeth "Root" "is_below" sp_Root_is_below [] (wd Ed) (dMake "Root" sp_Root___init__ [.int 0, .int 2, .int 1] (wd Ed) (dCons (dC (.int 1)) dNil)) (dCons (dVar 1) dNil)) (dAndV (dMeth "Root" "is_below" sp_Root_is_below [] (wd Ed) (dVar 2) (dCons (dMake "Root" sp_Root___init__ [.int 0, .int 2, .int 1] (wd Ed) (dCons (dC (.int 0)) dNil)) dNil)) (dMeth "Root" "is_below" sp_Root_is_below [] (wd Ed) (dMake "Root" sp_Root___init__ [.int 0, .int 2, .int 1] (wd Ed) (dCons (dUn rdNeg (dC (.int 1))) dNil)) (dCons (dVar 2) dNil)))))
  (dSeq (dIfS (dTest (dOp rdNe (dVar 3) (dOp rdEq (dMeth "Stair" "ahead" sp_Stair_ahead [] (wd Ed) (dVar 0) dNil) (dTup dNil)))) (dRet (dC (.bl false))) dNext)
  (dSeq (dIfS (dNot (dTest (dVar 3))) (dRet (dC (.bl true))) dNext)
  (dSeq (dSet 4 (dCall sp_stair_of [] (wd Ed) (dCons (dMeth "Root" "over" sp_Root_over [] (wd Ed) (dMake "Root" sp_Root___init__ [.int 0, .int 2, .int 1] (wd Ed) (dCons (dUn rdNeg (dC (.int 1))) dNil)) (dCons (dVar 2) dNil)) dNil)))
  (dRet (dAndV (dOp rdEq (dMeth "Stair" "ahead" sp_Stair_ahead [] (wd Ed) (dVar 4) dNil) (dTup dNil)) (dOp (rdEqI "Stair" sp_Stair___eq__) (dVar 4) (dMake "Stair" sp_Stair___init__ [] (wd Ed) (dCons (dTup dNil) (dCons (dRev (dMeth "Stair" "ring" sp_Stair_ring [] (wd Ed) (dVar 0) dNil)) dNil)))))))))))
theorem st_law_ring_alone_right (a0 a1 : D) : startD N_law_ring_alone_right [a0, a1] = [some a0, some a1, none, none, none] := rfl
abbrev N_law_is_one : List Str := ["_law_stair", "_law_number", "_law_rest"]
def t_law_is_one (Ed : XKD) : TSD :=
  (dSeq (dSet 1 (dMeth "Stair" "number" sp_Stair_number [] (wd Ed) (dVar 0) dNil))
  (dSeq (dIfS (dOr (dNot (dTest (dOp (rdEqI "Stair" sp_Stair___eq__) (dCall sp_stair_of [] (wd Ed) (dCons (dVar 1) dNil)) (dVar 0)))) (dTest (dOp rdNe (dMeth "Root" "whole" sp_Root_whole [] (wd Ed) (dVar 1) dNil) (dMeth "Stair" "at" sp_Stair_at [] (wd Ed) (dVar 0) (dCons (dC (.int 0)) dNil))))) (dRet (dC (.bl false))) dNext)
  (dSeq (dSet 2 (dMeth "Stair" "number" sp_Stair_number [] (wd Ed) (dMeth "Stair" "behind" sp_Stair_behind [] (wd Ed) (dVar 0) (dCons (dC (.int 1)) dNil)) dNil))
  (dSeq (dIfS (dOr (dNot (dTest (dOp (rdEqI "Root" sp_Root___eq__) (dMeth "Root" "times" sp_Root_times [] (wd Ed) (dMeth "Root" "less" sp_Root_less [] (wd Ed) (dVar 1) (dCons (dMake "Root" sp_Root___init__ [.int 0, .int 2, .int 1] (wd Ed) (dCons (dMeth "Stair" "at" sp_Stair_at [] (wd Ed) (dVar 0) (dCons (dC (.int 0)) dNil)) dNil)) dNil)) (dCons (dVar 2) dNil)) (dMake "Root" sp_Root___init__ [.int 0, .int 2, .int 1] (wd Ed) (dCons (dC (.int 1)) dNil))))) (dNot (dTest (dMeth "Root" "is_below" sp_Root_is_below [] (wd Ed) (dMake "Root" sp_Root___init__ [.int 0, .int 2, .int 1] (wd Ed) (dCons (dC (.int 1)) dNil)) (dCons (dVar 2) dNil))))) (dRet (dC (.bl false))) dNext)
  (dRet (dAndV (dCall sp_law_fractions_right [] (wd Ed) (dCons (dVar 0) (dCons (dVar 1) dNil))) (dCall sp_law_ring_alone_right [] (wd Ed) (dCons (dVar 0) (dCons (dVar 1) dNil)))))))))
theorem st_law_is_one (a0 : D) : startD N_law_is_one [a0] = [some a0, none, none] := rfl
abbrev N_law : List Str := ["_law_script", "_law_at", "_law_urn_here", "_law_some", "_law_one", "_law_other", "_law_turn", "_law_stair"]
def t_law (Ed : XKD) : TSD :=
  (dSeq (dFor (dRng1 (dCons (dCB rdMax2 (dCons (dC (.int 1)) (dCons (dCB rdMin2 (dCons (dC (.int 3)) (dCons (dCB rdLen (dCons (dVar 0) dNil)) dNil))) dNil))) dNil)) (dName 1)
  (dSeq (dSet 2 (dCall sp_law_urn [] (wd Ed) (dCons (dVar 0) (dCons (dVar 1) dNil))))
  (dSeq (dSet 3 (dComp (dRng1 (dCons (dC (.int 3)) dNil)) (dName 6) dYes (dCall sp_law_small_stair [] wd0 (dCons (dVar 2) dNil)) [6]))
  (dSeq (dSet 3 (dOp rdAdd (dVar 3) (dLst (dCons (dMeth "Stair" "behind" sp_Stair_behind [] (wd Ed) (dOp rdIx (dVar 3) (dC (.int 0))) (dCons (dOp rdAdd (dC (.int 1)) (dCall sp_law_draw [] (wd Ed) (dCons (dVar 2) (dCons (dC (.int 9)) dNil)))) dNil)) (dCons (dMake "Stair" sp_Stair___init__ [] (wd Ed) (dCons (dMeth "Stair" "ahead" sp_Stair_ahead [] (wd Ed) (dOp rdIx (dVar 3) (dC (.int 1))) dNil) (dCons (dOp rdMulA (dMeth "Stair" "ring" sp_Stair_ring [] (wd Ed) (dOp rdIx (dVar 3) (dC (.int 1))) dNil) (dC (.int 2))) dNil))) dNil)))))
  (dSeq (dIfS (dNot (dTest (dCB rdAll (dCons (dComp (dItr (dVar 3)) (dName 7) dYes (dCall sp_law_is_one [] wd0 (dCons (dVar 7) dNil)) [7]) dNil)))) (dRet (dC (.bl false))) dNext)
  (dFor (dItr (dVar 3)) (dName 4)
  (dFor (dItr (dVar 3)) (dName 5)
  (dIfS (dTest (dOp rdNe (dOp (rdEqI "Stair" sp_Stair___eq__) (dVar 4) (dVar 5)) (dOp (rdEqI "Root" sp_Root___eq__) (dMeth "Stair" "number" sp_Stair_number [] (wd Ed) (dVar 4) dNil) (dMeth "Stair" "number" sp_Stair_number [] (wd Ed) (dVar 5) dNil)))) (dRet (dC (.bl false))) dNext))))))))
  (dRet (dC (.bl true))))
theorem st_law (a0 : D) : startD N_law [a0] = [some a0, none, none, none, none, none, none, none] := rfl

local macro_rules | `(tactic| walk_at "dy") => `(tactic| simp only [dCall, List.append_nil, dSeq, dSet, dIfS, dRet, dNext, dTest, dOp, dCB, dCons, dNil, dC, x_var0, x_varS, dTup, dLst, dLstO, dAndV, dOrV, dNotV, dAnd, dOr, dNot, dIf, dChain, dChain3, dStore, dBM, dDrop, dAsg, dTupG, x_tupL, x_tupX, dPlain, x_mulL, x_eqO_ss, x_neO_ss, dBM0, dGCons, dGNil, dName, dUn, dPar, dPar3, dSl, dPart, dNoPart, dRev, dBk, dFor, dItr, dRng1, dRng2,
  x_add_ii, x_add_ib, x_add_ss, x_add_tt, x_add_ll, x_sub, x_mul, x_mul_s, x_mulA, x_mulA_s, x_mulA_t, dCallK, sel_n1, sel_n2, sel_x2, sel_12, dZip, zipR, x_fdiv, x_mod, x_pow, x_neg, x_lt, x_le, x_gt, x_ge, x_eq_ii, x_eq_ss, x_eq_bb, x_ne_ii, x_ne_ss, x_ne_bb, x_abs, x_str_i, x_str_s, x_divmod, x_max2, x_min2, x_int_i, x_int_b, x_tupA_l, x_tupA_t, x_tupA_s, x_listA_l, x_listA_t, x_listA_s, x_sl_t, x_sl_l, x_sl_s, x_ixs, x_ixQ, x_ixS, atI_0, atI_1, atI_2, atI_3, x_inS, x_inT, x_notInT, dKin, dHT, dKeyed, keyR, dSumT, x_is_bb, x_isNot_bb, x_is_n, x_isNot_n, x_count, tyM,
  x_len_tup, x_len_lst, x_len_str, x_ixt, x_ixl, x_isi, isi_non_int, isi_non_bool, isi_non_str, isi_non_tuple, isi_non_list, isi_bl_int, isi_bl_bool, isi_bl_str, isi_bl_tuple, isi_bl_list, isi_int_int, isi_int_bool, isi_int_str, isi_int_tuple, isi_int_list, isi_str_int, isi_str_bool, isi_str_str, isi_str_tuple, isi_str_list, isi_tup_int, isi_tup_bool, isi_tup_str, isi_tup_tuple, isi_tup_list, isi_lst_int, isi_lst_bool, isi_lst_str, isi_lst_tuple, isi_lst_list,
  List.set_cons_zero, List.set_cons_succ, ite_tt, ite_ff, Bool.not_true, Bool.not_false, List.length_cons, List.length_nil, true_and, and_true, Nat.reduceAdd, Nat.reduceLeDiff, decide_eq_true_eq, Bool.not_eq_true', decide_eq_false_iff_not, reduceCtorEq, eq_self, if_false, if_true])

theorem pure_is_whole : ∀ ds S Q Ed, sp_is_whole ds S Q Ed → t_is_whole Ed { nx := fun _ S' => Q .non S', rt := Q } (startD N_is_whole ds) S := by
  rintro ds S Q Ed ⟨d, rfl, hd, q⟩
  rw [st_is_whole]
  unfold t_is_whole
  cases d <;> first | (walk_at "dy"; exact q) | exact absurd (show false = true from hd) Bool.false_ne_true

theorem pure_shared_by : ∀ ds S Q Ed, sp_shared_by ds S Q Ed → t_shared_by Ed { nx := fun _ S' => Q .non S', rt := Q } (startD N_shared_by ds) S := by
  rintro ds S Q Ed ⟨a, b, rfl, q⟩
  rw [st_shared_by]
  unfold t_shared_by
  walk_at "dy"
  have ab : ∀ x : Int, (if x < 0 then -x else x) = (x.natAbs : Int) := fun x => by split <;> omega
  rw [ab, ab]
  refine while_inv (fun m σ S' => ∃ x y : Nat, σ = [some (.int x), some (.int y)] ∧ S' = S ∧ Nat.gcd x y = Int.gcd a b ∧ m = y) b.natAbs ⟨_, _, rfl, rfl, rfl, rfl⟩ ?_
  rintro m σ S' N ⟨x, y, rfl, rfl, e, rfl⟩ k
  walk_at "dy"
  by_cases c : 0 < (m : Int)
  · rw [if_pos c]
    refine ⟨by omega, ?_⟩
    have e2 : (x : Int).fmod (m : Int) = ((x % m : Nat) : Int) := by rw [Int.fmod_eq_emod_of_nonneg _ (by omega)]; rfl
    rw [e2]
    refine k (x % m) _ _ (Nat.mod_lt _ (by omega)) ⟨m, x % m, rfl, rfl, ?_, rfl⟩
    rw [← e, Nat.gcd_comm x m, Nat.gcd_rec m x, Nat.gcd_comm]
  · rw [if_neg c]
    have e3 : m = 0 := by omega
    subst e3
    rw [Nat.gcd_zero_right] at e
    rw [e]
    exact q

theorem sg_dec (x : Int) : (if decide (x > 0) = true then (1 : Int) else 0) - (if decide (x < 0) = true then 1 else 0) = sgI x := by
  unfold sgI
  simp only [decide_eq_true_eq, gt_iff_lt]
theorem pure_sign_in : ∀ ds S Q Ed, sp_sign_in ds S Q Ed → t_sign_in Ed { nx := fun _ S' => Q .non S', rt := Q } (startD N_sign_in ds) S := by
  rintro ds S Q Ed ⟨x, rfl, q⟩
  rw [st_sign_in]
  unfold t_sign_in
  rw [← sg_dec] at q
  simp only [decide_eq_true_eq] at q
  walk_at "dy"
  exact q

theorem bits_root {x : Int} (h2 : 2 ≤ x) (hx : x.natAbs < 2 ^ 8500) : ∃ h : Nat, ((Builtin.Int.intBits x : Nat) + 1 : Int).fdiv 2 = (h : Int) ∧ h ≤ 4251 ∧ x < 2 ^ h * 2 ^ h := by
  have e : Builtin.Int.intBits x = x.natAbs.log2 + 1 := by
    unfold Builtin.Int.intBits
    rw [if_neg (by simp; omega)]
  refine ⟨(x.natAbs.log2 + 1 + 1) / 2, ?_, ?_, ?_⟩
  · rw [e, Int.fdiv_eq_ediv_of_nonneg _ (by decide)]
    omega
  · have := (Nat.log2_lt (show x.natAbs ≠ 0 by omega)).mpr hx
    omega
  · have l := Nat.lt_log2_self (n := x.natAbs)
    have m : 2 ^ (x.natAbs.log2 + 1) ≤ 2 ^ ((x.natAbs.log2 + 1 + 1) / 2 + (x.natAbs.log2 + 1 + 1) / 2) := Nat.pow_le_pow_right (by decide) (by omega)
    rw [Nat.pow_add 2 ((x.natAbs.log2 + 1 + 1) / 2)] at m
    have n : x.natAbs < 2 ^ ((x.natAbs.log2 + 1 + 1) / 2) * 2 ^ ((x.natAbs.log2 + 1 + 1) / 2) := Nat.lt_of_lt_of_le l m
    generalize (x.natAbs.log2 + 1 + 1) / 2 = h at n
    have e2 : ((2 ^ h * 2 ^ h : Nat) : Int) = 2 ^ h * 2 ^ h := by simp
    omega
theorem pure_side_of : ∀ ds S Q Ed, sp_side_of ds S Q Ed → t_side_of Ed { nx := fun _ S' => Q .non S', rt := Q } (startD N_side_of ds) S := by
  rintro ds S Q Ed ⟨x, rfl, x0, hx, q⟩
  rw [st_side_of]
  unfold t_side_of
  refine seq_step fun r hr => ?_
  walk_at "dy"
  by_cases c : x < 2
  · rw [if_pos c]
    have : x = 0 ∨ x = 1 := by omega
    rcases this with rfl | rfl
    · exact q 0 (by decide) (by decide) (by decide)
    · exact q 1 (by decide) (by decide) (by decide)
  rw [if_neg c]
  have x2 : 2 ≤ x := by omega
  obtain ⟨r0, ra, rb⟩ := root_ex x.toNat
  have ra' : ((r0 : Nat) : Int) * r0 ≤ x := by
    have : ((r0 * r0 : Nat) : Int) ≤ x := by omega
    rw [Int.natCast_mul] at this
    exact this
  have rb' : x < ((r0 : Nat) + 1 : Int) * ((r0 : Nat) + 1) := by
    have : x < (((r0 + 1) * (r0 + 1) : Nat) : Int) := by omega
    rw [Int.natCast_mul, Int.natCast_add] at this
    exact this
  obtain ⟨h, eh, h1, h2⟩ := bits_root x2 hx
  subst hr
  refine seq_step fun r hr => ?_
  walk_at "dy"
  unfold dBits
  walk_at "dy"
  simp only [bitsQ]
  walk_at "dy"
  refine ⟨⟨by decide, by decide⟩, ?_⟩
  rw [eh]
  have p1 : (1 : Int) ≤ 2 ^ h := by
    have : (1 : Nat) ≤ 2 ^ h := Nat.one_le_two_pow
    have e : ((2 ^ h : Nat) : Int) = 2 ^ h := by simp
    omega
  have p2 : (2 : Int) ^ h ≤ 2 ^ 4251 := by
    have : (2 : Nat) ^ h ≤ 2 ^ 4251 := Nat.pow_le_pow_right (by decide) h1
    have e : ((2 ^ h : Nat) : Int) = 2 ^ h := by simp
    have e2 : ((2 ^ 4251 : Nat) : Int) = 2 ^ 4251 := by simp
    rw [← e, ← e2]
    exact Int.ofNat_le.mpr this
  have goS : ∀ (Q' : DK), Q' (.int (2 ^ h)) S → rdShl (.int 1) (.int (h : Nat)) S Q' := fun Q' q' => by
    refine ⟨⟨by omega, by omega, by decide⟩, ?_⟩
    rw [Int.toNat_natCast, Int.one_mul]
    exact q'
  refine goS _ ?_
  generalize hs : (2 : Int) ^ h = s0 at *
  have sb : ∀ s : Int, 1 ≤ s → s ≤ 2 ^ 4251 → s.natAbs.log2 < 9000 := fun s s1 s2 => by
    have e2 : ((2 ^ 4251 : Nat) : Int) = 2 ^ 4251 := by simp
    have : s.natAbs < 2 ^ 4252 := by
      have : (2 : Nat) ^ 4252 = 2 * 2 ^ 4251 := by rw [show 4252 = 1 + 4251 from rfl, Nat.pow_add]
      have p0 : 0 < (2 : Nat) ^ 4251 := Nat.pow_pos (by decide)
      omega
    have := log2_lt this (by decide)
    omega
  have rs : ((r0 : Nat) : Int) ≤ s0 := by
    rcases Int.lt_or_le s0 (r0 : Nat) with c | c
    · have : s0 * s0 ≤ ((r0 : Nat) : Int) * r0 := Int.mul_le_mul (by omega) (by omega) (by omega) (by omega)
      omega
    · exact c
  subst hr
  refine seq_step fun r hr => ?_
  walk_at "dy"
  refine ⟨⟨by omega, sb s0 p1 p2⟩, ⟨by decide, by decide⟩, ?_⟩
  rw [Int.fdiv_eq_ediv_of_nonneg x (by omega : (0 : Int) ≤ s0), Int.fdiv_eq_ediv_of_nonneg _ (by decide : (0 : Int) ≤ 2)]
  subst hr
  refine seq_step fun r hr => ?_
  refine while_inv (fun m σ S' => ∃ s : Int, σ = [some (.int x), some (.int s), some (.int ((s + x / s) / 2))] ∧ S' = S ∧ 1 ≤ s ∧ s ≤ 2 ^ 4251 ∧ ((r0 : Nat) : Int) ≤ s ∧ m = s.toNat) s0.toNat ⟨s0, rfl, rfl, p1, p2, rs, rfl⟩ ?_
  rintro m σ S' N ⟨s, rfl, rfl, s1, s2, rs', rfl⟩ k
  walk_at "dy"
  have hl := heron_le s1 (by omega : (0 : Int) ≤ (r0 : Nat)) ra'
  have r1 : (1 : Int) ≤ (r0 : Nat) := by
    rcases Nat.eq_zero_or_pos r0 with c | c
    · subst c
      simp at rb'
      omega
    · omega
  by_cases c2 : (s + x / s) / 2 < s
  · rw [if_pos c2]
    generalize ht : (s + x / s) / 2 = t at c2 hl ⊢
    refine ⟨⟨by omega, sb t (by omega) (by omega)⟩, ⟨by decide, by decide⟩, ?_⟩
    rw [Int.fdiv_eq_ediv_of_nonneg x (by omega : (0 : Int) ≤ t), Int.fdiv_eq_ediv_of_nonneg _ (by decide : (0 : Int) ≤ 2)]
    exact k _ _ _ (by omega) ⟨t, rfl, rfl, by omega, by omega, hl, rfl⟩
  · rw [if_neg c2]
    subst hr
    walk_at "dy"
    have hs2 := heron_stop (x := x) s1 (by omega)
    have e : s = (r0 : Nat) := by
      rcases Int.lt_or_le (r0 : Nat) s with c | c
      · have : ((r0 : Nat) + 1 : Int) * ((r0 : Nat) + 1) ≤ s * s := Int.mul_le_mul (by omega) (by omega) (by omega) (by omega)
        omega
      · omega
    rw [e]
    exact q (r0 : Nat) (by omega) ra' rb'

theorem isSqB_root {x y : Int} (y0 : 0 ≤ y) (h1 : y * y ≤ x) (h2 : x < (y + 1) * (y + 1)) : isSqB x = decide (y * y = x) := by
  by_cases c : y * y = x
  · rw [isSqB_true y0 c, decide_eq_true c]
  · rw [decide_eq_false c]
    exact isSqB_false (sq_between y0 (by omega) h2)
theorem pure_is_square : ∀ ds S Q Ed, sp_is_square ds S Q Ed → t_is_square Ed { nx := fun _ S' => Q .non S', rt := Q } (startD N_is_square ds) S := by
  rintro ds S Q Ed ⟨x, rfl, hx, q⟩
  rw [st_is_square]
  unfold t_is_square
  walk_at "dy"
  by_cases x0 : 0 ≤ x
  · simp only [x0, decide_true, if_true]
    try walk_at "dy"
    refine ⟨x, rfl, x0, Nat.lt_of_lt_of_le hx (Nat.pow_le_pow_right (by decide) (by decide)), fun y y0 h1 h2 => ?_⟩
    rw [isSqB_root y0 h1 h2] at q
    try walk_at "dy"
    have yx : y ≤ x + 1 := by
      rcases Int.lt_or_le y 1 with c | c
      · omega
      · have : y * 1 ≤ y * y := Int.mul_le_mul_of_nonneg_left c (by omega)
        omega
    have yb : y.natAbs.log2 < 8002 := by
      have : y.natAbs < 2 ^ 8002 := by
        have e : (2 : Nat) ^ 8002 = 4 * 2 ^ 8000 := by rw [show 8002 = 2 + 8000 from rfl, Nat.pow_add]
        have p : 0 < (2 : Nat) ^ 8000 := Nat.pow_pos (by decide)
        omega
      exact log2_lt this (by decide)
    refine ⟨⟨by decide, by omega⟩, ?_⟩
    rw [show y ^ (2 : Int).toNat = y * y by show y ^ 2 = y * y; grind]
    exact q
  · simp only [x0, decide_false]
    try walk_at "dy"
    rw [isSqB_false (fun y y0 e => by have := Int.mul_nonneg y0 y0; omega)] at q
    exact q

theorem pure_is_under_root : ∀ ds S Q Ed, sp_is_under_root ds S Q Ed → t_is_under_root Ed { nx := fun _ S' => Q .non S', rt := Q } (startD N_is_under_root ds) S := by
  rintro ds S Q Ed ⟨d, rfl, hd, q⟩
  rw [st_is_under_root]
  unfold t_is_under_root
  walk_at "dy"
  refine ⟨d, rfl, sm_data hd, ?_⟩
  cases d with
  | int n =>
    simp only [isWh]
    try walk_at "dy"
    unfold undB at q
    by_cases c : 2 ≤ n
    · simp only [ge_iff_le, c, decide_true, Bool.true_and] at q ⊢
      try walk_at "dy"
      refine ⟨n, rfl, sm_int.mp hd, ?_⟩
      try walk_at "dy"
      cases e : isSqB n with
      | true => rw [e] at q; exact q
      | false => rw [e] at q; exact q
    · simp only [ge_iff_le, c, decide_false, Bool.false_and] at q ⊢
      try walk_at "dy"
      exact q
  | _ => first | (simp only [isWh]; exact q) | (simp only [isWh]; walk_at "dy"; exact q)

theorem pure_is_bottom : ∀ ds S Q Ed, sp_is_bottom ds S Q Ed → t_is_bottom Ed { nx := fun _ S' => Q .non S', rt := Q } (startD N_is_bottom ds) S := by
  rintro ds S Q Ed ⟨d, rfl, hd, q⟩
  rw [st_is_bottom]
  unfold t_is_bottom
  walk_at "dy"
  refine ⟨d, rfl, hd, ?_⟩
  cases d with
  | int n =>
    simp only [isWh]
    try walk_at "dy"
    exact q
  | _ => first | (simp only [isWh]; exact q) | (simp only [isWh]; walk_at "dy"; exact q)

theorem pure_look_parts : ∀ ds S Q Ed, sp_look_parts ds S Q Ed → t_look_parts Ed { nx := fun _ S' => Q .non S', rt := Q } (startD N_look_parts ds) S := by
  rintro ds S Q Ed ⟨t, o, s, b, rfl, ht, ho, hs, hb, q1, q2⟩
  rw [st_look_parts]
  unfold t_look_parts
  unfold badP at q1 q2
  generalize hB : (dSeq (dSet 3 (dKix k_LOOKS (dVar 1))) (dIfS (dNot (dTest (dCallV 3 [("is_whole", sp_is_whole), ("is_under_root", sp_is_under_root), ("is_bottom", sp_is_bottom)] (wd Ed) (dCons (dVar 2) dNil)))) (dRaiseF1 (wd Ed) "NoNumber" "part" (dCons (dVar 1) dNil)) dNext)) = body
  -- one turn: the part stands (k), or the name is told
  have turn : ∀ (z fn : Str) (sp : SpD) (bo : Bool) (d : D) (D : EndsD) (y3 : Option Dv.D), k_LOOKS z = some (.fn fn) → (fn, sp) ∈ [((("is_whole" : Str)), sp_is_whole), ("is_under_root", sp_is_under_root), ("is_bottom", sp_is_bottom)] →
      (∀ (Q' : DK) E', Q' (.bl bo) S → sp [d] S Q' E') → (bo = true → D.nx [some (.tup [t, o, s, b]), some (.str z), some d, some (.fn fn)] S) → (bo = false → Ed ⟨"NoNumber", ["part"], [.str z]⟩ S) →
      body D [some (.tup [t, o, s, b]), some (.str z), some d, y3] S := fun z fn sp bo d D y3 hk hm hsp hn hE => by
    subst hB
    refine seq_step fun r hr => ?_
    unfold dKix
    walk_at "dy"
    rw [hk]
    dsimp only
    subst hr
    unfold dCallV
    walk_at "dy"
    refine ⟨fn, sp, rfl, hm, ?_⟩
    try walk_at "dy"
    refine hsp _ _ ?_
    cases bo with
    | true =>
      try walk_at "dy"
      exact hn rfl
    | false =>
      try walk_at "dy"
      exact hE rfl
  refine (show 4 = 4 ∧ dLoop (dTupG 2 (dGCons (dName 1) (dGCons (dName 2) dGNil))) body { nx := fun _ S' => Q .non S', rt := Q } [.tup [.str "top", t], .tup [.str "often", o], .tup [.str "square", s], .tup [.str "bottom", b]] [some (.tup [t, o, s, b]), none, none, none] S from ⟨rfl, ?_⟩)
  generalize hE : ({ nx := fun _ S' => Q .non S', rt := Q } : EndsD) = E0
  have st : ∀ (z : Str) (d : Dv.D) (r : List Dv.D) (y1 y2 y3 : Option Dv.D), body { E0 with nx := dLoop (dTupG 2 (dGCons (dName 1) (dGCons (dName 2) dGNil))) body E0 r, ct := dLoop (dTupG 2 (dGCons (dName 1) (dGCons (dName 2) dGNil))) body E0 r, bk := E0.nx } [some (.tup [t, o, s, b]), some (.str z), some d, y3] S →
      dLoop (dTupG 2 (dGCons (dName 1) (dGCons (dName 2) dGNil))) body E0 (.tup [.str z, d] :: r) [some (.tup [t, o, s, b]), y1, y2, y3] S := fun z d r y1 y2 y3 h => by
    rw [dLoop]
    walk_at "dy"
    exact h
  refine st _ _ _ _ _ _ (turn "top" "is_whole" sp_is_whole (isWh t) t _ _ look_top (.head _) (fun Q' E' q' => ⟨t, rfl, sm_data ht, q'⟩) (fun e1 => ?_) (fun e1 => q2 _ (by rw [if_pos e1])))
  rw [if_neg (by rw [e1]; decide)] at q1 q2
  refine st _ _ _ _ _ _ (turn "often" "is_whole" sp_is_whole (isWh o) o _ _ look_often (.head _) (fun Q' E' q' => ⟨o, rfl, sm_data ho, q'⟩) (fun e2 => ?_) (fun e2 => q2 _ (by rw [if_pos e2])))
  rw [if_neg (by rw [e2]; decide)] at q1 q2
  refine st _ _ _ _ _ _ (turn "square" "is_under_root" sp_is_under_root (undB s) s _ _ look_square (.tail _ (.head _)) (fun Q' E' q' => ⟨s, rfl, hs, q'⟩) (fun e3 => ?_) (fun e3 => q2 _ (by rw [if_pos e3])))
  rw [if_neg (by rw [e3]; decide)] at q1 q2
  refine st _ _ _ _ _ _ (turn "bottom" "is_bottom" sp_is_bottom (botB b) b _ _ look_bottom (.tail _ (.tail _ (.head _))) (fun Q' E' q' => ⟨b, rfl, sm_data hb, q'⟩) (fun e4 => ?_) (fun e4 => q2 _ (by rw [if_pos e4])))
  rw [if_neg (by rw [e4]; decide)] at q1
  subst hE
  exact q1 rfl

theorem ab_abs {x : Int} {n : Nat} (h : x.natAbs < 2 ^ n) : (if x < 0 then -x else x).natAbs < 2 ^ n := by split <;> omega
theorem pure_sign_of : ∀ ds S Q Ed, sp_sign_of ds S Q Ed → t_sign_of Ed { nx := fun _ S' => Q .non S', rt := Q } (startD N_sign_of ds) S := by
  rintro ds S Q Ed ⟨T, O, q, rfl, bT, bO, bq, q'⟩
  rw [st_sign_of]
  unfold t_sign_of
  walk_at "dy"
  refine ⟨mulOk 3400 3400 bT (ab_abs bT) (by decide) (by decide) (by decide), mulOk 3400 3400 bq bO (by decide) (by decide) (by decide), mulOk (3400 + 3400) 3400 (wide_lt bq bO) (ab_abs bO) (by decide) (by decide) (by decide), ?_⟩
  exact ⟨_, rfl, q'⟩

theorem pure_sign_of_two : ∀ ds S Q Ed, sp_sign_of_two ds S Q Ed → t_sign_of_two Ed { nx := fun _ S' => Q .non S', rt := Q } (startD N_sign_of_two ds) S := by
  rintro ds S Q Ed ⟨u, f, q, s, p, rfl, bu, bf, bq, bs, bp, q'⟩
  rw [st_sign_of_two]
  unfold t_sign_of_two
  have up : ∀ {x : Int} {n : Nat}, x.natAbs < 2 ^ n → n ≤ 3400 → x.natAbs < 2 ^ 3400 := fun h k => Nat.lt_of_lt_of_le h (Nat.pow_le_pow_right (by decide) k)
  have sgb : ∀ x : Int, (sgI x).natAbs < 2 ^ 2 := fun x => by rcases sg_val x with e | e | e <;> rw [e] <;> decide
  have u2 := wide_lt bu bu
  have f2 := wide_lt bf bf
  have s2 := wide_lt bs bs
  have fq := wide_lt f2 bq
  have sp := wide_lt s2 bp
  have lb : (u * u + f * f * q - s * s * p).natAbs < 2 ^ 3030 := by
    have p1 : (2 : Nat) ^ (1300 + 1300) ≤ 2 ^ (1300 + 1300 + 330) := Nat.pow_le_pow_right (by decide) (by decide)
    have p2 : (2 : Nat) ^ 3030 = 2 ^ 100 * 2 ^ (1300 + 1300 + 330) := by rw [← Nat.pow_add]
    have p3 : 1024 * 2 ^ (1300 + 1300 + 330) ≤ (2 : Nat) ^ 100 * 2 ^ (1300 + 1300 + 330) := Nat.mul_le_mul_right _ (by decide)
    omega
  have ub : (2 * u * f).natAbs < 2 ^ 2602 := by
    have := wide_lt (wide_lt (show (2 : Int).natAbs < 2 ^ 2 by decide) bu) bf
    exact Nat.lt_of_lt_of_le this (Nat.pow_le_pow_right (by decide) (by decide))
  refine seq_step fun r hr => ?_
  walk_at "dy"
  refine ⟨u, f, q, rfl, up bu (by decide), up bf (by decide), up bq (by decide), ?_⟩
  refine ⟨s, rfl, ?_⟩
  try walk_at "dy"
  subst hr
  refine seq_step fun r hr => ?_
  walk_at "dy"
  refine ⟨mulOk 2 2 (sgb _) (sgb _) (by decide) (by decide) (by decide), ?_⟩
  unfold s2I at q'
  by_cases c : 0 ≤ sgI (rtF u f q) * sgI s
  · rw [if_pos c] at q' ⊢
    refine ⟨_, rfl, ?_⟩
    try walk_at "dy"
    exact q'
  rw [if_neg c] at q' ⊢
  have lg : ∀ {x : Int} {n : Nat}, x.natAbs < 2 ^ n → n ≤ 4000 → x.natAbs.log2 < 4001 := fun h k => by
    have := log2_lt (Nat.lt_of_lt_of_le h (Nat.pow_le_pow_right (by decide) k)) (by decide)
    omega
  have e2 : ∀ x : Int, x ^ (2 : Int).toNat = x * x := fun x => by show x ^ 2 = x * x; grind
  subst hr
  refine seq_step fun r hr => ?_
  walk_at "dy"
  refine ⟨⟨by decide, by have := lg bu (by decide); omega⟩, ⟨by decide, by have := lg bf (by decide); omega⟩, ?_⟩
  rw [e2, e2]
  refine ⟨mulOk (1300 + 1300) 330 f2 bq (by decide) (by decide) (by decide), ⟨by decide, by have := lg bs (by decide); omega⟩, ?_⟩
  rw [e2]
  refine ⟨mulOk (1300 + 1300) 330 s2 bp (by decide) (by decide) (by decide), ?_⟩
  subst hr
  walk_at "dy"
  refine ⟨mulOk 2 1300 (by decide) bu (by decide) (by decide) (by decide), mulOk (2 + 1300) 1300 (wide_lt (show (2 : Int).natAbs < 2 ^ 2 by decide) bu) bf (by decide) (by decide) (by decide), ?_⟩
  refine ⟨_, _, q, rfl, up lb (by decide), up ub (by decide), up bq (by decide), ?_⟩
  try walk_at "dy"
  exact ⟨mulOk 2 2 (sgb _) (sgb _) (by decide) (by decide) (by decide), q'⟩

/-- a new number -/
theorem rt_make {P : List Str → List D → Sd → Prop} {T O q B : Int} {n : Nat} {S : Sd} {E : XKD} {a : Addr} (R : RtI n T O q B) (hn : n ≤ 8000) (ha : S a = none) (k : ∀ S2, Dv.del S2 a = S → P ["held"] [lowD T O q B] S2) :
    sp_Root___init__ [.obj a, .int T, .int O, .int q, .int B] (upS S a (.ins "Root" [] [])) (fun v S2 => v = .non ∧ ∃ ns ys, S2 a = some (.ins "Root" ns ys) ∧ P ns ys S2) E := by
  have R := R.mono hn
  refine ⟨a, _, _, _, _, rfl, sm_int.mpr R.bT, sm_int.mpr R.bO, sm_int.mpr R.bq, sm_int.mpr R.bB, upS_same, fun T' O' q'' B' e1 e2 e3 e4 _ => ?_, fun z hz => ?_⟩
  · cases e1
    cases e2
    cases e3
    cases e4
    exact ⟨rfl, _, _, upS_same, k _ (by rw [upS_upS, del_upS ha])⟩
  · rw [okP_bad R.q2 R.sq R.B1] at hz
    cases hz
theorem low_ok {n : Nat} {T O q B : Int} (R : RtI n T O q B) : RtI n (T.fdiv (gR T O B)) (O.fdiv (gR T O B)) q (B.fdiv (gR T O B)) ∧ Int.gcd (Int.gcd (T.fdiv (gR T O B)) (O.fdiv (gR T O B)) : Nat) (B.fdiv (gR T O B)) = 1 := by
  obtain ⟨g1, g2⟩ := gR_pos (T := T) (O := O) R.B1
  have dg : gR T O B ∣ (Int.gcd T O : Nat) := by unfold gR; exact Int.gcd_dvd_left ..
  have dB : gR T O B ∣ B := by unfold gR; exact Int.gcd_dvd_right ..
  have dT : gR T O B ∣ T := Int.dvd_trans dg (Int.gcd_dvd_left ..)
  have dO : gR T O B ∣ O := Int.dvd_trans dg (Int.gcd_dvd_right ..)
  have top : ∀ c : Int, c ∣ T → c ∣ O → c ∣ B → c ∣ gR T O B := fun c h1 h2 h3 => by
    unfold gR
    exact Int.dvd_coe_gcd (Int.dvd_coe_gcd h1 h2) h3
  rw [Int.fdiv_eq_ediv_of_nonneg T (by omega), Int.fdiv_eq_ediv_of_nonneg O (by omega), Int.fdiv_eq_ediv_of_nonneg B (by omega)]
  generalize gR T O B = g at *
  obtain ⟨T', rfl⟩ := dT
  obtain ⟨O', rfl⟩ := dO
  obtain ⟨B', rfl⟩ := dB
  have g0 : g ≠ 0 := by omega
  rw [Int.mul_ediv_cancel_left _ g0, Int.mul_ediv_cancel_left _ g0, Int.mul_ediv_cancel_left _ g0]
  have le : ∀ x : Int, x.natAbs ≤ (g * x).natAbs := fun x => by
    rw [Int.natAbs_mul]
    have : 1 ≤ g.natAbs := by omega
    calc x.natAbs = 1 * x.natAbs := by omega
      _ ≤ g.natAbs * x.natAbs := Nat.mul_le_mul_right _ this
  have b1 : 1 ≤ B' := by
    have h := R.B1
    rcases Int.lt_or_le 0 B' with c | c
    · omega
    · have : g * B' ≤ g * 0 := Int.mul_le_mul_of_nonneg_left c (by omega)
      omega
  refine ⟨⟨Nat.lt_of_le_of_lt (le T') R.bT, Nat.lt_of_le_of_lt (le O') R.bO, R.bq, Nat.lt_of_le_of_lt (le B') R.bB, R.q2, R.sq, b1⟩, ?_⟩
  have hd : ((Int.gcd (Int.gcd T' O' : Nat) B' : Nat) : Int) ∣ 1 := by
    have e1 : ((Int.gcd (Int.gcd T' O' : Nat) B' : Nat) : Int) ∣ (Int.gcd T' O' : Nat) := Int.gcd_dvd_left ..
    have eB : ((Int.gcd (Int.gcd T' O' : Nat) B' : Nat) : Int) ∣ B' := Int.gcd_dvd_right ..
    have eT : ((Int.gcd (Int.gcd T' O' : Nat) B' : Nat) : Int) ∣ T' := Int.dvd_trans e1 (Int.gcd_dvd_left ..)
    have eO : ((Int.gcd (Int.gcd T' O' : Nat) B' : Nat) : Int) ∣ O' := Int.dvd_trans e1 (Int.gcd_dvd_right ..)
    generalize ((Int.gcd (Int.gcd T' O' : Nat) B' : Nat) : Int) = d at *
    obtain ⟨k, hk⟩ := top (g * d) (Int.mul_dvd_mul_left g eT) (Int.mul_dvd_mul_left g eO) (Int.mul_dvd_mul_left g eB)
    refine ⟨k, ?_⟩
    have : g * 1 = g * (d * k) := by rw [← Int.mul_assoc, ← hk]; omega
    exact Int.eq_of_mul_eq_mul_left g0 this
  have h1 := Int.natAbs_dvd_natAbs.mpr hd
  simpa using h1
theorem low_id {T O q B : Int} (h : Int.gcd (Int.gcd T O : Nat) B = 1) : lowD T O q B = ptD T O q B := by
  unfold lowD gR
  rw [h]
  have e : ∀ x : Int, x.fdiv ((1 : Nat) : Int) = x := fun x => by rw [Int.fdiv_eq_ediv_of_nonneg _ (by decide)]; omega
  rw [e, e, e]
theorem pure_Root___init__ : ∀ ds S Q Ed, sp_Root___init__ ds S Q Ed → t_Root___init__ Ed { nx := fun _ S' => Q .non S', rt := Q } (startD N_Root___init__ ds) S := by
  rintro ds S Q Ed ⟨a, t, o, s, b, rfl, ht, ho, hs, hb, ha, q1, q2⟩
  rw [st_Root___init__]
  unfold t_Root___init__
  refine seq_step fun r hr => ?_
  walk_at "dy"
  refine ⟨t, o, s, b, rfl, ht, ho, hs, hb, fun hn => ?_, q2⟩
  obtain ⟨T, O, q, B, rfl, rfl, rfl, rfl, h2, h3, h4⟩ := badP_ok hn
  have q1 := q1 T O q B rfl rfl rfl rfl hn
  obtain ⟨g1, g2⟩ := gR_pos (T := T) (O := O) h4
  have gb : (gR T O B).natAbs.log2 < 9000 := by
    have h := sm_int.mp hb
    have : (gR T O B).natAbs < 2 ^ 8000 := by omega
    have := log2_lt this (by decide)
    omega
  subst hr
  refine seq_step fun r hr => ?_
  walk_at "dy"
  refine ⟨T, O, rfl, ?_⟩
  refine ⟨_, B, rfl, ?_⟩
  try walk_at "dy"
  subst hr
  unfold dPut
  walk_at "dy"
  refine ⟨⟨by show gR T O B ≠ 0; omega, gb⟩, ⟨by show gR T O B ≠ 0; omega, gb⟩, ⟨by show gR T O B ≠ 0; omega, gb⟩, ?_⟩
  exact ⟨a, [], [], rfl, ha, by simp, by decide, q1⟩

theorem pure_Root_parts : ∀ ds S Q Ed, sp_Root_parts ds S Q Ed → t_Root_parts Ed { nx := fun _ S' => Q .non S', rt := Q } (startD N_Root_parts ds) S := by
  rintro ds S Q Ed ⟨d, rfl, q⟩
  rw [st_Root_parts]
  unfold t_Root_parts
  exact ⟨_, _, _, rfl, rfl, q⟩

theorem pure_Root___eq__ : ∀ ds S Q Ed, sp_Root___eq__ ds S Q Ed → t_Root___eq__ Ed { nx := fun _ S' => Q .non S', rt := Q } (startD N_Root___eq__ ds) S := by
  rintro ds S Q Ed ⟨T, O, q, B, T2, O2, q2, B2, rfl, R1, R2, q'⟩
  rw [st_Root___eq__]
  unfold t_Root___eq__
  have m : ∀ {x y : Int}, x.natAbs < 2 ^ 4000 → y.natAbs < 2 ^ 4000 → (x * y).natAbs < 2 ^ 8000 ∧ x.natAbs.log2 + y.natAbs.log2 < 1000000 := fun h k => ⟨wide_lt h k, mulOk 4000 4000 h k (by decide) (by decide) (by decide)⟩
  have e2 : ∀ x : Int, x ^ (2 : Int).toNat = x * x := fun x => by show x ^ 2 = x * x; grind
  have lg : ∀ {x : Int}, x.natAbs < 2 ^ 8000 → x.natAbs.log2 < 8000 := fun h => log2_lt h (by decide)
  have a1 := m R1.bT R2.bB
  have a2 := m R2.bT R1.bB
  have a3 := m R1.bO R2.bB
  have a4 := m R2.bO R1.bB
  refine seq_step fun r hr => ?_
  walk_at "dy"
  refine ⟨rfl, ?_⟩
  refine ⟨rfl, ?_⟩
  try walk_at "dy"
  subst hr
  refine seq_step fun r hr => ?_
  refine ⟨_, _, _, rfl, rfl, ?_⟩
  walk_at "dy"
  subst hr
  refine seq_step fun r hr => ?_
  unfold dMeth
  walk_at "dy"
  refine ⟨⟨_, _, rfl, by decide +kernel⟩, ?_⟩
  refine ⟨_, rfl, ?_⟩
  try walk_at "dy"
  subst hr
  refine seq_step fun r hr => ?_
  walk_at "dy"
  refine ⟨a1.2, a2.2, ?_⟩
  unfold eqB at q'
  by_cases c1 : T * B2 = T2 * B
  · rw [if_neg (by simp [c1])]
    rw [decide_eq_true c1, Bool.true_and] at q'
    refine ⟨_, rfl, ?_⟩
    refine ⟨_, rfl, ?_⟩
    try walk_at "dy"
    by_cases c2 : sgI O = sgI O2
    · try rw [if_neg (by simp [c2])]
      rw [decide_eq_true c2, Bool.true_and] at q'
      subst hr
      walk_at "dy"
      refine ⟨a3.2, ⟨by decide, by have := lg a3.1; omega⟩, ?_⟩
      rw [e2]
      refine ⟨mulOk (8000 + 8000) 4000 (wide_lt a3.1 a3.1) R1.bq (by decide) (by decide) (by decide), a4.2, ⟨by decide, by have := lg a4.1; omega⟩, ?_⟩
      rw [e2]
      refine ⟨mulOk (8000 + 8000) 4000 (wide_lt a4.1 a4.1) R2.bq (by decide) (by decide) (by decide), ?_⟩
      exact q'
    · try rw [if_pos c2]
      rw [decide_eq_false c2, Bool.false_and] at q'
      try walk_at "dy"
      exact q'
  · rw [if_pos c1]
    rw [decide_eq_false c1, Bool.false_and] at q'
    exact q'

theorem pure_Root_whole : ∀ ds S Q Ed, sp_Root_whole ds S Q Ed → t_Root_whole Ed { nx := fun _ S' => Q .non S', rt := Q } (startD N_Root_whole ds) S := by
  rintro ds S Q Ed ⟨T, O, q, B, rfl, R, q'⟩
  rw [st_Root_whole]
  unfold t_Root_whole
  have hO2 := wide_lt R.bO R.bO
  have hP := wide_lt hO2 R.bq
  have q2 := R.q2
  have B1 := R.B1
  have P0 : 0 ≤ O * O * q := by
    have h : 0 ≤ O * O := by
      rcases Int.le_total 0 O with c | c
      · exact Int.mul_nonneg c c
      · have := Int.mul_nonneg (a := -O) (b := -O) (by omega) (by omega)
        rw [Int.neg_mul_neg] at this
        exact this
    exact Int.mul_nonneg h (by omega)
  have lO := log2_lt R.bO (by decide)
  have gb : B.natAbs.log2 < 9000 := by
    have := log2_lt R.bB (by decide)
    omega
  refine seq_step fun r hr => ?_
  refine ⟨_, _, _, rfl, rfl, ?_⟩
  walk_at "dy"
  subst hr
  refine seq_step fun r hr => ?_
  walk_at "dy"
  have e2 : O ^ (2 : Int).toNat = O * O := by show O ^ 2 = O * O; grind
  rw [e2]
  refine ⟨⟨by decide, by omega⟩, mulOk (2500 + 2500) 2500 hO2 R.bq (by decide) (by decide) (by decide), ?_⟩
  refine ⟨O * O * q, rfl, P0, Nat.lt_of_lt_of_le hP (Nat.pow_le_pow_right (by decide) (by decide)), fun y y0 h1 h2 => ?_⟩
  have fin := q' y y0 h1 h2
  unfold sdR at fin
  subst hr
  refine seq_step fun r hr => ?_
  walk_at "dy"
  by_cases c : O < 0
  · rw [if_pos c] at fin ⊢
    subst hr
    walk_at "dy"
    exact ⟨⟨by omega, gb⟩, fin⟩
  · rw [if_neg c] at fin ⊢
    subst hr
    walk_at "dy"
    exact ⟨⟨by omega, gb⟩, fin⟩

theorem pure_Root_mate : ∀ ds S Q Ed, sp_Root_mate ds S Q Ed → t_Root_mate Ed { nx := fun _ S' => Q .non S', rt := Q } (startD N_Root_mate ds) S := by
  rintro ds S Q Ed ⟨T, O, q, B, rfl, bT, bO, bq, bB, h1, h2, h3, q'⟩
  rw [st_Root_mate]
  unfold t_Root_mate
  refine seq_step fun r hr => ?_
  refine ⟨_, _, _, rfl, rfl, ?_⟩
  walk_at "dy"
  subst hr
  unfold dMake
  walk_at "dy"
  intro a ha
  refine rt_make (n := 3400) ⟨bT, by omega, bq, bB, h1, h2, h3⟩ (by decide) ha fun S2 e2 => ?_
  rw [e2]
  exact q'

theorem pure_Root_is_below : ∀ ds S Q Ed, sp_Root_is_below ds S Q Ed → t_Root_is_below Ed { nx := fun _ S' => Q .non S', rt := Q } (startD N_Root_is_below ds) S := by
  rintro ds S Q Ed ⟨T1, O1, q1, B1, T2, O2, q2, B2, rfl, R1, R2, bq1, bq2, q'⟩
  rw [st_Root_is_below]
  unfold t_Root_is_below
  have m : ∀ {x y : Int}, x.natAbs < 2 ^ 600 → y.natAbs < 2 ^ 600 → (x * y).natAbs < 2 ^ 1200 ∧ x.natAbs.log2 + y.natAbs.log2 < 1000000 := fun h k => ⟨wide_lt h k, mulOk 600 600 h k (by decide) (by decide) (by decide)⟩
  have p1 : 4 * 2 ^ 1200 ≤ (2 : Nat) ^ 1300 := by
    have p2 : (2 : Nat) ^ 1300 = 2 ^ 100 * 2 ^ 1200 := by rw [← Nat.pow_add]
    have p3 : 4 * 2 ^ 1200 ≤ (2 : Nat) ^ 100 * 2 ^ 1200 := Nat.mul_le_mul_right _ (by decide)
    omega
  have a1 := m R2.bT R1.bB
  have a2 := m R1.bT R2.bB
  have a3 := m R2.bO R1.bB
  have a4 := m R1.bO R2.bB
  refine seq_step fun r hr => ?_
  refine ⟨_, _, _, rfl, rfl, ?_⟩
  walk_at "dy"
  subst hr
  refine seq_step fun r hr => ?_
  unfold dMeth
  walk_at "dy"
  refine ⟨⟨_, _, rfl, by decide +kernel⟩, ?_⟩
  refine ⟨_, rfl, ?_⟩
  try walk_at "dy"
  subst hr
  refine seq_step fun r hr => ?_
  walk_at "dy"
  refine ⟨a1.2, a2.2, ?_⟩
  subst hr
  walk_at "dy"
  refine ⟨a3.2, a4.2, ?_⟩
  refine ⟨_, _, _, _, _, rfl, by omega, by omega, bq2, by omega, bq1, ?_⟩
  try walk_at "dy"
  unfold lowB at q'
  exact q'

theorem pure_Root_seen_by : ∀ ds S Q Ed, sp_Root_seen_by ds S Q Ed → t_Root_seen_by Ed { nx := fun _ S' => Q .non S', rt := Q } (startD N_Root_seen_by ds) S := by
  rintro ds S Q Ed ⟨T, O, q, B, T2, O2, q2, B2, rfl, R1, R2, k1, k2⟩
  rw [st_Root_seen_by]
  unfold t_Root_seen_by
  have up : ∀ {x : Int}, x.natAbs < 2 ^ 4000 → x.natAbs < 2 ^ 100000 := fun h => big1 h (by decide)
  refine seq_step fun r hr => ?_
  refine ⟨_, _, _, rfl, rfl, ?_⟩
  walk_at "dy"
  subst hr
  refine seq_step fun r hr => ?_
  unfold dMeth
  walk_at "dy"
  refine ⟨⟨_, _, rfl, by decide +kernel⟩, ?_⟩
  refine ⟨_, rfl, ?_⟩
  try walk_at "dy"
  subst hr
  refine seq_step fun r hr => ?_
  walk_at "dy"
  by_cases c : O2 = 0
  · rw [if_pos c]
    exact k1 _ _ _ _ (.whole c)
  rw [if_neg c]
  subst hr
  refine seq_step fun r hr => ?_
  refine ifs_step fun A hA => ?_
  walk_at "dy"
  refine ⟨_, _, _, rfl, rfl, ?_⟩
  try walk_at "dy"
  by_cases d : O = 0
  · rw [if_pos d]
    subst hA
    walk_at "dy"
    exact k1 _ _ _ _ (.here c d)
  rw [if_neg d]
  subst hr
  refine seq_step fun r hr => ?_
  walk_at "dy"
  refine ⟨mul_big (up R1.bq) (up R2.bq), ?_⟩
  have x0 : 0 ≤ q * q2 := Int.mul_nonneg (by have := R1.q2; omega) (by have := R2.q2; omega)
  have xb : (q * q2).natAbs < 2 ^ (4000 + 4000) := wide_lt R1.bq R2.bq
  refine ⟨q * q2, rfl, x0, Nat.lt_of_lt_of_le xb (Nat.pow_le_pow_right (by decide) (by decide)), fun y y0 h1 h2 => ?_⟩
  try walk_at "dy"
  have yb : y.natAbs < 2 ^ 8000 := by
    have : y.natAbs ≤ (q * q2).natAbs := by
      have h3 : y ≤ y * y ∨ y = 0 := by
        rcases Int.lt_or_le 0 y with c | c
        · refine .inl ?_
          have := Int.mul_le_mul_of_nonneg_left (show 1 ≤ y by omega) (show 0 ≤ y by omega)
          omega
        · exact .inr (by omega)
      omega
    exact Nat.lt_of_le_of_lt this xb
  have e2 : y ^ Int.toNat 2 = y * y := by rw [show Int.toNat 2 = 2 from rfl, Int.pow_succ, Int.pow_succ, Int.pow_zero, Int.one_mul]
  subst hr
  refine seq_step fun r hr => ?_
  walk_at "dy"
  refine ⟨powOk 8000 2 yb (by decide) (by decide) (by decide), mul_big (up R1.bq) (up R2.bq), ?_⟩
  rw [e2]
  by_cases e : y * y = q * q2
  · try rw [if_neg (by simpa using e)]
    subst hr
    walk_at "dy"
    refine ⟨mul_big (up R2.bT) (up R1.bq), mul_big (up R2.bO) (big1 yb (by decide)), mul_big (up R2.bB) (up R1.bq), ?_⟩
    exact k1 _ _ _ _ (.both y c d y0 e)
  · try rw [if_pos (by simpa using e)]
    exact k2 ⟨c, d, isSqB_false (sq_between y0 (by omega) h2)⟩

theorem pure_Root_plus : ∀ ds S Q Ed, sp_Root_plus ds S Q Ed → t_Root_plus Ed { nx := fun _ S' => Q .non S', rt := Q } (startD N_Root_plus ds) S := by
  rintro ds S Q Ed ⟨T, O, q, B, T2, O2, q2, B2, rfl, R1, R2, k1, k2⟩
  rw [st_Root_plus]
  unfold t_Root_plus
  have up : ∀ {x : Int}, x.natAbs < 2 ^ 4000 → x.natAbs < 2 ^ 100000 := fun h => big1 h (by decide)
  refine seq_step fun r hr => ?_
  unfold dMeth
  walk_at "dy"
  refine ⟨⟨_, _, rfl, by decide +kernel⟩, ?_⟩
  refine ⟨T, O, q, B, T2, O2, q2, B2, rfl, R1, R2, fun t o b s hs => ?_, k2⟩
  obtain ⟨RR, k1⟩ := k1 t o b s hs
  obtain ⟨ht0, ho0, hb0, hs0⟩ := seen_big R1 R2 hs
  have ht := big1 ht0 (by decide)
  have ho := big1 ho0 (by decide)
  have hb := big1 hb0 (by decide)
  have hs := big1 hs0 (by decide)
  try walk_at "dy"
  subst hr
  refine seq_step fun r hr => ?_
  refine ⟨_, _, _, rfl, rfl, ?_⟩
  walk_at "dy"
  subst hr
  unfold dMake
  walk_at "dy"
  refine ⟨mul_big (up R1.bT) hb, mul_big ht (up R1.bB), mul_big (up R1.bO) hb, mul_big ho (up R1.bB), mul_big (up R1.bB) hb, ?_⟩
  intro a ha
  refine rt_make (n := 8000) RR (by decide) ha fun S2 e2 => ?_
  rw [e2]
  exact k1

theorem pure_Root_less : ∀ ds S Q Ed, sp_Root_less ds S Q Ed → t_Root_less Ed { nx := fun _ S' => Q .non S', rt := Q } (startD N_Root_less ds) S := by
  rintro ds S Q Ed ⟨T, O, q, B, T2, O2, q2, B2, rfl, R2, k⟩
  rw [st_Root_less]
  unfold t_Root_less
  refine seq_step fun r hr => ?_
  unfold dMeth
  walk_at "dy"
  refine ⟨⟨_, _, rfl, by decide +kernel⟩, ?_⟩
  refine ⟨_, rfl, ?_⟩
  try walk_at "dy"
  subst hr
  unfold dMake
  walk_at "dy"
  refine ⟨⟨_, _, rfl, by decide +kernel⟩, ?_⟩
  intro a ha
  refine rt_make (n := 4000) ⟨by have := R2.bT; omega, by have := R2.bO; omega, R2.bq, R2.bB, R2.q2, R2.sq, R2.B1⟩ (by decide) ha fun S2 e2 => ?_
  rw [e2]
  exact k

theorem pure_Root_times : ∀ ds S Q Ed, sp_Root_times ds S Q Ed → t_Root_times Ed { nx := fun _ S' => Q .non S', rt := Q } (startD N_Root_times ds) S := by
  rintro ds S Q Ed ⟨T, O, q, B, T2, O2, q2, B2, rfl, R1, R2, k1, k2⟩
  rw [st_Root_times]
  unfold t_Root_times
  have up : ∀ {x : Int}, x.natAbs < 2 ^ 4000 → x.natAbs < 2 ^ 100000 := fun h => big1 h (by decide)
  refine seq_step fun r hr => ?_
  unfold dMeth
  walk_at "dy"
  refine ⟨⟨_, _, rfl, by decide +kernel⟩, ?_⟩
  refine ⟨T, O, q, B, T2, O2, q2, B2, rfl, R1, R2, fun t o b s hs => ?_, k2⟩
  obtain ⟨RR, k1⟩ := k1 t o b s hs
  obtain ⟨ht0, ho0, hb0, hs0⟩ := seen_big R1 R2 hs
  have ht := big1 ht0 (by decide)
  have ho := big1 ho0 (by decide)
  have hb := big1 hb0 (by decide)
  have hs := big1 hs0 (by decide)
  try walk_at "dy"
  subst hr
  refine seq_step fun r hr => ?_
  refine ⟨_, _, _, rfl, rfl, ?_⟩
  walk_at "dy"
  subst hr
  unfold dMake
  walk_at "dy"
  refine ⟨mul_big (up R1.bT) ht, mul_big (up R1.bO) ho, mul_big (big1 (wide_lt R1.bO ho0) (by decide)) hs, mul_big (up R1.bT) ho, mul_big (up R1.bO) ht, mul_big (up R1.bB) hb, ?_⟩
  intro a ha
  refine rt_make (n := 8000) RR (by decide) ha fun S2 e2 => ?_
  rw [e2]
  exact k1

theorem pure_contrary_of : ∀ ds S Q Ed, sp_contrary_of ds S Q Ed → t_contrary_of Ed { nx := fun _ S' => Q .non S', rt := Q } (startD N_contrary_of ds) S := by
  rintro ds S Q Ed ⟨T, O, q, B, d, rfl, R, hu, RR, k⟩
  rw [st_contrary_of]
  unfold t_contrary_of
  have up : ∀ {x : Int}, x.natAbs < 2 ^ 4000 → x.natAbs < 2 ^ 100000 := fun h => big1 h (by decide)
  refine seq_step fun r hr => ?_
  unfold dMeth
  walk_at "dy"
  refine ⟨⟨_, _, rfl, by decide +kernel⟩, ?_⟩
  refine ⟨_, rfl, ?_⟩
  try walk_at "dy"
  have e2 : ∀ v : Int, v ^ Int.toNat 2 = v * v := fun v => by rw [show Int.toNat 2 = 2 from rfl, Int.pow_succ, Int.pow_succ, Int.pow_zero, Int.one_mul]
  have bOO : (O * O).natAbs < 2 ^ (4000 + 4000) := wide_lt R.bO R.bO
  have bTT : (T * T).natAbs < 2 ^ (4000 + 4000) := wide_lt R.bT R.bT
  have bq : (q * (O * O)).natAbs < 2 ^ (4000 + (4000 + 4000)) := wide_lt R.bq bOO
  subst hr
  refine seq_step fun r hr => ?_
  walk_at "dy"
  refine ⟨powOk 4000 2 R.bT (by decide) (by decide) (by decide), powOk 4000 2 R.bO (by decide) (by decide) (by decide), ?_⟩
  rw [e2, e2]
  refine ⟨mul_big (up R.bq) (big1 bOO (by decide)), ?_⟩
  have hU : T * T - q * (O * O) = undI T O q := rfl
  rw [hU]
  have bu : (undI T O q).natAbs < 2 ^ 9000 := by
    have h1 := RR.bB
    rw [Int.natAbs_natCast] at h1
    exact Nat.lt_of_lt_of_le h1 (Nat.pow_le_pow_right (by decide) (by decide))
  generalize undI T O q = U at *
  have eabs : (if U < 0 then -U else U) = ((U.natAbs : Nat) : Int) := by split <;> omega
  subst hr
  refine seq_step fun r hr => ?_
  unfold dTryZ
  walk_at "dy"
  rw [eabs]
  refine ⟨⟨hu, by
    have := log2_lt bu (by decide)
    omega⟩, ?_⟩
  have bt : (((U.natAbs : Nat) : Int).fdiv U).natAbs < 2 ^ 9000 := by
    have : (((U.natAbs : Nat) : Int).fdiv U) = U.sign := by
      rcases Int.lt_or_gt_of_ne hu with h | h
      · have e : ((U.natAbs : Nat) : Int) = (-1) * U := by omega
        rw [e, Int.mul_fdiv_cancel _ hu, Int.sign_eq_neg_one_of_neg h]
      · have e : ((U.natAbs : Nat) : Int) = 1 * U := by omega
        rw [e, Int.mul_fdiv_cancel _ hu, Int.sign_eq_one_of_pos h]
    rw [this]
    have h2 : U.sign.natAbs ≤ 1 := by
      rw [Int.natAbs_sign]
      split <;> omega
    exact Nat.lt_of_le_of_lt h2 (Nat.one_lt_two_pow (by decide))
  generalize (((U.natAbs : Nat) : Int).fdiv U) = t at *
  subst hr
  unfold dMake
  walk_at "dy"
  rw [eabs]
  have b1 := big1 bt (by decide)
  have b2 : (t * B).natAbs < 2 ^ 100000 := big1 (wide_lt bt R.bB) (by decide)
  refine ⟨mul_big b1 (up R.bB), mul_big b2 (up R.bT), mul_big b1 (up R.bB), mul_big b2 (up R.bO), ?_⟩
  intro a ha
  refine rt_make (n := 8000) RR (by decide) ha fun S2 e3 => ?_
  rw [e3]
  exact k

theorem pure_Root_over : ∀ ds S Q Ed, sp_Root_over ds S Q Ed → t_Root_over Ed { nx := fun _ S' => Q .non S', rt := Q } (startD N_Root_over ds) S := by
  rintro ds S Q Ed ⟨T, O, q, B, T2, O2, q2, B2, T3, O3, B3, rfl, R1, R2, R3, hu, RC, hc, k1, h3, k2⟩
  rw [st_Root_over]
  unfold t_Root_over
  refine seq_step fun r hr => ?_
  unfold dMeth
  walk_at "dy"
  refine ⟨⟨_, _, rfl, by decide +kernel⟩, ?_⟩
  refine ⟨T, O, q, B, T2, O2, q2, B2, rfl, R1, R2, fun t o b s hs => ?_, k2⟩
  try walk_at "dy"
  subst hr
  walk_at "dy"
  refine ⟨⟨_, _, rfl, by decide +kernel⟩, ?_⟩
  refine ⟨T2, O2, q2, B2, _, rfl, R2, hu, RC, ?_⟩
  rw [hc]
  refine ⟨T, O, q, B, T3, O3, q2, B3, rfl, R1, R3, k1, fun h => ?_⟩
  exact k2 ⟨fun e => h.1 (h3.mpr e), h.2.1, h.2.2⟩

theorem pure_is_within : ∀ ds S Q Ed, sp_is_within ds S Q Ed → t_is_within Ed { nx := fun _ S' => Q .non S', rt := Q } (startD N_is_within ds) S := by
  rintro ds S Q Ed ⟨d, lo, hi, rfl, hd, q⟩
  rw [st_is_within]
  unfold t_is_within
  walk_at "dy"
  refine ⟨d, rfl, hd, ?_⟩
  cases d with
  | int a =>
    have e : isWh (.int a) = true := rfl
    rw [e]
    walk_at "dy"
    have e2 : winD lo hi (.int a) = decide (lo ≤ a ∧ a ≤ hi) := rfl
    rw [e2] at q
    by_cases c : lo ≤ a
    · rw [if_pos c]
      simp only [c, true_and] at q
      exact q
    · rw [if_neg c]
      rw [decide_eq_false (fun h => c h.1)] at q
      exact q
  | _ => exact q

theorem pure_is_row : ∀ ds S Q Ed, sp_is_row ds S Q Ed → t_is_row Ed { nx := fun _ S' => Q .non S', rt := Q } (startD N_is_row ds) S := by
  rintro ds S Q Ed ⟨d, lo, hi, n, rfl, hd, hh, q⟩
  rw [st_is_row]
  unfold t_is_row
  cases d with
  | tup xs =>
    walk_at "dy"
    have e0 : rowD lo hi (.tup xs) = (decide (lo ≤ (xs.length : Int) ∧ (xs.length : Int) ≤ hi) && xs.all (winD 1 999999)) := rfl
    rw [e0] at q
    by_cases c1 : lo ≤ (xs.length : Int)
    · rw [if_pos c1]
      by_cases c2 : (xs.length : Int) ≤ hi
      · rw [if_neg (fun h => h c2)]
        rw [decide_eq_true ⟨c1, c2⟩, Bool.true_and] at q
        refine comp_pure (fun d => .bl (winD 1 999999 d)) xs S (fun R hR => hR) (fun x hx S' Q' q' => ?_) (by omega) ?_
        · exact (⟨x, 1, 999999, rfl, sm_data (smT.mp hd x hx), q'⟩ : sp_is_within [x, .int 1, .int 999999] S' Q' (fun _ _ => False))
        · refine x_allb (bs := xs.map (winD 1 999999)) (by rw [List.map_map]; rfl) ?_
          rw [List.all_map]
          exact q
      · rw [if_pos c2]
        rw [decide_eq_false (fun h => c2 h.2)] at q
        exact q
    · rw [if_neg c1]
      try walk_at "dy"
      rw [decide_eq_false (fun h => c1 h.1)] at q
      exact q
  | _ => first | (walk_at "dy"; exact q) | exact absurd (show false = true from hd) Bool.false_ne_true

theorem pure_is_number_ring : ∀ ds S Q Ed, sp_is_number_ring ds S Q Ed → t_is_number_ring Ed { nx := fun _ S' => Q .non S', rt := Q } (startD N_is_number_ring ds) S := by
  rintro ds S Q Ed ⟨d, n, rfl, hd, q⟩
  rw [st_is_number_ring]
  unfold t_is_number_ring
  walk_at "dy"
  exact ⟨d, 1, 40, n, rfl, hd, by decide, by rw [row_ring]; exact q⟩

theorem pure_is_ahead : ∀ ds S Q Ed, sp_is_ahead ds S Q Ed → t_is_ahead Ed { nx := fun _ S' => Q .non S', rt := Q } (startD N_is_ahead ds) S := by
  rintro ds S Q Ed ⟨d, n, rfl, hd, hok, q⟩
  rw [st_is_ahead]
  unfold t_is_ahead
  refine seq_step fun r hr => ?_
  have he : eqOk (.tup []) = true := by decide
  cases d with
  | tup xs =>
    cases xs with
    | nil =>
      walk_at "dy"
      exact ⟨⟨hok, he⟩, q⟩
    | cons x xs =>
      walk_at "dy"
      rw [if_neg (by omega)]
      have hx := smT.mp hd x List.mem_cons_self
      have hxs : sm n (.tup xs) = true := smT.mpr fun y hy => smT.mp hd y (List.mem_cons_of_mem _ hy)
      subst hr
      refine seq_step fun r hr => ?_
      walk_at "dy"
      refine ⟨x, _, _, rfl, sm_data hx, ?_⟩
      have q' : Q (.bl (winD (-999999) 999999 x && rowD 0 19 (.tup xs))) S := q
      rw [show (0 : Int) - 999999 = -999999 by decide]
      cases c : winD (-999999) 999999 x with
      | false =>
        rw [c] at q'
        walk_at "dy"
        exact q'
      | true =>
        rw [c] at q'
        walk_at "dy"
        subst hr
        walk_at "dy"
        rw [show (1 : Int) = ((1 : Nat) : Int) from rfl, cutD_from (by rw [List.length_cons]; omega)]
        exact ⟨.tup xs, 0, 19, n, rfl, hxs, by decide, q'⟩
  | int i => walk_at "dy"; exact ⟨⟨hok, he⟩, q⟩
  | str z => walk_at "dy"; exact ⟨⟨hok, he⟩, q⟩
  | non => walk_at "dy"; exact ⟨⟨hok, he⟩, q⟩
  | bl b => walk_at "dy"; exact ⟨⟨hok, he⟩, q⟩
  | lst xs => walk_at "dy"; exact ⟨⟨hok, he⟩, q⟩
  | _ => exact absurd (show false = true from hd) Bool.false_ne_true

theorem pure_shortest_part : ∀ ds S Q Ed, sp_shortest_part ds S Q Ed → t_shortest_part Ed { nx := fun _ S' => Q .non S', rt := Q } (startD N_shortest_part ds) S := by
  rintro ds S Q Ed ⟨L, rfl, h1, h40, q⟩
  rw [st_shortest_part]
  unfold t_shortest_part
  refine seq_step fun r hr => ?_
  unfold ringD
  walk_at "dy"
  rw [List.length_map]
  subst hr
  refine seq_step fun r hr => ?_
  walk_at "dy"
  refine ⟨by omega, ?_⟩
  refine loop_rng (fun i σ S' => (∃ z, σ = [some (ringD L), some (.int L.length), z]) ∧ S' = S ∧ ∀ j, j < i → sizeOk L (j + 1) = false) ⟨⟨_, rfl⟩, rfl, fun j h => by omega⟩ ?_ ?_
  · rintro i σ S' N hi ⟨⟨z, rfl⟩, rfl, hno⟩ k
    have hi' : i < L.length - 1 := by omega
    unfold ringD
    walk_at "dy"
    refine ⟨by omega, ?_⟩
    have ei : (1 + (i : Int)) = ((i + 1 : Nat) : Int) := by omega
    obtain ⟨em, ed⟩ := nat_mod_div (n := L.length) (show 1 ≤ i + 1 by omega)
    rw [ei, em]
    have next : sizeOk L (i + 1) = false → N [some (ringD L), some (.int L.length), some (.int ((i + 1 : Nat) : Int))] S' := fun h => k _ _ ⟨⟨_, rfl⟩, rfl, fun j hj => by
      by_cases e : j = i
      · rw [e]; exact h
      · exact hno j (by omega)⟩
    by_cases c : L.length % (i + 1) = 0
    · rw [if_pos (by omega)]
      refine ⟨⟨by omega, ?_⟩, ?_⟩
      · have : (((i + 1 : Nat) : Int)).natAbs.log2 ≤ (i + 1) := by
          rw [Int.natAbs_natCast]
          exact Nat.log2_le_self _
        omega
      rw [ed]
      refine size_go (by omega) (by omega) c h40 ?_
      by_cases c2 : told (L.take (i + 1)) (L.length / (i + 1)) = L
      · have ho : sizeOk L (i + 1) = true := by unfold sizeOk; rw [decide_eq_true c, decide_eq_true c2]; rfl
        have e := shS_first hi' hno ho
        rw [e] at q
        rw [decide_eq_true c2]
        walk_at "dy"
        rw [cutD_ring L (by omega)]
        exact q
      · rw [decide_eq_false c2]
        walk_at "dy"
        exact next (by unfold sizeOk; rw [decide_eq_false c2, Bool.and_false])
    · rw [if_neg (by omega)]
      exact next (by unfold sizeOk; rw [decide_eq_false c]; rfl)
  · rintro σ S' ⟨⟨z, rfl⟩, rfl, hno⟩
    subst hr
    walk_at "dy"
    have e := shS_none (L := L) fun j hj => hno j (by omega)
    rw [e] at q
    exact q

theorem pure_table_of_row : ∀ ds S Q Ed, sp_table_of_row ds S Q Ed → t_table_of_row Ed { nx := fun _ S' => Q .non S', rt := Q } (startD N_table_of_row ds) S := by
  rintro ds S Q Ed ⟨L, c, d, rfl, hd, hL, hc, hl, q⟩
  rw [st_table_of_row]
  unfold t_table_of_row
  rcases hd with rfl | rfl
  · unfold ringD
    walk_at "dy"
    refine loop_all (fun p σ S' => ∃ (M : List Int) (z : Option D), p = M.map D.int ∧ σ = [some (.tup (L.map D.int)), some (.int (t4L M).p), some (.int (t4L M).q), some (.int (t4L M).r), some (.int (t4L M).s), z] ∧ S' = S) ⟨[], none, rfl, rfl, rfl⟩ ?_ ?_
    · rintro p x r σ S' N e ⟨M, z, hp, rfl, rfl⟩ k
      obtain ⟨M', a, R, eL, rfl, hp'⟩ := mpI_split e
      have eM : M = M' := mpI_inj (hp.symm.trans hp')
      subst eM
      have hM : ∀ b ∈ M, b.natAbs + 1 ≤ 2 ^ c := fun b hb => hL b (by rw [eL]; exact List.mem_append_left _ hb)
      have ha := hL a (by rw [eL]; simp)
      have lM : M.length ≤ 100 := by
        have := congrArg List.length eL
        rw [List.length_append] at this
        omega
      obtain ⟨b1, b2, b3, b4⟩ := t4_wide hM
      have e1 : c * M.length ≤ 10000 := Nat.le_trans (Nat.mul_le_mul hc lM) (by decide)
      have lt : ∀ x : Int, x.natAbs ≤ 2 ^ (c * M.length) → x.natAbs < 2 ^ 10001 := fun x h => Nat.lt_of_le_of_lt (Nat.le_trans h (Nat.pow_le_pow_right (by decide) e1)) (Nat.pow_lt_pow_right (by decide) (by decide))
      have ba : a.natAbs < 2 ^ 100 := Nat.lt_of_lt_of_le (by omega) (Nat.pow_le_pow_right (by decide) hc)
      walk_at "dy"
      refine ⟨mulOk 10001 100 (lt _ b1) ba (by decide) (by decide) (by decide), mulOk 10001 100 (lt _ b3) ba (by decide) (by decide) (by decide), ?_⟩
      refine k _ _ ⟨M ++ [a], some (.int a), ?_, ?_, rfl⟩
      · rw [hp, List.map_append]; rfl
      · rw [t4_snoc]; rfl
    · rintro σ S' ⟨M, z, hp, rfl, rfl⟩
      have eM : M = L := mpI_inj hp.symm
      subst eM
      walk_at "dy"
      exact q
  · skip
    walk_at "dy"
    refine loop_all (fun p σ S' => ∃ (M : List Int) (z : Option D), p = M.map D.int ∧ σ = [some (.lst (L.map D.int)), some (.int (t4L M).p), some (.int (t4L M).q), some (.int (t4L M).r), some (.int (t4L M).s), z] ∧ S' = S) ⟨[], none, rfl, rfl, rfl⟩ ?_ ?_
    · rintro p x r σ S' N e ⟨M, z, hp, rfl, rfl⟩ k
      obtain ⟨M', a, R, eL, rfl, hp'⟩ := mpI_split e
      have eM : M = M' := mpI_inj (hp.symm.trans hp')
      subst eM
      have hM : ∀ b ∈ M, b.natAbs + 1 ≤ 2 ^ c := fun b hb => hL b (by rw [eL]; exact List.mem_append_left _ hb)
      have ha := hL a (by rw [eL]; simp)
      have lM : M.length ≤ 100 := by
        have := congrArg List.length eL
        rw [List.length_append] at this
        omega
      obtain ⟨b1, b2, b3, b4⟩ := t4_wide hM
      have e1 : c * M.length ≤ 10000 := Nat.le_trans (Nat.mul_le_mul hc lM) (by decide)
      have lt : ∀ x : Int, x.natAbs ≤ 2 ^ (c * M.length) → x.natAbs < 2 ^ 10001 := fun x h => Nat.lt_of_le_of_lt (Nat.le_trans h (Nat.pow_le_pow_right (by decide) e1)) (Nat.pow_lt_pow_right (by decide) (by decide))
      have ba : a.natAbs < 2 ^ 100 := Nat.lt_of_lt_of_le (by omega) (Nat.pow_le_pow_right (by decide) hc)
      walk_at "dy"
      refine ⟨mulOk 10001 100 (lt _ b1) ba (by decide) (by decide) (by decide), mulOk 10001 100 (lt _ b3) ba (by decide) (by decide) (by decide), ?_⟩
      refine k _ _ ⟨M ++ [a], some (.int a), ?_, ?_, rfl⟩
      · rw [hp, List.map_append]; rfl
      · rw [t4_snoc]; rfl
    · rintro σ S' ⟨M, z, hp, rfl, rfl⟩
      have eM : M = L := mpI_inj hp.symm
      subst eM
      walk_at "dy"
      exact q

theorem pure_number_of_ring : ∀ ds S Q Ed, sp_number_of_ring ds S Q Ed → t_number_of_ring Ed { nx := fun _ S' => Q .non S', rt := Q } (startD N_number_of_ring ds) S := by
  rintro ds S Q Ed ⟨L, rfl, R, q⟩
  rw [st_number_of_ring]
  unfold t_number_of_ring
  obtain ⟨b1, b2, b3, b4⟩ := t4_abs R.el R.l1
  have u := up_abs R
  refine seq_step fun r hr => ?_
  walk_at "dy"
  refine ⟨L, 20, _, rfl, .inl rfl, fun a ha => by have := R.el a ha; have e : (2 : Nat) ^ 20 = 1048576 := (by decide); omega, by decide, by have := R.l1; omega, ?_⟩
  try walk_at "dy"
  subst hr
  unfold dMake
  walk_at "dy"
  have bd : ((t4L L).p - (t4L L).s).natAbs < 2 ^ 802 := by
    have e : (2 : Nat) ^ 802 = 2 * 2 ^ 801 := by rw [show 802 = 1 + 801 from rfl, Nat.pow_add]
    omega
  have e4 : ∀ v : Int, v ^ Int.toNat 2 = v * v := fun v => by rw [show Int.toNat 2 = 2 from rfl, Int.pow_succ, Int.pow_succ, Int.pow_zero, Int.one_mul]
  refine ⟨powOk 802 2 bd (by decide) (by decide) (by decide), mulOk 3 801 (by decide) b2 (by decide) (by decide) (by decide), mulOk (3 + 801) 801 (wide_lt (by decide) b2) b3 (by decide) (by decide) (by decide), mulOk 3 801 (by decide) b3 (by decide) (by decide) (by decide), ?_⟩
  rw [e4]
  intro a ha
  refine rt_make (n := 1700) (rg_rtI R) (by decide) ha fun S2 e2 => ?_
  rw [e2, low_id (by rw [Int.gcd_one_right]; exact Int.gcd_one_left _)]
  exact q

theorem pure_Stair_keep_rows : ∀ ds S Q Ed, sp_Stair_keep_rows ds S Q Ed → t_Stair_keep_rows Ed { nx := fun _ S' => Q .non S', rt := Q } (startD N_Stair_keep_rows ds) S := by
  rintro ds S Q Ed ⟨a, A, R, rfl, hA, hR1, hR2, ha, q⟩
  rw [st_Stair_keep_rows]
  unfold t_Stair_keep_rows
  refine seq_step fun r hr => ?_
  walk_at "dy"
  refine ⟨R, rfl, hR1, hR2, ?_⟩
  try walk_at "dy"
  obtain ⟨s1, s2⟩ := shS_len hR1
  subst hr
  refine seq_step fun r hr => ?_
  refine while_inv (fun m σ S' => ∃ B T : List Int, σ = [some (.obj a), some (ringD B), some (ringD T)] ∧ S' = S ∧ fwR B.reverse T = fewest A R ∧ B.length ≤ 1000 ∧ 1 ≤ T.length ∧ T.length ≤ 1000 ∧ m = B.length) A.length ⟨A, shS R, rfl, rfl, rfl, hA, s1, by omega, rfl⟩ ?_
  rintro m σ S' N ⟨B, T, rfl, rfl, e, hB, t1, t2, rfl⟩ k
  have stop : fwR B.reverse T = (B, T) → r { nx := fun _ S' => Q .non S', rt := Q } [some (.obj a), some (ringD B), some (ringD T)] S' := fun h => by
    have hq : Q .non (upS S' a (.ins "Stair" ["held_ahead", "held_ring"] [ringD B, ringD T])) := by
      rw [h] at e
      rw [← e] at q
      exact q
    subst hr
    refine seq_step fun r hr => ?_
    unfold dPutB
    walk_at "dy"
    rcases ha with ha | ⟨x, y, ha⟩
    · refine ⟨a, [], [], rfl, ha, by decide, fun _ => ?_, fun i hi _ => by cases hi⟩
      subst hr
      unfold dPutB
      walk_at "dy"
      refine ⟨a, ["held_ahead"], [ringD B], rfl, upS_same, by decide, fun _ => ?_, fun i hi _ => ?_⟩
      · rw [upS_upS]
        exact hq
      · match i, hi with
        | 0, hi => exact absurd hi (by decide)
        | i + 1, hi => cases hi
    · refine ⟨a, ["held_ahead", "held_ring"], [x, y], rfl, ha, by decide, fun h => absurd h (by decide), fun i hi _ => ?_⟩
      match i, hi with
      | 1, hi => exact absurd hi (by decide)
      | i + 2, hi => cases hi
      | 0, hi =>
        subst hr
        unfold dPutB
        walk_at "dy"
        refine ⟨a, ["held_ahead", "held_ring"], [ringD B, y], rfl, upS_same, by decide, fun h => absurd h (by decide), fun i hi _ => ?_⟩
        match i, hi with
        | 0, hi => exact absurd hi (by decide)
        | i + 2, hi => cases hi
        | 1, hi =>
          rw [upS_upS]
          exact hq
  walk_at "dy"
  refine ne_nil ?_
  by_cases c : B = []
  · rw [decide_eq_true c]
    try walk_at "dy"
    exact stop (by rw [c]; rfl)
  rw [decide_eq_false c]
  try walk_at "dy"
  obtain ⟨C, x, rfl⟩ := split_last (R := B) (Nat.pos_of_ne_zero fun h => c (List.length_eq_zero_iff.mp h))
  obtain ⟨V, y, rfl⟩ := split_last t1
  have l1 : C.length + 1 ≤ 1000 := by rw [List.length_append] at hB; exact hB
  have l2 : V.length + 1 ≤ 1000 := by rw [List.length_append] at t2; exact t2
  unfold ringD
  try walk_at "dy"
  rw [last_at, last_at, x_ixQ, x_ixQ]
  try walk_at "dy"
  by_cases c2 : x = y
  · subst c2
    rw [if_pos rfl]
    try walk_at "dy"
    rw [cut_last, cut_last, cut_from_last]
    refine ⟨by show 1 + _ ≤ _; rw [List.length_map]; omega, ?_⟩
    refine k C.length _ _ (by rw [List.length_append]; exact Nat.lt_succ_self _) ⟨C, rotB (V ++ [x]), ?_, rfl, ?_, by omega, by rw [rotB_len, List.length_append]; exact Nat.succ_pos _, by rw [rotB_len, List.length_append]; exact l2, rfl⟩
    · rw [rotB_last]; rfl
    · rw [← e, fwR_last (by simp)]
  · rw [if_neg c2]
    exact stop (fwR_stop (by simp only [List.getLast?_append, List.getLast?_singleton, Option.some_or]; exact fun h => c2 (Option.some.inj h).symm))

theorem pure_Stair___init__ : ∀ ds S Q Ed, sp_Stair___init__ ds S Q Ed → t_Stair___init__ Ed { nx := fun _ S' => Q .non S', rt := Q } (startD N_Stair___init__ ds) S := by
  rintro ds S Q Ed ⟨a, d1, d2, n, rfl, h1, h2, hok, ha, q2, q1⟩
  rw [st_Stair___init__]
  unfold t_Stair___init__
  refine seq_step fun r hr => ?_
  walk_at "dy"
  refine ⟨d1, n, rfl, h1, hok, ?_⟩
  cases c1 : aheadD d1 with
  | false =>
    rw [c1] at q2
    try walk_at "dy"
    exact q2 rfl
  | true =>
    rw [c1] at q1 q2
    try walk_at "dy"
    refine ⟨d2, n, rfl, h2, ?_⟩
    cases c2 : isRingD d2 with
    | false =>
      rw [c2] at q2
      try walk_at "dy"
      exact q2 rfl
    | true =>
      rw [c2] at q1
      obtain ⟨A, R, rfl, rfl, hA, hR, q⟩ := q1 rfl
      try walk_at "dy"
      subst hr
      unfold dMethO
      walk_at "dy"
      have l1 := hR.l1
      exact ⟨⟨a, [], [], rfl, ha, by simp⟩, a, A, R, rfl, by omega, hR.l0, by omega, .inl ha, q⟩

theorem pure_Stair_ahead : ∀ ds S Q Ed, sp_Stair_ahead ds S Q Ed → t_Stair_ahead Ed { nx := fun _ S' => Q .non S', rt := Q } (startD N_Stair_ahead ds) S := by
  rintro ds S Q Ed ⟨A, R, rfl, q⟩
  rw [st_Stair_ahead]
  unfold t_Stair_ahead
  exact ⟨_, _, _, rfl, rfl, q⟩

theorem pure_Stair_ring : ∀ ds S Q Ed, sp_Stair_ring ds S Q Ed → t_Stair_ring Ed { nx := fun _ S' => Q .non S', rt := Q } (startD N_Stair_ring ds) S := by
  rintro ds S Q Ed ⟨A, R, rfl, q⟩
  rw [st_Stair_ring]
  unfold t_Stair_ring
  exact ⟨_, _, _, rfl, rfl, q⟩

theorem eq_rows {L M : List Int} {S : Sd} {Q : DK} (q : Q (.bl (decide (L = M))) S) : rdEq (ringD L) (ringD M) S Q := by
  refine ⟨⟨okD_eqOk (okD_ints L) (by decide), okD_eqOk (okD_ints M) (by decide)⟩, ?_⟩
  have e : deq (ringD L) (ringD M) = decide (L = M) := deqL_ringE
  rw [e]
  exact q
theorem pure_Stair___eq__ : ∀ ds S Q Ed, sp_Stair___eq__ ds S Q Ed → t_Stair___eq__ Ed { nx := fun _ S' => Q .non S', rt := Q } (startD N_Stair___eq__ ds) S := by
  rintro ds S Q Ed ⟨A, R, A2, R2, rfl, q'⟩
  rw [st_Stair___eq__]
  unfold t_Stair___eq__
  refine seq_step fun r hr => ?_
  walk_at "dy"
  refine ⟨rfl, ?_⟩
  refine ⟨rfl, ?_⟩
  try walk_at "dy"
  subst hr
  unfold dMeth
  walk_at "dy"
  refine fld_a (A := A) (R := R) (fun P' h => by first | exact h | (walk_at "dy"; exact h)) ?_
  refine ⟨⟨_, _, rfl, by decide +kernel⟩, ?_⟩
  refine ⟨A2, R2, rfl, ?_⟩
  refine eq_rows ?_
  by_cases c : A = A2
  · rw [decide_eq_true c] at q' ⊢
    try dsimp only
    rw [if_pos rfl]
    refine fld_r (A := A) (R := R) (fun P' h => by first | exact h | (walk_at "dy"; exact h)) ?_
    refine ⟨⟨_, _, rfl, by decide +kernel⟩, ?_⟩
    refine ⟨A2, R2, rfl, ?_⟩
    refine eq_rows ?_
    rw [Bool.true_and] at q'
    exact q'
  · rw [decide_eq_false c] at q' ⊢
    try dsimp only
    rw [if_neg (by decide)]
    exact q'

theorem pure_Stair_at : ∀ ds S Q Ed, sp_Stair_at ds S Q Ed → t_Stair_at Ed { nx := fun _ S' => Q .non S', rt := Q } (startD N_Stair_at ds) S := by
  rintro ds S Q Ed ⟨A, R, p, rfl, r0, r1, a1, q2, q1⟩
  rw [st_Stair_at]
  unfold t_Stair_at
  refine seq_step fun r hr => ?_
  unfold dRaiseF2
  walk_at "dy"
  by_cases c0 : p < 0
  · rw [if_pos c0]
    try walk_at "dy"
    exact q2 c0
  rw [if_neg c0]
  try walk_at "dy"
  have q := q1 (by omega)
  obtain ⟨p, rfl⟩ := Int.eq_ofNat_of_zero_le (show 0 ≤ p by omega)
  rw [Int.toNat_natCast] at q
  unfold atSt at q
  have ga : ∀ (P : DK), P (ringD A) S → dFld "Stair" "held_ahead" (dVar 0) [some (stD A R), some (.int (p : Int))] S P := fun P h => fld_a (A := A) (R := R) (fun P h => by walk_at "dy"; exact h) h
  have gr : ∀ (P : DK), P (ringD R) S → dFld "Stair" "held_ring" (dVar 0) [some (stD A R), some (.int (p : Int))] S P := fun P h => fld_r (A := A) (R := R) (fun P h => by walk_at "dy"; exact h) h
  subst hr
  refine seq_step fun r hr => ?_
  walk_at "dy"
  refine ga _ ?_
  unfold ringD
  walk_at "dy"
  rw [List.length_map]
  by_cases c1 : p < A.length
  · rw [if_pos (by omega)]
    rw [if_pos c1] at q
    refine ga _ ?_
    unfold ringD
    try walk_at "dy"
    rw [at_ints c1]
    exact q
  · rw [if_neg (by omega)]
    rw [if_neg c1] at q
    subst hr
    try walk_at "dy"
    refine gr _ ?_
    refine ga _ ?_
    unfold ringD
    try walk_at "dy"
    refine gr _ ?_
    unfold ringD
    try walk_at "dy"
    rw [List.length_map, List.length_map]
    refine ⟨by omega, ?_⟩
    have e : ((p : Int) - (A.length : Int)).fmod (R.length : Int) = (((p - A.length) % R.length : Nat) : Int) := by
      rw [← Int.ofNat_sub (by omega), Int.fmod_eq_emod_of_nonneg _ (by omega)]
      exact (Int.natCast_emod _ _).symm
    rw [e, at_ints (Nat.mod_lt _ (by omega))]
    exact q

theorem pure_told_stair : ∀ ds S Q Ed, sp_told_stair ds S Q Ed → t_told_stair Ed { nx := fun _ S' => Q .non S', rt := Q } (startD N_told_stair ds) S := by
  rintro ds S Q Ed ⟨A, R, rfl, hA, hR1, hR2, q⟩
  rw [st_told_stair]
  unfold t_told_stair
  refine seq_step fun r hr => ?_
  unfold dMakeO
  walk_at "dy"
  intro a ha
  have R1 : RowI [1] := ⟨fun a h => by rw [List.mem_singleton.mp h]; decide, by decide, by decide⟩
  refine ⟨a, .tup [], .tup [.int 1], 100, rfl, by decide, by decide, by decide, upS_same, fun h => absurd h (by decide), fun _ => ⟨[], [1], rfl, rfl, by decide, R1, ⟨rfl, ⟨_, _, upS_same⟩, ?_⟩⟩⟩
  rw [upS_upS]
  subst hr
  refine seq_step fun r hr => ?_
  unfold dMethO
  walk_at "dy"
  refine ⟨⟨a, _, _, rfl, upS_same, by decide⟩, a, A, R, rfl, hA, hR1, hR2, .inr ⟨_, _, upS_same⟩, ?_⟩
  rw [upS_upS]
  subst hr
  walk_at "dy"
  unfold dFrzI
  walk_at "dy"
  refine ⟨a, _, _, _, rfl, upS_same, ?_⟩
  rw [del_upS ha]
  exact q

theorem pure_Stair_behind : ∀ ds S Q Ed, sp_Stair_behind ds S Q Ed → t_Stair_behind Ed { nx := fun _ S' => Q .non S', rt := Q } (startD N_Stair_behind ds) S := by
  rintro ds S Q Ed ⟨A, R, m, rfl, hA, h0, hR, hm, q⟩
  rw [st_Stair_behind]
  unfold t_Stair_behind
  have l0 := ne_len h0
  refine seq_step fun r hr => ?_
  walk_at "dy"
  refine fld_a (A := A) (R := R) (fun P' h => by first | exact h | (walk_at "dy"; exact h)) ?_
  unfold ringD
  walk_at "dy"
  rw [cutD_fromX]
  subst hr
  refine seq_step fun r hr => ?_
  walk_at "dy"
  refine fld_a (A := A) (R := R) (fun P' h => by first | exact h | (walk_at "dy"; exact h)) ?_
  unfold ringD
  walk_at "dy"
  rw [List.length_map]
  refine fld_r (A := A) (R := R) (fun P' h => by first | exact h | (walk_at "dy"; exact h)) ?_
  unfold ringD
  walk_at "dy"
  rw [List.length_map]
  refine ⟨by omega, ?_⟩
  have e0 : (if (m : Int) - A.length > 0 then (m : Int) - A.length else 0) = ((m - A.length : Nat) : Int) := by split <;> omega
  rw [e0, (nat_mod_div (n := m - A.length) l0).1]
  have ht : (m - A.length) % R.length < R.length := Nat.mod_lt _ l0
  generalize (m - A.length) % R.length = t at *
  subst hr
  try walk_at "dy"
  refine fld_r (A := A) (R := R) (fun P' h => by first | exact h | (walk_at "dy"; exact h)) ?_
  unfold ringD
  try walk_at "dy"
  refine fld_r (A := A) (R := R) (fun P' h => by first | exact h | (walk_at "dy"; exact h)) ?_
  unfold ringD
  try walk_at "dy"
  have l1 := cutD_len (xs := R.map D.int) (lo := some (t : Int)) (hi := none)
  have l2 := cutD_len (xs := R.map D.int) (lo := none) (hi := some (t : Int))
  rw [List.length_map] at l1 l2
  refine ⟨by omega, ?_⟩
  rw [trn_cut (by omega)]
  exact ⟨A.drop m, trn t R, rfl, by rw [List.length_drop]; omega, by rw [trn_len]; omega, by rw [trn_len]; omega, q⟩

theorem rev_take {A : List Int} {p r : List D} {x : D} (e : (A.map D.int).reverse = p ++ x :: r) : ∃ (n : Int) (W : List Int), x = .int n ∧ (W.map D.int).reverse = p ∧ ∃ Z, A = Z ++ n :: W := by
  have e2 : A.map D.int = (p ++ x :: r).reverse := by rw [← e, List.reverse_reverse]
  rw [List.reverse_append, List.reverse_cons, List.append_assoc, List.singleton_append] at e2
  obtain ⟨M, a, R, eA, ex, eM⟩ := mpI_split e2
  refine ⟨a, R, ex, ?_, M, eA⟩
  rw [eA] at e2
  rw [List.map_append, List.map_cons, eM, ← ex] at e2
  have := List.append_cancel_left e2
  injection this with _ h
  rw [h, List.reverse_reverse]
theorem gR_dvd (T O B : Int) : gR T O B ∣ T ∧ gR T O B ∣ O ∧ gR T O B ∣ B := by
  have dg : gR T O B ∣ (Int.gcd T O : Nat) := by unfold gR; exact Int.gcd_dvd_left ..
  have dB : gR T O B ∣ B := by unfold gR; exact Int.gcd_dvd_right ..
  exact ⟨Int.dvd_trans dg (Int.gcd_dvd_left ..), Int.dvd_trans dg (Int.gcd_dvd_right ..), dB⟩
theorem fdiv_back {g x : Int} (g0 : g ≠ 0) (h : g ∣ x) : x = g * x.fdiv g := by
  obtain ⟨y, rfl⟩ := h
  rw [Int.mul_fdiv_cancel_left _ g0]
/-- a number brought down -/
theorem low_num {A R : List Int} {T O q B : Int} {n : Nat} (RT : RtI n T O q B) (N : NumS A R T O B) : ∃ T' O' B', lowD T O q B = ptD T' O' q B' ∧ NumL A R T' O' B' ∧ ∃ g : Int, g ≠ 0 ∧ T = g * T' ∧ O = g * O' ∧ B = g * B' := by
  obtain ⟨R1, g1⟩ := low_ok RT
  obtain ⟨gp, _⟩ := gR_pos (T := T) (O := O) RT.B1
  obtain ⟨d1, d2, d3⟩ := gR_dvd T O B
  have g0 : gR T O B ≠ 0 := by omega
  exact ⟨_, _, _, rfl, ⟨num_low g0 (fdiv_back g0 d1) (fdiv_back g0 d2) (fdiv_back g0 d3) N, g1, R1.B1⟩, _, g0, fdiv_back g0 d1, fdiv_back g0 d2, fdiv_back g0 d3⟩
theorem pure_Stair_number : ∀ ds S Q Ed, sp_Stair_number ds S Q Ed → t_Stair_number Ed { nx := fun _ S' => Q .non S', rt := Q } (startD N_Stair_number ds) S := by
  rintro ds S Q Ed ⟨A, P, rfl, H, q⟩
  rw [st_Stair_number]
  unfold t_Stair_number
  refine seq_step fun r hr => ?_
  walk_at "dy"
  refine fld_r (A := A) (R := P) (fun P' h => by first | exact h | (walk_at "dy"; exact h)) ?_
  try walk_at "dy"
  refine ⟨P, rfl, H.rowI, ?_⟩
  try walk_at "dy"
  subst hr
  refine seq_step fun r hr => ?_
  walk_at "dy"
  refine fld_a (A := A) (R := P) (fun P' h => by first | exact h | (walk_at "dy"; exact h)) ?_
  have n0 : NumL [] P (rgT P) 1 (2 * (t4L P).r) := ⟨num_nil P, by rw [Int.gcd_one_right]; exact Int.gcd_one_left _, by have := (tw_row P H.p1 H.r0).r1; omega⟩
  have fin : ∀ (v : D) (o2 : Option D), Q v S → r { nx := fun _ S' => Q .non S', rt := Q } [some (stD A P), some v, o2] S := fun v o2 h => by
    subst hr
    walk_at "dy"
    exact h
  clear hr
  have R0 : ∀ n : Int, n.natAbs < 2 ^ 20 → RtI 2410 n 0 2 1 := fun n hn => ⟨Nat.lt_trans hn (Nat.pow_lt_pow_right (by decide) (by decide)), by show (0 : Nat) < _; exact Nat.pow_pos (by decide), Nat.lt_of_lt_of_le (by decide : 2 < 2 ^ 2) (Nat.pow_le_pow_right (by decide) (by decide)), Nat.one_lt_two_pow (by decide), by decide, two_no, by decide⟩
  have lw : ∀ n : Int, lowD n 0 2 1 = ptD n 0 2 1 := fun n => low_id (by rw [Int.gcd_one_right])
  have q1 := q
  clear q
  unfold ringD
  dsimp only
  refine loop_all (fun p σ S' => ∃ (W : List Int) (T O B : Int) (z : Option D), p = (W.map D.int).reverse ∧ σ = [some (stD A P), some (rtD T O (upN (t4L P)) B), z] ∧ S' = S ∧ NumL W P T O B) ⟨[], _, _, _, _, rfl, rfl, rfl, n0⟩ ?_ ?_
  · rintro p x r' σ S' N ex ⟨W, T, O, B, z, rfl, rfl, rfl, NL⟩ k
    obtain ⟨n, W', rfl, eW, Z, eA⟩ := rev_take ex
    have eW2 : W' = W := mpI_inj (List.reverse_inj.mp eW)
    subst eW2
    have HW : RowB (n :: W') P := ⟨H.r1, H.r0, H.rl, fun a ha => H.a2 a (by rw [eA]; exact List.mem_append_right _ ha), by have := H.al; rw [eA, List.length_append] at this; omega⟩
    have H0 : RowB (0 :: W') P := ⟨H.r1, H.r0, H.rl, fun a ha => by
      rcases List.mem_cons.mp ha with rfl | ha
      · decide
      · exact HW.a2 a (List.mem_cons_of_mem _ ha), HW.al⟩
    obtain ⟨RT, o0, o1, o2⟩ := numL_rt HW.tail NL
    have hu := und_ne HW.tail NL
    have hn : n.natAbs < 2 ^ 20 := by have := HW.a2 n List.mem_cons_self; omega
    generalize hU : undI T O (upN (t4L P)) = U at *
    obtain ⟨v, ev, hv, dv⟩ : ∃ v : Int, ((U.natAbs : Nat) : Int).fdiv U = v ∧ v * v = 1 ∧ ((U.natAbs : Nat) : Int) * v = U := by
      rcases Int.lt_or_le 0 U with c | c
      · refine ⟨1, ?_, rfl, by omega⟩
        rw [show ((U.natAbs : Nat) : Int) = 1 * U by omega, Int.mul_fdiv_cancel _ hu]
      · refine ⟨-1, ?_, rfl, by omega⟩
        rw [show ((U.natAbs : Nat) : Int) = (-1) * U by omega, Int.mul_fdiv_cancel _ hu]
    have v1 : v.natAbs ≤ 2 ^ 0 := by
      have : v.natAbs * v.natAbs = 1 := by rw [← Int.natAbs_mul, hv]; rfl
      have := Nat.eq_one_of_mul_eq_one_left this
      omega
    have sz : ∀ {x : Int} {k : Nat}, x.natAbs < 2 ^ k → x.natAbs ≤ 2 ^ k := fun h => Nat.le_of_lt h
    have lt8 : ∀ {x : Int} {k : Nat}, x.natAbs ≤ 2 ^ k → k < 8000 → x.natAbs < 2 ^ 8000 := fun h k => Nat.lt_of_le_of_lt h (Nat.pow_lt_pow_right (by decide) k)
    have vB := le_mul2 v1 (sz RT.bB) (Nat.le_refl _)
    have bU : U.natAbs ≤ 2 ^ 4830 := by
      rw [← hU]
      unfold undI
      exact le_sub2 (n := 4829) (le_mul2 (sz RT.bT) (sz RT.bT) (by decide)) (le_mul2 (sz RT.bq) (le_mul2 o2 o2 (Nat.le_refl _)) (by decide)) (by decide)
    have RC : RtI 8000 (v * B * T) (0 - v * B * O) (upN (t4L P)) ((U.natAbs : Nat) : Int) := ⟨lt8 (le_mul2 vB (sz RT.bT) (Nat.le_refl _)) (by decide), by
      rw [Int.zero_sub, Int.natAbs_neg]
      exact lt8 (le_mul2 vB (sz RT.bO) (Nat.le_refl _)) (by decide), lt8 (sz RT.bq) (by decide), by rw [Int.natAbs_natCast]; exact lt8 bU (by decide), RT.q2, RT.sq, by omega⟩
    -- 1 over the number, brought down
    obtain ⟨RL, gl⟩ := low_ok RC
    obtain ⟨gp, _⟩ := gR_pos (T := v * B * T) (O := 0 - v * B * O) RC.B1
    obtain ⟨d1, d2, d3⟩ := gR_dvd (v * B * T) (0 - v * B * O) ((U.natAbs : Nat) : Int)
    have g0 : gR (v * B * T) (0 - v * B * O) ((U.natAbs : Nat) : Int) ≠ 0 := by omega
    have f1 := fdiv_back g0 d1
    have f2 := fdiv_back g0 d2
    have f3 := fdiv_back g0 d3
    have hlow : lowD (v * B * T) (0 - v * B * O) (upN (t4L P)) ((U.natAbs : Nat) : Int) = ptD ((v * B * T).fdiv (gR (v * B * T) (0 - v * B * O) ((U.natAbs : Nat) : Int))) ((0 - v * B * O).fdiv (gR (v * B * T) (0 - v * B * O) ((U.natAbs : Nat) : Int))) (upN (t4L P)) ((((U.natAbs : Nat) : Int)).fdiv (gR (v * B * T) (0 - v * B * O) ((U.natAbs : Nat) : Int))) := rfl
    generalize (v * B * T).fdiv (gR (v * B * T) (0 - v * B * O) ((U.natAbs : Nat) : Int)) = T3 at *
    generalize (0 - v * B * O).fdiv (gR (v * B * T) (0 - v * B * O) ((U.natAbs : Nat) : Int)) = O3 at *
    generalize (((U.natAbs : Nat) : Int)).fdiv (gR (v * B * T) (0 - v * B * O) ((U.natAbs : Nat) : Int)) = B3 at *
    generalize gR (v * B * T) (0 - v * B * O) ((U.natAbs : Nat) : Int) = g at *
    have st : ∀ m : Int, NumS (m :: W') P (m * B3 + T3) O3 B3 := fun m => num_step NL.n (by rw [dv, ← hU]; rfl) hv (by omega) g g0 f1 f2 f3
    have N3 : NumL (0 :: W') P T3 O3 B3 := ⟨by have := st 0; rw [Int.zero_mul, Int.zero_add] at this; exact this, gl, RL.B1⟩
    obtain ⟨R3, o3, _⟩ := numL_rt H0 N3
    show dSet 1 _ _ [some (stD A P), some (rtD T O (upN (t4L P)) B), some (.int n)] S'
    unfold dMeth dMake
    refine set_go ?_
    walk_at "dy"
    intro a1 ha1
    refine rt_make (n := 2410) (R0 n hn) (by decide) ha1 fun S2 e2 => ?_
    rw [e2, lw n]
    refine ⟨⟨_, _, rfl, by decide +kernel⟩, ?_⟩
    intro a3 ha3
    refine rt_make (n := 2410) (R0 1 (by decide)) (by decide) ha3 fun S4 e4 => ?_
    rw [e4, lw 1]
    refine ⟨⟨_, _, rfl, by decide +kernel⟩, ?_⟩
    have eUv : ((U.natAbs : Nat) : Int).fdiv U = v := ev
    refine ⟨1, 0, 2, 1, T, O, upN (t4L P), B, T3, O3, B3, rfl, (R0 1 (by decide)).mono (by decide), RT.mono (by decide), R3.mono (by decide), by rw [hU]; exact hu, ?_⟩
    rw [hU, eUv]
    refine ⟨RC, hlow, fun t' o b s hs => ?_, ⟨fun e => absurd e o3, fun e => absurd e o0⟩, fun h => absurd rfl h.2.1⟩
    cases hs with
    | whole h => exact absurd h o3
    | both y h k _ _ => exact absurd rfl k
    | here h kz =>
      have e1 : (1 * T3 + 0 * O3 * upN (t4L P)) = T3 := by rw [Int.one_mul, Int.zero_mul, Int.zero_mul, Int.add_zero]
      have e2 : (1 * O3 + 0 * T3) = O3 := by rw [Int.one_mul, Int.zero_mul, Int.add_zero]
      have e3 : 1 * B3 = B3 := Int.one_mul _
      rw [e1, e2, e3, low_id gl]
      refine ⟨R3.mono (by decide), ?_⟩
      refine ⟨n, 0, 2, 1, T3, O3, upN (t4L P), B3, rfl, (R0 n hn).mono (by decide), R3.mono (by decide), fun t' o b s hs => ?_, fun h => absurd rfl h.2.1⟩
      cases hs with
      | whole h => exact absurd h o3
      | both y h k _ _ => exact absurd rfl k
      | here h kz =>
        have e4 : (0 * B3 + O3 * 1) = O3 := by rw [Int.zero_mul, Int.zero_add, Int.mul_one]
        have e5 : (n * B3 + T3 * 1) = n * B3 + T3 := by rw [Int.mul_one]
        rw [e4, e5, e3]
        have RN : RtI 8000 (n * B3 + T3) O3 (upN (t4L P)) B3 := ⟨lt8 (le_add2 (n := 2440) (le_mul2 (sz hn) (sz R3.bB) (by decide)) (le_up (sz R3.bT) (by decide)) (Nat.le_refl _)) (by decide), (R3.mono (by decide)).bO, (R3.mono (by decide)).bq, (R3.mono (by decide)).bB, R3.q2, R3.sq, R3.B1⟩
        refine ⟨RN, ?_⟩
        obtain ⟨T5, O5, B5, e6, N5, _⟩ := low_num RN (st n)
        rw [e6]
        exact k _ _ ⟨n :: W', T5, O5, B5, some (.int n), by simp, rfl, rfl, N5⟩
  · rintro σ S' ⟨W, T, O, B, z, ex, rfl, rfl, NL⟩
    have eW : A = W := mpI_inj (List.reverse_inj.mp ex)
    subst eW
    exact fin _ _ (q1 _ _ _ NL)

theorem at_mem {A R : List Int} (hR : 1 ≤ R.length) (i : Nat) : atSt A R i ∈ A ∨ atSt A R i ∈ R := by
  unfold atSt
  split
  · rename_i h
    rw [List.getD_eq_getElem?_getD, List.getElem?_eq_getElem h]
    exact .inl (List.getElem_mem h)
  · have h : (i - A.length) % R.length < R.length := Nat.mod_lt _ (by omega)
    rw [List.getD_eq_getElem?_getD, List.getElem?_eq_getElem h]
    exact .inr (List.getElem_mem h)
theorem pure_Stair_fraction : ∀ ds S Q Ed, sp_Stair_fraction ds S Q Ed → t_Stair_fraction Ed { nx := fun _ S' => Q .non S', rt := Q } (startD N_Stair_fraction ds) S := by
  rintro ds S Q Ed ⟨A, R, n, rfl, r1, r2, a1, hA, hR, hn, q⟩
  rw [st_Stair_fraction]
  unfold t_Stair_fraction
  refine seq_step fun r hr => ?_
  walk_at "dy"
  refine comp_pure (fun d => match d with | .int i => .int (atSt A R i.toNat) | d => d) (rgD 0 n) S (fun R' hR' => ?_) (fun x hx S' Q' q' => ?_) (by rw [rgD_len]; omega) ?_
  · walk_at "dy"
    exact ⟨by omega, by rw [Int.toNat_natCast]; exact hR'⟩
  · obtain ⟨j, hj, rfl⟩ := List.mem_map.mp hx
    have e : ((0 : Int) + (j : Int)).toNat = j := by omega
    dsimp only at q'
    rw [e] at q'
    unfold dMeth
    walk_at "dy"
    refine ⟨⟨_, _, rfl, by decide +kernel⟩, ?_⟩
    exact ⟨A, R, _, rfl, r1, r2, a1, fun h => by omega, fun _ => by rw [e]; exact q'⟩
  have em : (rgD 0 n).map (fun d => match d with | .int i => .int (atSt A R i.toNat) | d => d) = (rwA A R n).map D.int := by
    unfold rgD rwA
    rw [List.map_map, List.map_map]
    exact List.map_congr_left fun j _ => by
      show D.int (atSt A R (0 + (j : Int)).toNat) = D.int (atSt A R j)
      rw [Int.zero_add, Int.toNat_natCast]
  rw [em]
  refine ⟨rwA A R n, 20, _, rfl, .inr rfl, fun a ha => ?_, by decide, by unfold rwA; simp; omega, ?_⟩
  · obtain ⟨j, _, rfl⟩ := List.mem_map.mp ha
    rcases at_mem (A := A) r1 j with h | h
    · exact hA _ h
    · exact hR _ h
  subst hr
  try walk_at "dy"
  exact q

theorem pure_is_reduced : ∀ ds S Q Ed, sp_is_reduced ds S Q Ed → t_is_reduced Ed { nx := fun _ S' => Q .non S', rt := Q } (startD N_is_reduced ds) S := by
  rintro ds S Q Ed ⟨t, b, s, rfl, q⟩
  rw [st_is_reduced]
  unfold t_is_reduced
  unfold redB at q
  walk_at "dy"
  by_cases c1 : 0 < b
  · rw [if_pos c1]
    rw [decide_eq_true c1] at q
    by_cases c2 : b ≤ t + s
    · rw [if_pos c2]
      rw [decide_eq_true c2] at q
      by_cases c3 : t ≤ s
      · rw [if_pos c3]
        rw [decide_eq_true c3] at q
        exact q
      · rw [if_neg c3]
        rw [decide_eq_false c3] at q
        exact q
    · rw [if_neg c2]
      rw [decide_eq_false c2] at q
      exact q
  · rw [if_neg c1]
    rw [decide_eq_false c1] at q
    exact q

theorem pure_step_on : ∀ ds S Q Ed, sp_step_on ds S Q Ed → t_step_on Ed { nx := fun _ S' => Q .non S', rt := Q } (startD N_step_on ds) S := by
  rintro ds S Q Ed ⟨t, b, U, s, rfl, R, b0, hU, ht, hb, q⟩
  rw [st_step_on]
  unfold t_step_on
  refine seq_step fun r hr => ?_
  walk_at "dy"
  refine ⟨U, rfl, by have := (sqR_le R).2; omega, hU, fun y y0 y1 y2 => ?_⟩
  have : y = s := sqR_uniq ⟨y0, by have := sqR_no R y; omega, y2⟩ R
  subst this
  try walk_at "dy"
  subst hr
  refine seq_step fun r hr => ?_
  walk_at "dy"
  have lb : ∀ x : Int, x.natAbs < 2 ^ 8600 → x.natAbs.log2 < 9000 := fun x h => by
    have := log2_lt h (by decide)
    omega
  have ab : (if b < 0 then -b else b).natAbs = b.natAbs := by split <;> omega
  refine ⟨⟨by split <;> omega, by rw [ab]; exact lb b hb⟩, ?_⟩
  have sU := sqR_le R
  have ft : ∀ n : Int, n = flW y t b → (n * b - t).natAbs < 2 ^ 8602 := fun n e => by
    have := fl_near (s := y) (t := t) b0
    rw [← e] at this
    have p1 : (2 : Nat) ^ 8602 = 4 * 2 ^ 8600 := by rw [show 8602 = 2 + 8600 from rfl, Nat.pow_add]
    have p2 : (2 : Nat) ^ 8500 ≤ 2 ^ 8600 := Nat.pow_le_pow_right (by decide) (by decide)
    omega
  have tail : r { nx := fun x S' => Q D.non S', rt := Q } [some (D.int t), some (D.int b), some (D.int U), some (D.int y), some (D.int ((t + y).fdiv (if b < 0 then -b else b)))] S := by
    subst hr
    refine seq_step fun r hr => ?_
    have tail : ∀ n : Int, n = flW y t b → r { nx := fun x S' => Q D.non S', rt := Q } [some (D.int t), some (D.int b), some (D.int U), some (D.int y), some (D.int n)] S := fun n e => by
      have fn := ft n e
      have nb : n.natAbs < 2 ^ 8603 := by
        have h1 : (n * b).natAbs < 2 ^ 8603 := by
          have p1 : (2 : Nat) ^ 8603 = 2 * 2 ^ 8602 := by rw [show 8603 = 1 + 8602 from rfl, Nat.pow_add]
          have p2 : (2 : Nat) ^ 8600 ≤ 2 ^ 8602 := Nat.pow_le_pow_right (by decide) (by decide)
          omega
        rw [Int.natAbs_mul] at h1
        have h2 : n.natAbs * 1 ≤ n.natAbs * b.natAbs := Nat.mul_le_mul_left _ (by omega)
        omega
      subst hr
      refine seq_step fun r hr => ?_
      walk_at "dy"
      refine ⟨mulOk 8603 8600 nb hb (by decide) (by decide) (by decide), ?_⟩
      subst hr
      walk_at "dy"
      refine ⟨powOk 8602 2 fn (by decide) (by decide) (by decide), ⟨b0, lb b hb⟩, ?_⟩
      have e4 : ∀ v : Int, v ^ Int.toNat 2 = v * v := fun v => by rw [show Int.toNat 2 = 2 from rfl, Int.pow_succ, Int.pow_succ, Int.pow_zero, Int.one_mul]
      rw [e4, e]
      exact q
    walk_at "dy"
    by_cases c : b < 0
    · simp only [if_pos c]
      try walk_at "dy"
      exact tail _ (by unfold flW; rw [if_pos c])
    · simp only [if_neg c]
      try walk_at "dy"
      exact tail _ (by unfold flW; rw [if_neg c])
  exact tail

theorem pure_ring_from : ∀ ds S Q Ed, sp_ring_from ds S Q Ed → t_ring_from Ed { nx := fun _ S' => Q .non S', rt := Q } (startD N_ring_from ds) S := by
  rintro ds S Q Ed ⟨t, b, U, s, rfl, R, hd, hU, ht, hb, q1, q2⟩
  rw [st_ring_from]
  unfold t_ring_from
  refine seq_step fun r hr => ?_
  walk_at "dy"
  intro p hp
  subst hr
  refine seq_step fun r hr => ?_
  walk_at "dy"
  subst hr
  refine seq_step fun r hr => ?_
  walk_at "dy"
  refine ⟨by constructor <;> decide, ?_⟩
  refine loop_rng (fun i σ S' => (∃ z1 z2, σ = [some (.int (stW s U (t, b) i).1), some (.int (stW s U (t, b) i).2), some (.int U), some (.obj p), some (.tup [.int t, .int b]), z1, z2]) ∧ S' = upS S p (.lst ((dgsW s U (t, b) 0 i).map D.int)) ∧ i ≤ 40 ∧ ∀ k, 0 < k → k ≤ i → stW s U (t, b) k ≠ (t, b)) ⟨⟨none, none, rfl⟩, rfl, by decide, fun k h1 h2 => by omega⟩ ?_ ?_
  · rintro i σ S' N hi ⟨⟨z1, z2, rfl⟩, rfl, h40, no⟩ k
    have hi : i < 40 := by omega
    obtain ⟨w1, w2⟩ := st_small R hd hU ht hb (i := i) (by omega)
    have up : ∀ {n : Nat}, n < 2 ^ 8592 → n < 2 ^ 8600 := fun h => Nat.lt_of_lt_of_le h (Nat.pow_le_pow_right (by decide) (by decide))
    have dv := st_dv R hd i
    refine seq_step fun r1 hr1 => ?_
    walk_at "dy"
    refine ⟨_, _, U, s, rfl, R, dv.1, hU, up w1, up w2, ?_⟩
    try walk_at "dy"
    have e1 : (nxW s U ((stW s U (t, b) i).fst, (stW s U (t, b) i).snd)) = stW s U (t, b) (i + 1) := (st_snoc s U (t, b) i).symm
    have e2 : flW s (stW s U (t, b) i).fst (stW s U (t, b) i).snd = dgW s U (t, b) (0 + i) := by rw [Nat.zero_add]; rfl
    rw [e1, e2]
    have e3 : ((dgsW s U (t, b) 0 i).map D.int) ++ [.int (dgW s U (t, b) (0 + i))] = (dgsW s U (t, b) 0 (i + 1)).map D.int := by rw [dgsW_snoc, List.map_append]; rfl
    have ll : (dgsW s U (t, b) 0 i).length = i := by unfold dgsW; rw [List.length_map, List.length_range]
    have hx : Ext S (upS S p (.lst ((dgsW s U (t, b) 0 (i + 1)).map D.int))) := Ext.ups hp
    have step : r1 { nx := N, rt := Q, bk := r { nx := fun x S' => Q D.non S', rt := Q }, ct := N } [some (.int (stW s U (t, b) (i + 1)).1), some (.int (stW s U (t, b) (i + 1)).2), some (.int U), some (.obj p), some (.tup [.int t, .int b]), some (.int (0 + i)), some (.int (dgW s U (t, b) (0 + i)))] (upS S p (.lst ((dgsW s U (t, b) 0 i).map D.int))) := by
      subst hr1
      refine seq_step fun r2 hr2 => ?_
      walk_at "dy"
      refine ⟨⟨_, upS_same⟩, ?_⟩
      have app : ∀ Q : DK, appQ (upS S p (.lst ((dgsW s U (t, b) 0 i).map D.int))) (.int (dgW s U (t, b) (0 + i))) Q (.obj p) → rdApp (.obj p) [.int (dgW s U (t, b) (0 + i))] (upS S p (.lst ((dgsW s U (t, b) 0 i).map D.int))) Q := fun _ h => h
      refine app _ ?_
      rw [x_app upS_same]
      refine ⟨by rw [List.length_map, ll]; omega, ?_⟩
      rw [upS_upS, e3]
      have next : stW s U (t, b) (i + 1) ≠ (t, b) → N [some (.int (stW s U (t, b) (i + 1)).1), some (.int (stW s U (t, b) (i + 1)).2), some (.int U), some (.obj p), some (.tup [.int t, .int b]), some (.int (0 + i)), some (.int (dgW s U (t, b) (0 + i)))] (upS S p (.lst ((dgsW s U (t, b) 0 (i + 1)).map D.int))) := fun h => k _ _ ⟨⟨_, _, rfl⟩, rfl, by omega, fun j j0 j1 => by
        by_cases e : j = i + 1
        · rw [e]; exact h
        · exact no j j0 (by omega)⟩
      have stop : stW s U (t, b) (i + 1) = (t, b) → Q (ringD (dgsW s U (t, b) 0 (i + 1))) (upS S p (.lst ((dgsW s U (t, b) 0 (i + 1)).map D.int))) := fun h => q1 (i + 1) (by omega) (by omega) (fun j j0 j1 => no j j0 (by omega)) h _ hx
      generalize stW s U (t, b) (i + 1) = y at *
      obtain ⟨y1, y2⟩ := y
      subst hr2
      walk_at "dy"
      show rdEq (.tup ([y1, y2].map D.int)) (.tup ([t, b].map D.int)) _ _
      refine ⟨⟨okD_eqOk (okD_ints _) (by decide), okD_eqOk (okD_ints _) (by decide)⟩, ?_⟩
      have ed : deq (.tup ([y1, y2].map D.int)) (.tup ([t, b].map D.int)) = decide ([y1, y2] = [t, b]) := deqL_ringE
      rw [ed]
      by_cases c : (y1, y2) = (t, b)
      · have e5 := stop c
        obtain ⟨rfl, rfl⟩ := Prod.mk.inj c
        rw [decide_eq_true rfl]
        show rdTupA [D.obj p] (upS S p (.lst ((dgsW s U (y1, y2) 0 (i + 1)).map D.int))) Q
        exact tup_at upS_same e5
      · rw [decide_eq_false (fun h => c (by
          injection h with h1 h2
          injection h2 with h2
          rw [h1, h2]))]
        exact next c
    exact step
  · rintro σ S' ⟨⟨z1, z2, rfl⟩, rfl, h40, no⟩
    subst hr
    unfold dRaiseF1
    walk_at "dy"
    exact q2 (fun k k1 k2 => no k k1 (by show k ≤ 40; exact k2)) _ (Ext.ups hp)

theorem pure_stair_of : ∀ ds S Q Ed, sp_stair_of ds S Q Ed → t_stair_of Ed { nx := fun _ S' => Q .non S', rt := Q } (startD N_stair_of ds) S := by
  rintro ds S Q Ed ⟨T, O, q, B, rfl, hB, q2, hq, bU, bT, bB, f0, f1⟩
  rw [st_stair_of]
  unfold t_stair_of
  refine seq_step fun r hr => ?_
  unfold dMeth
  walk_at "dy"
  refine ⟨⟨_, _, rfl, by decide +kernel⟩, ?_⟩
  refine ⟨_, rfl, ?_⟩
  try walk_at "dy"
  subst hr
  refine seq_step fun r hr => ?_
  walk_at "dy"
  by_cases o0 : O = 0
  · subst o0
    try walk_at "dy"
    exact f0 rfl
  rw [if_neg o0]
  have f1 := f1 o0
  clear f0
  subst hr
  refine seq_step fun r hr => ?_
  have low : ∀ g : Int, g = sgT O → r { nx := fun _ S' => Q .non S', rt := Q } [some (rtD' T O q B), some (.int (g * T)), some (.int (g * O)), some (.int q), some (.int (g * B)), none, none, none, none] S := fun g eg => by
    have gg := sgT_sq O
    rw [← eg] at gg
    have x1 : stX T O B = (g * T * B, g * B * B) := by unfold stX; rw [← eg, Int.mul_assoc, Int.mul_assoc]
    have x2 : ∀ v : Int, v ^ Int.toNat 2 = v * v := fun v => by rw [show Int.toNat 2 = 2 from rfl, Int.pow_succ, Int.pow_succ, Int.pow_zero, Int.one_mul]
    have x3 : (g * O * (g * B)) * (g * O * (g * B)) = (O * B) * (O * B) := by
      have alg : ∀ g O B : Int, (g * O * (g * B)) * (g * O * (g * B)) = (g * g) * (g * g) * ((O * B) * (O * B)) := fun g O B => by grind
      rw [alg, gg, Int.one_mul, Int.one_mul]
    have x4 : (if g * B < 0 then -(g * B) else g * B) = B := by
      have : g = 1 ∨ g = -1 := by rw [eg]; unfold sgT; split <;> simp
      rcases this with rfl | rfl
      · rw [Int.one_mul, if_neg (by omega)]
      · rw [show -1 * B = -B by omega, if_pos (by omega)]; omega
    subst hr
    refine seq_step fun r hr => ?_
    walk_at "dy"
    rw [x4, x2, x3]
    have nsq : ∀ y : Int, y * y ≠ (O * B) * (O * B) * q := fun y => no_rt hq (Int.mul_ne_zero o0 (by omega))
    obtain ⟨s, R⟩ := sqR_ex (U := (O * B) * (O * B) * q) (by
      have h1 : 0 ≤ (O * B) * (O * B) := by
        rcases Int.le_total 0 (O * B) with c | c
        · exact Int.mul_nonneg c c
        · have := Int.mul_nonneg (show 0 ≤ -(O * B) by omega) (show 0 ≤ -(O * B) by omega)
          rwa [Int.neg_mul_neg] at this
      exact Int.mul_nonneg h1 (by omega)) nsq
    obtain ⟨g1, g2, g3⟩ := f1 s R
    clear f1
    have ga : ∀ v : Int, (g * v).natAbs = v.natAbs := fun v => by
      have : g = 1 ∨ g = -1 := by rw [eg]; unfold sgT; split <;> simp
      rcases this with rfl | rfl <;> omega
    have le1 : ∀ {a b : Int} {n : Nat}, 1 ≤ b.natAbs → (a * b).natAbs < n → a.natAbs < n := fun {a b n} h1 h2 => by
      rw [Int.natAbs_mul] at h2
      have := Nat.mul_le_mul_left a.natAbs h1
      omega
    have o1 : 1 ≤ (O * B).natAbs := by have := Int.mul_ne_zero o0 (show B ≠ 0 by omega); omega
    have bT' := le1 (a := T) (b := B) (by omega) bT
    have bB' := le1 (a := B) (b := B) (by omega) bB
    have bO2 := le1 (a := (O * B) * (O * B)) (b := q) (by omega) bU
    have bO1 := le1 (a := O * B) (b := O * B) o1 bO2
    have bO' := le1 (a := O) (b := B) (by omega) bO1
    have bq' : q.natAbs < 2 ^ 8500 := by
      rw [Int.mul_comm] at bU
      refine le1 (a := q) (b := (O * B) * (O * B)) ?_ bU
      rw [Int.natAbs_mul]
      exact Nat.mul_le_mul o1 o1
    have dv : DvS ((O * B) * (O * B) * q) (stX T O B) := stX_dv hB
    have b1 : (stX T O B).1.natAbs < 2 ^ 8580 := by rw [x1, Int.mul_assoc, ga]; exact bT
    have b2 : (stX T O B).2.natAbs < 2 ^ 8580 := by rw [x1]; dsimp only; rw [Int.mul_assoc, ga]; exact bB
    have e1 : g * T * B = (stX T O B).1 := by rw [x1]
    have e2 : g * B * B = (stX T O B).2 := by rw [x1]
    refine ⟨mulOk 8580 8580 (by rw [ga]; exact bT') bB' (by decide) (by decide) (by decide), mulOk 8500 8580 (by rw [ga]; exact bO') (by rw [ga]; exact bB') (by decide) (by decide) (by decide), powOk 8500 2 (by
      have alg : g * O * (g * B) = (g * g) * (O * B) := by clear x1 x2 x3 x4 nsq g1 g2 g3 R dv; grind
      rw [alg, gg, Int.one_mul]; exact bO1) (by decide) (by decide) (by decide), mulOk 8500 8500 bO2 bq' (by decide) (by decide) (by decide), mulOk 8580 8580 (by rw [ga]; exact bB') bB' (by decide) (by decide) (by decide), ?_⟩
    rw [e1, e2]
    clear x1 e1 e2 x3 x4 nsq o1 bO2 bO1 bT bB bT' bB' bO' bq'
    generalize hU : (O * B) * (O * B) * q = U at *
    generalize stX T O B = x at *
    obtain ⟨t, b⟩ := x
    subst hr
    refine seq_step fun r hr => ?_
    walk_at "dy"
    intro p hp
    subst hr
    refine seq_step fun r hr => ?_
    have up90 : ∀ {n : Nat}, n < 2 ^ 8580 → n < 2 ^ 8590 := fun h => Nat.lt_of_lt_of_le h (Nat.pow_le_pow_right (by decide) (by decide))
    refine while_inv (fun m σ S' => ∃ (i : Nat) (z : Option D), σ = [some (rtD' T O q B), some (.int (stW s U (t, b) i).1), some (.int (g * O)), some (.int q), some (.int (g * B)), some (.int U), some (.int (stW s U (t, b) i).2), some (.obj p), z] ∧ S' = upS S p (.lst ((dgsW s U (t, b) 0 i).map D.int)) ∧ i ≤ 20 ∧ (∀ k, k < i → ¬ RedS s (stW s U (t, b) k).1 (stW s U (t, b) k).2) ∧ m = 20 - i) 20 ⟨0, none, rfl, rfl, by decide, fun k h => by omega, rfl⟩ ?_
    rintro m σ S' N ⟨i, z, rfl, rfl, h20, no, rfl⟩ k
    have hx : ∀ l, Ext S (upS S p l) := fun l => Ext.ups hp
    obtain ⟨w1, w2⟩ := st_small R dv bU (up90 b1) (up90 b2) (i := i) (by omega)
    have upw : ∀ {n : Nat}, n < 2 ^ 8592 → n < 2 ^ 8600 := fun h => Nat.lt_of_lt_of_le h (Nat.pow_le_pow_right (by decide) (by decide))
    have dvi := st_dv R dv i
    walk_at "dy"
    refine ⟨U, rfl, by have := (sqR_le R).2; omega, bU, fun y y0 y1 y2 => ?_⟩
    have : y = s := sqR_uniq ⟨y0, by have := sqR_no R y; omega, y2⟩ R
    subst this
    refine ⟨_, _, _, rfl, ?_⟩
    have ll : (dgsW y U (t, b) 0 i).length = i := by unfold dgsW; rw [List.length_map, List.length_range]
    by_cases c : RedS y (stW y U (t, b) i).1 (stW y U (t, b) i).2
    · rw [redB_iff.mpr c]
      try walk_at "dy"
      subst hr
      walk_at "dy"
      refine tup_at upS_same ?_
      obtain ⟨r1, r2, r3, r4⟩ := c
      have sU := sqR_le R
      have p1 : (2 : Nat) ^ 8590 = 2 ^ 90 * 2 ^ 8500 := by rw [← Nat.pow_add]
      have p2 : 4 * 2 ^ 8500 ≤ 2 ^ 90 * (2 : Nat) ^ 8500 := Nat.mul_le_mul_right _ (by decide)
      have x0 : ∀ j, stW y U ((stW y U (t, b) i).1, (stW y U (t, b) i).2) j = stW y U (t, b) (i + j) := fun j => (stW_add y U (t, b) i j).symm
      have x1 : ∀ m, dgsW y U ((stW y U (t, b) i).1, (stW y U (t, b) i).2) 0 m = dgsW y U (t, b) i m := fun m => (dgsW_add y U (t, b) i m).symm
      have xe : ((stW y U (t, b) i).1, (stW y U (t, b) i).2) = stW y U (t, b) i := rfl
      refine ⟨_, _, U, y, rfl, R, dvi, bU, by omega, by omega, fun j j1 j2 j3 j4 S2 hS2 => ?_, fun h S2 hS2 => ?_⟩
      · rw [x1]
        refine ⟨dgsW y U (t, b) 0 i, dgsW y U (t, b) i j, rfl, by omega, by unfold dgsW; rw [List.length_map, List.length_range]; omega, by unfold dgsW; rw [List.length_map, List.length_range]; omega, ?_⟩
        refine g1 i j h20 no ⟨r1, r2, r3, r4⟩ j1 j2 (fun k k0 k1 => ?_) ?_ S2 ((hx _).trans hS2)
        · have := j3 k k0 k1
          rw [x0] at this
          exact this
        · rw [x0] at j4
          exact j4
      · refine g2 i h20 no ⟨r1, r2, r3, r4⟩ (fun k k0 k1 => ?_) S2 ((hx _).trans hS2)
        have := h k k0 k1
        rw [x0] at this
        exact this
    · rw [Bool.eq_false_iff.mpr fun h => c (redB_iff.mp h)]
      try walk_at "dy"
      refine len_at upS_same ?_
      rw [List.length_map, ll]
      try walk_at "dy"
      by_cases c20 : i = 20
      · subst c20
        rw [if_pos (by decide)]
        unfold dRaiseF1
        walk_at "dy"
        refine g3 (fun k hk => ?_) _ (hx _)
        by_cases e : k = 20
        · rw [e]; exact c
        · exact no k (by omega)
      · rw [if_neg (by omega)]
        refine ⟨_, _, U, y, rfl, R, dvi.1, bU, upw w1, upw w2, ?_⟩
        have e1 : (nxW y U ((stW y U (t, b) i).fst, (stW y U (t, b) i).snd)) = stW y U (t, b) (i + 1) := (st_snoc y U (t, b) i).symm
        have e2 : flW y (stW y U (t, b) i).fst (stW y U (t, b) i).snd = dgW y U (t, b) (0 + i) := by rw [Nat.zero_add]; rfl
        rw [e1, e2]
        try walk_at "dy"
        refine ⟨⟨_, upS_same⟩, app_at upS_same (by rw [List.length_map, ll]; omega) ?_⟩
        have e3 : ((dgsW y U (t, b) 0 i).map D.int) ++ [.int (dgW y U (t, b) (0 + i))] = (dgsW y U (t, b) 0 (i + 1)).map D.int := by rw [dgsW_snoc, List.map_append]; rfl
        rw [upS_upS, e3]
        refine k _ _ _ (show 20 - (i + 1) < 20 - i by omega) ⟨i + 1, _, rfl, rfl, by omega, fun k hk => ?_, rfl⟩
        by_cases e : k = i
        · rw [e]; exact c
        · exact no k (by omega)
  walk_at "dy"
  by_cases c : O < 0
  · rw [if_pos c]
    have := low (-1) (by unfold sgT; rw [if_pos c])
    rw [show -1 * T = 0 - T by omega, show -1 * O = 0 - O by omega, show -1 * B = 0 - B by omega] at this
    exact this
  · rw [if_neg c]
    have := low 1 (by unfold sgT; rw [if_neg c])
    rw [Int.one_mul, Int.one_mul, Int.one_mul] at this
    exact this

theorem pure_law_urn : ∀ ds S Q Ed, sp_law_urn ds S Q Ed → t_law_urn Ed { nx := fun _ S' => Q .non S', rt := Q } (startD N_law_urn ds) S := by
  rintro ds S Q Ed ⟨ns, at_, rfl, h0, h1, q⟩
  rw [st_law_urn]
  unfold t_law_urn
  walk_at "dy"
  have fin : ∀ (g c : Int), 0 ≤ g → ∀ p, S p = none → Q (.obj p) (upS S p (.lst [.int g, .int (c.fmod 1000000000000000003 + 97 * at_ * at_ + 31 * at_ + 1), .int 0])) := fun g c hg p hp => by
    have f := fmod_in (a := c) (b := 1000000000000000003) (by decide)
    have e1 : 0 ≤ 97 * at_ * at_ := Int.mul_nonneg (by omega) h0
    have e2 : 97 * at_ * at_ ≤ 9700 * 100 := Int.mul_le_mul (by omega) (by omega) h0 (by omega)
    exact q p _ hp ⟨g, _, 0, upS_same, hg, by omega, by omega, by decide, by decide⟩ fun a ha => upS_ne ha
  have m1 : (Int.natAbs 97).log2 + at_.natAbs.log2 < 1000000 := mulOk 7 7 (by decide) (by omega) (by decide) (by decide) (by decide)
  have m2 : (97 * at_).natAbs.log2 + at_.natAbs.log2 < 1000000 := mulOk 14 7 (by omega) (by omega) (by decide) (by decide) (by decide)
  have m3 : (Int.natAbs 31).log2 + at_.natAbs.log2 < 1000000 := mulOk 7 7 (by decide) (by omega) (by decide) (by decide) (by decide)
  by_cases c : at_ < ((ns.map D.int).length : Int)
  · rw [if_pos c, atI_lt h0 c, List.getElem?_map]
    rw [List.length_map] at c
    have e : ns[at_.toNat]? = some ns[at_.toNat] := List.getElem?_eq_getElem (by omega)
    rw [e]
    show ixQ S _ (some (D.int ns[at_.toNat]))
    walk_at "dy"
    refine ⟨by decide, ?_⟩
    generalize e2 : (if ns[at_.toNat] < 0 then -ns[at_.toNat] else ns[at_.toNat]) = g
    have hg : 0 ≤ g := by rw [← e2]; split <;> omega
    split
    · exact ⟨by decide, m1, m2, m3, fin _ _ (by decide)⟩
    · exact ⟨by decide, m1, m2, m3, fin _ _ hg⟩
  · rw [if_neg c]
    refine ⟨by decide, ?_⟩
    split
    · exact ⟨by decide, m1, m2, m3, fin _ _ (by decide)⟩
    · exact ⟨by decide, m1, m2, m3, fin _ _ (by decide)⟩

theorem pure_law_draw : ∀ ds S Q Ed, sp_law_draw ds S Q Ed → t_law_draw Ed { nx := fun _ S' => Q .non S', rt := Q } (startD N_law_draw ds) S := by
  rintro ds S Q Ed ⟨u, w, B, rfl, ⟨g, c, n, hu, g0, c0, c1, n0, n1⟩, hB, w0, w1, q⟩
  have lw : w.natAbs.log2 < 9000 := Nat.lt_of_lt_of_le (log2_lt (n := 1000) (abs_lt_of (by omega) w1) (by decide)) (by decide)
  rw [st_law_draw]
  unfold t_law_draw
  walk_at "dy"
  rw [x_ixo hu]
  walk_at "dy"
  by_cases cg : 0 < g
  · rw [if_pos cg, x_ixo hu]
    walk_at "dy"
    refine ⟨by omega, ?_⟩
    rw [x_ixo hu]
    walk_at "dy"
    refine ⟨⟨by omega, lw⟩, ?_⟩
    rw [x_set hu (ixN_0 (by simp))]
    walk_at "dy"
    have f := fmod_in (a := g) w0
    refine q _ _ f.1 f.2 ⟨g.fdiv w, c, n, upS_same, ?_, c0, c1, n0, by omega⟩ fun a ha => upS_ne ha
    rw [Int.fdiv_eq_ediv_of_nonneg g (by omega)]
    exact Int.ediv_nonneg g0 (by omega)
  · rw [if_neg cg]
    rw [x_ixo hu]
    walk_at "dy"
    rw [x_set hu (ixN_2 (by simp))]
    have hu2 : upS S u (.lst [.int g, .int c, .int (n + 1)]) u = some (.lst [.int g, .int c, .int (n + 1)]) := upS_same
    walk_at "dy"
    rw [x_ixo hu2]
    walk_at "dy"
    rw [x_ixo hu2]
    walk_at "dy"
    have hn : n < 2 ^ 100 + 1 := by omega
    have b1 : (n + 1).natAbs < 2 ^ 101 := abs_lt_of (by omega) (by omega)
    have b2 : (2 * (n + 1) + 1).natAbs < 2 ^ 103 := abs_lt_of (by omega) (by omega)
    have b3 : c.natAbs < 2 ^ 70 := abs_lt_of c0 c1
    have b4 : (c * (2 * (n + 1) + 1)).natAbs < 2 ^ (70 + 103) := wide_lt b3 b2
    have b5 : (6007 * (n + 1)).natAbs < 2 ^ (13 + 101) := wide_lt (by decide) b1
    have b6 : (6007 * (n + 1) * (n + 1)).natAbs < 2 ^ (13 + 101 + 101) := wide_lt b5 b1
    have b7 : (c * (2 * (n + 1) + 1) + 6007 * (n + 1) * (n + 1) + 53).natAbs < 2 ^ 220 := by
      have e1 : (2 : Nat) ^ (70 + 103) ≤ 2 ^ 216 := Nat.pow_le_pow_right (by decide) (by decide)
      have e2 : (2 : Nat) ^ (13 + 101 + 101) ≤ 2 ^ 216 := Nat.pow_le_pow_right (by decide) (by decide)
      omega
    refine ⟨mulOk 2 101 (by decide) b1 (by decide) (by decide) (by decide), mulOk 70 103 b3 b2 (by decide) (by decide) (by decide), mulOk 13 101 (by decide) b1 (by decide) (by decide) (by decide), mulOk (13 + 101) 101 b5 b1 (by decide) (by decide) (by decide), powOk 220 3 b7 (by decide) (by decide) (by decide), by decide, ?_⟩
    have f7 := fmod_in (a := n + 1) (b := 7) (by decide)
    obtain ⟨p, ep, p0, p1⟩ := primes_at f7.1 f7.2
    have f8 := fmod_in (a := n + 1 + 3) (b := 7) (by decide)
    obtain ⟨p', ep', p0', p1'⟩ := primes_at f8.1 f8.2
    unfold primes at ep ep'
    rw [ep]
    walk_at "dy"
    have fm := fmod_in (a := (c * (2 * (n + 1) + 1) + 6007 * (n + 1) * (n + 1) + 53) ^ Int.toNat 3) (b := p) (by omega)
    rw [ep']
    walk_at "dy"
    generalize (c * (2 * (n + 1) + 1) + 6007 * (n + 1) * (n + 1) + 53) ^ Int.toNat 3 = big at fm ⊢
    have fd : 0 ≤ (big.fmod p).fdiv 8191 ∧ (big.fmod p).fdiv 8191 < 2 ^ 31 := by
      rw [Int.fdiv_eq_ediv_of_nonneg _ (by decide)]
      omega
    refine ⟨by omega, ⟨by decide, by decide⟩, mulOk 31 102 (abs_lt_of fm.1 (by omega)) (abs_lt_of (by omega) (by omega)) (by decide) (by decide) (by decide), by decide, by omega, ⟨by decide, by decide⟩, by omega, ?_⟩
    exact q _ _ (fmod_in w0).1 (fmod_in w0).2 ⟨g, c, n + 1, upS_same, g0, c0, c1, by omega, by omega⟩ fun a ha => upS_ne ha

theorem sm_ring {L : List Int} (R : RowI L) : sm 20 (ringD L) = true := smT.mpr fun d hd => by
  obtain ⟨a, ha, rfl⟩ := List.mem_map.mp hd
  have := R.el a ha
  exact sm_int.mpr (abs_lt_of (by omega) (by omega))
theorem draws {σ : Si} {i : Nat} {te : TED} {S : Sd} {u : Addr} {B w : Int} {n : Nat} {Q : DK} {ti : TID} {vs : List Nat} (hti : ∀ R : List D → Sd → Prop, R (rgD 0 n) S → ti σ S R) (hw : 0 < w) (hw2 : w ≤ 999999) (hn : n ≤ 100) (hB : B ≤ 2 ^ 98) (hU : Urn S u B)
    (hte : ∀ x S' (Q' : DK), sp_law_draw [.obj u, .int w] S' (fun v S2 => rdAdd (.int 1) v S2 Q') (fun _ _ => False) → te ((wipeD σ vs).set i (some x)) S' Q') (q : ∀ (L : List Int) S', L.length = n → (∀ a ∈ L, 1 ≤ a ∧ a ≤ w) → Urn S' u (B + n) → Oth S S' u → Q (.lst (L.map D.int)) S') :
    dComp ti (dName i) dYes te vs σ S Q := by
  refine comp_inv (rgD 0 n) S (fun p acc S' => ∃ l : List Int, acc = l.map D.int ∧ (∀ a ∈ l, 1 ≤ a ∧ a ≤ w) ∧ Urn S' u (B + acc.length) ∧ ∀ a, a ≠ u → a ≠ p → S' a = S a) hti (fun p hp => ⟨[], rfl, (fun a h => by cases h), (hU.up (hU.ne hp)).mono (by show _ ≤ B + (0 : Nat); omega), fun a _ ha => upS_ne ha⟩) ?_ (by rw [rgD_len]; omega) ?_
  · rintro p pre x r acc S4 Q' hp hx hlen ⟨l, rfl, hl, hU4, ho4⟩ hS4 kk
    have up := hU.ne hp
    have hb : pre.length < n := by
      have := congrArg List.length hx
      rw [rgD_len, List.length_append, List.length_cons] at this
      omega
    rw [List.length_map] at hlen
    refine hte _ _ _ ⟨u, w, _, rfl, hU4, by rw [List.length_map]; omega, hw, Int.lt_of_le_of_lt hw2 (by decide), fun v S5 v0 v1 hU5 ho5 => ?_⟩
    rw [List.length_map] at hU5
    show Q' (.int (1 + v)) S5
    refine kk _ S5 ((ho5 p (Ne.symm up)).trans hS4) ⟨l ++ [1 + v], by rw [List.map_append]; rfl, fun a ha => ?_, (hU5.up up).mono ?_, fun a ha hb => ?_⟩
    · rcases List.mem_append.mp ha with ha | ha
      · exact hl a ha
      · rw [List.mem_singleton.mp ha]; omega
    · rw [List.length_append, List.length_map]
      show _ ≤ B + ((l.length + 1 : Nat) : Int)
      omega
    · rw [upS_ne hb, ho5 a ha, ho4 a ha hb]
  · rintro p acc S4 hp hn ⟨l, rfl, hl, hU4, ho4⟩ hS4
    rw [List.length_map, rgD_len] at hn
    rw [List.length_map, hn] at hU4
    exact q l _ hn hl (hU4.del (hU.ne hp)) (Oth.del ho4 hp)
theorem sm_row {L : List Int} (h : ∀ a ∈ L, a.natAbs + 1 ≤ 2 ^ 20) : sm 20 (ringD L) = true := smT.mpr fun d hd => by
  obtain ⟨a, ha, rfl⟩ := List.mem_map.mp hd
  have := h a ha
  exact sm_int.mpr (by omega)
theorem made {A R : List Int} (hA : aheadD (ringD A) = true) (hs : sm 20 (ringD A) = true) (hs2 : sm 20 (ringD R) = true) (lA : A.length ≤ 20) (hR : RowI R) {E : XKD} {S : Sd} {a : Addr} {P : List Str → List D → Sd → Prop}
    (q : P ["held_ahead", "held_ring"] [ringD (fewest A R).1, ringD (fewest A R).2] (upS S a (.ins "Stair" ["held_ahead", "held_ring"] [ringD (fewest A R).1, ringD (fewest A R).2]))) :
    sp_Stair___init__ [.obj a, ringD A, ringD R] (upS S a (.ins "Stair" [] [])) (fun v S2 => v = .non ∧ ∃ ns ys, S2 a = some (.ins "Stair" ns ys) ∧ P ns ys S2) E := by
  have r1 := ring_is hR
  refine ⟨a, _, _, 20, rfl, hs, hs2, okD_eqOk (okD_ints A) (by decide), upS_same, fun h => ?_, fun _ => ⟨A, R, rfl, rfl, lA, hR, rfl, _, _, upS_same, ?_⟩⟩
  · rw [hA, r1] at h; cases h
  · rw [upS_upS]; exact q
theorem StK.ahead {A : List Int} (h9 : ∀ a ∈ A, a.natAbs ≤ 999999) (tl : ∀ a ∈ A.tail, 1 ≤ a) (l : A.length ≤ 20) : aheadD (ringD A) = true := by
  match A with
  | [] => rfl
  | x :: xs =>
    have hx := h9 x List.mem_cons_self
    rw [List.length_cons] at l
    show (decide (-999999 ≤ x ∧ x ≤ 999999) && (decide ((0 : Int) ≤ ((xs.map D.int).length : Int) ∧ ((xs.map D.int).length : Int) ≤ 19) && (xs.map D.int).all (winD 1 999999))) = true
    rw [decide_eq_true (by omega), decide_eq_true (by rw [List.length_map]; omega), Bool.true_and, Bool.true_and, List.all_eq_true]
    intro d hd
    obtain ⟨a, ha, rfl⟩ := List.mem_map.mp hd
    have h1 := tl a ha
    have h2 := h9 a (List.mem_cons_of_mem _ ha)
    exact decide_eq_true (by omega)
theorem cb_go {rd : RDC} {t : TAD} {σ : Si} {S : Sd} {Q : DK} (h : t σ S fun xs S1 => rd xs S1 Q) : dCB rd t σ S Q := h
theorem sm_a9 {A : List Int} (h9 : ∀ a ∈ A, a.natAbs ≤ 999999) : sm 20 (ringD A) = true := sm_row fun a ha => by
  have := h9 a ha
  have e : (2 : Nat) ^ 20 = 1048576 := by decide
  omega
theorem pure_law_small_stair : ∀ ds S Q Ed, sp_law_small_stair ds S Q Ed → t_law_small_stair Ed { nx := fun _ S' => Q .non S', rt := Q } (startD N_law_small_stair ds) S := by
  rintro ds S Q Ed ⟨u, B, rfl, hU, hB, q⟩
  rw [st_law_small_stair]
  unfold t_law_small_stair
  have hB2 : ∀ c : Int, c ≤ 200 → B + c ≤ 2 ^ 98 := fun c h => Int.le_trans (Int.add_le_add hB h) (by decide)
  refine seq_step fun r hr => ?_
  walk_at "dy"
  refine ⟨u, 4, B, rfl, hU, by have := hB2 1 (by decide); omega, by decide, by decide, fun k S1 k0 k1 hU1 ho1 => ?_⟩
  try walk_at "dy"
  obtain ⟨w, ew, hw⟩ := at_nat (ns := [2, 3, 9, 999999]) k0 k1
  have w0 : 2 ≤ w ∧ w ≤ 999999 := by
    simp only [List.mem_cons, List.not_mem_nil, or_false] at hw
    omega
  have ew' : atI [D.int 2, D.int 3, D.int 9, D.int 999999] k = some (.int (w : Int)) := ew
  rw [ew']
  try walk_at "dy"
  subst hr
  refine seq_step fun r hr => ?_
  have comp_draw : ∀ {ti : TID} {g : TGD} {tt : TTD} {te : TED} {vs : List Nat} {σ : Si} {S : Sd} {Q : DK}, (ti σ S fun xs S1 => dComp (fun _ _ R => R xs S1) g tt te vs σ S1 Q) → dComp ti g tt te vs σ S Q := fun h => h
  refine seq_set ?_
  refine cb_go (cons_go (comp_draw ?_))
  walk_at "dy"
  refine ⟨u, 8, _, rfl, hU1, by have := hB2 1 (by decide); omega, by decide, by decide, fun t S2 t0 t1 hU2 ho2 => ?_⟩
  try dsimp only
  refine ⟨by omega, ?_⟩
  obtain ⟨t, rfl⟩ := Int.eq_ofNat_of_zero_le t0
  rw [show ((1 : Int) + (t : Int)).toNat = 1 + t by omega]
  refine draws (n := 1 + t) (w := (w : Int)) (fun R' h => h) (by omega) (by omega) (by omega) (by have := hB2 3 (by decide); omega) hU2 (fun x S' Q' h => ?_) (fun R S3 eR hR hU3 ho3 => ?_)
  · show dOp rdAdd (dC (.int 1)) (dCall sp_law_draw [] wd0 (dCons (dVar 0) (dCons (dVar 1) dNil))) [some (.obj u), some (.int (w : Int)), none, none, some x] S' Q'
    walk_at "dy"
    exact h
  rw [x_tupA_l]
  have hR1 : ∀ a ∈ R, 1 ≤ a ∧ a ≤ 999999 := fun a ha => by have := hR a ha; omega
  have R8 : R.length ≤ 8 := by omega
  have R0 : R ≠ [] := fun e => by rw [e, List.length_nil] at eR; omega
  have hU3 := hU3.mono (show _ ≤ B + 12 by omega)
  have hoR := (ho1.trans ho2).trans ho3
  clear eR hR hU1 hU2 t1 ho1 ho2 ho3
  subst hr
  refine seq_step fun r hr => ?_
  walk_at "dy"
  have compO_draw : ∀ {ti : TID} {g : TGD} {tt : TTD} {te : TED} {vs : List Nat} {σ : Si} {S : Sd} {Q : DK}, (ti σ S fun xs S1 => dCompO (fun _ _ R => R xs S1) g tt te vs σ S1 Q) → dCompO ti g tt te vs σ S Q := fun h => h
  refine compO_draw ?_
  walk_at "dy"
  refine ⟨u, 7, _, rfl, hU3, by have := hB2 12 (by decide); omega, by decide, by decide, fun m S4 m0 m1 hU4 ho4 => ?_⟩
  try dsimp only
  refine ⟨by omega, ?_⟩
  obtain ⟨m, rfl⟩ := Int.eq_ofNat_of_zero_le m0
  rw [Int.toNat_natCast]
  have hm : m ≤ 6 := by omega
  have ho : Oth S S4 u := hoR.trans ho4
  have hw5 : (w : Int) < 2 ^ 1000 := Int.lt_of_le_of_lt (b := 999999) (by omega) (by decide)
  refine comp_invO (rgD 0 m) S4 (fun p acc S' => ∃ l : List Int, acc = l.map D.int ∧ (∀ a ∈ l, 1 ≤ a ∧ a ≤ w) ∧ Urn S' u (B + 13 + acc.length) ∧ ∀ a, a ≠ u → a ≠ p → S' a = S4 a) (fun R hR => hR) (fun p hp => ⟨[], rfl, (fun a h => by cases h), (hU4.up (hU4.ne hp)).mono (by show _ ≤ B + 13 + (0 : Nat); omega), fun a _ ha => upS_ne ha⟩) ?_ (by rw [rgD_len]; omega) ?_
  · rintro p pre x r acc S5 Q' hp hx hlen ⟨l, rfl, hl, hU5, ho5⟩ hS5 kk
    have up := hU4.ne hp
    have hb : pre.length < m := by
      have := congrArg List.length hx
      rw [rgD_len, List.length_append, List.length_cons] at this
      omega
    rw [List.length_map] at hlen
    show dOp rdAdd (dC (.int 1)) (dCall sp_law_draw [] wd0 (dCons (dVar 0) (dCons (dVar 1) dNil))) [some (.obj u), some (.int (w : Int)), some (ringD R), none, some x] S5 Q'
    walk_at "dy"
    refine ⟨u, w, _, rfl, hU5, by rw [List.length_map]; have := hB2 20 (by decide); omega, by omega, hw5, fun v S6 v0 v1 hU6 ho6 => ?_⟩
    rw [List.length_map] at hU6
    try walk_at "dy"
    refine kk _ S6 ((ho6 p (Ne.symm up)).trans hS5) ⟨l ++ [1 + v], by rw [List.map_append]; rfl, fun a ha => ?_, (hU6.up up).mono ?_, fun a h1 h2 => ?_⟩
    · rcases List.mem_append.mp ha with ha | ha
      · exact hl a ha
      · rw [List.mem_singleton.mp ha]; omega
    · rw [List.length_append, List.length_map]
      show _ ≤ B + 13 + ((l.length + 1 : Nat) : Int)
      omega
    · rw [upS_ne h2, ho6 a h1, ho5 a h1 h2]
  · rintro p acc S5 hp hn' ⟨l, rfl, hl, hU5, ho5⟩ hS5
    rw [List.length_map, rgD_len] at hn'
    have up := hU4.ne hp
    rw [List.length_map] at hU5
    have ext : ∀ {S' : Sd}, (∀ a, a ≠ u → a ≠ p → S' a = S5 a) → Ext (Dv.del S u) S' := fun h x y e => by
      have xu : x ≠ u := fun e' => by rw [e', Dv.del_same] at e; cases e
      rw [Dv.del_ne xu] at e
      have xp : x ≠ p := fun e' => by
        have : S4 x = some y := (ho x xu).trans e
        rw [e', hp] at this
        cases this
      rw [h x xu xp, ho5 x xu xp, ho x xu]
      exact e
    have l6 : l.length ≤ 6 := by omega
    subst hr
    refine seq_step fun r hr => ?_
    have e20 : (2 : Nat) ^ 20 = 1048576 := (by decide)
    have fin : ∀ (A : List Int) (S' : Sd) (z : Option D), S' p = some (.lst (A.map D.int)) → A.length ≤ 6 → (∀ a ∈ A, a.natAbs ≤ 999999) → (∀ a ∈ A.tail, 1 ≤ a) → Urn S' u (B + 30) → (∀ a, a ≠ u → a ≠ p → S' a = S5 a) → r { nx := fun _ S' => Q .non S', rt := Q } [some (.obj u), some (.int (w : Int)), some (ringD R), some (.obj p), z] S' := fun A S' z hS' h1 h2 h3 h4 h5 => by
      subst hr
      unfold dMake
      walk_at "dy"
      refine tup_at hS' ?_
      intro p2 hp2
      refine made (StK.ahead h2 h3 (by omega)) (sm_a9 h2) (sm_ring ⟨hR1, ne_len R0, by omega⟩) (by omega) ⟨hR1, ne_len R0, by omega⟩ ?_
      rw [del_upS hp2]
      exact q _ _ S' (few_StK hR1 R0 R8 h2 h1 h3) h4 (ext h5)
    have ll : ∀ a ∈ l, a.natAbs ≤ 999999 := fun a ha => by have := hl a ha; omega
    have lt : ∀ a ∈ l.tail, 1 ≤ a := fun a ha => (hl a (List.mem_of_mem_tail ha)).1
    walk_at "dy"
    refine neO_nil hS5 ?_
    by_cases c : l = []
    · subst c
      rw [decide_eq_true rfl]
      try walk_at "dy"
      exact fin _ _ _ hS5 l6 ll lt (hU5.mono (by show B + 13 + ((0 : Nat) : Int) ≤ _; omega)) (fun _ _ _ => rfl)
    rw [decide_eq_false c]
    try walk_at "dy"
    refine ⟨u, 2, _, rfl, hU5, by have := hB2 30 (by decide); omega, by decide, by decide, fun v S6 v0 v1 hU6 ho6 => ?_⟩
    have hS6 : S6 p = some (.lst (l.map D.int)) := (ho6 p (Ne.symm up)).trans hS5
    try walk_at "dy"
    by_cases c2 : v = 0
    · rw [if_pos c2]
      refine ⟨mulOk 2 20 (by decide) (by rw [Int.natAbs_natCast]; omega) (by decide) (by decide) (by decide), ?_⟩
      refine ⟨u, _, _, rfl, hU6, by have := hB2 30 (by decide); omega, by omega, Int.lt_of_le_of_lt (b := 2000001) (by omega) (by decide), fun v2 S7 v2a v2b hU7 ho7 => ?_⟩
      have hS7 : S7 p = some (.lst (l.map D.int)) := (ho7 p (Ne.symm up)).trans hS6
      obtain ⟨a, t, rfl⟩ : ∃ a t, l = a :: t := ⟨_, _, (List.cons_head_tail c).symm⟩
      try walk_at "dy"
      rw [x_set hS7 (ixN_0 (by simp))]
      refine fin ((v2 - w) :: t) _ _ upS_same l6 (fun b hb => ?_) lt ((hU7.up up).mono ?_) (fun x h1 h2 => by rw [upS_ne h2, ho7 x h1, ho6 x h1])
      · rcases List.mem_cons.mp hb with rfl | hb
        · omega
        · exact ll b (List.mem_cons_of_mem _ hb)
      · have : (a :: t).length ≤ 6 := l6
        omega
    · rw [if_neg c2]
      exact fin _ _ _ hS6 l6 ll lt (hU6.mono (by omega)) (fun x h1 _ => ho6 x h1)

theorem fdivB {g x : Int} (g0 : g ≠ 0) (h : g ∣ x) : x = g * x.fdiv g := by
  obtain ⟨y, rfl⟩ := h
  rw [Int.mul_fdiv_cancel_left _ g0]
theorem up2 {x : Int} {a b : Nat} (h : x.natAbs < 2 ^ a) (k : a ≤ b) : x.natAbs < 2 ^ b := Nat.lt_of_lt_of_le h (Nat.pow_le_pow_right (by decide) k)
theorem IsV.rt {d : Int} {N : Nat} {T O q B m n k : Int} (hT : T.natAbs < 2 ^ N) (hO : O.natAbs < 2 ^ N) (hB : B.natAbs < 2 ^ N) (hq : q.natAbs < 2 ^ 330) (q2 : 2 ≤ q) (sq : isSqB q = false) (R : Rl d T O q B m n k) {M : Nat} (h1 : N ≤ M) (h2 : 330 ≤ M) : RtI M T O q B :=
  ⟨up2 hT h1, up2 hO h1, up2 hq h2, up2 hB h1, q2, sq, R.b1⟩
theorem gdvd (T O B : Int) : gR T O B ∣ T ∧ gR T O B ∣ O ∧ gR T O B ∣ B := by
  have dg : gR T O B ∣ (Int.gcd T O : Nat) := by unfold gR; exact Int.gcd_dvd_left ..
  exact ⟨Int.dvd_trans dg (Int.gcd_dvd_left ..), Int.dvd_trans dg (Int.gcd_dvd_right ..), by unfold gR; exact Int.gcd_dvd_right ..⟩
/-- a new number of the field -/
theorem v_new {d : Int} {N : Nat} {T O q B m n k : Int} (hT : T.natAbs < 2 ^ N) (hO : O.natAbs < 2 ^ N) (hB : B.natAbs < 2 ^ N) (hq : q.natAbs < 2 ^ 330) (q2 : 2 ≤ q) (sq : isSqB q = false) (R : Rl d T O q B m n k) : IsV d N (.inst "Root" ["held"] [lowD T O q B]) m n k := by
  obtain ⟨g1, _⟩ := gR_pos (T := T) (O := O) R.b1
  obtain ⟨d1, d2, d3⟩ := gdvd T O B
  have g0 : gR T O B ≠ 0 := by omega
  have f1 := fdivB g0 d1
  have f2 := fdivB g0 d2
  have f3 := fdivB g0 d3
  have RT : RtI (N + 330) T O q B := ⟨up2 hT (by omega), up2 hO (by omega), up2 hq (by omega), up2 hB (by omega), q2, sq, R.b1⟩
  obtain ⟨RL, _⟩ := low_ok RT
  have b1 := RL.B1
  have le : ∀ {x y : Int}, y = gR T O B * x → x.natAbs ≤ y.natAbs := fun {x y} e => by
    rw [e, Int.natAbs_mul]
    exact Nat.le_mul_of_pos_left _ (by omega)
  refine ⟨T.fdiv (gR T O B), O.fdiv (gR T O B), q, B.fdiv (gR T O B), rfl, Nat.lt_of_le_of_lt (le f1) hT, Nat.lt_of_le_of_lt (le f2) hO, Nat.lt_of_le_of_lt (le f3) hB, hq, q2, sq, ?_⟩
  · refine Rl.low g1 b1 ?_
    rw [← f1, ← f2, ← f3]
    exact R
theorem seen_bd {N : Nat} {T O q B T2 O2 q2 B2 t o b s : Int} (hT : T2.natAbs < 2 ^ N) (hO : O2.natAbs < 2 ^ N) (hB : B2.natAbs < 2 ^ N) (hq : q.natAbs < 2 ^ 330) (hp : q2.natAbs < 2 ^ 330) (a2 : 2 ≤ q) (p2 : 2 ≤ q2) (aq : isSqB q = false) (pq : isSqB q2 = false)
    (h : Seen T O q B T2 O2 q2 B2 t o b s) : t.natAbs < 2 ^ (N + 330) ∧ o.natAbs < 2 ^ (N + 330) ∧ b.natAbs < 2 ^ (N + 330) ∧ s.natAbs < 2 ^ 330 ∧ 2 ≤ s ∧ isSqB s = false := by
  cases h with
  | whole h => exact ⟨up2 hT (by omega), Nat.pow_pos (by decide), up2 hB (by omega), hq, a2, aq⟩
  | here h k => exact ⟨up2 hT (by omega), up2 hO (by omega), up2 hB (by omega), hp, p2, pq⟩
  | both y h k y0 e =>
    refine ⟨wide_lt hT hq, wide_lt hO ?_, wide_lt hB hq, hq, a2, aq⟩
    have h1 : (q * q2).natAbs < 2 ^ (330 + 330) := wide_lt hq hp
    rw [← e, Int.natAbs_mul] at h1
    refine Decidable.byContradiction fun h2 => ?_
    have h3 : 2 ^ 330 ≤ y.natAbs := Nat.le_of_not_lt h2
    have := Nat.mul_le_mul h3 h3
    rw [← Nat.pow_add] at this
    exact absurd h1 (Nat.not_lt.mpr this)
theorem add_lt {a b : Int} {n : Nat} (ha : a.natAbs < 2 ^ n) (hb : b.natAbs < 2 ^ n) : (a + b).natAbs < 2 ^ (n + 1) := by
  rw [Nat.pow_succ]
  omega
theorem seen_no {d T O q B T2 O2 q2 B2 m1 n1 k1 m2 n2 k2 : Int} (d0 : 0 < d) (q0 : 0 < q) (p0 : 0 < q2) (h1 : Rl d T O q B m1 n1 k1) (h2 : Rl d T2 O2 q2 B2 m2 n2 k2) : ¬ NoKinP O q O2 q2 := by
  rintro ⟨a, b, c⟩
  obtain ⟨r1, x0, x1, _⟩ := h1.nz q0 b
  obtain ⟨r2, y0, y1, _⟩ := h2.nz p0 a
  have e : r1 * r2 * (r1 * r2) = d * d * (q * q2) := by
    calc r1 * r2 * (r1 * r2) = r1 * r1 * (r2 * r2) := by ac_rfl
      _ = d * d * (q * q2) := by rw [x1, y1]; ac_rfl
  exact no_root (x := r1 * r2) c (O := d) (by omega) e
section
variable {d : Int} {S : Sd} {Q : DK} {E : XKD} {x y : D} {m1 n1 k1 m2 n2 k2 : Int} {N1 N2 : Nat}
theorem v_plus (d0 : 0 < d) (h1 : IsV d N1 x m1 n1 k1) (h2 : IsV d N2 y m2 n2 k2) (b1 : N1 + N2 ≤ 3800) (q' : ∀ z, IsV d (N1 + N2 + 331) z (m1 * k2 + m2 * k1) (n1 * k2 + n2 * k1) (k1 * k2) → Q z S) : sp_Root_plus [x, y] S Q E := by
  obtain ⟨T, O, q, B, rfl, hT, hO, hB, hq, q2, sq, R⟩ := h1
  obtain ⟨T2, O2, p, B2, rfl, hT2, hO2, hB2, hp, p2, sp, R2⟩ := h2
  refine ⟨T, O, q, B, T2, O2, p, B2, rfl, IsV.rt hT hO hB hq q2 sq R (by omega) (by decide), IsV.rt hT2 hO2 hB2 hp p2 sp R2 (by omega) (by decide), fun t o b s hs => ?_, fun h => absurd h (seen_no d0 (by omega) (by omega) R R2)⟩
  obtain ⟨a1, a2, a3, a4, a5, a6⟩ := seen_bd hT2 hO2 hB2 hq hp q2 p2 sq sp hs
  obtain ⟨s0, r1, r2⟩ := rl_seen R R2 (by omega) (by omega) hs
  have R3 := rl_add r1 r2
  have e : N1 + (N2 + 330) + 1 = N1 + N2 + 331 := by omega
  have c1 : (T * b + t * B).natAbs < 2 ^ (N1 + N2 + 331) := by rw [← e]; exact add_lt (wide_lt hT a3) (by rw [Int.mul_comm]; exact wide_lt hB a1)
  have c2 : (O * b + o * B).natAbs < 2 ^ (N1 + N2 + 331) := by rw [← e]; exact add_lt (wide_lt hO a3) (by rw [Int.mul_comm]; exact wide_lt hB a2)
  have c3 : (B * b).natAbs < 2 ^ (N1 + N2 + 331) := up2 (wide_lt hB a3) (by omega)
  exact ⟨⟨up2 c1 (by omega), up2 c2 (by omega), up2 a4 (by decide), up2 c3 (by omega), a5, a6, R3.b1⟩, q' _ (v_new c1 c2 c3 a4 a5 a6 R3)⟩
theorem v_times (d0 : 0 < d) (h1 : IsV d N1 x m1 n1 k1) (h2 : IsV d N2 y m2 n2 k2) (b1 : N1 + N2 ≤ 3700) (q' : ∀ z, IsV d (N1 + N2 + 661) z (m1 * m2 + n1 * n2 * d) (m1 * n2 + n1 * m2) (k1 * k2) → Q z S) : sp_Root_times [x, y] S Q E := by
  obtain ⟨T, O, q, B, rfl, hT, hO, hB, hq, q2, sq, R⟩ := h1
  obtain ⟨T2, O2, p, B2, rfl, hT2, hO2, hB2, hp, p2, sp, R2⟩ := h2
  refine ⟨T, O, q, B, T2, O2, p, B2, rfl, IsV.rt hT hO hB hq q2 sq R (by omega) (by decide), IsV.rt hT2 hO2 hB2 hp p2 sp R2 (by omega) (by decide), fun t o b s hs => ?_, fun h => absurd h (seen_no d0 (by omega) (by omega) R R2)⟩
  obtain ⟨a1, a2, a3, a4, a5, a6⟩ := seen_bd hT2 hO2 hB2 hq hp q2 p2 sq sp hs
  obtain ⟨s0, r1, r2⟩ := rl_seen R R2 (by omega) (by omega) hs
  have R3 := rl_mul s0 r1 r2
  have e : N1 + (N2 + 330) + 330 + 1 = N1 + N2 + 661 := by omega
  have c1 : (T * t + O * o * s).natAbs < 2 ^ (N1 + N2 + 661) := by rw [← e]; exact add_lt (up2 (wide_lt hT a1) (by omega)) (wide_lt (wide_lt hO a2) a4)
  have c2 : (T * o + O * t).natAbs < 2 ^ (N1 + N2 + 661) := by rw [← e]; exact add_lt (up2 (wide_lt hT a2) (by omega)) (up2 (wide_lt hO a1) (by omega))
  have c3 : (B * b).natAbs < 2 ^ (N1 + N2 + 661) := up2 (wide_lt hB a3) (by omega)
  exact ⟨⟨up2 c1 (by omega), up2 c2 (by omega), up2 a4 (by decide), up2 c3 (by omega), a5, a6, R3.b1⟩, q' _ (v_new c1 c2 c3 a4 a5 a6 R3)⟩
theorem neg_lt {a : Int} {n : Nat} (h : a.natAbs < 2 ^ n) : (0 - a).natAbs < 2 ^ n := by omega
theorem v_less (d0 : 0 < d) (h1 : IsV d N1 x m1 n1 k1) (h2 : IsV d N2 y m2 n2 k2) (b1 : N1 + N2 ≤ 3800) (q' : ∀ z, IsV d (N1 + N2 + 331) z (m1 * k2 + -m2 * k1) (n1 * k2 + -n2 * k1) (k1 * k2) → Q z S) : sp_Root_less [x, y] S Q E := by
  have h1' := h1
  obtain ⟨T, O, q, B, rfl, hT, hO, hB, hq, q2, sq, R⟩ := h1'
  obtain ⟨T2, O2, p, B2, rfl, hT2, hO2, hB2, hp, p2, sp, R2⟩ := h2
  refine ⟨T, O, q, B, T2, O2, p, B2, rfl, IsV.rt hT2 hO2 hB2 hp p2 sp R2 (by omega) (by decide), ?_⟩
  exact v_plus d0 h1 (v_new (neg_lt hT2) (neg_lt hO2) hB2 hp p2 sp R2.neg) b1 q'
theorem v_below (d2 : 2 ≤ d) (hd : isSqB d = false) (h1 : IsV d N1 x m1 n1 k1) (h2 : IsV d N2 y m2 n2 k2) (b1 : N1 ≤ 600) (b2 : N2 ≤ 600) (q' : Q (.bl (decide (0 < sgI (rtF (m2 * k1 - m1 * k2) (n2 * k1 - n1 * k2) d)))) S) : sp_Root_is_below [x, y] S Q E := by
  obtain ⟨T, O, q, B, rfl, hT, hO, hB, hq, q2, sq, R⟩ := h1
  obtain ⟨T2, O2, p, B2, rfl, hT2, hO2, hB2, hp, p2, sp, R2⟩ := h2
  refine ⟨T, O, q, B, T2, O2, p, B2, rfl, IsV.rt hT hO hB hq q2 sq R b1 (by decide), IsV.rt hT2 hO2 hB2 hp p2 sp R2 b2 (by decide), up2 hq (by decide), up2 hp (by decide), ?_⟩
  unfold lowB
  rw [rl_low2 d2 hd R R2 (by omega) (by omega)]
  exact q'
theorem v_eq (d0 : 0 < d) (h1 : IsV d N1 x m1 n1 k1) (h2 : IsV d N2 y m2 n2 k2) (b1 : N1 ≤ 4000) (b2 : N2 ≤ 4000) (q' : Q (.bl (decide (m1 * k2 = m2 * k1 ∧ n1 * k2 = n2 * k1))) S) : sp_Root___eq__ [x, y] S Q E := by
  obtain ⟨T, O, q, B, rfl, hT, hO, hB, hq, q2, sq, R⟩ := h1
  obtain ⟨T2, O2, p, B2, rfl, hT2, hO2, hB2, hp, p2, sp, R2⟩ := h2
  refine ⟨T, O, q, B, T2, O2, p, B2, rfl, IsV.rt hT hO hB hq q2 sq R b1 (by decide), IsV.rt hT2 hO2 hB2 hp p2 sp R2 b2 (by decide), ?_⟩
  rw [rl_eq d0 R R2 (by omega) (by omega)]
  exact q'
theorem turn_eq {u : Int} (h : u ≠ 0) : ((u.natAbs : Int).fdiv u) * u = u.natAbs ∧ ((u.natAbs : Int).fdiv u) * ((u.natAbs : Int).fdiv u) = 1 ∧ ((u.natAbs : Int).fdiv u).natAbs = 1 := by
  rcases Int.lt_or_gt_of_ne h with c | c
  · have e : (u.natAbs : Int) = u * -1 := by omega
    rw [e, Int.mul_fdiv_cancel_left _ h]
    exact ⟨by omega, by decide, by decide⟩
  · have e : (u.natAbs : Int) = u * 1 := by omega
    rw [e, Int.mul_fdiv_cancel_left _ h]
    exact ⟨by omega, by decide, by decide⟩
end
theorem StK.rowB {A R : List Int} (K : StK A R) : RowB A R := ⟨K.r1, K.r0, by have := K.r8; omega, fun a ha => by have := K.a9 a ha; have e : (2 : Nat) ^ 20 = 1048576 := (by decide); omega, by have := K.a6; omega⟩
/-- a small stair's number is small -/
theorem StK.num {A R : List Int} {T O B : Int} (K : StK A R) (N : NumL A R T O B) : IsV (upN (t4L R)) 600 (rtD T O (upN (t4L R)) B) T O B ∧ (upN (t4L R)).natAbs < 2 ^ 330 ∧ isSqB (upN (t4L R)) = false ∧ 5 ≤ upN (t4L R) ∧ O ≠ 0 := by
  have e20 : (2 : Nat) ^ 20 = 1048576 := by decide
  have tr : T4B (t4L R) 160 := T4B.of (c := 20) (fun a ha => by have := K.r1 a ha; omega) (by have := K.r8; omega)
  have ta : T4B (t4L A) 120 := T4B.of (c := 20) (fun a ha => by have := K.a9 a ha; omega) (by have := K.a6; omega)
  obtain ⟨s1, s2, s3, s4, s5, s6, s7⟩ := ln_sz tr ta
  obtain ⟨b1, b2, b3, o0⟩ := num_sz K.p1 K.r0 N.n N.b N.g
  have up := tw_pos K.p1 K.r0
  have lt : ∀ {x y : Int} {k : Nat}, x.natAbs ≤ y.natAbs → y.natAbs ≤ 2 ^ k → k < 600 → x.natAbs < 2 ^ 600 := fun h1 h2 k => Nat.lt_of_le_of_lt (Nat.le_trans h1 h2) (Nat.pow_lt_pow_right (by decide) k)
  have hd : (upN (t4L R)).natAbs < 2 ^ 330 := Nat.lt_of_le_of_lt s2 (Nat.pow_lt_pow_right (by decide) (by decide))
  have sq := isSqB_false fun y _ => up.2 y
  exact ⟨⟨T, O, _, B, rfl, lt b1 s7 (by decide), lt b2 s6 (by decide), lt b3 s5 (by decide), hd, by omega, sq, ⟨N.b, N.b, rfl, .inr ⟨upN (t4L R), by omega, rfl, by grind⟩⟩⟩, hd, sq, up.1, o0⟩
theorem v_int {d : Int} {N : Nat} {i : Int} (hi : i.natAbs < 2 ^ N) (h1 : 1 < 2 ^ N) : IsV d N (.inst "Root" ["held"] [lowD i 0 2 1]) i 0 1 :=
  v_new hi (Nat.pow_pos (by decide)) h1 (by decide) (by decide) two_no ⟨by decide, by decide, rfl, .inl ⟨rfl, rfl⟩⟩
theorem seq_enum {i : Nat} {ds : List D} {g : TGD} {tb r : TSD} {D : EndsD} {σ : Si} {S : Sd} (h : σ[i]? = some (some (.lst ds))) (k : dLoop g tb { D with nx := r D } (enumD ds) σ S) : dSeq (dFor (dEnum (dCons (dVar i) dNil)) g tb) r D σ S := by
  have k2 : (dCons (dVar i) dNil) σ S fun xs S1 => enumR (fun ds S2 => dLoop g tb { D with nx := r D } ds σ S2) S1 xs := cons_go (var_go h (nil_go k))
  exact k2
theorem enum_go {i j k : Nat} {x y z : Dv.D} {σ : Si} {S : Sd} {K : Si → Sd → Prop} (h : K (((σ.set i (some x)).set j (some y)).set k (some z)) S) : dTupG 2 (dGCons (dName i) (dGCons (dTupG 2 (dGCons (dName j) (dGCons (dName k) dGNil))) dGNil)) (.tup [x, .tup [y, z]]) σ S K := ⟨rfl, rfl, h⟩
theorem name_go {i : Nat} {x : D} {σ : Si} {S : Sd} {K : Si → Sd → Prop} (h : K (σ.set i (some x)) S) : dName i x σ S K := h
theorem pure_law_fractions_right : ∀ ds S Q Ed, sp_law_fractions_right ds S Q Ed → t_law_fractions_right Ed { nx := fun _ S' => Q .non S', rt := Q } (startD N_law_fractions_right ds) S := by
  rintro ds S Q Ed ⟨A, R, T, O, B, rfl, K, N, q⟩
  rw [st_law_fractions_right]
  unfold t_law_fractions_right
  obtain ⟨V, bd, sq, d5, o0⟩ := K.num N
  refine seq_step fun r hr => ?_
  have rw20 : ∀ a ∈ R, a.natAbs + 1 ≤ 2 ^ 20 := fun a ha => by
    have := K.r1 a ha
    have e : (2 : Nat) ^ 20 = 1048576 := by decide
    omega
  have aw20 : ∀ a ∈ A, a.natAbs + 1 ≤ 2 ^ 20 := fun a ha => by
    have := K.a9 a ha
    have e : (2 : Nat) ^ 20 = 1048576 := by decide
    omega
  have l0 := ne_len K.r0
  have l8 := K.r8
  have la := K.a6
  let fr : Nat → D := fun n => .tup [.int (t4L ((List.range n).map (rowF A R))).p, .int (t4L ((List.range n).map (rowF A R))).r]
  let fD : D → D := fun d => match d with | .int i => fr i.toNat | d => d
  refine seq_set ?_
  refine comp_pure fD (rgD 1 8) S (fun R' h => by walk_at "dy"; exact ⟨by decide, h⟩) (fun x hx S' Q' q' => ?_) (by rw [rgD_len]; decide) ?_
  · obtain ⟨i, hi, rfl⟩ : ∃ i : Nat, i < 8 ∧ x = .int (1 + (i : Int)) := by
      unfold rgD at hx
      obtain ⟨i, hi, rfl⟩ := List.mem_map.mp hx
      exact ⟨i, List.mem_range.mp hi, rfl⟩
    unfold dMeth
    walk_at "dy"
    refine ⟨⟨_, _, rfl, by decide +kernel⟩, ?_⟩
    refine ⟨A, R, 1 + i, by congr 2, l0, by omega, by omega, aw20, rw20, by omega, ?_⟩
    have e : ((1 : Int) + (i : Int)).toNat = 1 + i := by omega
    have q2 : Q' (fr ((1 : Int) + (i : Int)).toNat) S' := q'
    rw [e] at q2
    exact q2
  simp only [List.set_cons_zero, List.set_cons_succ]
  have eL : (rgD 1 8).map fD = (List.range 8).map fun i => fr (1 + i) := by
    unfold rgD
    rw [List.map_map]
    refine List.map_congr_left fun i _ => ?_
    show fr ((1 : Int) + (i : Int)).toNat = _
    rw [show ((1 : Int) + (i : Int)).toNat = 1 + i by omega]
  rw [eL]
  have hF : ∀ i, i < 8 → ((List.range 8).map fun i => fr (1 + i))[i]? = some (fr (1 + i)) := fun i hi => by
    rw [List.getElem?_map, List.getElem?_range hi]; rfl
  have lF : ((List.range 8).map fun i => fr (1 + i)).length = 8 := rfl
  generalize ((List.range 8).map fun i => fr (1 + i)) = Fs at *
  have hE : ∀ y ∈ enumD Fs, ∃ n : Nat, n < 8 ∧ y = .tup [.int (n : Int), fr (1 + n)] := fun y hy => by
    obtain ⟨n, hn⟩ := List.getElem?_of_mem hy
    obtain ⟨d, hd, rfl⟩ := enumD_get hn
    have h8 : n < 8 := by
      obtain ⟨h, _⟩ := List.getElem?_eq_some_iff.mp hd
      omega
    rw [hF n h8] at hd
    exact ⟨n, h8, by rw [← Option.some.inj hd]⟩
  subst hr
  refine seq_step fun r hr => ?_
  refine seq_enum rfl ?_
  generalize enumD Fs = es at *
  have tw : ∀ n, 1 ≤ n → n ≤ 8 → 1 ≤ (t4L ((List.range n).map (rowF A R))).r ∧ (t4L ((List.range n).map (rowF A R))).p.natAbs < 2 ^ 170 ∧ (t4L ((List.range n).map (rowF A R))).r.natAbs < 2 ^ 170 := fun n n1 n8 => by
    have tl := row_tl K.p1 K.r0 K.tl n
    have wide : ∀ a ∈ (List.range n).map (rowF A R), a.natAbs + 1 ≤ 2 ^ 20 := fun a ha => by
      obtain ⟨i, _, rfl⟩ := List.mem_map.mp ha
      rcases at_mem (A := A) (R := R) l0 i with h | h
      · exact aw20 _ h
      · exact rw20 _ h
    have hl : ((List.range n).map (rowF A R)).length = n := by simp
    obtain ⟨b1, b2, b3, b4⟩ := t4_wide wide
    have hx : 2 ^ (20 * ((List.range n).map (rowF A R)).length) < 2 ^ 170 := Nat.pow_lt_pow_right (by decide) (by omega)
    refine ⟨?_, Nat.lt_of_le_of_lt b1 hx, Nat.lt_of_le_of_lt b3 hx⟩
    cases hX : (List.range n).map (rowF A R) with
    | nil => rw [hX, List.length_nil] at hl; omega
    | cons x L =>
      rw [hX] at tl
      rw [tw_cons]
      exact (tw_nn L tl).p
  refine loop_all (fun pre σ S' => ∃ a b c d e f g h k, σ = [some (stD A R), some (rtD T O (upN (t4L R)) B), some (.lst Fs), a, b, c, d, e, f, g, h, k] ∧ S' = S) ⟨_, _, _, _, _, _, _, _, _, rfl, rfl⟩ ?_ ?_
  · rintro pre y rr σ S2 N9 ex ⟨a, b, c, d, e, f, g, h, k, rfl, rfl⟩ kk
    obtain ⟨n, n8, rfl⟩ := hE y (by rw [ex]; simp)
    clear ex
    refine enum_go ?_
    simp only [List.set_cons_zero, List.set_cons_succ]
    have cv := conv_all K.p1 K.r0 K.tl N.b N.n (1 + n)
    obtain ⟨r1, bp, br⟩ := tw (1 + n) (by omega) (by omega)
    generalize (t4L ((List.range (1 + n)).map (rowF A R))).p = p at *
    generalize (t4L ((List.range (1 + n)).map (rowF A R))).r = rr at *
    refine seq_step fun r2 hr2 => ?_
    unfold dMake
    walk_at "dy"
    intro z hz
    refine rt_make (T := p) (O := 0) (q := 2) (B := rr) (n := 200) ⟨up2 bp (by decide), by decide, by decide, up2 br (by decide), by decide, two_no, r1⟩ (by decide) hz fun S3 e3 => ?_
    rw [e3]
    have W : IsV (upN (t4L R)) 170 (.inst "Root" ["held"] [lowD p 0 2 rr]) p 0 rr := v_new bp (by decide) br (by decide) (by decide) two_no ⟨r1, r1, rfl, .inl ⟨rfl, rfl⟩⟩
    obtain ⟨x, hx⟩ : ∃ x, x = D.inst "Root" ["held"] [lowD p 0 2 rr] := ⟨_, rfl⟩
    rw [← hx] at W
    rw [show D.inst (Str.ofString "Root") [Str.ofString "held"] [lowD p 0 2 rr] = x from hx.symm]
    have ins : ∃ ns ys, x = .inst "Root" ns ys ∧ ¬ (Str.ofString "is_below") ∈ ns := ⟨_, _, hx, by decide +kernel⟩
    clear hx
    subst hr2
    unfold dMeth
    walk_at "dy"
    refine ⟨ins, ?_⟩
    refine v_below (by omega) sq W V (by decide) (by decide) ?_
    have em : ((n : Int)).fmod 2 = ((n % 2 : Nat) : Int) := by
      rw [Int.fmod_eq_emod_of_nonneg _ (by decide)]
      rfl
    have eb : decide (0 < sgI (rtF (T * rr - p * B) (O * rr - 0 * B) (upN (t4L R)))) = decide (((n : Int)).fmod 2 = 0) := by
      rw [Int.zero_mul, Int.sub_zero, cv, em]
      by_cases c : n % 2 = 0
      · rw [if_pos (by omega), c]; rfl
      · rw [if_neg (by omega), decide_eq_false (by decide), decide_eq_false (by omega)]
    have eb2 : decide (0 < sgI (rtF (p * B - T * rr) (0 * B - O * rr) (upN (t4L R)))) = !decide (((n : Int)).fmod 2 = 0) := by
      rw [show p * B - T * rr = -(T * rr - p * B) by omega, Int.zero_mul, Int.zero_sub, sg_fneg, cv, em]
      by_cases c : n % 2 = 0
      · rw [if_pos (by omega), c]; rfl
      · rw [if_neg (by omega), decide_eq_true (by decide), decide_eq_false (by omega)]; rfl
    rw [eb]
    generalize decide (((n : Int)).fmod 2 = 0) = b at *
    refine ⟨by decide, ?_⟩
    rw [x_ne_bb, decide_eq_true rfl]
    dsimp only
    rw [if_neg (by decide)]
    refine ⟨⟨_, _, rfl, by decide +kernel⟩, ?_⟩
    refine v_below (by omega) sq V W (by decide) (by decide) ?_
    refine ⟨by decide, ?_⟩
    rw [eb2, x_eq_bb, show decide ((!b) = b) = false by cases b <;> rfl]
    dsimp only
    rw [if_neg (by decide)]
    exact kk _ _ ⟨_, _, _, _, _, _, _, _, _, rfl, rfl⟩
  · rintro σ S2 ⟨a, b, c, d, e, f, g, h, k, rfl, rfl⟩
    subst hr
    try dsimp only
    refine seq_step fun r hr => ?_
    walk_at "dy"
    refine ⟨by decide, ?_⟩
    refine loop_rng (fun i σ S' => ∃ a b c d e f g h k, σ = [some (stD A R), some (rtD T O (upN (t4L R)) B), some (.lst Fs), a, b, c, d, e, f, g, h, k] ∧ S' = S2) ⟨_, _, _, _, _, _, _, _, _, rfl, rfl⟩ ?_ ?_
    · rintro n σ S3 N9 hn ⟨a, b, c, d, e, f, g, h, k, rfl, rfl⟩ kk
      have n7 : n < 7 := by omega
      have at8 : ∀ m : Nat, m < 8 → atI Fs (m : Int) = some (fr (1 + m)) := fun m h => atI_nat (j := m) (hF m h)
      have a1 := at8 n (by omega)
      have a2 := at8 (n + 1) (by omega)
      rw [show (1 : Nat) + (n + 1) = 1 + n + 1 by omega] at a2
      have t2 : t4L ((List.range (1 + n + 1)).map (rowF A R)) = t4L ((List.range (1 + n)).map (rowF A R) ++ [rowF A R (1 + n)]) := by rw [range_snoc]
      rw [tw_last] at t2
      have det := tw_par ((List.range (1 + n)).map (rowF A R))
      rw [List.length_map, List.length_range] at det
      obtain ⟨r1, bp, br⟩ := tw (1 + n) (by omega) (by omega)
      obtain ⟨r1', bp', br'⟩ := tw (1 + n + 1) (by omega) (by omega)
      have f1 : fr (1 + n) = .tup [.int (t4L ((List.range (1 + n)).map (rowF A R))).p, .int (t4L ((List.range (1 + n)).map (rowF A R))).r] := rfl
      have f2 : fr (1 + n + 1) = .tup [.int (t4L ((List.range (1 + n + 1)).map (rowF A R))).p, .int (t4L ((List.range (1 + n + 1)).map (rowF A R))).r] := rfl
      rw [f1] at a1
      rw [f2] at a2
      rw [t2] at a2 bp' br'
      dsimp only at a2 bp' br'
      clear t2 f1 f2
      generalize (t4L ((List.range (1 + n)).map (rowF A R))).p = p at *
      generalize (t4L ((List.range (1 + n)).map (rowF A R))).q = q0 at *
      generalize (t4L ((List.range (1 + n)).map (rowF A R))).r = rr at *
      generalize (t4L ((List.range (1 + n)).map (rowF A R))).s = s0 at *
      generalize rowF A R (1 + n) = w at *
      rw [Int.zero_add]
      refine name_go ?_
      simp only [List.set_cons_zero, List.set_cons_succ]
      refine seq_step fun r2 hr2 => ?_
      walk_at "dy"
      rw [a1]
      try walk_at "dy"
      have a3 : atI Fs ((n : Int) + 1) = some (.tup [.int (p * w + q0), .int (rr * w + s0)]) := by
        rw [show (n : Int) + 1 = ((n + 1 : Nat) : Int) by omega]; exact a2
      rw [a3, x_ixQ]
      refine ⟨rfl, ?_⟩
      dsimp only
      subst hr2
      walk_at "dy"
      refine ⟨mulOk 170 170 bp' br (by decide) (by decide) (by decide), mulOk 170 170 bp br' (by decide) (by decide) (by decide), ?_⟩
      have em : ((n : Int)).fmod 2 = ((n % 2 : Nat) : Int) := by
        rw [Int.fmod_eq_emod_of_nonneg _ (by decide)]
        rfl
      have ed : (p * w + q0) * rr - p * (rr * w + s0) = if n % 2 = 0 then 1 else -1 := by
        have e : (p * w + q0) * rr - p * (rr * w + s0) = -(p * s0 - q0 * rr) := by grind
        rw [e, det]
        by_cases c : n % 2 = 0
        · rw [if_pos c, if_neg (by omega)]; rfl
        · rw [if_neg c, if_pos (by omega)]
      refine ⟨by decide, ?_⟩
      rw [em, ed]
      try dsimp only
      have fin : ∀ i : Int, (if n % 2 = 0 then (1 : Int) else -1) = i → rdNe (.int (if n % 2 = 0 then (1 : Int) else -1)) (.int i) S3 (fun x S1 => match x with | .bl kb => (if kb = true then Q (.bl false) S1 else N9 [some (stD A R), some (rtD T O (upN (t4L R)) B), some (.lst Fs), some (.int (n : Int)), b, c, d, some (.int p), some (.int rr), some (.int (p * w + q0)), some (.int (rr * w + s0)), k] S1) | _ => False) := fun i e => by
        rw [e, x_ne_ii]
        rw [show (!decide (i = i)) = false by simp]
        dsimp only
        rw [if_neg (by decide)]
        exact kk _ _ ⟨_, _, _, _, _, _, _, _, _, rfl, rfl⟩
      have ex : atI [D.int 1, D.int (-1)] (((n % 2 : Nat)) : Int) = some (.int (if n % 2 = 0 then (1 : Int) else -1)) := by
        rcases Nat.mod_two_eq_zero_or_one n with h | h <;> rw [h] <;> rfl
      rw [ex, x_ixQ]
      exact fin _ rfl
    · rintro σ S3 ⟨a, b, c, d, e, f, g, h, k, rfl, rfl⟩
      subst hr
      walk_at "dy"
      exact q

theorem gcd_mate {T O B : Int} (h : Int.gcd (Int.gcd T O : Nat) B = 1) : Int.gcd (Int.gcd T (0 - O) : Nat) B = 1 := by
  rw [Int.zero_sub, Int.gcd_neg]
  exact h
/-- alone just where nothing is ahead -/
theorem alone_iff {A R : List Int} {T O B : Int} (K : StK A R) (N : NumL A R T O B) (o0 : O ≠ 0) :
    (0 < sgI (rtF (T - B) O (upN (t4L R))) ∧ 0 < sgI (rtF (-T) O (upN (t4L R))) ∧ 0 < sgI (rtF (T + B) (-O) (upN (t4L R)))) ↔ A = [] := by
  have up := tw_pos K.p1 K.r0
  have b1 := N.b
  have ob : 0 < (O * B) * (O * B) := by
    have : O * B ≠ 0 := Int.mul_ne_zero o0 (by omega)
    rcases Int.lt_or_gt_of_ne this with c | c
    · exact Int.mul_pos_of_neg_of_neg c c
    · exact Int.mul_pos c c
  have sq : ∀ y : Int, y * y ≠ (O * B) * (O * B) * upN (t4L R) := fun y => no_root (isSqB_false fun y _ => up.2 y) (Int.mul_ne_zero o0 (by omega))
  obtain ⟨s, hs⟩ := sqR_ex (U := (O * B) * (O * B) * upN (t4L R)) (Int.le_of_lt (Int.mul_pos ob (by omega))) sq
  obtain ⟨w1, w2, _⟩ := num_walk K.p1 K.r0 K.prm K.tl K.last o0 N.b N.n hs
  rw [← red_sign o0 N.b hs]
  constructor
  · intro h
    cases A with
    | nil => rfl
    | cons a A => exact (w1 0 (by simp) h).elim
  · rintro rfl
    exact w2
/-- less 1 over the mate -/
theorem v_back {d T M B : Int} {S : Sd} {Q : DK} {E : XKD} (bT : T.natAbs < 2 ^ 600) (bM : M.natAbs < 2 ^ 600) (bB : B.natAbs < 2 ^ 600) (bd : d.natAbs < 2 ^ 330) (d2 : 2 ≤ d) (sq : isSqB d = false) (b1 : 1 ≤ B) (o0 : M ≠ 0)
    (q' : ∀ T' O' B' e g : Int, g ≠ 0 → -(e * B * T) = g * T' → e * B * M = g * O' → e * undI T M d = g * B' → 1 ≤ B' → O' ≠ 0 → T'.natAbs < 2 ^ 1540 → O'.natAbs < 2 ^ 1540 → B'.natAbs < 2 ^ 1540 → Q (rtD T' O' d B') S) : sp_Root_over [rtD (-1) 0 2 1, rtD T M d B] S Q E := by
  have hu : undI T M d ≠ 0 := fun z => by
    unfold undI at z
    exact no_root (x := T) sq o0 (by rw [Int.mul_comm (M * M)]; omega)
  obtain ⟨t1, t2, t3⟩ := turn_eq hu
  have hU : (undI T M d).natAbs < 2 ^ 1540 := by
    unfold undI
    have := up2 (wide_lt bT bT) (show 600 + 600 ≤ 1539 by omega)
    have := up2 (wide_lt bd (wide_lt bM bM)) (show 330 + (600 + 600) ≤ 1539 by omega)
    have e : (2 : Nat) ^ 1540 = 2 * 2 ^ 1539 := by rw [show 1540 = 1539 + 1 from rfl, Nat.pow_succ]; omega
    omega
  generalize hE : ((undI T M d).natAbs : Int).fdiv (undI T M d) = e at *
  have e0 : e ≠ 0 := fun z => by rw [z] at t2; exact absurd t2 (by decide)
  have one : ∀ {z : Int}, (e * z).natAbs = z.natAbs := fun {z} => by rw [Int.natAbs_mul, t3, Nat.one_mul]
  have c1 : (e * B * T).natAbs < 2 ^ 1540 := by rw [Int.mul_assoc, one]; exact up2 (wide_lt bB bT) (by omega)
  have c2 : (0 - e * B * M).natAbs < 2 ^ 1540 := neg_lt (by rw [Int.mul_assoc, one]; exact up2 (wide_lt bB bM) (by omega))
  have c3 : ((undI T M d).natAbs : Int).natAbs < 2 ^ 1540 := by omega
  have RX : RtI 1540 (e * B * T) (0 - e * B * M) d ((undI T M d).natAbs : Int) := ⟨c1, c2, up2 bd (by decide), c3, d2, sq, by omega⟩
  obtain ⟨R3, _⟩ := low_ok RX
  obtain ⟨g1, _⟩ := gR_pos (T := e * B * T) (O := 0 - e * B * M) RX.B1
  obtain ⟨d1, d2', d3⟩ := gdvd (e * B * T) (0 - e * B * M) ((undI T M d).natAbs : Int)
  have f1 := fdivB (show gR (e * B * T) (0 - e * B * M) ((undI T M d).natAbs : Int) ≠ 0 by omega) d1
  have f2 := fdivB (show gR (e * B * T) (0 - e * B * M) ((undI T M d).natAbs : Int) ≠ 0 by omega) d2'
  have f3 := fdivB (show gR (e * B * T) (0 - e * B * M) ((undI T M d).natAbs : Int) ≠ 0 by omega) d3
  have hl : lowD (e * B * T) (0 - e * B * M) d ((undI T M d).natAbs : Int) = ptD ((e * B * T).fdiv (gR (e * B * T) (0 - e * B * M) ((undI T M d).natAbs : Int))) ((0 - e * B * M).fdiv (gR (e * B * T) (0 - e * B * M) ((undI T M d).natAbs : Int))) d (((undI T M d).natAbs : Int).fdiv (gR (e * B * T) (0 - e * B * M) ((undI T M d).natAbs : Int))) := rfl
  generalize hg : gR (e * B * T) (0 - e * B * M) ((undI T M d).natAbs : Int) = g at *
  generalize (e * B * T).fdiv g = T3 at *
  generalize (0 - e * B * M).fdiv g = O3 at *
  generalize ((undI T M d).natAbs : Int).fdiv g = B3 at *
  have o3 : O3 ≠ 0 := fun z => by
    rw [z, Int.mul_zero] at f2
    have : e * B * M = 0 := by omega
    exact Int.mul_ne_zero (Int.mul_ne_zero e0 (by omega)) o0 this
  have R4 : RtI 1540 (-T3) (-O3) d B3 := ⟨by have := R3.bT; omega, by have := R3.bO; omega, R3.bq, R3.bB, d2, sq, R3.B1⟩
  subst hE
  refine ⟨-1, 0, 2, 1, T, M, d, B, T3, O3, B3, rfl, ⟨by decide, by decide, by decide, by decide, by decide, two_no, by decide⟩, ⟨up2 bT (by decide), up2 bM (by decide), up2 bd (by decide), up2 bB (by decide), d2, sq, b1⟩, R3.mono (by decide), hu, RX.mono (by decide), hl, fun t o b s hs => ?_, ⟨fun h => absurd h o3, fun h => absurd h o0⟩, fun h => absurd rfl h.2.1⟩
  cases hs with
  | whole h => exact absurd h o3
  | both y h k y0 e => exact absurd rfl k
  | here h k =>
    rw [show -1 * T3 + 0 * O3 * d = -T3 by rw [Int.zero_mul, Int.zero_mul]; omega, show -1 * O3 + 0 * T3 = -O3 by omega, show 1 * B3 = B3 by omega]
    refine ⟨R4.mono (by decide), ?_⟩
    obtain ⟨R5, _⟩ := low_ok R4
    obtain ⟨g4, _⟩ := gR_pos (T := -T3) (O := -O3) R4.B1
    obtain ⟨k1, k2, k3⟩ := gdvd (-T3) (-O3) B3
    have h1 := fdivB (show gR (-T3) (-O3) B3 ≠ 0 by omega) k1
    have h2 := fdivB (show gR (-T3) (-O3) B3 ≠ 0 by omega) k2
    have h3 := fdivB (show gR (-T3) (-O3) B3 ≠ 0 by omega) k3
    show Q (rtD ((-T3).fdiv (gR (-T3) (-O3) B3)) ((-O3).fdiv (gR (-T3) (-O3) B3)) d (B3.fdiv (gR (-T3) (-O3) B3))) S
    generalize gR (-T3) (-O3) B3 = g' at *
    generalize (-T3).fdiv g' = T4 at *
    generalize (-O3).fdiv g' = O4 at *
    generalize B3.fdiv g' = B4 at *
    refine q' T4 O4 B4 (((undI T M d).natAbs : Int).fdiv (undI T M d)) (g * g') (Int.mul_ne_zero (by omega) (by omega)) ?_ ?_ ?_ R5.B1 (fun z => by rw [z, Int.mul_zero] at h2; omega) R5.bT R5.bO R5.bB
    · rw [Int.mul_assoc g, ← h1, f1]; grind
    · rw [Int.mul_assoc g, ← h2, Int.mul_neg, ← f2]; omega
    · rw [Int.mul_assoc g, ← h3, ← f3, t1]
theorem StK.rev {R : List Int} (K : StK [] R) : StK [] R.reverse :=
  ⟨fun a ha => K.r1 a (List.mem_reverse.mp ha), fun h => K.r0 (by simpa using h), by rw [List.length_reverse]; exact K.r8, fun a h => (nomatch h), by simp, fun a h => (nomatch h), prm_rev K.prm, .inl rfl⟩
/-- a small stair's number leads to the stair -/
theorem stair_num {A R : List Int} {T O B q : Int} {S : Sd} {Q : DK} {E : XKD} (K : StK A R) (eq : upN (t4L R) = q) (b1 : 1 ≤ B) (o0 : O ≠ 0) (N : NumS A R T O B) (bT : T.natAbs < 2 ^ 1540) (bO : O.natAbs < 2 ^ 1540) (bB : B.natAbs < 2 ^ 1540) (bq : q.natAbs < 2 ^ 330) (q' : ∀ S', Ext S S' → Q (stD A R) S') : sp_stair_of [rtD T O q B] S Q E := by
  subst eq
  have up := tw_pos K.p1 K.r0
  refine ⟨T, O, _, B, rfl, b1, by omega, isSqB_false fun y _ => up.2 y, up2 (wide_lt (wide_lt (wide_lt bO bB) (wide_lt bO bB)) bq) (by omega), up2 (wide_lt bT bB) (by omega), up2 (wide_lt bB bB) (by omega), fun h => absurd h o0, fun _ s hs => ?_⟩
  obtain ⟨w1, w2, w3, w4, w5, w6⟩ := num_walk K.p1 K.r0 K.prm K.tl K.last o0 b1 N hs
  have rl := ne_len K.r0
  have al := K.a6
  have rl2 := K.r8
  have ei : ∀ i, (∀ k, k < i → ¬ RedS s (stW s ((O * B) * (O * B) * upN (t4L R)) (stX T O B) k).1 (stW s ((O * B) * (O * B) * upN (t4L R)) (stX T O B) k).2) → RedS s (stW s ((O * B) * (O * B) * upN (t4L R)) (stX T O B) i).1 (stW s ((O * B) * (O * B) * upN (t4L R)) (stX T O B) i).2 → i = A.length := fun i hni hri => by
    rcases Nat.lt_trichotomy i A.length with c | c | c
    · exact absurd hri (w1 i c)
    · exact c
    · exact absurd w2 (hni _ c)
  refine ⟨fun i j hi hni hri j1 j2 hnj hej S' hS' => ?_, fun i hi hni hri hnj S' hS' => ?_, fun hno S' hS' => absurd w2 (hno _ (by omega))⟩
  · obtain rfl := ei i hni hri
    have ej : j = R.length := by
      rcases Nat.lt_trichotomy j R.length with c | c | c
      · exact absurd hej (w4 j (by omega) c)
      · exact c
      · exact absurd w5 (hnj _ rl c)
    subst ej
    rw [w3, w6, K.few]
    exact q' S' hS'
  · obtain rfl := ei i hni hri
    exact absurd w5 (hnj _ rl (by omega))
theorem sm_ring9 {L : List Int} (h : ∀ a ∈ L, a.natAbs ≤ 999999) : sm 20 (ringD L) = true := smT.mpr fun d hd => by
  obtain ⟨a, ha, rfl⟩ := List.mem_map.mp hd
  have := h a ha
  have e : (2 : Nat) ^ 20 = 1048576 := by decide
  exact sm_int.mpr (by omega)
theorem ahead9 {A : List Int} (h9 : ∀ a ∈ A, a.natAbs ≤ 999999) (tl : ∀ a ∈ A.tail, 1 ≤ a) (l : A.length ≤ 20) : aheadD (ringD A) = true := by
  match A with
  | [] => rfl
  | x :: xs =>
    have hx := h9 x List.mem_cons_self
    rw [List.length_cons] at l
    show (decide (-999999 ≤ x ∧ x ≤ 999999) && (decide ((0 : Int) ≤ ((xs.map D.int).length : Int) ∧ ((xs.map D.int).length : Int) ≤ 19) && (xs.map D.int).all (winD 1 999999))) = true
    rw [decide_eq_true (by omega), decide_eq_true (by rw [List.length_map]; omega), Bool.true_and, Bool.true_and, List.all_eq_true]
    intro d hd
    obtain ⟨a, ha, rfl⟩ := List.mem_map.mp hd
    have h1 := tl a ha
    have h2 := h9 a (List.mem_cons_of_mem _ ha)
    exact decide_eq_true (by omega)
/-- a stair made of a row -/
theorem made9 {A R : List Int} (h9 : ∀ a ∈ A, a.natAbs ≤ 999999) (tl : ∀ a ∈ A.tail, 1 ≤ a) (lA : A.length ≤ 20) (hR : RowI R) {E : XKD} {S : Sd} {a : Addr} {P : List Str → List D → Sd → Prop}
    (q : P ["held_ahead", "held_ring"] [ringD (fewest A R).1, ringD (fewest A R).2] (upS S a (.ins "Stair" ["held_ahead", "held_ring"] [ringD (fewest A R).1, ringD (fewest A R).2]))) :
    sp_Stair___init__ [.obj a, ringD A, ringD R] (upS S a (.ins "Stair" [] [])) (fun v S2 => v = .non ∧ ∃ ns ys, S2 a = some (.ins "Stair" ns ys) ∧ P ns ys S2) E := by
  have r1 := ring_is hR
  refine ⟨a, _, _, 20, rfl, sm_ring9 h9, sm_ring9 (fun x hx => by have := hR.el x hx; omega), okD_eqOk (okD_ints A) (by decide), upS_same, fun h => ?_, fun _ => ⟨A, R, rfl, rfl, lA, hR, rfl, _, _, upS_same, ?_⟩⟩
  · rw [ahead9 h9 tl lA, r1] at h; cases h
  · rw [upS_upS]; exact q
theorem eqSt_go {A R A2 R2 : List Int} {S : Sd} {Q : DK} (q : Q (.bl (decide (A = A2) && decide (R = R2))) S) : rdEqI "Stair" sp_Stair___eq__ (stD A R) (stD A2 R2) S Q :=
  ⟨rfl, .inr ⟨_, _, rfl⟩, A, R, A2, R2, rfl, q⟩
theorem pure_law_ring_alone_right : ∀ ds S Q Ed, sp_law_ring_alone_right ds S Q Ed → t_law_ring_alone_right Ed { nx := fun _ S' => Q .non S', rt := Q } (startD N_law_ring_alone_right ds) S := by
  rintro ds S Q Ed ⟨A, R, T, O, B, rfl, K, N, q⟩
  rw [st_law_ring_alone_right]
  unfold t_law_ring_alone_right
  obtain ⟨V, bd, sq, d5, o0⟩ := K.num N
  have al := alone_iff K N o0
  obtain ⟨T9, O9, q9, B9, e9, bT, bO, bB, _⟩ := id V
  obtain ⟨rfl, rfl, rfl, rfl⟩ : T9 = T ∧ O9 = O ∧ q9 = upN (t4L R) ∧ B9 = B := by
    unfold rtD ptD at e9
    simp only [D.inst.injEq, D.tup.injEq, D.int.injEq, List.cons.injEq, and_true, true_and] at e9
    exact ⟨e9.1.symm, e9.2.1.symm, e9.2.2.1.symm, e9.2.2.2.symm⟩
  clear e9
  refine seq_step fun r hr => ?_
  unfold dMeth
  walk_at "dy"
  refine ⟨⟨_, _, rfl, by decide +kernel⟩, ?_⟩
  refine ⟨_, _, _, _, rfl, up2 bT (by decide), up2 bO (by decide), up2 bd (by decide), up2 bB (by decide), by omega, sq, N.b, ?_⟩
  rw [low_id (gcd_mate N.g)]
  subst hr
  refine seq_step fun r hr => ?_
  unfold dMake
  walk_at "dy"
  have V' : IsV (upN (t4L R)) 600 (rtD T9 (0 - O9) (upN (t4L R)) B9) T9 (-O9) B9 := by
    obtain ⟨T, O, q, B, e, h1, h2, h3, h4, h5, h6, Rr⟩ := V
    exact ⟨_, _, _, _, rfl, bT, neg_lt bO, bB, bd, by omega, sq, Rl.mate ⟨N.b, N.b, rfl, .inr ⟨upN (t4L R), by omega, rfl, by grind⟩⟩⟩
  have W : ∀ i : Int, i.natAbs < 2 ^ 20 → IsV (upN (t4L R)) 20 (.inst "Root" ["held"] [lowD i 0 2 1]) i 0 1 := fun i hi => v_int hi (by decide)
  have nb : ¬ (Str.ofString "is_below") ∈ [Str.ofString "held"] := by decide +kernel
  have fin : ∀ b : Bool, b = decide (A = []) → r { nx := fun _ S' => Q .non S', rt := Q } [some (stD A R), some (rtD T9 O9 (upN (t4L R)) B9), some (rtD T9 (0 - O9) (upN (t4L R)) B9), some (.bl b), none] S := fun b hb => by
    subst hb
    subst hr
    refine seq_step fun r hr => ?_
    unfold dMeth
    walk_at "dy"
    refine ⟨⟨_, _, rfl, by decide +kernel⟩, ?_⟩
    refine ⟨A, R, rfl, ?_⟩
    refine eq_rows (M := []) ?_
    try dsimp only
    rw [x_ne_bb, decide_eq_true rfl]
    dsimp only
    rw [if_neg (by decide)]
    subst hr
    refine seq_step fun r hr => ?_
    walk_at "dy"
    by_cases c : A = []
    · rw [if_neg (fun h => h c)]
      subst c
      subst hr
      refine seq_step fun r hr => ?_
      unfold dMeth dMake
      walk_at "dy"
      intro a1 ha1
      refine rt_make (T := -1) (O := 0) (q := 2) (B := 1) (n := 150) ⟨by decide, by decide, by decide, by decide, by decide, two_no, by decide⟩ (by decide) ha1 fun S2 e2 => ?_
      rw [e2]
      refine ⟨⟨_, _, rfl, by decide +kernel⟩, ?_⟩
      rw [show lowD (-1) 0 2 1 = ptD (-1) 0 2 1 from low_id (by decide)]
      refine v_back bT (neg_lt bO) bB bd (by omega) sq N.b (by omega) fun T' O' B' e g g0 m1 m2 m3 b1 o1 bT' bO' bB' => ?_
      have NB : NumS [] R.reverse T' O' B' := by
        have h := num_back (e := e) K.p1 K.r0 N.n
        refine num_low g0 ?_ ?_ ?_ h
        · exact m1
        · rw [← m2]; grind
        · rw [← m3]
          unfold undI
          grind
      refine stair_num K.rev (up_rev R) b1 o1 NB bT' bO' bB' bd fun S9 hS9 => ?_
      try dsimp only
      subst hr
      unfold dMeth dMake
      walk_at "dy"
      refine ⟨⟨_, _, rfl, by decide +kernel⟩, ?_⟩
      refine ⟨[], R.reverse, rfl, ?_⟩
      refine eq_rows (M := []) ?_
      try dsimp only
      rw [if_pos (decide_eq_true rfl)]
      refine ⟨⟨_, _, rfl, by decide +kernel⟩, ?_⟩
      refine ⟨[], R, rfl, ?_⟩
      intro a2 ha2
      rw [show (R.map D.int).reverse = R.reverse.map D.int from List.map_reverse.symm]
      refine made9 (A := []) (R := R.reverse) (fun _ h => (nomatch h)) (fun _ h => (nomatch h)) (by decide) ⟨fun x hx => ?_, by rw [List.length_reverse]; exact ne_len K.r0, by rw [List.length_reverse]; have := K.r8; omega⟩ ?_
      · have := K.r1 x (List.mem_reverse.mp hx)
        omega
      rw [del_upS ha2, K.rev.few]
      refine eqSt_go ?_
      rw [decide_eq_true rfl, decide_eq_true rfl]
      exact q S9 hS9
    · rw [if_pos c]
      exact q S Ext.refl
  unfold dMeth
  walk_at "dy"
  intro a1 ha1
  refine rt_make (T := 1) (O := 0) (q := 2) (B := 1) (n := 150) ⟨by decide, by decide, by decide, by decide, by decide, two_no, by decide⟩ (by decide) ha1 fun S2 e2 => ?_
  rw [e2]
  refine ⟨⟨_, _, rfl, nb⟩, ?_⟩
  refine v_below (by omega) sq (W 1 (by decide)) V (by decide) (by decide) ?_
  rw [show T9 * 1 - 1 * B9 = T9 - B9 by omega, show O9 * 1 - 0 * B9 = O9 by omega]
  by_cases c1 : 0 < sgI (rtF (T9 - B9) O9 (upN (t4L R)))
  · rw [decide_eq_true c1]
    dsimp only
    rw [if_pos rfl]
    refine ⟨⟨_, _, rfl, nb⟩, ?_⟩
    intro a2 ha2
    refine rt_make (T := 0) (O := 0) (q := 2) (B := 1) (n := 150) ⟨by decide, by decide, by decide, by decide, by decide, two_no, by decide⟩ (by decide) ha2 fun S3 e3 => ?_
    rw [e3]
    refine v_below (by omega) sq V' (W 0 (by decide)) (by decide) (by decide) ?_
    rw [show 0 * B9 - T9 * 1 = -T9 by omega, show 0 * B9 - -O9 * 1 = O9 by omega]
    by_cases c2 : 0 < sgI (rtF (-T9) O9 (upN (t4L R)))
    · rw [decide_eq_true c2]
      dsimp only
      rw [if_pos rfl]
      intro a3 ha3
      refine rt_make (T := -1) (O := 0) (q := 2) (B := 1) (n := 150) ⟨by decide, by decide, by decide, by decide, by decide, two_no, by decide⟩ (by decide) ha3 fun S4 e4 => ?_
      rw [e4]
      refine ⟨⟨_, _, rfl, nb⟩, ?_⟩
      refine v_below (by omega) sq (W (-1) (by decide)) V' (by decide) (by decide) ?_
      rw [show T9 * 1 - -1 * B9 = T9 + B9 by omega, show -O9 * 1 - 0 * B9 = -O9 by omega]
      refine fin _ ?_
      refine decide_eq_decide.mpr ?_
      rw [← al]
      exact ⟨fun h => ⟨c1, c2, h⟩, fun h => h.2.2⟩
    · rw [decide_eq_false c2]
      dsimp only
      rw [if_neg (by decide)]
      exact fin _ (decide_eq_false fun h => c2 (al.mpr h).2.1).symm
  · rw [decide_eq_false c1]
    dsimp only
    rw [if_neg (by decide)]
    exact fin _ (decide_eq_false fun h => c1 (al.mpr h).1).symm

theorem v_eqI {d : Int} {S : Sd} {Q : DK} {x y : D} {m1 n1 k1 m2 n2 k2 : Int} {N1 N2 : Nat} (d0 : 0 < d) (h1 : IsV d N1 x m1 n1 k1) (h2 : IsV d N2 y m2 n2 k2) (b1 : N1 ≤ 4000) (b2 : N2 ≤ 4000) (q' : Q (.bl (decide (m1 * k2 = m2 * k1 ∧ n1 * k2 = n2 * k1))) S) : rdEqI "Root" sp_Root___eq__ x y S Q := by
  have g := v_eq (E := fun _ _ => False) d0 h1 h2 b1 b2 q'
  obtain ⟨T, O, q, B, rfl, _⟩ := h1
  obtain ⟨T2, O2, p, B2, rfl, _⟩ := h2
  exact ⟨rfl, .inr ⟨_, _, rfl⟩, g⟩
theorem v_meth {d : Int} {N : Nat} {x : D} {m n k : Int} (h : IsV d N x m n k) (f : Str) (hf : f ≠ "held" := by decide +kernel) : ∃ ns ys, x = D.inst "Root" ns ys ∧ f ∉ ns := by
  obtain ⟨T, O, q, B, rfl, _⟩ := h
  exact ⟨_, _, rfl, by simpa using hf⟩
/-- behind the first one the row is kept as it stands -/
theorem StK.rest {A R : List Int} (K : StK A R) (m : Nat) : fewest (A.drop m) (trn ((m - A.length) % R.length) R) = (A.drop m, trn ((m - A.length) % R.length) R) := by
  refine prm_fewest (trn_ne K.r0) (prm_trn K.prm _) ?_
  by_cases c : A.length ≤ m
  · exact .inl (List.drop_eq_nil_of_le c)
  · right
    have e : m - A.length = 0 := by omega
    rw [e, Nat.zero_mod]
    show (A.drop m).getLast? ≠ R.getLast?
    rw [List.getLast?_drop, if_neg c]
    rcases K.last with rfl | h
    · exact absurd (Nat.zero_le _) c
    · exact h
theorem head_walk {s U : Int} {x : Int × Int} {A R : List Int} (h0 : R ≠ []) (w3 : dgsW s U x 0 A.length = A) (w6 : dgsW s U x A.length R.length = R) : flW s x.1 x.2 = rowF A R 0 := by
  match A, w3, w6 with
  | a :: A, w3, _ =>
    rw [List.length_cons, dgsW_succ] at w3
    exact (List.cons.inj w3).1
  | [], _, w6 =>
    match R, h0, w6 with
    | [], h, _ => exact absurd rfl h
    | r :: R, _, w6 =>
      rw [List.length_nil, List.length_cons, dgsW_succ] at w6
      have e := (List.cons.inj w6).1
      have e2 : rowF [] (r :: R) 0 = r := rfl
      rw [e2]
      exact e
theorem whole_first {A R : List Int} {T O B : Int} (K : StK A R) (N : NumL A R T O B) (o0 : O ≠ 0) {y : Int} (y0 : 0 ≤ y) (y1 : y * y ≤ O * O * upN (t4L R)) (y2 : O * O * upN (t4L R) < (y + 1) * (y + 1)) : (T + sdR O y).fdiv B = rowF A R 0 := by
  have up := tw_pos K.p1 K.r0
  have b1 := N.b
  have ob : 0 < (O * B) * (O * B) := by
    have : O * B ≠ 0 := Int.mul_ne_zero o0 (by omega)
    rcases Int.lt_or_gt_of_ne this with c | c
    · exact Int.mul_pos_of_neg_of_neg c c
    · exact Int.mul_pos c c
  have sq : ∀ y : Int, y * y ≠ (O * B) * (O * B) * upN (t4L R) := fun y => no_root (isSqB_false fun y _ => up.2 y) (Int.mul_ne_zero o0 (by omega))
  obtain ⟨s, hs⟩ := sqR_ex (U := (O * B) * (O * B) * upN (t4L R)) (Int.le_of_lt (Int.mul_pos ob (by omega))) sq
  obtain ⟨w1, w2, w3, w4, w5, w6⟩ := num_walk K.p1 K.r0 K.prm K.tl K.last o0 N.b N.n hs
  have hh := head_walk K.r0 w3 w6
  have ww := whole_walk (T := T) (O := O) N.b y0 hs.s0 y1 y2 (Int.le_of_lt hs.lt) hs.gt
  rw [hh] at ww
  exact ww.symm
theorem pure_law_is_one : ∀ ds S Q Ed, sp_law_is_one ds S Q Ed → t_law_is_one Ed { nx := fun _ S' => Q .non S', rt := Q } (startD N_law_is_one ds) S := by
  rintro ds S Q Ed ⟨A, R, rfl, K, q⟩
  rw [st_law_is_one]
  unfold t_law_is_one
  have l0 := ne_len K.r0
  have l8 := K.r8
  have la := K.a6
  refine seq_step fun r hr => ?_
  unfold dMeth
  walk_at "dy"
  refine ⟨⟨_, _, rfl, by decide +kernel⟩, ?_⟩
  refine ⟨A, R, rfl, K.rowB, fun T O B N => ?_⟩
  obtain ⟨V, bd, sq, d5, o0⟩ := K.num N
  obtain ⟨T9, O9, q9, B9, e9, bT, bO, bB, _⟩ := id V
  obtain ⟨rfl, rfl, e3, rfl⟩ : T9 = T ∧ O9 = O ∧ q9 = upN (t4L R) ∧ B9 = B := by
    unfold rtD ptD at e9
    simp only [D.inst.injEq, D.tup.injEq, D.int.injEq, List.cons.injEq, and_true, true_and] at e9
    exact ⟨e9.1.symm, e9.2.1.symm, e9.2.2.1.symm, e9.2.2.2.symm⟩
  clear e9 e3
  have RT : RtI 2500 T9 O9 (upN (t4L R)) B9 := ⟨up2 bT (by decide), up2 bO (by decide), up2 bd (by decide), up2 bB (by decide), by omega, sq, N.b⟩
  subst hr
  refine seq_step fun r hr => ?_
  walk_at "dy"
  refine stair_num K rfl N.b o0 N.n (up2 bT (by decide)) (up2 bO (by decide)) (up2 bB (by decide)) bd fun S1 h1 => ?_
  refine eqSt_go ?_
  rw [decide_eq_true rfl, decide_eq_true rfl]
  try walk_at "dy"
  rw [if_neg (by decide)]
  unfold dMeth
  walk_at "dy"
  refine ⟨⟨_, _, rfl, by decide +kernel⟩, ?_⟩
  refine ⟨_, _, _, _, rfl, RT, fun y y0 y1 y2 => ?_⟩
  rw [whole_first K N o0 y0 y1 y2]
  try dsimp only
  refine ⟨⟨_, _, rfl, by decide +kernel⟩, ?_⟩
  refine ⟨A, R, 0, rfl, l0, by omega, by omega, fun h => absurd h (by decide), fun _ => ?_⟩
  have hn0 : atSt A R (0 : Int).toNat = rowF A R 0 := rfl
  rw [hn0]
  dsimp only
  rw [x_ne_ii]
  rw [show (!decide (rowF A R 0 = rowF A R 0)) = false by simp]
  dsimp only
  rw [if_neg (by decide)]
  have KR := K.rest 1
  have hr2 : upN (t4L (trn ((1 - A.length) % R.length) R)) = upN (t4L R) := trn_up _ _
  have NR := num_rest K.p1 K.r0 N.n
  have K2 := K.drop 1
  rw [KR] at K2
  generalize hA2 : A.drop 1 = A2 at *
  generalize hR2 : trn ((1 - A.length) % R.length) R = R2 at *
  subst hr
  refine seq_step fun r hr => ?_
  unfold dMeth
  walk_at "dy"
  refine ⟨⟨_, _, rfl, by decide +kernel⟩, ?_⟩
  refine ⟨A, R, 1, rfl, by omega, K.r0, by omega, by decide, ?_⟩
  rw [hA2, hR2, KR]
  try dsimp only
  refine ⟨⟨_, _, rfl, by decide +kernel⟩, ?_⟩
  refine ⟨A2, R2, rfl, K2.rowB, fun T2 O2 B2 N2 => ?_⟩
  obtain ⟨V2, _, _, _, _⟩ := K2.num N2
  rw [hr2] at V2 ⊢
  subst hr
  refine seq_step fun r hr => ?_
  unfold dMeth dMake
  walk_at "dy"
  have d0 : 0 < upN (t4L R) := by omega
  have W : ∀ i : Int, i.natAbs < 2 ^ 20 → IsV (upN (t4L R)) 20 (.inst "Root" ["held"] [lowD i 0 2 1]) i 0 1 := fun i hi => v_int hi (by decide)
  have nb : ¬ (Str.ofString "is_below") ∈ [Str.ofString "held"] := by decide +kernel
  have hn : (rowF A R 0).natAbs < 2 ^ 20 := by
    have e : (2 : Nat) ^ 20 = 1048576 := by decide
    rcases at_mem (A := A) (R := R) l0 0 with h | h
    · have := K.a9 _ (show rowF A R 0 ∈ A from h)
      omega
    · have := K.r1 _ (show rowF A R 0 ∈ R from h)
      omega
  have PR := prod_rest K2.p1 K2.r0 NR N2.n
  rw [hr2] at PR
  have G1 := num_gt1 K2.p1 K2.r0 (fun a ha => by rw [← hA2] at ha; exact K.tl a (by rw [List.drop_one] at ha; exact ha)) N2.b N2.n
  rw [hr2] at G1
  generalize rowF A R 0 = n at *
  refine ⟨⟨_, _, rfl, by decide +kernel⟩, ?_⟩
  refine ⟨⟨_, _, rfl, by decide +kernel⟩, ?_⟩
  refine ⟨A, R, 0, rfl, l0, by omega, by omega, fun h => absurd h (by decide), fun _ => ?_⟩
  rw [hn0]
  dsimp only
  intro a1 ha1
  refine rt_make (T := n) (O := 0) (q := 2) (B := 1) (n := 150) ⟨up2 hn (by decide), by decide, by decide, by decide, by decide, two_no, by decide⟩ (by decide) ha1 fun S2 e2 => ?_
  rw [e2]
  refine v_less d0 V (W n hn) (by decide) fun z Vz => ?_
  try dsimp only
  refine ⟨v_meth Vz "times", ?_⟩
  refine v_times d0 Vz V2 (by decide) fun z2 Vz2 => ?_
  try dsimp only
  intro a2 ha2
  refine rt_make (T := 1) (O := 0) (q := 2) (B := 1) (n := 150) ⟨by decide, by decide, by decide, by decide, by decide, two_no, by decide⟩ (by decide) ha2 fun S3 e3 => ?_
  rw [e3]
  refine v_eqI d0 Vz2 (W 1 (by decide)) (by decide) (by decide) ?_
  rw [decide_eq_true ⟨by
    obtain ⟨p1, p2⟩ := PR
    have e : ((T9 * 1 + -n * B9) * T2 + (O9 * 1 + -0 * B9) * O2 * upN (t4L R)) * 1 = (T9 - n * B9) * T2 + O9 * O2 * upN (t4L R) := by grind
    rw [e, p1]; grind, by
    obtain ⟨p1, p2⟩ := PR
    have e : ((T9 * 1 + -n * B9) * O2 + (O9 * 1 + -0 * B9) * T2) * 1 = (T9 - n * B9) * O2 + O9 * T2 := by grind
    rw [e, p2]; grind⟩]
  dsimp only
  rw [if_neg (by decide)]
  intro a3 ha3
  refine rt_make (T := 1) (O := 0) (q := 2) (B := 1) (n := 150) ⟨by decide, by decide, by decide, by decide, by decide, two_no, by decide⟩ (by decide) ha3 fun S4 e4 => ?_
  rw [e4]
  refine ⟨⟨_, _, rfl, nb⟩, ?_⟩
  refine v_below (by omega) sq (W 1 (by decide)) V2 (by decide) (by decide) ?_
  rw [show T2 * 1 - 1 * B2 = T2 - B2 by omega, show O2 * 1 - 0 * B2 = O2 by omega, decide_eq_true G1]
  dsimp only
  rw [if_neg (by decide)]
  subst hr
  walk_at "dy"
  refine ⟨A, R, T9, O9, B9, rfl, K, N, ?_⟩
  try dsimp only
  rw [if_pos rfl]
  exact ⟨A, R, T9, O9, B9, rfl, K, N, fun S' hS' => q S' (h1.trans hS')⟩

theorem len_law : ∀ ds S Q E, spLawD ds S Q E → ds.length = 1 := fun _ _ _ _ ⟨_, e, _⟩ => by rw [e]; rfl
/-- a small stair, as data -/
def isSt (x : D) : Prop := ∃ A R : List Int, x = stD A R ∧ StK A R
theorem eq_cross {A R : List Int} {T O B T2 O2 B2 : Int} (K : StK A R) (N : NumL A R T O B) (N2 : NumL A R T2 O2 B2) : eqB T O (upN (t4L R)) B T2 O2 (upN (t4L R)) B2 = true := by
  obtain ⟨c1, c2⟩ := num_cross N.n
  obtain ⟨c3, c4⟩ := num_cross N2.n
  have u0 := ln_u0 (A := A) K.p1 K.r0
  have b1 := N.b
  have b2 := N2.b
  have e1 : T * B2 = T2 * B := Int.eq_of_mul_eq_mul_right u0 (by
    have a : T * B2 * lnU A R = B2 * (T * lnU A R) := by grind
    have b : T2 * B * lnU A R = B * (T2 * lnU A R) := by grind
    rw [a, b, c1, c3]; grind)
  have e2 : O * B2 = O2 * B := Int.eq_of_mul_eq_mul_right u0 (by
    have a : O * B2 * lnU A R = B2 * (O * lnU A R) := by grind
    have b : O2 * B * lnU A R = B * (O2 * lnU A R) := by grind
    rw [a, b, c2, c4]; grind)
  have e3 : sgI O = sgI O2 := by
    rw [← sg_mulr (x := O) (g := B2) (by omega), e2, sg_mulr (by omega)]
  unfold eqB
  rw [Bool.and_eq_true, Bool.and_eq_true, decide_eq_true_iff, decide_eq_true_iff, decide_eq_true_iff]
  exact ⟨e1, e3, by rw [e2]⟩
/-- two small stairs have one number just where they are one -/
theorem num_same {A R A2 R2 : List Int} {T O B T2 O2 B2 : Int} (K : StK A R) (K2 : StK A2 R2) (N : NumL A R T O B) (N2 : NumL A2 R2 T2 O2 B2) : eqB T O (upN (t4L R)) B T2 O2 (upN (t4L R2)) B2 = (decide (A = A2) && decide (R = R2)) := by
  by_cases c : A = A2 ∧ R = R2
  · obtain ⟨rfl, rfl⟩ := c
    rw [eq_cross K N N2, decide_eq_true rfl, decide_eq_true rfl]
    rfl
  · have e : (decide (A = A2) && decide (R = R2)) = false := by
      rw [← Bool.decide_and, decide_eq_false c]
    rw [e]
    cases h : eqB T O (upN (t4L R)) B T2 O2 (upN (t4L R2)) B2 with
    | false => rfl
    | true =>
      refine absurd (kept_uniq K.r0 K2.r0 K.prm K2.prm K.last K2.last fun i => ?_) c
      have tr := num_inj K.p1 K.r0 K.tl N.b N.n K2.p1 K2.r0 K2.tl N2.b N2.n (fun p r => eq_tr N.b N2.b h p r) (i + 1)
      rw [range_snoc, range_snoc] at tr
      exact (List.append_inj' tr rfl).2 |> List.cons.inj |>.1
theorem pure_law : ∀ ds S Q Ed, spLawD ds S Q Ed → t_law Ed { nx := fun _ S' => Q .non S', rt := Q } (startD N_law ds) S := by
  rintro ds S Q Ed ⟨ns, rfl, hns, q⟩
  rw [st_law]
  unfold t_law
  refine seq_cut (fun σ S' => True) (fun N hN => ?_) (fun σ S' h => by walk_at "dy"; exact q S')
  walk_at "dy"
  have hlen : (List.map D.int ns).length = ns.length := List.length_map _
  refine ⟨by rw [hlen]; constructor <;> (split <;> (try split) <;> omega), ?_⟩
  refine loop_rng (fun i σ S' => ∃ a b c d e f g, σ = [some (.lst (ns.map D.int)), a, b, c, d, e, f, g]) ⟨none, none, none, none, none, none, none, rfl⟩ ?_ (fun σ S' _ => hN σ S' trivial)
  rintro i σ S' N' hi ⟨a, b, c, d', e, f, g, rfl⟩ k
  have hl3 : (0 : Int) + i < 3 := by
    rw [hlen] at hi
    split at hi <;> (try split at hi) <;> omega
  show dSeq (dSet 2 _) _ _ [some (.lst (ns.map D.int)), some (.int (0 + i)), b, c, d', e, f, g] S'
  refine seq_step fun r hr => ?_
  walk_at "dy"
  refine ⟨ns, _, rfl, by omega, by omega, fun u S1 hu0 hU1 ho1 => ?_⟩
  subst hr
  refine seq_step fun r hr => ?_
  refine seq_set ?_
  refine comp_inv (rgD 0 3) S1 (fun p acc S' => (∀ x ∈ acc, isSt x) ∧ Urn S' u (30 * acc.length) ∧ S' p = some (.lst acc)) (fun R hR => by walk_at "dy"; exact ⟨by decide, hR⟩) (fun p hp => ⟨(fun _ h => nomatch h), hU1.up (hU1.ne hp), upS_same⟩) ?_ (by rw [rgD_len]; decide) ?_
  · rintro p pre x rr acc S3 Q' hp ex hl ⟨hv, hU3, hS3⟩ _ k3
    have hlt : pre.length < 3 := by have := congrArg List.length ex; rw [rgD_len, List.length_append, List.length_cons] at this; omega
    have up := hU1.ne hp
    walk_at "dy"
    refine ⟨u, _, rfl, hU3, ?_, fun A R S4 K hU4 h4 => ?_⟩
    · have e : (2 : Int) ^ 97 = 158456325028528675187087900672 := by decide
      omega
    have hS4 : S4 p = some (.lst acc) := h4 p _ (by rw [Dv.del_ne (Ne.symm up)]; exact hS3)
    refine k3 _ S4 hS4 ⟨fun y hy => ?_, (hU4.up up).mono ?_, upS_same⟩
    · rcases List.mem_append.mp hy with hy | hy
      · exact hv y hy
      · rw [List.mem_singleton.mp hy]; exact ⟨A, R, rfl, K⟩
    · rw [List.length_append, List.length_cons, List.length_nil]
      omega
  · rintro p acc S3 hp hn ⟨hv, hU3, _⟩ hS3
    rw [rgD_len] at hn
    have hU4 : Urn (Dv.del S3 p) u (30 * acc.length) := hU3.del (hU1.ne hp)
    match acc, hn with
    | [x, y, z], _ =>
    obtain ⟨A0, R0, rfl, K0⟩ := hv x (by simp)
    obtain ⟨A1, R1, rfl, K1⟩ := hv y (by simp)
    have hz := hv z (by simp)
    generalize Dv.del S3 p = S4 at *
    simp only [List.set_cons_zero, List.set_cons_succ]
    subst hr
    refine seq_step fun r hr => ?_
    unfold dMeth dMake
    walk_at "dy"
    have e97 : (2 : Int) ^ 100 = 1267650600228229401496703205376 := by decide
    refine ⟨⟨_, _, rfl, by decide +kernel⟩, ?_⟩
    refine ⟨u, 9, _, rfl, hU4, by simp only [List.length_cons, List.length_nil]; omega, by decide, by decide, fun v S5 v0 v1 hU5 ho5 => ?_⟩
    try walk_at "dy"
    obtain ⟨v, rfl⟩ := Int.eq_ofNat_of_zero_le v0
    have l0 := ne_len K0.r0
    have l8 := K0.r8
    have la := K0.a6
    refine ⟨A0, R0, 1 + v, rfl, by omega, K0.r0, by omega, by omega, ?_⟩
    have hB : isSt (stF (fewest (A0.drop (1 + v)) (trn ((1 + v - A0.length) % R0.length) R0))) := ⟨_, _, rfl, K0.drop (1 + v)⟩
    generalize stF (fewest (A0.drop (1 + v)) (trn ((1 + v - A0.length) % R0.length) R0)) = w at *
    try dsimp only
    refine ⟨⟨_, _, rfl, by decide +kernel⟩, ?_⟩
    refine ⟨A1, R1, rfl, ?_⟩
    try dsimp only
    refine ⟨⟨_, _, rfl, by decide +kernel⟩, ?_⟩
    refine ⟨A1, R1, rfl, ?_⟩
    try dsimp only
    have m0 := ne_len K1.r0
    have m8 := K1.r8
    refine ⟨⟨fun h => ?_, by decide, by decide, by rw [List.length_map]; omega⟩, ?_⟩
    · rw [List.map_eq_nil_iff] at h; exact K1.r0 h
    intro a1 ha1
    have eR : D.tup (List.replicate (2 : Int).toNat (R1.map D.int)).flatten = ringD (told R1 2) := by
      show D.tup (R1.map D.int ++ (R1.map D.int ++ [])) = D.tup ((R1 ++ (R1 ++ [])).map D.int)
      rw [List.append_nil, List.append_nil, List.map_append]
    rw [eR]
    have hm : ∀ a ∈ told R1 2, 1 ≤ a ∧ a ≤ 999999 := fun a ha => by
      have e : told R1 2 = R1 ++ (R1 ++ []) := rfl
      rw [e, List.append_nil, List.mem_append, or_self] at ha
      exact K1.r1 a ha
    have hl : (told R1 2).length = 2 * R1.length := told_len R1 2
    have fT : fewest A1 (told R1 2) = (A1, R1) := by
      rw [← K1.few]
      exact few_uniq (fun h => by rw [h, List.length_nil] at hl; omega) K1.r0 fun i => row_told A1 R1 K1.r0 1 i
    refine made9 K1.a9 K1.tl (by have := K1.a6; omega) ⟨fun x hx => ?_, by omega, by omega⟩ ?_
    · have := hm x hx
      omega
    rw [del_upS ha1, fT]
    subst hr
    have hall : ∀ d ∈ [stD A0 R0, stD A1 R1, z, w, stD A1 R1], isSt d := fun d hd => by
      simp only [List.mem_cons, List.not_mem_nil, or_false] at hd
      rcases hd with rfl | rfl | rfl | rfl | rfl
      · exact ⟨_, _, rfl, K0⟩
      · exact ⟨_, _, rfl, K1⟩
      · exact hz
      · exact hB
      · exact ⟨_, _, rfl, K1⟩
    show dSeq _ _ _ [some (.lst (ns.map D.int)), some (.int (0 + i)), some (.obj u), some (.lst [stD A0 R0, stD A1 R1, z, w, stD A1 R1]), d', e, f, g] S5
    have l5 : [stD A0 R0, stD A1 R1, z, w, stD A1 R1].length ≤ 16777216 := by
      show 5 ≤ 16777216
      decide
    generalize [stD A0 R0, stD A1 R1, z, w, stD A1 R1] = L at *
    refine seq_step fun r hr => ?_
    walk_at "dy"
    refine comp_inv L S5 (fun p acc S' => acc = List.replicate acc.length (.bl true) ∧ S' p = some (.lst acc)) (fun R hR => by first | exact hR | (walk_at "dy"; exact hR)) (fun p hp => ⟨rfl, upS_same⟩) ?_ l5 ?_
    · rintro p pre x rr acc S6 Q' hp ex hl ⟨ea, hS6⟩ _ k3
      obtain ⟨A, R, rfl, K⟩ := hall x (by rw [ex]; simp)
      walk_at "dy"
      refine ⟨A, R, rfl, K, fun S7 h7 => ?_⟩
      refine k3 _ S7 (h7 p _ hS6) ⟨?_, upS_same⟩
      rw [List.length_append, List.length_cons, List.length_nil, List.replicate_succ', ← ea]
    rintro p acc S6 hp hn ⟨ea, _⟩ _
    generalize Dv.del S6 p = S7 at *
    refine x_allb (bs := List.replicate acc.length true) (by rw [List.map_replicate]; exact ea) ?_
    rw [show (List.replicate acc.length true).all id = true by rw [List.all_eq_true]; intro b hb; rw [List.eq_of_mem_replicate hb]; rfl]
    dsimp only
    rw [if_neg (by decide)]
    subst hr
    walk_at "dy"
    refine loop_all (fun pre σ S' => ∃ a b c d, σ = [some (.lst (ns.map D.int)), some (.int (0 + i)), some (.obj u), some (.lst L), a, b, c, d]) ⟨_, _, _, _, rfl⟩ ?_ ?_
    · rintro pre x rr σ S8 N9 ex ⟨a, b, c, d, rfl⟩ k9
      obtain ⟨A, R, rfl, K⟩ := hall x (by rw [ex]; simp)
      walk_at "dy"
      refine loop_all (fun pre σ S' => ∃ b c d, σ = [some (.lst (ns.map D.int)), some (.int (0 + i)), some (.obj u), some (.lst L), some (stD A R), b, c, d]) ⟨_, _, _, rfl⟩ ?_ ?_
      · rintro pre2 y rr2 σ S9 N10 ey ⟨b, c, d, rfl⟩ k10
        obtain ⟨A', R', rfl, K'⟩ := hall y (by rw [ey]; simp)
        unfold dMeth
        walk_at "dy"
        refine eqSt_go ?_
        try dsimp only
        refine ⟨⟨_, _, rfl, by decide +kernel⟩, ?_⟩
        refine ⟨A, R, rfl, K.rowB, fun T O B N => ?_⟩
        try dsimp only
        refine ⟨⟨_, _, rfl, by decide +kernel⟩, ?_⟩
        refine ⟨A', R', rfl, K'.rowB, fun T' O' B' N' => ?_⟩
        try dsimp only
        obtain ⟨RT, _⟩ := numL_rt K.rowB N
        obtain ⟨RT', _⟩ := numL_rt K'.rowB N'
        refine ⟨rfl, .inr ⟨_, _, rfl⟩, T, O, _, B, T', O', _, B', rfl, RT.mono (by decide), RT'.mono (by decide), ?_⟩
        rw [num_same K K' N N']
        generalize (decide (A = A') && decide (R = R')) = bb
        rw [x_ne_bb, decide_eq_true rfl]
        dsimp only
        rw [if_neg (by decide)]
        exact k10 _ _ ⟨_, _, _, rfl⟩
      · rintro σ S9 ⟨b, c, d, rfl⟩
        exact k9 _ _ ⟨_, _, _, _, rfl⟩
    · rintro σ S8 ⟨a, b, c, d, rfl⟩
      exact k _ _ ⟨_, _, _, _, _, _, _, rfl⟩


/-! the text by places, derivations, printed by gen.py -/
def top (i : Nat) : Stmt := PySem.Challenge.pw_nearthrees_k75_whole_numbers_and_stairs.main.body.getD i (.Pass ⟨0, 0, 0, 0⟩)
abbrev s_is_whole : Stmt := top 8
theorem sc_is_whole : FnScope N_is_whole ["thing"] (defScope s_is_whole) := ⟨rfl, rfl, rfl, by decide +kernel, rfl, by decide +kernel, by decide +kernel⟩
abbrev s_shared_by : Stmt := top 9
theorem sc_shared_by : FnScope N_shared_by ["one", "other"] (defScope s_shared_by) := ⟨rfl, rfl, rfl, by decide +kernel, rfl, by decide +kernel, by decide +kernel⟩
abbrev s_sign_in : Stmt := top 10
theorem sc_sign_in : FnScope N_sign_in ["number"] (defScope s_sign_in) := ⟨rfl, rfl, rfl, by decide +kernel, rfl, by decide +kernel, by decide +kernel⟩
abbrev s_side_of : Stmt := top 11
theorem sc_side_of : FnScope N_side_of ["square"] (defScope s_side_of) := ⟨rfl, rfl, rfl, by decide +kernel, rfl, by decide +kernel, by decide +kernel⟩
abbrev s_is_square : Stmt := top 12
theorem sc_is_square : FnScope N_is_square ["number"] (defScope s_is_square) := ⟨rfl, rfl, rfl, by decide +kernel, rfl, by decide +kernel, by decide +kernel⟩
abbrev s_is_under_root : Stmt := top 16
theorem sc_is_under_root : FnScope N_is_under_root ["thing"] (defScope s_is_under_root) := ⟨rfl, rfl, rfl, by decide +kernel, rfl, by decide +kernel, by decide +kernel⟩
abbrev s_is_bottom : Stmt := top 17
theorem sc_is_bottom : FnScope N_is_bottom ["thing"] (defScope s_is_bottom) := ⟨rfl, rfl, rfl, by decide +kernel, rfl, by decide +kernel, by decide +kernel⟩
abbrev s_look_parts : Stmt := top 19
theorem sc_look_parts : FnScope N_look_parts ["parts"] (defScope s_look_parts) := ⟨rfl, rfl, rfl, by decide +kernel, rfl, by decide +kernel, by decide +kernel⟩
abbrev s_sign_of : Stmt := top 20
theorem sc_sign_of : FnScope N_sign_of ["top", "often", "square"] (defScope s_sign_of) := ⟨rfl, rfl, rfl, by decide +kernel, rfl, by decide +kernel, by decide +kernel⟩
abbrev s_sign_of_two : Stmt := top 21
theorem sc_sign_of_two : FnScope N_sign_of_two ["top", "often", "square", "other_often", "other_square"] (defScope s_sign_of_two) := ⟨rfl, rfl, rfl, by decide +kernel, rfl, by decide +kernel, by decide +kernel⟩
abbrev s_Root___init__ : Stmt := inClass (top 22) 0
theorem sc_Root___init__ : FnScope N_Root___init__ ["self", "top", "often", "square", "bottom"] (defScope s_Root___init__) := ⟨rfl, rfl, rfl, by decide +kernel, rfl, by decide +kernel, by decide +kernel⟩
abbrev s_Root_parts : Stmt := inClass (top 22) 1
theorem sc_Root_parts : FnScope N_Root_parts ["self"] (defScope s_Root_parts) := ⟨rfl, rfl, rfl, by decide +kernel, rfl, by decide +kernel, by decide +kernel⟩
abbrev s_Root___eq__ : Stmt := inClass (top 22) 2
theorem sc_Root___eq__ : FnScope N_Root___eq__ ["self", "other"] (defScope s_Root___eq__) := ⟨rfl, rfl, rfl, by decide +kernel, rfl, by decide +kernel, by decide +kernel⟩
abbrev s_Root_whole : Stmt := inClass (top 22) 6
theorem sc_Root_whole : FnScope N_Root_whole ["self"] (defScope s_Root_whole) := ⟨rfl, rfl, rfl, by decide +kernel, rfl, by decide +kernel, by decide +kernel⟩
abbrev s_Root_mate : Stmt := inClass (top 22) 7
theorem sc_Root_mate : FnScope N_Root_mate ["self"] (defScope s_Root_mate) := ⟨rfl, rfl, rfl, by decide +kernel, rfl, by decide +kernel, by decide +kernel⟩
abbrev s_Root_is_below : Stmt := inClass (top 22) 8
theorem sc_Root_is_below : FnScope N_Root_is_below ["self", "other"] (defScope s_Root_is_below) := ⟨rfl, rfl, rfl, by decide +kernel, rfl, by decide +kernel, by decide +kernel⟩
abbrev s_Root_seen_by : Stmt := inClass (top 22) 9
theorem sc_Root_seen_by : FnScope N_Root_seen_by ["self", "other"] (defScope s_Root_seen_by) := ⟨rfl, rfl, rfl, by decide +kernel, rfl, by decide +kernel, by decide +kernel⟩
abbrev s_Root_plus : Stmt := inClass (top 22) 10
theorem sc_Root_plus : FnScope N_Root_plus ["self", "other"] (defScope s_Root_plus) := ⟨rfl, rfl, rfl, by decide +kernel, rfl, by decide +kernel, by decide +kernel⟩
abbrev s_Root_less : Stmt := inClass (top 22) 11
theorem sc_Root_less : FnScope N_Root_less ["self", "other"] (defScope s_Root_less) := ⟨rfl, rfl, rfl, by decide +kernel, rfl, by decide +kernel, by decide +kernel⟩
abbrev s_Root_times : Stmt := inClass (top 22) 12
theorem sc_Root_times : FnScope N_Root_times ["self", "other"] (defScope s_Root_times) := ⟨rfl, rfl, rfl, by decide +kernel, rfl, by decide +kernel, by decide +kernel⟩
abbrev s_contrary_of : Stmt := top 23
theorem sc_contrary_of : FnScope N_contrary_of ["number", "above"] (defScope s_contrary_of) := ⟨rfl, rfl, rfl, by decide +kernel, rfl, by decide +kernel, by decide +kernel⟩
abbrev s_Root_over : Stmt := inClass (top 22) 13
theorem sc_Root_over : FnScope N_Root_over ["self", "other"] (defScope s_Root_over) := ⟨rfl, rfl, rfl, by decide +kernel, rfl, by decide +kernel, by decide +kernel⟩
abbrev s_is_within : Stmt := top 30
theorem sc_is_within : FnScope N_is_within ["thing", "least", "most"] (defScope s_is_within) := ⟨rfl, rfl, rfl, by decide +kernel, rfl, by decide +kernel, by decide +kernel⟩
abbrev s_is_row : Stmt := top 31
theorem sc_is_row : FnScope N_is_row ["thing", "least", "most"] (defScope s_is_row) := ⟨rfl, rfl, rfl, by decide +kernel, rfl, by decide +kernel, by decide +kernel⟩
abbrev s_is_number_ring : Stmt := top 32
theorem sc_is_number_ring : FnScope N_is_number_ring ["thing"] (defScope s_is_number_ring) := ⟨rfl, rfl, rfl, by decide +kernel, rfl, by decide +kernel, by decide +kernel⟩
abbrev s_is_ahead : Stmt := top 33
theorem sc_is_ahead : FnScope N_is_ahead ["thing"] (defScope s_is_ahead) := ⟨rfl, rfl, rfl, by decide +kernel, rfl, by decide +kernel, by decide +kernel⟩
abbrev s_shortest_part : Stmt := top 34
theorem sc_shortest_part : FnScope N_shortest_part ["parts"] (defScope s_shortest_part) := ⟨rfl, rfl, rfl, by decide +kernel, rfl, by decide +kernel, by decide +kernel⟩
abbrev s_table_of_row : Stmt := top 35
theorem sc_table_of_row : FnScope N_table_of_row ["row"] (defScope s_table_of_row) := ⟨rfl, rfl, rfl, by decide +kernel, rfl, by decide +kernel, by decide +kernel⟩
abbrev s_number_of_ring : Stmt := top 36
theorem sc_number_of_ring : FnScope N_number_of_ring ["ring"] (defScope s_number_of_ring) := ⟨rfl, rfl, rfl, by decide +kernel, rfl, by decide +kernel, by decide +kernel⟩
abbrev s_Stair_keep_rows : Stmt := inClass (top 37) 1
theorem sc_Stair_keep_rows : FnScope N_Stair_keep_rows ["self", "ahead", "ring"] (defScope s_Stair_keep_rows) := ⟨rfl, rfl, rfl, by decide +kernel, rfl, by decide +kernel, by decide +kernel⟩
abbrev s_Stair___init__ : Stmt := inClass (top 37) 0
theorem sc_Stair___init__ : FnScope N_Stair___init__ ["self", "ahead", "ring"] (defScope s_Stair___init__) := ⟨rfl, rfl, rfl, by decide +kernel, rfl, by decide +kernel, by decide +kernel⟩
abbrev s_Stair_ahead : Stmt := inClass (top 37) 2
theorem sc_Stair_ahead : FnScope N_Stair_ahead ["self"] (defScope s_Stair_ahead) := ⟨rfl, rfl, rfl, by decide +kernel, rfl, by decide +kernel, by decide +kernel⟩
abbrev s_Stair_ring : Stmt := inClass (top 37) 3
theorem sc_Stair_ring : FnScope N_Stair_ring ["self"] (defScope s_Stair_ring) := ⟨rfl, rfl, rfl, by decide +kernel, rfl, by decide +kernel, by decide +kernel⟩
abbrev s_Stair___eq__ : Stmt := inClass (top 37) 4
theorem sc_Stair___eq__ : FnScope N_Stair___eq__ ["self", "other"] (defScope s_Stair___eq__) := ⟨rfl, rfl, rfl, by decide +kernel, rfl, by decide +kernel, by decide +kernel⟩
abbrev s_Stair_at : Stmt := inClass (top 37) 8
theorem sc_Stair_at : FnScope N_Stair_at ["self", "place"] (defScope s_Stair_at) := ⟨rfl, rfl, rfl, by decide +kernel, rfl, by decide +kernel, by decide +kernel⟩
abbrev s_told_stair : Stmt := top 38
theorem sc_told_stair : FnScope N_told_stair ["ahead", "ring"] (defScope s_told_stair) := ⟨rfl, rfl, rfl, by decide +kernel, rfl, by decide +kernel, by decide +kernel⟩
abbrev s_Stair_behind : Stmt := inClass (top 37) 9
theorem sc_Stair_behind : FnScope N_Stair_behind ["self", "many"] (defScope s_Stair_behind) := ⟨rfl, rfl, rfl, by decide +kernel, rfl, by decide +kernel, by decide +kernel⟩
abbrev s_Stair_number : Stmt := inClass (top 37) 10
theorem sc_Stair_number : FnScope N_Stair_number ["self"] (defScope s_Stair_number) := ⟨rfl, rfl, rfl, by decide +kernel, rfl, by decide +kernel, by decide +kernel⟩
abbrev s_Stair_fraction : Stmt := inClass (top 37) 11
theorem sc_Stair_fraction : FnScope N_Stair_fraction ["self", "many"] (defScope s_Stair_fraction) := ⟨rfl, rfl, rfl, by decide +kernel, rfl, by decide +kernel, by decide +kernel⟩
abbrev s_is_reduced : Stmt := top 39
theorem sc_is_reduced : FnScope N_is_reduced ["top", "below", "side"] (defScope s_is_reduced) := ⟨rfl, rfl, rfl, by decide +kernel, rfl, by decide +kernel, by decide +kernel⟩
abbrev s_step_on : Stmt := top 40
theorem sc_step_on : FnScope N_step_on ["top", "below", "under"] (defScope s_step_on) := ⟨rfl, rfl, rfl, by decide +kernel, rfl, by decide +kernel, by decide +kernel⟩
abbrev s_ring_from : Stmt := top 41
theorem sc_ring_from : FnScope N_ring_from ["top", "below", "under"] (defScope s_ring_from) := ⟨rfl, rfl, rfl, by decide +kernel, rfl, by decide +kernel, by decide +kernel⟩
abbrev s_stair_of : Stmt := top 42
theorem sc_stair_of : FnScope N_stair_of ["number"] (defScope s_stair_of) := ⟨rfl, rfl, rfl, by decide +kernel, rfl, by decide +kernel, by decide +kernel⟩
abbrev s_law_urn : Stmt := top 44
theorem sc_law_urn : FnScope N_law_urn ["_law_script", "_law_at"] (defScope s_law_urn) := ⟨rfl, rfl, rfl, by decide +kernel, rfl, by decide +kernel, by decide +kernel⟩
abbrev s_law_draw : Stmt := top 45
theorem sc_law_draw : FnScope N_law_draw ["_law_urn_here", "_law_wide"] (defScope s_law_draw) := ⟨rfl, rfl, rfl, by decide +kernel, rfl, by decide +kernel, by decide +kernel⟩
abbrev s_law_small_stair : Stmt := top 46
theorem sc_law_small_stair : FnScope N_law_small_stair ["_law_urn_here"] (defScope s_law_small_stair) := ⟨rfl, rfl, rfl, by decide +kernel, rfl, by decide +kernel, by decide +kernel⟩
abbrev s_law_fractions_right : Stmt := top 47
theorem sc_law_fractions_right : FnScope N_law_fractions_right ["_law_stair", "_law_number"] (defScope s_law_fractions_right) := ⟨rfl, rfl, rfl, by decide +kernel, rfl, by decide +kernel, by decide +kernel⟩
abbrev s_law_ring_alone_right : Stmt := top 48
theorem sc_law_ring_alone_right : FnScope N_law_ring_alone_right ["_law_stair", "_law_number"] (defScope s_law_ring_alone_right) := ⟨rfl, rfl, rfl, by decide +kernel, rfl, by decide +kernel, by decide +kernel⟩
abbrev s_law_is_one : Stmt := top 49
theorem sc_law_is_one : FnScope N_law_is_one ["_law_stair"] (defScope s_law_is_one) := ⟨rfl, rfl, rfl, by decide +kernel, rfl, by decide +kernel, by decide +kernel⟩
abbrev s_law : Stmt := top 50
theorem sc_law : FnScope N_law ["_law_script"] (defScope s_law) := ⟨rfl, rfl, rfl, by decide +kernel, rfl, by decide +kernel, by decide +kernel⟩
abbrev sI_NoNumber : Stmt := inClass (top 1) 0
theorem scI_NoNumber : FnScope ["self", "part"] ["self", "part"] (defScope sI_NoNumber) := ⟨rfl, rfl, rfl, by decide +kernel, rfl, by decide +kernel, by decide +kernel⟩
abbrev sI_NoPlace : Stmt := inClass (top 5) 0
theorem scI_NoPlace : FnScope ["self", "place", "many"] ["self", "place", "many"] (defScope sI_NoPlace) := ⟨rfl, rfl, rfl, by decide +kernel, rfl, by decide +kernel, by decide +kernel⟩
abbrev sI_TooMany : Stmt := inClass (top 6) 0
theorem scI_TooMany : FnScope ["self", "most"] ["self", "most"] (defScope sI_TooMany) := ⟨rfl, rfl, rfl, by decide +kernel, rfl, by decide +kernel, by decide +kernel⟩
structure Txt (w : World) (K : PySem.W.Frag) (mg : Str → Option Value) (base : Heap) where
  C_Root : Addr
  gc_Root : mg "Root" = some (.ref C_Root)
  C_Stair : Addr
  gc_Stair : mg "Stair" = some (.ref C_Stair)
  is_Root : IsF K C_Root
  is_Stair : IsF K C_Stair
  f_is_whole : Addr
  fd_is_whole : FuncData
  f_shared_by : Addr
  fd_shared_by : FuncData
  f_sign_in : Addr
  fd_sign_in : FuncData
  f_side_of : Addr
  fd_side_of : FuncData
  f_is_square : Addr
  fd_is_square : FuncData
  f_is_under_root : Addr
  fd_is_under_root : FuncData
  f_is_bottom : Addr
  fd_is_bottom : FuncData
  f_look_parts : Addr
  fd_look_parts : FuncData
  f_sign_of : Addr
  fd_sign_of : FuncData
  f_sign_of_two : Addr
  fd_sign_of_two : FuncData
  f_contrary_of : Addr
  fd_contrary_of : FuncData
  f_is_within : Addr
  fd_is_within : FuncData
  f_is_row : Addr
  fd_is_row : FuncData
  f_is_number_ring : Addr
  fd_is_number_ring : FuncData
  f_is_ahead : Addr
  fd_is_ahead : FuncData
  f_shortest_part : Addr
  fd_shortest_part : FuncData
  f_table_of_row : Addr
  fd_table_of_row : FuncData
  f_number_of_ring : Addr
  fd_number_of_ring : FuncData
  f_told_stair : Addr
  fd_told_stair : FuncData
  f_is_reduced : Addr
  fd_is_reduced : FuncData
  f_step_on : Addr
  fd_step_on : FuncData
  f_ring_from : Addr
  fd_ring_from : FuncData
  f_stair_of : Addr
  fd_stair_of : FuncData
  f_law_urn : Addr
  fd_law_urn : FuncData
  f_law_draw : Addr
  fd_law_draw : FuncData
  f_law_small_stair : Addr
  fd_law_small_stair : FuncData
  f_law_fractions_right : Addr
  fd_law_fractions_right : FuncData
  f_law_ring_alone_right : Addr
  fd_law_ring_alone_right : FuncData
  f_law_is_one : Addr
  fd_law_is_one : FuncData
  f_law : Addr
  fd_law : FuncData
  f_Root___init__ : Addr
  fd_Root___init__ : FuncData
  f_Root_parts : Addr
  fd_Root_parts : FuncData
  f_Root___eq__ : Addr
  fd_Root___eq__ : FuncData
  f_Root_whole : Addr
  fd_Root_whole : FuncData
  f_Root_mate : Addr
  fd_Root_mate : FuncData
  f_Root_is_below : Addr
  fd_Root_is_below : FuncData
  f_Root_seen_by : Addr
  fd_Root_seen_by : FuncData
  f_Root_plus : Addr
  fd_Root_plus : FuncData
  f_Root_less : Addr
  fd_Root_less : FuncData
  f_Root_times : Addr
  fd_Root_times : FuncData
  f_Root_over : Addr
  fd_Root_over : FuncData
  f_Stair_keep_rows : Addr
  fd_Stair_keep_rows : FuncData
  f_Stair___init__ : Addr
  fd_Stair___init__ : FuncData
  f_Stair_ahead : Addr
  fd_Stair_ahead : FuncData
  f_Stair_ring : Addr
  fd_Stair_ring : FuncData
  f_Stair___eq__ : Addr
  fd_Stair___eq__ : FuncData
  f_Stair_at : Addr
  fd_Stair_at : FuncData
  f_Stair_behind : Addr
  fd_Stair_behind : FuncData
  f_Stair_number : Addr
  fd_Stair_number : FuncData
  f_Stair_fraction : Addr
  fd_Stair_fraction : FuncData
  F_is_whole : Fun K "is_whole" "is_whole" s_is_whole f_is_whole fd_is_whole
  gn_is_whole : PySem.W.nsIn K mainGlobals "is_whole" = some (some (.ref f_is_whole))
  m_is_whole : mg "is_whole" = some (.ref f_is_whole)
  b_is_whole : Binds K fd_is_whole ["thing"] []
  F_shared_by : Fun K "shared_by" "shared_by" s_shared_by f_shared_by fd_shared_by
  m_shared_by : mg "shared_by" = some (.ref f_shared_by)
  b_shared_by : Binds K fd_shared_by ["one", "other"] []
  F_sign_in : Fun K "sign_in" "sign_in" s_sign_in f_sign_in fd_sign_in
  m_sign_in : mg "sign_in" = some (.ref f_sign_in)
  b_sign_in : Binds K fd_sign_in ["number"] []
  F_side_of : Fun K "side_of" "side_of" s_side_of f_side_of fd_side_of
  m_side_of : mg "side_of" = some (.ref f_side_of)
  b_side_of : Binds K fd_side_of ["square"] []
  F_is_square : Fun K "is_square" "is_square" s_is_square f_is_square fd_is_square
  m_is_square : mg "is_square" = some (.ref f_is_square)
  b_is_square : Binds K fd_is_square ["number"] []
  F_is_under_root : Fun K "is_under_root" "is_under_root" s_is_under_root f_is_under_root fd_is_under_root
  gn_is_under_root : PySem.W.nsIn K mainGlobals "is_under_root" = some (some (.ref f_is_under_root))
  m_is_under_root : mg "is_under_root" = some (.ref f_is_under_root)
  b_is_under_root : Binds K fd_is_under_root ["thing"] []
  F_is_bottom : Fun K "is_bottom" "is_bottom" s_is_bottom f_is_bottom fd_is_bottom
  gn_is_bottom : PySem.W.nsIn K mainGlobals "is_bottom" = some (some (.ref f_is_bottom))
  m_is_bottom : mg "is_bottom" = some (.ref f_is_bottom)
  b_is_bottom : Binds K fd_is_bottom ["thing"] []
  F_look_parts : Fun K "look_parts" "look_parts" s_look_parts f_look_parts fd_look_parts
  m_look_parts : mg "look_parts" = some (.ref f_look_parts)
  b_look_parts : Binds K fd_look_parts ["parts"] []
  F_sign_of : Fun K "sign_of" "sign_of" s_sign_of f_sign_of fd_sign_of
  m_sign_of : mg "sign_of" = some (.ref f_sign_of)
  b_sign_of : Binds K fd_sign_of ["top", "often", "square"] []
  F_sign_of_two : Fun K "sign_of_two" "sign_of_two" s_sign_of_two f_sign_of_two fd_sign_of_two
  m_sign_of_two : mg "sign_of_two" = some (.ref f_sign_of_two)
  b_sign_of_two : Binds K fd_sign_of_two ["top", "often", "square", "other_often", "other_square"] []
  F_contrary_of : Fun K "contrary_of" "contrary_of" s_contrary_of f_contrary_of fd_contrary_of
  m_contrary_of : mg "contrary_of" = some (.ref f_contrary_of)
  b_contrary_of : Binds K fd_contrary_of ["number", "above"] []
  F_is_within : Fun K "is_within" "is_within" s_is_within f_is_within fd_is_within
  m_is_within : mg "is_within" = some (.ref f_is_within)
  b_is_within : Binds K fd_is_within ["thing", "least", "most"] []
  F_is_row : Fun K "is_row" "is_row" s_is_row f_is_row fd_is_row
  m_is_row : mg "is_row" = some (.ref f_is_row)
  b_is_row : Binds K fd_is_row ["thing", "least", "most"] []
  F_is_number_ring : Fun K "is_number_ring" "is_number_ring" s_is_number_ring f_is_number_ring fd_is_number_ring
  m_is_number_ring : mg "is_number_ring" = some (.ref f_is_number_ring)
  b_is_number_ring : Binds K fd_is_number_ring ["thing"] []
  F_is_ahead : Fun K "is_ahead" "is_ahead" s_is_ahead f_is_ahead fd_is_ahead
  m_is_ahead : mg "is_ahead" = some (.ref f_is_ahead)
  b_is_ahead : Binds K fd_is_ahead ["thing"] []
  F_shortest_part : Fun K "shortest_part" "shortest_part" s_shortest_part f_shortest_part fd_shortest_part
  m_shortest_part : mg "shortest_part" = some (.ref f_shortest_part)
  b_shortest_part : Binds K fd_shortest_part ["parts"] []
  F_table_of_row : Fun K "table_of_row" "table_of_row" s_table_of_row f_table_of_row fd_table_of_row
  m_table_of_row : mg "table_of_row" = some (.ref f_table_of_row)
  b_table_of_row : Binds K fd_table_of_row ["row"] []
  F_number_of_ring : Fun K "number_of_ring" "number_of_ring" s_number_of_ring f_number_of_ring fd_number_of_ring
  m_number_of_ring : mg "number_of_ring" = some (.ref f_number_of_ring)
  b_number_of_ring : Binds K fd_number_of_ring ["ring"] []
  F_told_stair : Fun K "told_stair" "told_stair" s_told_stair f_told_stair fd_told_stair
  m_told_stair : mg "told_stair" = some (.ref f_told_stair)
  b_told_stair : Binds K fd_told_stair ["ahead", "ring"] []
  F_is_reduced : Fun K "is_reduced" "is_reduced" s_is_reduced f_is_reduced fd_is_reduced
  m_is_reduced : mg "is_reduced" = some (.ref f_is_reduced)
  b_is_reduced : Binds K fd_is_reduced ["top", "below", "side"] []
  F_step_on : Fun K "step_on" "step_on" s_step_on f_step_on fd_step_on
  m_step_on : mg "step_on" = some (.ref f_step_on)
  b_step_on : Binds K fd_step_on ["top", "below", "under"] []
  F_ring_from : Fun K "ring_from" "ring_from" s_ring_from f_ring_from fd_ring_from
  m_ring_from : mg "ring_from" = some (.ref f_ring_from)
  b_ring_from : Binds K fd_ring_from ["top", "below", "under"] []
  F_stair_of : Fun K "stair_of" "stair_of" s_stair_of f_stair_of fd_stair_of
  m_stair_of : mg "stair_of" = some (.ref f_stair_of)
  b_stair_of : Binds K fd_stair_of ["number"] []
  F_law_urn : Fun K "_law_urn" "_law_urn" s_law_urn f_law_urn fd_law_urn
  m_law_urn : mg "_law_urn" = some (.ref f_law_urn)
  b_law_urn : Binds K fd_law_urn ["_law_script", "_law_at"] []
  F_law_draw : Fun K "_law_draw" "_law_draw" s_law_draw f_law_draw fd_law_draw
  m_law_draw : mg "_law_draw" = some (.ref f_law_draw)
  b_law_draw : Binds K fd_law_draw ["_law_urn_here", "_law_wide"] []
  F_law_small_stair : Fun K "_law_small_stair" "_law_small_stair" s_law_small_stair f_law_small_stair fd_law_small_stair
  m_law_small_stair : mg "_law_small_stair" = some (.ref f_law_small_stair)
  b_law_small_stair : Binds K fd_law_small_stair ["_law_urn_here"] []
  F_law_fractions_right : Fun K "_law_fractions_right" "_law_fractions_right" s_law_fractions_right f_law_fractions_right fd_law_fractions_right
  m_law_fractions_right : mg "_law_fractions_right" = some (.ref f_law_fractions_right)
  b_law_fractions_right : Binds K fd_law_fractions_right ["_law_stair", "_law_number"] []
  F_law_ring_alone_right : Fun K "_law_ring_alone_right" "_law_ring_alone_right" s_law_ring_alone_right f_law_ring_alone_right fd_law_ring_alone_right
  m_law_ring_alone_right : mg "_law_ring_alone_right" = some (.ref f_law_ring_alone_right)
  b_law_ring_alone_right : Binds K fd_law_ring_alone_right ["_law_stair", "_law_number"] []
  F_law_is_one : Fun K "_law_is_one" "_law_is_one" s_law_is_one f_law_is_one fd_law_is_one
  m_law_is_one : mg "_law_is_one" = some (.ref f_law_is_one)
  b_law_is_one : Binds K fd_law_is_one ["_law_stair"] []
  F_law : Fun K "law" "law" s_law f_law fd_law
  m_law : mg "law" = some (.ref f_law)
  b_law : Binds K fd_law ["_law_script"] []
  T_Root___init__ : Addr
  its_Root___init__ : Array Value
  F_Root___init__ : Hx.FunV K "__init__" "Root.__init__" s_Root___init__ f_Root___init__ fd_Root___init__ T_Root___init__ its_Root___init__
  u3_Root___init__ : List Value
  b3_Root___init__ : Binds K fd_Root___init__ ["self", "top", "often", "square", "bottom"] u3_Root___init__
  v3_Root___init__ : Vals [.int 0, .int 2, .int 1] u3_Root___init__
  cl_Root : ClF K "Root" C_Root f_Root___init__
  na_Root : noAttrB K C_Root ["held"] = true
  b_Root___init__ : Binds K fd_Root___init__ ["self", "top", "often", "square", "bottom"] []
  F_Root_parts : Fun K "parts" "Root.parts" s_Root_parts f_Root_parts fd_Root_parts
  M_Root_parts : Meth K C_Root "parts" f_Root_parts
  b_Root_parts : Binds K fd_Root_parts ["self"] []
  F_Root___eq__ : Fun K "__eq__" "Root.__eq__" s_Root___eq__ f_Root___eq__ fd_Root___eq__
  M_Root___eq__ : Meth K C_Root "__eq__" f_Root___eq__
  b_Root___eq__ : Binds K fd_Root___eq__ ["self", "other"] []
  F_Root_whole : Fun K "whole" "Root.whole" s_Root_whole f_Root_whole fd_Root_whole
  M_Root_whole : Meth K C_Root "whole" f_Root_whole
  b_Root_whole : Binds K fd_Root_whole ["self"] []
  F_Root_mate : Fun K "mate" "Root.mate" s_Root_mate f_Root_mate fd_Root_mate
  M_Root_mate : Meth K C_Root "mate" f_Root_mate
  b_Root_mate : Binds K fd_Root_mate ["self"] []
  F_Root_is_below : Fun K "is_below" "Root.is_below" s_Root_is_below f_Root_is_below fd_Root_is_below
  M_Root_is_below : Meth K C_Root "is_below" f_Root_is_below
  b_Root_is_below : Binds K fd_Root_is_below ["self", "other"] []
  F_Root_seen_by : Fun K "seen_by" "Root.seen_by" s_Root_seen_by f_Root_seen_by fd_Root_seen_by
  M_Root_seen_by : Meth K C_Root "seen_by" f_Root_seen_by
  b_Root_seen_by : Binds K fd_Root_seen_by ["self", "other"] []
  F_Root_plus : Fun K "plus" "Root.plus" s_Root_plus f_Root_plus fd_Root_plus
  M_Root_plus : Meth K C_Root "plus" f_Root_plus
  b_Root_plus : Binds K fd_Root_plus ["self", "other"] []
  F_Root_less : Fun K "less" "Root.less" s_Root_less f_Root_less fd_Root_less
  M_Root_less : Meth K C_Root "less" f_Root_less
  b_Root_less : Binds K fd_Root_less ["self", "other"] []
  F_Root_times : Fun K "times" "Root.times" s_Root_times f_Root_times fd_Root_times
  M_Root_times : Meth K C_Root "times" f_Root_times
  b_Root_times : Binds K fd_Root_times ["self", "other"] []
  F_Root_over : Fun K "over" "Root.over" s_Root_over f_Root_over fd_Root_over
  M_Root_over : Meth K C_Root "over" f_Root_over
  b_Root_over : Binds K fd_Root_over ["self", "other"] []
  F_Stair_keep_rows : Fun K "keep_rows" "Stair.keep_rows" s_Stair_keep_rows f_Stair_keep_rows fd_Stair_keep_rows
  M_Stair_keep_rows : Meth K C_Stair "keep_rows" f_Stair_keep_rows
  b_Stair_keep_rows : Binds K fd_Stair_keep_rows ["self", "ahead", "ring"] []
  F_Stair___init__ : Fun K "__init__" "Stair.__init__" s_Stair___init__ f_Stair___init__ fd_Stair___init__
  cl_Stair : ClF K "Stair" C_Stair f_Stair___init__
  na_Stair : noAttrB K C_Stair ["held_ahead", "held_ring"] = true
  b_Stair___init__ : Binds K fd_Stair___init__ ["self", "ahead", "ring"] []
  F_Stair_ahead : Fun K "ahead" "Stair.ahead" s_Stair_ahead f_Stair_ahead fd_Stair_ahead
  M_Stair_ahead : Meth K C_Stair "ahead" f_Stair_ahead
  b_Stair_ahead : Binds K fd_Stair_ahead ["self"] []
  F_Stair_ring : Fun K "ring" "Stair.ring" s_Stair_ring f_Stair_ring fd_Stair_ring
  M_Stair_ring : Meth K C_Stair "ring" f_Stair_ring
  b_Stair_ring : Binds K fd_Stair_ring ["self"] []
  F_Stair___eq__ : Fun K "__eq__" "Stair.__eq__" s_Stair___eq__ f_Stair___eq__ fd_Stair___eq__
  M_Stair___eq__ : Meth K C_Stair "__eq__" f_Stair___eq__
  b_Stair___eq__ : Binds K fd_Stair___eq__ ["self", "other"] []
  F_Stair_at : Fun K "at" "Stair.at" s_Stair_at f_Stair_at fd_Stair_at
  M_Stair_at : Meth K C_Stair "at" f_Stair_at
  b_Stair_at : Binds K fd_Stair_at ["self", "place"] []
  T_Stair_behind : Addr
  its_Stair_behind : Array Value
  F_Stair_behind : Hx.FunV K "behind" "Stair.behind" s_Stair_behind f_Stair_behind fd_Stair_behind T_Stair_behind its_Stair_behind
  M_Stair_behind : Meth K C_Stair "behind" f_Stair_behind
  b_Stair_behind : Binds K fd_Stair_behind ["self", "many"] []
  F_Stair_number : Fun K "number" "Stair.number" s_Stair_number f_Stair_number fd_Stair_number
  M_Stair_number : Meth K C_Stair "number" f_Stair_number
  b_Stair_number : Binds K fd_Stair_number ["self"] []
  F_Stair_fraction : Fun K "fraction" "Stair.fraction" s_Stair_fraction f_Stair_fraction fd_Stair_fraction
  M_Stair_fraction : Meth K C_Stair "fraction" f_Stair_fraction
  b_Stair_fraction : Binds K fd_Stair_fraction ["self", "many"] []
  C_NoNumber : Addr
  fI_NoNumber : Addr
  fdI_NoNumber : FuncData
  FI_NoNumber : Fun K "__init__" "NoNumber.__init__" sI_NoNumber fI_NoNumber fdI_NoNumber
  bI_NoNumber : Binds K fdI_NoNumber ["self", "part"] []
  X_NoNumber : FxF K "NoNumber" [.type "ArithmeticError", .type "Exception", .type "BaseException", .type "object"] "ArithmeticError.__new__" C_NoNumber fI_NoNumber ["part"]
  gc_NoNumber : mg "NoNumber" = some (.ref C_NoNumber)
  C_NoPlace : Addr
  fI_NoPlace : Addr
  fdI_NoPlace : FuncData
  FI_NoPlace : Fun K "__init__" "NoPlace.__init__" sI_NoPlace fI_NoPlace fdI_NoPlace
  bI_NoPlace : Binds K fdI_NoPlace ["self", "place", "many"] []
  X_NoPlace : FxF K "NoPlace" [.type "IndexError", .type "LookupError", .type "Exception", .type "BaseException", .type "object"] "IndexError.__new__" C_NoPlace fI_NoPlace ["place", "many"]
  gc_NoPlace : mg "NoPlace" = some (.ref C_NoPlace)
  C_TooMany : Addr
  fI_TooMany : Addr
  fdI_TooMany : FuncData
  FI_TooMany : Fun K "__init__" "TooMany.__init__" sI_TooMany fI_TooMany fdI_TooMany
  bI_TooMany : Binds K fdI_TooMany ["self", "most"] []
  X_TooMany : FxF K "TooMany" [.type "OverflowError", .type "ArithmeticError", .type "Exception", .type "BaseException", .type "object"] "OverflowError.__new__" C_TooMany fI_TooMany ["most"]
  gc_TooMany : mg "TooMany" = some (.ref C_TooMany)
  C_NoKin : Addr
  R_NoKin : RsF K "NoKin" [.type "TypeError", .type "Exception", .type "BaseException", .type "object"] "TypeError.__new__" C_NoKin
  gc_NoKin : mg "NoKin" = some (.ref C_NoKin)
  C_NoStair : Addr
  R_NoStair : RsF K "NoStair" [.type "ValueError", .type "Exception", .type "BaseException", .type "object"] "ValueError.__new__" C_NoStair
  gc_NoStair : mg "NoStair" = some (.ref C_NoStair)
  v_LEAST_SQUARE : V
  u_LEAST_SQUARE : Value
  m_LEAST_SQUARE : mg "LEAST_SQUARE" = some u_LEAST_SQUARE
  r_LEAST_SQUARE : RelV v_LEAST_SQUARE u_LEAST_SQUARE
  k_LEAST_SQUARE : ∀ H S, Rp K H S (k_LEAST_SQUARE) v_LEAST_SQUARE
  a_LOOKS : Addr
  m_LOOKS : mg "LOOKS" = some (.ref a_LOOKS)
  k_LOOKS : ∀ z d, k_LOOKS z = some d → ∃ v, KDct K w a_LOOKS z v ∧ ∀ H S, Rp K H S d v
  v_MOST_AHEAD : V
  u_MOST_AHEAD : Value
  m_MOST_AHEAD : mg "MOST_AHEAD" = some u_MOST_AHEAD
  r_MOST_AHEAD : RelV v_MOST_AHEAD u_MOST_AHEAD
  k_MOST_AHEAD : ∀ H S, Rp K H S (k_MOST_AHEAD) v_MOST_AHEAD
  v_MOST_NUMBER : V
  u_MOST_NUMBER : Value
  m_MOST_NUMBER : mg "MOST_NUMBER" = some u_MOST_NUMBER
  r_MOST_NUMBER : RelV v_MOST_NUMBER u_MOST_NUMBER
  k_MOST_NUMBER : ∀ H S, Rp K H S (k_MOST_NUMBER) v_MOST_NUMBER
  v_MOST_RING : V
  u_MOST_RING : Value
  m_MOST_RING : mg "MOST_RING" = some u_MOST_RING
  r_MOST_RING : RelV v_MOST_RING u_MOST_RING
  k_MOST_RING : ∀ H S, Rp K H S (k_MOST_RING) v_MOST_RING
  v_PARTS : V
  u_PARTS : Value
  m_PARTS : mg "PARTS" = some u_PARTS
  r_PARTS : RelV v_PARTS u_PARTS
  k_PARTS : ∀ H S, Rp K H S (k_PARTS) v_PARTS
  n_abs : mg "abs" = none
  n_all : mg "all" = none
  n_bool : mg "bool" = none
  n_enumerate : mg "enumerate" = none
  n_int : mg "int" = none
  n_isinstance : mg "isinstance" = none
  n_len : mg "len" = none
  n_max : mg "max" = none
  n_min : mg "min" = none
  n_range : mg "range" = none
  n_tuple : mg "tuple" = none
  n_zip : mg "zip" = none
section
variable {P : Program} {w : World} {K : PySem.W.Frag} {mg : Str → Option Value} {base : Heap}
theorem in_NoNumber (T : Txt w K mg base) : FnG P w K mg base (L2N.CX P w) 1 T.fI_NoNumber T.fdI_NoNumber ["self", "part"] (spI1 T.C_NoNumber "part") := init1_ok T.FI_NoNumber scI_NoNumber T.X_NoNumber.ox (T.X_NoNumber.free _ (by decide +kernel)) rfl
theorem in_NoPlace (T : Txt w K mg base) : FnG P w K mg base (L2N.CX P w) 1 T.fI_NoPlace T.fdI_NoPlace ["self", "place", "many"] (spI2 T.C_NoPlace "place" "many") := init2_ok T.FI_NoPlace scI_NoPlace T.X_NoPlace.ox (T.X_NoPlace.free _ (by decide +kernel)) (T.X_NoPlace.free _ (by decide +kernel)) rfl
theorem in_TooMany (T : Txt w K mg base) : FnG P w K mg base (L2N.CX P w) 1 T.fI_TooMany T.fdI_TooMany ["self", "most"] (spI1 T.C_TooMany "most") := init1_ok T.FI_TooMany scI_TooMany T.X_TooMany.ox (T.X_TooMany.free _ (by decide +kernel)) rfl
theorem ok_is_whole (T : Txt w K mg base) : FnG P w K mg base (L2N.CX P w) 1 T.f_is_whole T.fd_is_whole ["thing"] (upF K (sp_is_whole)) := by
  refine okD (k := 0) (t := fun Ed => t_is_whole Ed) T.F_is_whole sc_is_whole (len_is_whole) (fun cdv A outer s H E Ed hr => ?_) (pure_is_whole)
  exact (db_one (ds_ret (de_and (de_callB cd_isi (by rfl) T.n_isinstance (by decide +kernel) (da_cons (dv 0) (da_cons (de_ty (by rfl) T.n_int (by decide +kernel)) da_nil))) (de_one (de_not (de_callB cd_isi (by rfl) T.n_isinstance (by decide +kernel) (da_cons (dv 0) (da_cons (de_ty (by rfl) T.n_bool (by decide +kernel)) da_nil))))))))
theorem ok_shared_by (T : Txt w K mg base) : FnG P w K mg base (L2N.CX P w) 1 T.f_shared_by T.fd_shared_by ["one", "other"] (upF K (sp_shared_by)) := by
  refine okD (k := 0) (t := fun Ed => t_shared_by Ed) T.F_shared_by sc_shared_by (len_shared_by) (fun cdv A outer s H E Ed hr => ?_) (pure_shared_by)
  exact (db_cons (ds_par 0 1 rfl sc_shared_by.nd rfl rfl (by decide) rfl rfl (da_cons (de_callB cd_abs (by rfl) T.n_abs (by decide +kernel) (da_cons (dv 0) da_nil)) (da_cons (de_callB cd_abs (by rfl) T.n_abs (by decide +kernel) (da_cons (dv 1) da_nil)) da_nil)) (by rfl))
  (db_cons (ds_while passB (dt_cmp od_gt (dv 1) de_int (nomark _))
  (db_one (ds_par 0 1 rfl sc_shared_by.nd rfl rfl (by decide) rfl rfl (da_cons (dv 1) (da_cons (de_op od_mod (dv 0) (dv 1)) da_nil)) (by rfl))))
  (db_one (ds_ret (dv 0)))))
theorem ok_sign_in (T : Txt w K mg base) : FnG P w K mg base (L2N.CX P w) 1 T.f_sign_in T.fd_sign_in ["number"] (upF K (sp_sign_in)) := by
  refine okD (k := 0) (t := fun Ed => t_sign_in Ed) T.F_sign_in sc_sign_in (len_sign_in) (fun cdv A outer s H E Ed hr => ?_) (pure_sign_in)
  exact (db_one (ds_ret (de_op od_sub (de_callTy cd_int (by rfl) T.n_int (by decide +kernel) (da_cons (de_cmp od_gt (dv 0) de_int (nomark _)) da_nil)) (de_callTy cd_int (by rfl) T.n_int (by decide +kernel) (da_cons (de_cmp od_lt (dv 0) de_int (nomark _)) da_nil)))))
theorem ok_side_of (T : Txt w K mg base) : FnG P w K mg base (L2N.CX P w) 1 T.f_side_of T.fd_side_of ["square"] (upF K (sp_side_of)) := by
  refine okD (k := 0) (t := fun Ed => t_side_of Ed) T.F_side_of sc_side_of (len_side_of) (fun cdv A outer s H E Ed hr => ?_) (pure_side_of)
  exact (db_cons (ds_if (dt_cmp od_lt (dv 0) de_int (nomark _)) (db_one (ds_ret (dv 0))) db_nil)
  (db_cons (ds_set 1 sc_side_of.nd rfl (by first | exact .inl rfl | exact .inr rfl) (de_op od_shl de_int (de_op od_fdiv (de_op od_add (de_bits (dv 0)) de_int) de_int)))
  (db_cons (ds_set 2 sc_side_of.nd rfl (by first | exact .inl rfl | exact .inr rfl) (de_op od_fdiv (de_op od_add (dv 1) (de_op od_fdiv (dv 0) (dv 1))) de_int))
  (db_cons (ds_while passB (dt_cmp od_lt (dv 2) (dv 1) (nomark _))
  (db_cons (ds_set 1 sc_side_of.nd rfl (by first | exact .inl rfl | exact .inr rfl) (dv 2))
  (db_one (ds_set 2 sc_side_of.nd rfl (by first | exact .inl rfl | exact .inr rfl) (de_op od_fdiv (de_op od_add (dv 1) (de_op od_fdiv (dv 0) (dv 1))) de_int)))))
  (db_one (ds_ret (dv 1)))))))
theorem ok_is_square (T : Txt w K mg base) : FnG P w K mg base (L2N.CX P w) 2 T.f_is_square T.fd_is_square ["number"] (upF K (sp_is_square)) := by
  refine okD (k := 1) (t := fun Ed => t_is_square Ed) T.F_is_square sc_is_square (len_is_square) (fun cdv A outer s H E Ed hr => ?_) (pure_is_square)
  exact (db_one (ds_ret (de_and (de_cmp od_ge (dv 0) de_int (nomark _)) (de_one (de_cmp (od_eq hr.units) (de_op od_pow (de_call (ok_side_of T) (hr.mono (by decide)) (by rfl) T.m_side_of T.F_side_of.kp T.b_side_of .nil (fun _ _ => rpL_nil) takesB (da_cons (dv 0) da_nil)) de_int) (dv 0) (nomark _))))))
theorem ok_is_under_root (T : Txt w K mg base) : FnG P w K mg base (L2N.CX P w) 3 T.f_is_under_root T.fd_is_under_root ["thing"] (upF K (sp_is_under_root)) := by
  refine okD (k := 2) (t := fun Ed => t_is_under_root Ed) T.F_is_under_root sc_is_under_root (len_is_under_root) (fun cdv A outer s H E Ed hr => ?_) (pure_is_under_root)
  exact (db_one (ds_ret (de_and (de_call (ok_is_whole T) (hr.mono (by decide)) (by rfl) T.m_is_whole T.F_is_whole.kp T.b_is_whole .nil (fun _ _ => rpL_nil) takesB (da_cons (dv 0) da_nil)) (de_and (de_cmp od_ge (dv 0) (de_k (by rfl) T.m_LEAST_SQUARE T.r_LEAST_SQUARE T.k_LEAST_SQUARE) (nomark _)) (de_one (de_not (de_call (ok_is_square T) (hr.mono (by decide)) (by rfl) T.m_is_square T.F_is_square.kp T.b_is_square .nil (fun _ _ => rpL_nil) takesB (da_cons (dv 0) da_nil))))))))
theorem ok_is_bottom (T : Txt w K mg base) : FnG P w K mg base (L2N.CX P w) 2 T.f_is_bottom T.fd_is_bottom ["thing"] (upF K (sp_is_bottom)) := by
  refine okD (k := 1) (t := fun Ed => t_is_bottom Ed) T.F_is_bottom sc_is_bottom (len_is_bottom) (fun cdv A outer s H E Ed hr => ?_) (pure_is_bottom)
  exact (db_one (ds_ret (de_and (de_call (ok_is_whole T) (hr.mono (by decide)) (by rfl) T.m_is_whole T.F_is_whole.kp T.b_is_whole .nil (fun _ _ => rpL_nil) takesB (da_cons (dv 0) da_nil)) (de_one (de_cmp od_ge (dv 0) de_int (nomark _))))))
theorem ok_look_parts (T : Txt w K mg base) : FnG P w K mg base (L2N.CX P w) 4 T.f_look_parts T.fd_look_parts ["parts"] (upF K (sp_look_parts)) := by
  refine okD (k := 3) (t := fun Ed => t_look_parts Ed) T.F_look_parts sc_look_parts (len_look_parts) (fun cdv A outer s H E Ed hr => ?_) (pure_look_parts)
  exact (db_one (ds_for (vs := [1, 2]) passB rfl (di_zipS (by rfl) T.n_zip (da_cons (de_k (by rfl) T.m_PARTS T.r_PARTS T.k_PARTS) (da_cons (dv 0) da_nil))) (dg_tup rfl (dgs_cons (dg_name (i := 1) sc_look_parts.nd rfl (by first | exact Or.inl rfl | exact Or.inr rfl) (by decide)) (dgs_cons (dg_name (i := 2) sc_look_parts.nd rfl (by first | exact Or.inl rfl | exact Or.inr rfl) (by decide)) dgs_nil)))
  (db_cons (ds_set 3 sc_look_parts.nd rfl (by first | exact .inl rfl | exact .inr rfl) (de_kix (by rfl) T.m_LOOKS T.k_LOOKS (dv 1) (fun _ _ => rfl)))
  (db_one (ds_if (dt_not (dt_val (de_callV (k := 3) (i := 3) (cs := [("is_whole", sp_is_whole), ("is_under_root", sp_is_under_root), ("is_bottom", sp_is_bottom)]) (fnW_cons (fnW_mk (ok_is_whole T) T.gn_is_whole T.F_is_whole.kp T.b_is_whole) (fnW_cons (fnW_mk (ok_is_under_root T) T.gn_is_under_root T.F_is_under_root.kp T.b_is_under_root) (fnW_cons (fnW_mk (ok_is_bottom T) T.gn_is_bottom T.F_is_bottom.kp T.b_is_bottom) fnW_nil))) (hr.mono (by decide)) rfl (by first | exact Or.inl rfl | exact Or.inr (Or.inl rfl) | exact Or.inr (Or.inr rfl)) takesB (da_cons (dv 2) da_nil)))) (db_one (ds_raiseF1 rfl takesB PySem.F.excBase_ArithmeticError T.X_NoNumber (in_NoNumber T) (hr.mono (by decide)) T.bI_NoNumber T.gc_NoNumber (by rfl) (da_cons (dv 1) da_nil))) db_nil)))))
theorem ok_sign_of (T : Txt w K mg base) : FnG P w K mg base (L2N.CX P w) 2 T.f_sign_of T.fd_sign_of ["top", "often", "square"] (upF K (sp_sign_of)) := by
  refine okD (k := 1) (t := fun Ed => t_sign_of Ed) T.F_sign_of sc_sign_of (len_sign_of) (fun cdv A outer s H E Ed hr => ?_) (pure_sign_of)
  exact (db_one (ds_ret (de_call (ok_sign_in T) (hr.mono (by decide)) (by rfl) T.m_sign_in T.F_sign_in.kp T.b_sign_in .nil (fun _ _ => rpL_nil) takesB (da_cons (de_op od_add (de_op od_mulA (dv 0) (de_callB cd_abs (by rfl) T.n_abs (by decide +kernel) (da_cons (dv 0) da_nil))) (de_op od_mulA (de_op od_mulA (dv 2) (dv 1)) (de_callB cd_abs (by rfl) T.n_abs (by decide +kernel) (da_cons (dv 1) da_nil)))) da_nil))))
theorem ok_sign_of_two (T : Txt w K mg base) : FnG P w K mg base (L2N.CX P w) 3 T.f_sign_of_two T.fd_sign_of_two ["top", "often", "square", "other_often", "other_square"] (upF K (sp_sign_of_two)) := by
  refine okD (k := 2) (t := fun Ed => t_sign_of_two Ed) T.F_sign_of_two sc_sign_of_two (len_sign_of_two) (fun cdv A outer s H E Ed hr => ?_) (pure_sign_of_two)
  exact (db_cons (ds_par 5 6 rfl sc_sign_of_two.nd rfl rfl (by decide) rfl rfl (da_cons (de_call (ok_sign_of T) (hr.mono (by decide)) (by rfl) T.m_sign_of T.F_sign_of.kp T.b_sign_of .nil (fun _ _ => rpL_nil) takesB (da_cons (dv 0) (da_cons (dv 1) (da_cons (dv 2) da_nil)))) (da_cons (de_call (ok_sign_in T) (hr.mono (by decide)) (by rfl) T.m_sign_in T.F_sign_in.kp T.b_sign_in .nil (fun _ _ => rpL_nil) takesB (da_cons (dv 3) da_nil)) da_nil)) (by rfl))
  (db_cons (ds_if (dt_cmp od_ge (de_op od_mulA (dv 5) (dv 6)) de_int (nomark _)) (db_one (ds_ret (de_call (ok_sign_in T) (hr.mono (by decide)) (by rfl) T.m_sign_in T.F_sign_in.kp T.b_sign_in .nil (fun _ _ => rpL_nil) takesB (da_cons (de_op od_add (dv 5) (dv 6)) da_nil)))) db_nil)
  (db_cons (ds_set 7 sc_sign_of_two.nd rfl (by first | exact .inl rfl | exact .inr rfl) (de_op od_sub (de_op od_add (de_op od_pow (dv 0) de_int) (de_op od_mulA (de_op od_pow (dv 1) de_int) (dv 2))) (de_op od_mulA (de_op od_pow (dv 3) de_int) (dv 4))))
  (db_one (ds_ret (de_op od_mulA (dv 5) (de_call (ok_sign_of T) (hr.mono (by decide)) (by rfl) T.m_sign_of T.F_sign_of.kp T.b_sign_of .nil (fun _ _ => rpL_nil) takesB (da_cons (dv 7) (da_cons (de_op od_mulA (de_op od_mulA de_int (dv 0)) (dv 1)) (da_cons (dv 2) da_nil))))))))))
theorem ok_Root___init__ (T : Txt w K mg base) : FnG P w K mg base (L2N.CX P w) 5 T.f_Root___init__ T.fd_Root___init__ ["self", "top", "often", "square", "bottom"] (upF K (sp_Root___init__)) := by
  refine okDv (k := 4) (t := fun Ed => t_Root___init__ Ed) T.F_Root___init__ sc_Root___init__ (len_Root___init__) (fun cdv A outer s H E Ed hr => ?_) (pure_Root___init__)
  exact (db_cons (ds_expr (de_call (ok_look_parts T) (hr.mono (by decide)) (by rfl) T.m_look_parts T.F_look_parts.kp T.b_look_parts .nil (fun _ _ => rpL_nil) takesB (da_cons (de_tup (da_cons (dv 1) (da_cons (dv 2) (da_cons (dv 3) (da_cons (dv 4) da_nil))))) da_nil)))
  (db_cons (ds_set 5 sc_Root___init__.nd rfl (by first | exact .inl rfl | exact .inr rfl) (de_call (ok_shared_by T) (hr.mono (by decide)) (by rfl) T.m_shared_by T.F_shared_by.kp T.b_shared_by .nil (fun _ _ => rpL_nil) takesB (da_cons (de_call (ok_shared_by T) (hr.mono (by decide)) (by rfl) T.m_shared_by T.F_shared_by.kp T.b_shared_by .nil (fun _ _ => rpL_nil) takesB (da_cons (dv 1) (da_cons (dv 2) da_nil))) (da_cons (dv 4) da_nil))))
  (db_one (ds_put T.cl_Root (noAttrB_ok T.na_Root (by decide +kernel)) (dv 0) (de_tup (da_cons (de_op od_fdiv (dv 1) (dv 5)) (da_cons (de_op od_fdiv (dv 2) (dv 5)) (da_cons (dv 3) (da_cons (de_op od_fdiv (dv 4) (dv 5)) da_nil))))) (by rfl)))))
theorem ok_Root_parts (T : Txt w K mg base) : FnG P w K mg base (L2N.CX P w) 1 T.f_Root_parts T.fd_Root_parts ["self"] (upF K (sp_Root_parts)) := by
  refine okD (k := 0) (t := fun Ed => t_Root_parts Ed) T.F_Root_parts sc_Root_parts (len_Root_parts) (fun cdv A outer s H E Ed hr => ?_) (pure_Root_parts)
  exact (db_one (ds_ret (de_fld T.cl_Root (noAttrB_ok T.na_Root (by decide +kernel)) (dv 0))))
theorem ok_Root___eq__ (T : Txt w K mg base) : FnG P w K mg base (L2N.CX P w) 2 T.f_Root___eq__ T.fd_Root___eq__ ["self", "other"] (upF K (sp_Root___eq__)) := by
  refine okD (k := 1) (t := fun Ed => t_Root___eq__ Ed) T.F_Root___eq__ sc_Root___eq__ (len_Root___eq__) (fun cdv A outer s H E Ed hr => ?_) (pure_Root___eq__)
  exact (db_cons (ds_if (dt_not (dt_val (de_callB (cd_isiC T.cl_Root T.is_Root) (by rfl) T.n_isinstance (by decide +kernel) (da_cons (dv 1) (da_cons (de_cls T.cl_Root (by rfl) T.gc_Root) da_nil))))) (db_one (ds_ret de_bl)) db_nil)
  (db_cons (ds_asg (vs := [2, 3, 4, 5]) (de_fld T.cl_Root (noAttrB_ok T.na_Root (by decide +kernel)) (dv 0)) (dg_tup rfl (dgs_cons (dg_name (i := 2) sc_Root___eq__.nd rfl (by first | exact Or.inl rfl | exact Or.inr rfl) (by decide)) (dgs_cons (dg_name (i := 3) sc_Root___eq__.nd rfl (by first | exact Or.inl rfl | exact Or.inr rfl) (by decide)) (dgs_cons (dg_name (i := 4) sc_Root___eq__.nd rfl (by first | exact Or.inl rfl | exact Or.inr rfl) (by decide)) (dgs_cons (dg_name (i := 5) sc_Root___eq__.nd rfl (by first | exact Or.inl rfl | exact Or.inr rfl) (by decide)) dgs_nil))))))
  (db_cons (ds_asg (vs := [6, 7, 8, 9]) (de_meth0 T.cl_Root T.M_Root_parts (dv 1) (ok_Root_parts T) (hr.mono (by decide)) T.b_Root_parts .nil (fun _ _ => rpL_nil) takesB) (dg_tup rfl (dgs_cons (dg_name (i := 6) sc_Root___eq__.nd rfl (by first | exact Or.inl rfl | exact Or.inr rfl) (by decide)) (dgs_cons (dg_name (i := 7) sc_Root___eq__.nd rfl (by first | exact Or.inl rfl | exact Or.inr rfl) (by decide)) (dgs_cons (dg_name (i := 8) sc_Root___eq__.nd rfl (by first | exact Or.inl rfl | exact Or.inr rfl) (by decide)) (dgs_cons (dg_name (i := 9) sc_Root___eq__.nd rfl (by first | exact Or.inl rfl | exact Or.inr rfl) (by decide)) dgs_nil))))))
  (db_cons (ds_if (DW.pt (dw_or (dt_cmp (od_ne hr.units) (de_op od_mulA (dv 2) (dv 9)) (de_op od_mulA (dv 6) (dv 5)) (nomark _)) (dw_or1 (dt_cmp (od_ne hr.units) (de_call (ok_sign_in T) (hr.mono (by decide)) (by rfl) T.m_sign_in T.F_sign_in.kp T.b_sign_in .nil (fun _ _ => rpL_nil) takesB (da_cons (dv 3) da_nil)) (de_call (ok_sign_in T) (hr.mono (by decide)) (by rfl) T.m_sign_in T.F_sign_in.kp T.b_sign_in .nil (fun _ _ => rpL_nil) takesB (da_cons (dv 7) da_nil)) (nomark _))))) (db_one (ds_ret de_bl)) db_nil)
  (db_one (ds_ret (de_cmp (od_eq hr.units) (de_op od_mulA (de_op od_pow (de_op od_mulA (dv 3) (dv 9)) de_int) (dv 4)) (de_op od_mulA (de_op od_pow (de_op od_mulA (dv 7) (dv 5)) de_int) (dv 8)) (nomark _))))))))
theorem ok_Root_whole (T : Txt w K mg base) : FnG P w K mg base (L2N.CX P w) 2 T.f_Root_whole T.fd_Root_whole ["self"] (upF K (sp_Root_whole)) := by
  refine okD (k := 1) (t := fun Ed => t_Root_whole Ed) T.F_Root_whole sc_Root_whole (len_Root_whole) (fun cdv A outer s H E Ed hr => ?_) (pure_Root_whole)
  exact (db_cons (ds_asg (vs := [1, 2, 3, 4]) (de_fld T.cl_Root (noAttrB_ok T.na_Root (by decide +kernel)) (dv 0)) (dg_tup rfl (dgs_cons (dg_name (i := 1) sc_Root_whole.nd rfl (by first | exact Or.inl rfl | exact Or.inr rfl) (by decide)) (dgs_cons (dg_name (i := 2) sc_Root_whole.nd rfl (by first | exact Or.inl rfl | exact Or.inr rfl) (by decide)) (dgs_cons (dg_name (i := 3) sc_Root_whole.nd rfl (by first | exact Or.inl rfl | exact Or.inr rfl) (by decide)) (dgs_cons (dg_name (i := 4) sc_Root_whole.nd rfl (by first | exact Or.inl rfl | exact Or.inr rfl) (by decide)) dgs_nil))))))
  (db_cons (ds_set 5 sc_Root_whole.nd rfl (by first | exact .inl rfl | exact .inr rfl) (de_call (ok_side_of T) (hr.mono (by decide)) (by rfl) T.m_side_of T.F_side_of.kp T.b_side_of .nil (fun _ _ => rpL_nil) takesB (da_cons (de_op od_mulA (de_op od_pow (dv 2) de_int) (dv 3)) da_nil)))
  (db_cons (ds_if (dt_cmp od_lt (dv 2) de_int (nomark _)) (db_one (ds_set 5 sc_Root_whole.nd rfl (by first | exact .inl rfl | exact .inr rfl) (de_op od_sub (de_neg de_int) (dv 5)))) db_nil)
  (db_one (ds_ret (de_op od_fdiv (de_op od_add (dv 1) (dv 5)) (dv 4)))))))
theorem ok_Root_mate (T : Txt w K mg base) : FnG P w K mg base (L2N.CX P w) 7 T.f_Root_mate T.fd_Root_mate ["self"] (upF K (sp_Root_mate)) := by
  refine okD (k := 6) (t := fun Ed => t_Root_mate Ed) T.F_Root_mate sc_Root_mate (len_Root_mate) (fun cdv A outer s H E Ed hr => ?_) (pure_Root_mate)
  exact (db_cons (ds_asg (vs := [1, 2, 3, 4]) (de_fld T.cl_Root (noAttrB_ok T.na_Root (by decide +kernel)) (dv 0)) (dg_tup rfl (dgs_cons (dg_name (i := 1) sc_Root_mate.nd rfl (by first | exact Or.inl rfl | exact Or.inr rfl) (by decide)) (dgs_cons (dg_name (i := 2) sc_Root_mate.nd rfl (by first | exact Or.inl rfl | exact Or.inr rfl) (by decide)) (dgs_cons (dg_name (i := 3) sc_Root_mate.nd rfl (by first | exact Or.inl rfl | exact Or.inr rfl) (by decide)) (dgs_cons (dg_name (i := 4) sc_Root_mate.nd rfl (by first | exact Or.inl rfl | exact Or.inr rfl) (by decide)) dgs_nil))))))
  (db_one (ds_ret (de_make T.cl_Root (ok_Root___init__ T) (hr.mono (by decide)) (by rfl) T.gc_Root T.b_Root___init__ .nil (fun _ _ => rpL_nil) takesB (da_cons (dv 1) (da_cons (de_op od_sub de_int (dv 2)) (da_cons (dv 3) (da_cons (dv 4) da_nil))))))))
theorem ok_Root_is_below (T : Txt w K mg base) : FnG P w K mg base (L2N.CX P w) 4 T.f_Root_is_below T.fd_Root_is_below ["self", "other"] (upF K (sp_Root_is_below)) := by
  refine okD (k := 3) (t := fun Ed => t_Root_is_below Ed) T.F_Root_is_below sc_Root_is_below (len_Root_is_below) (fun cdv A outer s H E Ed hr => ?_) (pure_Root_is_below)
  exact (db_cons (ds_asg (vs := [2, 3, 4, 5]) (de_fld T.cl_Root (noAttrB_ok T.na_Root (by decide +kernel)) (dv 0)) (dg_tup rfl (dgs_cons (dg_name (i := 2) sc_Root_is_below.nd rfl (by first | exact Or.inl rfl | exact Or.inr rfl) (by decide)) (dgs_cons (dg_name (i := 3) sc_Root_is_below.nd rfl (by first | exact Or.inl rfl | exact Or.inr rfl) (by decide)) (dgs_cons (dg_name (i := 4) sc_Root_is_below.nd rfl (by first | exact Or.inl rfl | exact Or.inr rfl) (by decide)) (dgs_cons (dg_name (i := 5) sc_Root_is_below.nd rfl (by first | exact Or.inl rfl | exact Or.inr rfl) (by decide)) dgs_nil))))))
  (db_cons (ds_asg (vs := [6, 7, 8, 9]) (de_meth0 T.cl_Root T.M_Root_parts (dv 1) (ok_Root_parts T) (hr.mono (by decide)) T.b_Root_parts .nil (fun _ _ => rpL_nil) takesB) (dg_tup rfl (dgs_cons (dg_name (i := 6) sc_Root_is_below.nd rfl (by first | exact Or.inl rfl | exact Or.inr rfl) (by decide)) (dgs_cons (dg_name (i := 7) sc_Root_is_below.nd rfl (by first | exact Or.inl rfl | exact Or.inr rfl) (by decide)) (dgs_cons (dg_name (i := 8) sc_Root_is_below.nd rfl (by first | exact Or.inl rfl | exact Or.inr rfl) (by decide)) (dgs_cons (dg_name (i := 9) sc_Root_is_below.nd rfl (by first | exact Or.inl rfl | exact Or.inr rfl) (by decide)) dgs_nil))))))
  (db_cons (ds_set 10 sc_Root_is_below.nd rfl (by first | exact .inl rfl | exact .inr rfl) (de_op od_sub (de_op od_mulA (dv 6) (dv 5)) (de_op od_mulA (dv 2) (dv 9))))
  (db_one (ds_ret (de_cmp od_gt (de_call (ok_sign_of_two T) (hr.mono (by decide)) (by rfl) T.m_sign_of_two T.F_sign_of_two.kp T.b_sign_of_two .nil (fun _ _ => rpL_nil) takesB (da_cons (dv 10) (da_cons (de_op od_mulA (dv 7) (dv 5)) (da_cons (dv 8) (da_cons (de_op od_sub de_int (de_op od_mulA (dv 3) (dv 9))) (da_cons (dv 4) da_nil)))))) de_int (nomark _)))))))
theorem ok_Root_seen_by (T : Txt w K mg base) : FnG P w K mg base (L2N.CX P w) 2 T.f_Root_seen_by T.fd_Root_seen_by ["self", "other"] (upF K (sp_Root_seen_by)) := by
  refine okD (k := 1) (t := fun Ed => t_Root_seen_by Ed) T.F_Root_seen_by sc_Root_seen_by (len_Root_seen_by) (fun cdv A outer s H E Ed hr => ?_) (pure_Root_seen_by)
  exact (db_cons (ds_set 2 sc_Root_seen_by.nd rfl (by first | exact .inl rfl | exact .inr rfl) (de_ix (de_fld T.cl_Root (noAttrB_ok T.na_Root (by decide +kernel)) (dv 0)) de_int (fun _ _ => rfl)))
  (db_cons (ds_asg (vs := [3, 4, 5, 6]) (de_meth0 T.cl_Root T.M_Root_parts (dv 1) (ok_Root_parts T) (hr.mono (by decide)) T.b_Root_parts .nil (fun _ _ => rpL_nil) takesB) (dg_tup rfl (dgs_cons (dg_name (i := 3) sc_Root_seen_by.nd rfl (by first | exact Or.inl rfl | exact Or.inr rfl) (by decide)) (dgs_cons (dg_name (i := 4) sc_Root_seen_by.nd rfl (by first | exact Or.inl rfl | exact Or.inr rfl) (by decide)) (dgs_cons (dg_name (i := 5) sc_Root_seen_by.nd rfl (by first | exact Or.inl rfl | exact Or.inr rfl) (by decide)) (dgs_cons (dg_name (i := 6) sc_Root_seen_by.nd rfl (by first | exact Or.inl rfl | exact Or.inr rfl) (by decide)) dgs_nil))))))
  (db_cons (ds_if (dt_cmp (od_eq hr.units) (dv 4) de_int (nomark _)) (db_one (ds_ret (de_tup (da_cons (dv 3) (da_cons de_int (da_cons (dv 6) (da_cons (dv 2) da_nil))))))) db_nil)
  (db_cons (ds_if (dt_cmp (od_eq hr.units) (de_ix (de_fld T.cl_Root (noAttrB_ok T.na_Root (by decide +kernel)) (dv 0)) de_int (fun _ _ => rfl)) de_int (nomark _)) (db_one (ds_ret (de_tup (da_cons (dv 3) (da_cons (dv 4) (da_cons (dv 6) (da_cons (dv 5) da_nil))))))) db_nil)
  (db_cons (ds_set 7 sc_Root_seen_by.nd rfl (by first | exact .inl rfl | exact .inr rfl) (de_call (ok_side_of T) (hr.mono (by decide)) (by rfl) T.m_side_of T.F_side_of.kp T.b_side_of .nil (fun _ _ => rpL_nil) takesB (da_cons (de_op od_mulA (dv 2) (dv 5)) da_nil)))
  (db_cons (ds_if (dt_cmp (od_ne hr.units) (de_op od_pow (dv 7) de_int) (de_op od_mulA (dv 2) (dv 5)) (nomark _)) (db_one (ds_raiseC rfl takesB PySem.F.excBase_TypeError T.R_NoKin T.gc_NoKin (by rfl))) db_nil)
  (db_one (ds_ret (de_tup (da_cons (de_op od_mulA (dv 3) (dv 2)) (da_cons (de_op od_mulA (dv 4) (dv 7)) (da_cons (de_op od_mulA (dv 6) (dv 2)) (da_cons (dv 2) da_nil)))))))))))))
theorem ok_Root_plus (T : Txt w K mg base) : FnG P w K mg base (L2N.CX P w) 7 T.f_Root_plus T.fd_Root_plus ["self", "other"] (upF K (sp_Root_plus)) := by
  refine okD (k := 6) (t := fun Ed => t_Root_plus Ed) T.F_Root_plus sc_Root_plus (len_Root_plus) (fun cdv A outer s H E Ed hr => ?_) (pure_Root_plus)
  exact (db_cons (ds_asg (vs := [2, 3, 4, 5]) (de_meth T.cl_Root T.M_Root_seen_by (dv 0) (ok_Root_seen_by T) (hr.mono (by decide)) T.b_Root_seen_by .nil (fun _ _ => rpL_nil) takesB (da_cons (dv 1) da_nil)) (dg_tup rfl (dgs_cons (dg_name (i := 2) sc_Root_plus.nd rfl (by first | exact Or.inl rfl | exact Or.inr rfl) (by decide)) (dgs_cons (dg_name (i := 3) sc_Root_plus.nd rfl (by first | exact Or.inl rfl | exact Or.inr rfl) (by decide)) (dgs_cons (dg_name (i := 4) sc_Root_plus.nd rfl (by first | exact Or.inl rfl | exact Or.inr rfl) (by decide)) (dgs_cons (dg_name (i := 5) sc_Root_plus.nd rfl (by first | exact Or.inl rfl | exact Or.inr rfl) (by decide)) dgs_nil))))))
  (db_cons (ds_asg (vs := [6, 7, 8, 9]) (de_fld T.cl_Root (noAttrB_ok T.na_Root (by decide +kernel)) (dv 0)) (dg_tup rfl (dgs_cons (dg_name (i := 6) sc_Root_plus.nd rfl (by first | exact Or.inl rfl | exact Or.inr rfl) (by decide)) (dgs_cons (dg_name (i := 7) sc_Root_plus.nd rfl (by first | exact Or.inl rfl | exact Or.inr rfl) (by decide)) (dgs_cons (dg_name (i := 8) sc_Root_plus.nd rfl (by first | exact Or.inl rfl | exact Or.inr rfl) (by decide)) (dgs_cons (dg_name (i := 9) sc_Root_plus.nd rfl (by first | exact Or.inl rfl | exact Or.inr rfl) (by decide)) dgs_nil))))))
  (db_one (ds_ret (de_make T.cl_Root (ok_Root___init__ T) (hr.mono (by decide)) (by rfl) T.gc_Root T.b_Root___init__ .nil (fun _ _ => rpL_nil) takesB (da_cons (de_op od_add (de_op od_mulA (dv 6) (dv 4)) (de_op od_mulA (dv 2) (dv 9))) (da_cons (de_op od_add (de_op od_mulA (dv 7) (dv 4)) (de_op od_mulA (dv 3) (dv 9))) (da_cons (dv 5) (da_cons (de_op od_mulA (dv 9) (dv 4)) da_nil)))))))))
theorem ok_Root_less (T : Txt w K mg base) : FnG P w K mg base (L2N.CX P w) 8 T.f_Root_less T.fd_Root_less ["self", "other"] (upF K (sp_Root_less)) := by
  refine okD (k := 7) (t := fun Ed => t_Root_less Ed) T.F_Root_less sc_Root_less (len_Root_less) (fun cdv A outer s H E Ed hr => ?_) (pure_Root_less)
  exact (db_cons (ds_asg (vs := [2, 3, 4, 5]) (de_meth0 T.cl_Root T.M_Root_parts (dv 1) (ok_Root_parts T) (hr.mono (by decide)) T.b_Root_parts .nil (fun _ _ => rpL_nil) takesB) (dg_tup rfl (dgs_cons (dg_name (i := 2) sc_Root_less.nd rfl (by first | exact Or.inl rfl | exact Or.inr rfl) (by decide)) (dgs_cons (dg_name (i := 3) sc_Root_less.nd rfl (by first | exact Or.inl rfl | exact Or.inr rfl) (by decide)) (dgs_cons (dg_name (i := 4) sc_Root_less.nd rfl (by first | exact Or.inl rfl | exact Or.inr rfl) (by decide)) (dgs_cons (dg_name (i := 5) sc_Root_less.nd rfl (by first | exact Or.inl rfl | exact Or.inr rfl) (by decide)) dgs_nil))))))
  (db_one (ds_ret (de_meth T.cl_Root T.M_Root_plus (dv 0) (ok_Root_plus T) (hr.mono (by decide)) T.b_Root_plus .nil (fun _ _ => rpL_nil) takesB (da_cons (de_make T.cl_Root (ok_Root___init__ T) (hr.mono (by decide)) (by rfl) T.gc_Root T.b_Root___init__ .nil (fun _ _ => rpL_nil) takesB (da_cons (de_op od_sub de_int (dv 2)) (da_cons (de_op od_sub de_int (dv 3)) (da_cons (dv 4) (da_cons (dv 5) da_nil))))) da_nil)))))
theorem ok_Root_times (T : Txt w K mg base) : FnG P w K mg base (L2N.CX P w) 7 T.f_Root_times T.fd_Root_times ["self", "other"] (upF K (sp_Root_times)) := by
  refine okD (k := 6) (t := fun Ed => t_Root_times Ed) T.F_Root_times sc_Root_times (len_Root_times) (fun cdv A outer s H E Ed hr => ?_) (pure_Root_times)
  exact (db_cons (ds_asg (vs := [2, 3, 4, 5]) (de_meth T.cl_Root T.M_Root_seen_by (dv 0) (ok_Root_seen_by T) (hr.mono (by decide)) T.b_Root_seen_by .nil (fun _ _ => rpL_nil) takesB (da_cons (dv 1) da_nil)) (dg_tup rfl (dgs_cons (dg_name (i := 2) sc_Root_times.nd rfl (by first | exact Or.inl rfl | exact Or.inr rfl) (by decide)) (dgs_cons (dg_name (i := 3) sc_Root_times.nd rfl (by first | exact Or.inl rfl | exact Or.inr rfl) (by decide)) (dgs_cons (dg_name (i := 4) sc_Root_times.nd rfl (by first | exact Or.inl rfl | exact Or.inr rfl) (by decide)) (dgs_cons (dg_name (i := 5) sc_Root_times.nd rfl (by first | exact Or.inl rfl | exact Or.inr rfl) (by decide)) dgs_nil))))))
  (db_cons (ds_asg (vs := [6, 7, 8, 9]) (de_fld T.cl_Root (noAttrB_ok T.na_Root (by decide +kernel)) (dv 0)) (dg_tup rfl (dgs_cons (dg_name (i := 6) sc_Root_times.nd rfl (by first | exact Or.inl rfl | exact Or.inr rfl) (by decide)) (dgs_cons (dg_name (i := 7) sc_Root_times.nd rfl (by first | exact Or.inl rfl | exact Or.inr rfl) (by decide)) (dgs_cons (dg_name (i := 8) sc_Root_times.nd rfl (by first | exact Or.inl rfl | exact Or.inr rfl) (by decide)) (dgs_cons (dg_name (i := 9) sc_Root_times.nd rfl (by first | exact Or.inl rfl | exact Or.inr rfl) (by decide)) dgs_nil))))))
  (db_one (ds_ret (de_make T.cl_Root (ok_Root___init__ T) (hr.mono (by decide)) (by rfl) T.gc_Root T.b_Root___init__ .nil (fun _ _ => rpL_nil) takesB (da_cons (de_op od_add (de_op od_mulA (dv 6) (dv 2)) (de_op od_mulA (de_op od_mulA (dv 7) (dv 3)) (dv 5))) (da_cons (de_op od_add (de_op od_mulA (dv 6) (dv 3)) (de_op od_mulA (dv 7) (dv 2))) (da_cons (dv 5) (da_cons (de_op od_mulA (dv 9) (dv 4)) da_nil)))))))))
theorem ok_contrary_of (T : Txt w K mg base) : FnG P w K mg base (L2N.CX P w) 7 T.f_contrary_of T.fd_contrary_of ["number", "above"] (upF K (sp_contrary_of)) := by
  refine okD (k := 6) (t := fun Ed => t_contrary_of Ed) T.F_contrary_of sc_contrary_of (len_contrary_of) (fun cdv A outer s H E Ed hr => ?_) (pure_contrary_of)
  exact (db_cons (ds_asg (vs := [2, 3, 4, 5]) (de_meth0 T.cl_Root T.M_Root_parts (dv 0) (ok_Root_parts T) (hr.mono (by decide)) T.b_Root_parts .nil (fun _ _ => rpL_nil) takesB) (dg_tup rfl (dgs_cons (dg_name (i := 2) sc_contrary_of.nd rfl (by first | exact Or.inl rfl | exact Or.inr rfl) (by decide)) (dgs_cons (dg_name (i := 3) sc_contrary_of.nd rfl (by first | exact Or.inl rfl | exact Or.inr rfl) (by decide)) (dgs_cons (dg_name (i := 4) sc_contrary_of.nd rfl (by first | exact Or.inl rfl | exact Or.inr rfl) (by decide)) (dgs_cons (dg_name (i := 5) sc_contrary_of.nd rfl (by first | exact Or.inl rfl | exact Or.inr rfl) (by decide)) dgs_nil))))))
  (db_cons (ds_set 6 sc_contrary_of.nd rfl (by first | exact .inl rfl | exact .inr rfl) (de_op od_sub (de_op od_pow (dv 2) de_int) (de_op od_mulA (dv 4) (de_op od_pow (dv 3) de_int))))
  (db_cons (ds_tryZ rfl (fun pn xe passB => (db_one (ds_set 7 sc_contrary_of.nd rfl (by first | exact .inl rfl | exact .inr rfl) (de_op od_fdiv (de_callB cd_abs (by rfl) T.n_abs (by decide +kernel) (da_cons (dv 6) da_nil)) (dv 6))))))
  (db_one (ds_ret (de_make T.cl_Root (ok_Root___init__ T) (hr.mono (by decide)) (by rfl) T.gc_Root T.b_Root___init__ .nil (fun _ _ => rpL_nil) takesB (da_cons (de_op od_mulA (de_op od_mulA (dv 7) (dv 5)) (dv 2)) (da_cons (de_op od_sub de_int (de_op od_mulA (de_op od_mulA (dv 7) (dv 5)) (dv 3))) (da_cons (dv 4) (da_cons (de_callB cd_abs (by rfl) T.n_abs (by decide +kernel) (da_cons (dv 6) da_nil)) da_nil))))))))))
theorem ok_Root_over (T : Txt w K mg base) : FnG P w K mg base (L2N.CX P w) 8 T.f_Root_over T.fd_Root_over ["self", "other"] (upF K (sp_Root_over)) := by
  refine okD (k := 7) (t := fun Ed => t_Root_over Ed) T.F_Root_over sc_Root_over (len_Root_over) (fun cdv A outer s H E Ed hr => ?_) (pure_Root_over)
  exact (db_cons (ds_expr (de_meth T.cl_Root T.M_Root_seen_by (dv 0) (ok_Root_seen_by T) (hr.mono (by decide)) T.b_Root_seen_by .nil (fun _ _ => rpL_nil) takesB (da_cons (dv 1) da_nil)))
  (db_one (ds_ret (de_meth T.cl_Root T.M_Root_times (dv 0) (ok_Root_times T) (hr.mono (by decide)) T.b_Root_times .nil (fun _ _ => rpL_nil) takesB (da_cons (de_call (ok_contrary_of T) (hr.mono (by decide)) (by rfl) T.m_contrary_of T.F_contrary_of.kp T.b_contrary_of .nil (fun _ _ => rpL_nil) takesB (da_cons (dv 1) (da_cons (dv 0) da_nil))) da_nil)))))
theorem ok_is_within (T : Txt w K mg base) : FnG P w K mg base (L2N.CX P w) 2 T.f_is_within T.fd_is_within ["thing", "least", "most"] (upF K (sp_is_within)) := by
  refine okD (k := 1) (t := fun Ed => t_is_within Ed) T.F_is_within sc_is_within (len_is_within) (fun cdv A outer s H E Ed hr => ?_) (pure_is_within)
  exact (db_one (ds_ret (de_and (de_call (ok_is_whole T) (hr.mono (by decide)) (by rfl) T.m_is_whole T.F_is_whole.kp T.b_is_whole .nil (fun _ _ => rpL_nil) takesB (da_cons (dv 0) da_nil)) (de_one (de_chain od_le od_le (dv 1) (dv 0) (dv 2))))))
theorem ok_is_row (T : Txt w K mg base) : FnG P w K mg base (L2N.CX P w) 3 T.f_is_row T.fd_is_row ["thing", "least", "most"] (upF K (sp_is_row)) := by
  refine okD (k := 2) (t := fun Ed => t_is_row Ed) T.F_is_row sc_is_row (len_is_row) (fun cdv A outer s H E Ed hr => ?_) (pure_is_row)
  exact (db_cons (ds_if (DW.pt (dw_or (dt_not (dt_val (de_callB cd_isi (by rfl) T.n_isinstance (by decide +kernel) (da_cons (dv 0) (da_cons (de_ty (by rfl) T.n_tuple (by decide +kernel)) da_nil))))) (dw_or1 (dt_not (dt_chain od_le od_le (dv 1) (de_callB cd_len (by rfl) T.n_len (by decide +kernel) (da_cons (dv 0) da_nil)) (dv 2)))))) (db_one (ds_ret de_bl)) db_nil)
  (db_one (ds_ret (de_callB (cd_all rfl) (by rfl) T.n_all (by decide +kernel) (da_cons (de_lc (own := [("number", 3)]) rfl sc_is_row.nd (di_any (dv 0)) (blkOk_by (own := [("number", 3)]) (N := N_is_row) (sc := defScope s_is_row) (by decide +kernel)) (fun _ _ _ _ _ => (dg_name (i := 3) sc_is_row.nd rfl (by first | exact Or.inl rfl | exact Or.inr rfl) (by decide))) (fun _ _ _ _ _ => dts_nil) (fun _ _ _ _ _ => (de_call (ok_is_within T) (hr.mono (by decide)) (by rfl) T.m_is_within T.F_is_within.kp T.b_is_within .nil (fun _ _ => rpL_nil) takes0N (da_cons (dv 3) (da_cons de_int (da_cons (de_k (by rfl) T.m_MOST_NUMBER T.r_MOST_NUMBER T.k_MOST_NUMBER) da_nil)))))) da_nil)))))
theorem ok_is_number_ring (T : Txt w K mg base) : FnG P w K mg base (L2N.CX P w) 4 T.f_is_number_ring T.fd_is_number_ring ["thing"] (upF K (sp_is_number_ring)) := by
  refine okD (k := 3) (t := fun Ed => t_is_number_ring Ed) T.F_is_number_ring sc_is_number_ring (len_is_number_ring) (fun cdv A outer s H E Ed hr => ?_) (pure_is_number_ring)
  exact (db_one (ds_ret (de_call (ok_is_row T) (hr.mono (by decide)) (by rfl) T.m_is_row T.F_is_row.kp T.b_is_row .nil (fun _ _ => rpL_nil) takesB (da_cons (dv 0) (da_cons de_int (da_cons (de_k (by rfl) T.m_MOST_RING T.r_MOST_RING T.k_MOST_RING) da_nil))))))
theorem ok_is_ahead (T : Txt w K mg base) : FnG P w K mg base (L2N.CX P w) 4 T.f_is_ahead T.fd_is_ahead ["thing"] (upF K (sp_is_ahead)) := by
  refine okD (k := 3) (t := fun Ed => t_is_ahead Ed) T.F_is_ahead sc_is_ahead (len_is_ahead) (fun cdv A outer s H E Ed hr => ?_) (pure_is_ahead)
  exact (db_cons (ds_if (DW.pt (dw_or (dt_not (dt_val (de_callB cd_isi (by rfl) T.n_isinstance (by decide +kernel) (da_cons (dv 0) (da_cons (de_ty (by rfl) T.n_tuple (by decide +kernel)) da_nil))))) (dw_or1 (dt_cmp (od_eq hr.units) (de_callB cd_len (by rfl) T.n_len (by decide +kernel) (da_cons (dv 0) da_nil)) de_int (nomark _))))) (db_one (ds_ret (de_cmp (od_eq hr.units) (dv 0) (de_tup da_nil) (nomark _)))) db_nil)
  (db_cons (ds_if (dt_not (dt_val (de_call (ok_is_within T) (hr.mono (by decide)) (by rfl) T.m_is_within T.F_is_within.kp T.b_is_within .nil (fun _ _ => rpL_nil) takesB (da_cons (de_ix (dv 0) de_int (fun _ _ => rfl)) (da_cons (de_op od_sub de_int (de_k (by rfl) T.m_MOST_NUMBER T.r_MOST_NUMBER T.k_MOST_NUMBER)) (da_cons (de_k (by rfl) T.m_MOST_NUMBER T.r_MOST_NUMBER T.k_MOST_NUMBER) da_nil)))))) (db_one (ds_ret de_bl)) db_nil)
  (db_one (ds_ret (de_call (ok_is_row T) (hr.mono (by decide)) (by rfl) T.m_is_row T.F_is_row.kp T.b_is_row .nil (fun _ _ => rpL_nil) takesB (da_cons (de_slice (dv 0) (do_some de_int) do_none) (da_cons de_int (da_cons (de_op od_sub (de_k (by rfl) T.m_MOST_AHEAD T.r_MOST_AHEAD T.k_MOST_AHEAD) de_int) da_nil))))))))
theorem ok_shortest_part (T : Txt w K mg base) : FnG P w K mg base (L2N.CX P w) 1 T.f_shortest_part T.fd_shortest_part ["parts"] (upF K (sp_shortest_part)) := by
  refine okD (k := 0) (t := fun Ed => t_shortest_part Ed) T.F_shortest_part sc_shortest_part (len_shortest_part) (fun cdv A outer s H E Ed hr => ?_) (pure_shortest_part)
  exact (db_cons (ds_set 1 sc_shortest_part.nd rfl (by first | exact .inl rfl | exact .inr rfl) (de_callB cd_len (by rfl) T.n_len (by decide +kernel) (da_cons (dv 0) da_nil)))
  (db_cons (ds_for (vs := [2]) passB rfl (di_rng2 (by rfl) T.n_range (da_cons de_int (da_cons (dv 1) da_nil))) (dg_name (i := 2) sc_shortest_part.nd rfl (by first | exact Or.inl rfl | exact Or.inr rfl) (by decide))
  (db_one (ds_if (DW.pt (dw_and (dt_cmp (od_eq hr.units) (de_op od_mod (dv 1) (dv 2)) de_int (nomark _)) (dw_and1 (dt_cmp (od_eq hr.units) (de_op od_mulA (de_slice (dv 0) do_none (do_some (dv 2))) (de_op od_fdiv (dv 1) (dv 2))) (dv 0) (nomark _))))) (db_one (ds_ret (de_slice (dv 0) do_none (do_some (dv 2))))) db_nil)))
  (db_one (ds_ret (dv 0)))))
theorem ok_table_of_row (T : Txt w K mg base) : FnG P w K mg base (L2N.CX P w) 1 T.f_table_of_row T.fd_table_of_row ["row"] (upF K (sp_table_of_row)) := by
  refine okD (k := 0) (t := fun Ed => t_table_of_row Ed) T.F_table_of_row sc_table_of_row (len_table_of_row) (fun cdv A outer s H E Ed hr => ?_) (pure_table_of_row)
  exact (db_cons (ds_asg (vs := [1, 2, 3, 4]) (de_tup (da_cons de_int (da_cons de_int (da_cons de_int (da_cons de_int da_nil))))) (dg_tup rfl (dgs_cons (dg_name (i := 1) sc_table_of_row.nd rfl (by first | exact Or.inl rfl | exact Or.inr rfl) (by decide)) (dgs_cons (dg_name (i := 2) sc_table_of_row.nd rfl (by first | exact Or.inl rfl | exact Or.inr rfl) (by decide)) (dgs_cons (dg_name (i := 3) sc_table_of_row.nd rfl (by first | exact Or.inl rfl | exact Or.inr rfl) (by decide)) (dgs_cons (dg_name (i := 4) sc_table_of_row.nd rfl (by first | exact Or.inl rfl | exact Or.inr rfl) (by decide)) dgs_nil))))))
  (db_cons (ds_for (vs := [5]) passB rfl (di_any (dv 0)) (dg_name (i := 5) sc_table_of_row.nd rfl (by first | exact Or.inl rfl | exact Or.inr rfl) (by decide))
  (db_cons (ds_par 1 2 rfl sc_table_of_row.nd rfl rfl (by decide) rfl rfl (da_cons (de_op od_add (de_op od_mulA (dv 1) (dv 5)) (dv 2)) (da_cons (dv 1) da_nil)) (by rfl))
  (db_one (ds_par 3 4 rfl sc_table_of_row.nd rfl rfl (by decide) rfl rfl (da_cons (de_op od_add (de_op od_mulA (dv 3) (dv 5)) (dv 4)) (da_cons (dv 3) da_nil)) (by rfl)))))
  (db_one (ds_ret (de_tup (da_cons (dv 1) (da_cons (dv 2) (da_cons (dv 3) (da_cons (dv 4) da_nil)))))))))
theorem ok_number_of_ring (T : Txt w K mg base) : FnG P w K mg base (L2N.CX P w) 7 T.f_number_of_ring T.fd_number_of_ring ["ring"] (upF K (sp_number_of_ring)) := by
  refine okD (k := 6) (t := fun Ed => t_number_of_ring Ed) T.F_number_of_ring sc_number_of_ring (len_number_of_ring) (fun cdv A outer s H E Ed hr => ?_) (pure_number_of_ring)
  exact (db_cons (ds_asg (vs := [1, 2, 3, 4]) (de_call (ok_table_of_row T) (hr.mono (by decide)) (by rfl) T.m_table_of_row T.F_table_of_row.kp T.b_table_of_row .nil (fun _ _ => rpL_nil) takesB (da_cons (dv 0) da_nil)) (dg_tup rfl (dgs_cons (dg_name (i := 1) sc_number_of_ring.nd rfl (by first | exact Or.inl rfl | exact Or.inr rfl) (by decide)) (dgs_cons (dg_name (i := 2) sc_number_of_ring.nd rfl (by first | exact Or.inl rfl | exact Or.inr rfl) (by decide)) (dgs_cons (dg_name (i := 3) sc_number_of_ring.nd rfl (by first | exact Or.inl rfl | exact Or.inr rfl) (by decide)) (dgs_cons (dg_name (i := 4) sc_number_of_ring.nd rfl (by first | exact Or.inl rfl | exact Or.inr rfl) (by decide)) dgs_nil))))))
  (db_one (ds_ret (de_make T.cl_Root (ok_Root___init__ T) (hr.mono (by decide)) (by rfl) T.gc_Root T.b_Root___init__ .nil (fun _ _ => rpL_nil) takesB (da_cons (de_op od_sub (dv 1) (dv 4)) (da_cons de_int (da_cons (de_op od_add (de_op od_pow (de_op od_sub (dv 1) (dv 4)) de_int) (de_op od_mulA (de_op od_mulA de_int (dv 2)) (dv 3))) (da_cons (de_op od_mulA de_int (dv 3)) da_nil))))))))
theorem ok_Stair_keep_rows (T : Txt w K mg base) : FnG P w K mg base (L2N.CX P w) 2 T.f_Stair_keep_rows T.fd_Stair_keep_rows ["self", "ahead", "ring"] (upF K (sp_Stair_keep_rows)) := by
  refine okD (k := 1) (t := fun Ed => t_Stair_keep_rows Ed) T.F_Stair_keep_rows sc_Stair_keep_rows (len_Stair_keep_rows) (fun cdv A outer s H E Ed hr => ?_) (pure_Stair_keep_rows)
  exact (db_cons (ds_set 2 sc_Stair_keep_rows.nd rfl (by first | exact .inl rfl | exact .inr rfl) (de_call (ok_shortest_part T) (hr.mono (by decide)) (by rfl) T.m_shortest_part T.F_shortest_part.kp T.b_shortest_part .nil (fun _ _ => rpL_nil) takesB (da_cons (dv 2) da_nil)))
  (db_cons (ds_while passB (DW.pt (dw_and (dt_cmp (od_ne hr.units) (dv 1) (de_tup da_nil) (nomark _)) (dw_and1 (dt_cmp (od_eq hr.units) (de_ix (dv 1) (de_neg de_int) (fun _ _ => rfl)) (de_ix (dv 2) (de_neg de_int) (fun _ _ => rfl)) (nomark _)))))
  (db_cons (ds_set 1 sc_Stair_keep_rows.nd rfl (by first | exact .inl rfl | exact .inr rfl) (de_slice (dv 1) do_none (do_some (de_neg de_int))))
  (db_one (ds_set 2 sc_Stair_keep_rows.nd rfl (by first | exact .inl rfl | exact .inr rfl) (de_op od_add (de_slice (dv 2) (do_some (de_neg de_int)) do_none) (de_slice (dv 2) do_none (do_some (de_neg de_int))))))))
  (db_cons (ds_putB T.cl_Stair (noAttrB_ok T.na_Stair (by decide +kernel)) (dv 0) (dv 1) (by rfl))
  (db_one (ds_putB T.cl_Stair (noAttrB_ok T.na_Stair (by decide +kernel)) (dv 0) (dv 2) (by rfl))))))
theorem ok_Stair___init__ (T : Txt w K mg base) : FnG P w K mg base (L2N.CX P w) 5 T.f_Stair___init__ T.fd_Stair___init__ ["self", "ahead", "ring"] (upF K (sp_Stair___init__)) := by
  refine okD (k := 4) (t := fun Ed => t_Stair___init__ Ed) T.F_Stair___init__ sc_Stair___init__ (len_Stair___init__) (fun cdv A outer s H E Ed hr => ?_) (pure_Stair___init__)
  exact (db_cons (ds_if (DW.pt (dw_or (dt_not (dt_val (de_call (ok_is_ahead T) (hr.mono (by decide)) (by rfl) T.m_is_ahead T.F_is_ahead.kp T.b_is_ahead .nil (fun _ _ => rpL_nil) takesB (da_cons (dv 1) da_nil)))) (dw_or1 (dt_not (dt_val (de_call (ok_is_number_ring T) (hr.mono (by decide)) (by rfl) T.m_is_number_ring T.F_is_number_ring.kp T.b_is_number_ring .nil (fun _ _ => rpL_nil) takesB (da_cons (dv 2) da_nil))))))) (db_one (ds_raiseC rfl takesB PySem.F.excBase_ValueError T.R_NoStair T.gc_NoStair (by rfl))) db_nil)
  (db_one (ds_expr (de_methO T.cl_Stair T.M_Stair_keep_rows (dv 0) (ok_Stair_keep_rows T) (hr.mono (by decide)) T.b_Stair_keep_rows .nil (fun _ _ => rpL_nil) takesB (da_cons (dv 1) (da_cons (dv 2) da_nil))))))
theorem ok_Stair_ahead (T : Txt w K mg base) : FnG P w K mg base (L2N.CX P w) 1 T.f_Stair_ahead T.fd_Stair_ahead ["self"] (upF K (sp_Stair_ahead)) := by
  refine okD (k := 0) (t := fun Ed => t_Stair_ahead Ed) T.F_Stair_ahead sc_Stair_ahead (len_Stair_ahead) (fun cdv A outer s H E Ed hr => ?_) (pure_Stair_ahead)
  exact (db_one (ds_ret (de_fld T.cl_Stair (noAttrB_ok T.na_Stair (by decide +kernel)) (dv 0))))
theorem ok_Stair_ring (T : Txt w K mg base) : FnG P w K mg base (L2N.CX P w) 1 T.f_Stair_ring T.fd_Stair_ring ["self"] (upF K (sp_Stair_ring)) := by
  refine okD (k := 0) (t := fun Ed => t_Stair_ring Ed) T.F_Stair_ring sc_Stair_ring (len_Stair_ring) (fun cdv A outer s H E Ed hr => ?_) (pure_Stair_ring)
  exact (db_one (ds_ret (de_fld T.cl_Stair (noAttrB_ok T.na_Stair (by decide +kernel)) (dv 0))))
theorem ok_Stair___eq__ (T : Txt w K mg base) : FnG P w K mg base (L2N.CX P w) 2 T.f_Stair___eq__ T.fd_Stair___eq__ ["self", "other"] (upF K (sp_Stair___eq__)) := by
  refine okD (k := 1) (t := fun Ed => t_Stair___eq__ Ed) T.F_Stair___eq__ sc_Stair___eq__ (len_Stair___eq__) (fun cdv A outer s H E Ed hr => ?_) (pure_Stair___eq__)
  exact (db_cons (ds_if (dt_not (dt_val (de_callB (cd_isiC T.cl_Stair T.is_Stair) (by rfl) T.n_isinstance (by decide +kernel) (da_cons (dv 1) (da_cons (de_cls T.cl_Stair (by rfl) T.gc_Stair) da_nil))))) (db_one (ds_ret de_bl)) db_nil)
  (db_one (ds_ret (de_and (de_cmp (od_eq hr.units) (de_fld T.cl_Stair (noAttrB_ok T.na_Stair (by decide +kernel)) (dv 0)) (de_meth0 T.cl_Stair T.M_Stair_ahead (dv 1) (ok_Stair_ahead T) (hr.mono (by decide)) T.b_Stair_ahead .nil (fun _ _ => rpL_nil) takesB) (nomark _)) (de_one (de_cmp (od_eq hr.units) (de_fld T.cl_Stair (noAttrB_ok T.na_Stair (by decide +kernel)) (dv 0)) (de_meth0 T.cl_Stair T.M_Stair_ring (dv 1) (ok_Stair_ring T) (hr.mono (by decide)) T.b_Stair_ring .nil (fun _ _ => rpL_nil) takesB) (nomark _)))))))
theorem ok_Stair_at (T : Txt w K mg base) : FnG P w K mg base (L2N.CX P w) 3 T.f_Stair_at T.fd_Stair_at ["self", "place"] (upF K (sp_Stair_at)) := by
  refine okD (k := 2) (t := fun Ed => t_Stair_at Ed) T.F_Stair_at sc_Stair_at (len_Stair_at) (fun cdv A outer s H E Ed hr => ?_) (pure_Stair_at)
  exact (db_cons (ds_if (dt_cmp od_lt (dv 1) de_int (nomark _)) (db_one (ds_raiseF2 rfl takesB PySem.F.excBase_IndexError T.X_NoPlace (in_NoPlace T) (hr.mono (by decide)) T.bI_NoPlace T.gc_NoPlace (by rfl) (da_cons (dv 1) (da_cons de_non da_nil)))) db_nil)
  (db_cons (ds_if (dt_cmp od_lt (dv 1) (de_callB cd_len (by rfl) T.n_len (by decide +kernel) (da_cons (de_fld T.cl_Stair (noAttrB_ok T.na_Stair (by decide +kernel)) (dv 0)) da_nil)) (nomark _)) (db_one (ds_ret (de_ix (de_fld T.cl_Stair (noAttrB_ok T.na_Stair (by decide +kernel)) (dv 0)) (dv 1) (fun _ _ => rfl)))) db_nil)
  (db_one (ds_ret (de_ix (de_fld T.cl_Stair (noAttrB_ok T.na_Stair (by decide +kernel)) (dv 0)) (de_op od_mod (de_op od_sub (dv 1) (de_callB cd_len (by rfl) T.n_len (by decide +kernel) (da_cons (de_fld T.cl_Stair (noAttrB_ok T.na_Stair (by decide +kernel)) (dv 0)) da_nil))) (de_callB cd_len (by rfl) T.n_len (by decide +kernel) (da_cons (de_fld T.cl_Stair (noAttrB_ok T.na_Stair (by decide +kernel)) (dv 0)) da_nil))) (fun _ _ => rfl))))))
theorem ok_told_stair (T : Txt w K mg base) : FnG P w K mg base (L2N.CX P w) 7 T.f_told_stair T.fd_told_stair ["ahead", "ring"] (upF K (sp_told_stair)) := by
  refine okD (k := 6) (t := fun Ed => t_told_stair Ed) T.F_told_stair sc_told_stair (len_told_stair) (fun cdv A outer s H E Ed hr => ?_) (pure_told_stair)
  exact (db_cons (ds_set 2 sc_told_stair.nd rfl (by first | exact .inl rfl | exact .inr rfl) (de_makeO T.cl_Stair (ok_Stair___init__ T) (hr.mono (by decide)) (by rfl) T.gc_Stair T.b_Stair___init__ .nil (fun _ _ => rpL_nil) takesB (da_cons (de_tup da_nil) (da_cons (de_tup (da_cons de_int da_nil)) da_nil))))
  (db_cons (ds_expr (de_methO T.cl_Stair T.M_Stair_keep_rows (dv 2) (ok_Stair_keep_rows T) (hr.mono (by decide)) T.b_Stair_keep_rows .nil (fun _ _ => rpL_nil) takesB (da_cons (dv 0) (da_cons (dv 1) da_nil))))
  (db_one (ds_ret (de_frzI (dv 2))))))
theorem ok_Stair_behind (T : Txt w K mg base) : FnG P w K mg base (L2N.CX P w) 8 T.f_Stair_behind T.fd_Stair_behind ["self", "many"] (upF K (sp_Stair_behind)) := by
  refine okDv (k := 7) (t := fun Ed => t_Stair_behind Ed) T.F_Stair_behind sc_Stair_behind (len_Stair_behind) (fun cdv A outer s H E Ed hr => ?_) (pure_Stair_behind)
  exact (db_cons (ds_set 2 sc_Stair_behind.nd rfl (by first | exact .inl rfl | exact .inr rfl) (de_slice (de_fld T.cl_Stair (noAttrB_ok T.na_Stair (by decide +kernel)) (dv 0)) (do_some (dv 1)) do_none))
  (db_cons (ds_set 3 sc_Stair_behind.nd rfl (by first | exact .inl rfl | exact .inr rfl) (de_op od_mod (de_callB (cd_max2 rfl) (by rfl) T.n_max (by decide +kernel) (da_cons de_int (da_cons (de_op od_sub (dv 1) (de_callB cd_len (by rfl) T.n_len (by decide +kernel) (da_cons (de_fld T.cl_Stair (noAttrB_ok T.na_Stair (by decide +kernel)) (dv 0)) da_nil))) da_nil))) (de_callB cd_len (by rfl) T.n_len (by decide +kernel) (da_cons (de_fld T.cl_Stair (noAttrB_ok T.na_Stair (by decide +kernel)) (dv 0)) da_nil))))
  (db_one (ds_ret (de_call (ok_told_stair T) (hr.mono (by decide)) (by rfl) T.m_told_stair T.F_told_stair.kp T.b_told_stair .nil (fun _ _ => rpL_nil) takesB (da_cons (dv 2) (da_cons (de_op od_add (de_slice (de_fld T.cl_Stair (noAttrB_ok T.na_Stair (by decide +kernel)) (dv 0)) (do_some (dv 3)) do_none) (de_slice (de_fld T.cl_Stair (noAttrB_ok T.na_Stair (by decide +kernel)) (dv 0)) do_none (do_some (dv 3)))) da_nil)))))))
theorem ok_Stair_number (T : Txt w K mg base) : FnG P w K mg base (L2N.CX P w) 9 T.f_Stair_number T.fd_Stair_number ["self"] (upF K (sp_Stair_number)) := by
  refine okD (k := 8) (t := fun Ed => t_Stair_number Ed) T.F_Stair_number sc_Stair_number (len_Stair_number) (fun cdv A outer s H E Ed hr => ?_) (pure_Stair_number)
  exact (db_cons (ds_set 1 sc_Stair_number.nd rfl (by first | exact .inl rfl | exact .inr rfl) (de_call (ok_number_of_ring T) (hr.mono (by decide)) (by rfl) T.m_number_of_ring T.F_number_of_ring.kp T.b_number_of_ring .nil (fun _ _ => rpL_nil) takesB (da_cons (de_fld T.cl_Stair (noAttrB_ok T.na_Stair (by decide +kernel)) (dv 0)) da_nil)))
  (db_cons (ds_for (vs := [2]) passB rfl (di_any (de_rev (de_fld T.cl_Stair (noAttrB_ok T.na_Stair (by decide +kernel)) (dv 0)))) (dg_name (i := 2) sc_Stair_number.nd rfl (by first | exact Or.inl rfl | exact Or.inr rfl) (by decide))
  (db_one (ds_set 1 sc_Stair_number.nd rfl (by first | exact .inl rfl | exact .inr rfl) (de_meth T.cl_Root T.M_Root_plus (de_make T.cl_Root (ok_Root___init__ T) (hr.mono (by decide)) (by rfl) T.gc_Root T.b3_Root___init__ T.v3_Root___init__ (fun _ _ => (rpL_cons rfl (rpL_cons rfl (rpL_cons rfl rpL_nil)))) takesB (da_cons (dv 2) da_nil)) (ok_Root_plus T) (hr.mono (by decide)) T.b_Root_plus .nil (fun _ _ => rpL_nil) takesB (da_cons (de_meth T.cl_Root T.M_Root_over (de_make T.cl_Root (ok_Root___init__ T) (hr.mono (by decide)) (by rfl) T.gc_Root T.b3_Root___init__ T.v3_Root___init__ (fun _ _ => (rpL_cons rfl (rpL_cons rfl (rpL_cons rfl rpL_nil)))) takesB (da_cons de_int da_nil)) (ok_Root_over T) (hr.mono (by decide)) T.b_Root_over .nil (fun _ _ => rpL_nil) takesB (da_cons (dv 1) da_nil)) da_nil)))))
  (db_one (ds_ret (dv 1)))))
theorem ok_Stair_fraction (T : Txt w K mg base) : FnG P w K mg base (L2N.CX P w) 4 T.f_Stair_fraction T.fd_Stair_fraction ["self", "many"] (upF K (sp_Stair_fraction)) := by
  refine okD (k := 3) (t := fun Ed => t_Stair_fraction Ed) T.F_Stair_fraction sc_Stair_fraction (len_Stair_fraction) (fun cdv A outer s H E Ed hr => ?_) (pure_Stair_fraction)
  exact (db_cons (ds_asg (vs := [2, 3, 4, 5]) (de_call (ok_table_of_row T) (hr.mono (by decide)) (by rfl) T.m_table_of_row T.F_table_of_row.kp T.b_table_of_row .nil (fun _ _ => rpL_nil) takesB (da_cons (de_lc (own := [("place", 6)]) rfl sc_Stair_fraction.nd (di_rng1 (by rfl) T.n_range (da_cons (dv 1) da_nil)) (blkOk_by (own := [("place", 6)]) (N := N_Stair_fraction) (sc := defScope s_Stair_fraction) (by decide +kernel)) (fun _ _ _ _ _ => (dg_name (i := 6) sc_Stair_fraction.nd rfl (by first | exact Or.inl rfl | exact Or.inr rfl) (by decide))) (fun _ _ _ _ _ => dts_nil) (fun _ _ _ _ _ => (de_meth T.cl_Stair T.M_Stair_at (dv 0) (ok_Stair_at T) (hr.mono (by decide)) T.b_Stair_at .nil (fun _ _ => rpL_nil) takes0N (da_cons (dv 6) da_nil)))) da_nil)) (dg_tup rfl (dgs_cons (dg_name (i := 2) sc_Stair_fraction.nd rfl (by first | exact Or.inl rfl | exact Or.inr rfl) (by decide)) (dgs_cons (dg_name (i := 3) sc_Stair_fraction.nd rfl (by first | exact Or.inl rfl | exact Or.inr rfl) (by decide)) (dgs_cons (dg_name (i := 4) sc_Stair_fraction.nd rfl (by first | exact Or.inl rfl | exact Or.inr rfl) (by decide)) (dgs_cons (dg_name (i := 5) sc_Stair_fraction.nd rfl (by first | exact Or.inl rfl | exact Or.inr rfl) (by decide)) dgs_nil))))))
  (db_one (ds_ret (de_tup (da_cons (dv 2) (da_cons (dv 4) da_nil))))))
theorem ok_is_reduced (T : Txt w K mg base) : FnG P w K mg base (L2N.CX P w) 1 T.f_is_reduced T.fd_is_reduced ["top", "below", "side"] (upF K (sp_is_reduced)) := by
  refine okD (k := 0) (t := fun Ed => t_is_reduced Ed) T.F_is_reduced sc_is_reduced (len_is_reduced) (fun cdv A outer s H E Ed hr => ?_) (pure_is_reduced)
  exact (db_one (ds_ret (de_and (de_chain od_lt od_le de_int (dv 1) (de_op od_add (dv 0) (dv 2))) (de_one (de_chain od_le od_lt (dv 0) (dv 2) (de_op od_add (dv 0) (dv 1)))))))
theorem ok_step_on (T : Txt w K mg base) : FnG P w K mg base (L2N.CX P w) 2 T.f_step_on T.fd_step_on ["top", "below", "under"] (upF K (sp_step_on)) := by
  refine okD (k := 1) (t := fun Ed => t_step_on Ed) T.F_step_on sc_step_on (len_step_on) (fun cdv A outer s H E Ed hr => ?_) (pure_step_on)
  exact (db_cons (ds_set 3 sc_step_on.nd rfl (by first | exact .inl rfl | exact .inr rfl) (de_call (ok_side_of T) (hr.mono (by decide)) (by rfl) T.m_side_of T.F_side_of.kp T.b_side_of .nil (fun _ _ => rpL_nil) takesB (da_cons (dv 2) da_nil)))
  (db_cons (ds_set 4 sc_step_on.nd rfl (by first | exact .inl rfl | exact .inr rfl) (de_op od_fdiv (de_op od_add (dv 0) (dv 3)) (de_callB cd_abs (by rfl) T.n_abs (by decide +kernel) (da_cons (dv 1) da_nil))))
  (db_cons (ds_if (dt_cmp od_lt (dv 1) de_int (nomark _)) (db_one (ds_set 4 sc_step_on.nd rfl (by first | exact .inl rfl | exact .inr rfl) (de_op od_sub (de_neg de_int) (dv 4)))) db_nil)
  (db_cons (ds_set 0 sc_step_on.nd rfl (by first | exact .inl rfl | exact .inr rfl) (de_op od_sub (de_op od_mulA (dv 4) (dv 1)) (dv 0)))
  (db_one (ds_ret (de_tup (da_cons (dv 4) (da_cons (dv 0) (da_cons (de_op od_fdiv (de_op od_sub (dv 2) (de_op od_pow (dv 0) de_int)) (dv 1)) da_nil))))))))))
theorem ok_ring_from (T : Txt w K mg base) : FnG P w K mg base (L2N.CX P w) 3 T.f_ring_from T.fd_ring_from ["top", "below", "under"] (upF K (sp_ring_from)) := by
  refine okD (k := 2) (t := fun Ed => t_ring_from Ed) T.F_ring_from sc_ring_from (len_ring_from) (fun cdv A outer s H E Ed hr => ?_) (pure_ring_from)
  exact (db_cons (ds_set 3 sc_ring_from.nd rfl (by first | exact .inl rfl | exact .inr rfl) (de_lstO da_nil))
  (db_cons (ds_set 4 sc_ring_from.nd rfl (by first | exact .inl rfl | exact .inr rfl) (de_tup (da_cons (dv 0) (da_cons (dv 1) da_nil))))
  (db_cons (ds_for (vs := [5]) passB rfl (di_rng1 (by rfl) T.n_range (da_cons (de_k (by rfl) T.m_MOST_RING T.r_MOST_RING T.k_MOST_RING) da_nil)) (dg_name (i := 5) sc_ring_from.nd rfl (by first | exact Or.inl rfl | exact Or.inr rfl) (by decide))
  (db_cons (ds_asg (vs := [0, 1, 6]) (de_call (ok_step_on T) (hr.mono (by decide)) (by rfl) T.m_step_on T.F_step_on.kp T.b_step_on .nil (fun _ _ => rpL_nil) takesB (da_cons (dv 0) (da_cons (dv 1) (da_cons (dv 2) da_nil)))) (dg_tup rfl (dgs_cons (dg_name (i := 6) sc_ring_from.nd rfl (by first | exact Or.inl rfl | exact Or.inr rfl) (by decide)) (dgs_cons (dg_name (i := 0) sc_ring_from.nd rfl (by first | exact Or.inl rfl | exact Or.inr rfl) (by decide)) (dgs_cons (dg_name (i := 1) sc_ring_from.nd rfl (by first | exact Or.inl rfl | exact Or.inr rfl) (by decide)) dgs_nil)))))
  (db_cons (ds_expr (de_app (dv 3) (da_cons (dv 6) da_nil)))
  (db_one (ds_if (dt_cmp (od_eq hr.units) (de_tup (da_cons (dv 0) (da_cons (dv 1) da_nil))) (dv 4) (nomark _)) (db_one (ds_ret (de_callTy (cd_tupA rfl) (by rfl) T.n_tuple (by decide +kernel) (da_cons (dv 3) da_nil)))) db_nil)))))
  (db_one (ds_raiseF1 rfl takesB PySem.F.excBase_OverflowError T.X_TooMany (in_TooMany T) (hr.mono (by decide)) T.bI_TooMany T.gc_TooMany (by rfl) (da_cons (de_k (by rfl) T.m_MOST_RING T.r_MOST_RING T.k_MOST_RING) da_nil))))))
theorem ok_stair_of (T : Txt w K mg base) : FnG P w K mg base (L2N.CX P w) 8 T.f_stair_of T.fd_stair_of ["number"] (upF K (sp_stair_of)) := by
  refine okD (k := 7) (t := fun Ed => t_stair_of Ed) T.F_stair_of sc_stair_of (len_stair_of) (fun cdv A outer s H E Ed hr => ?_) (pure_stair_of)
  exact (db_cons (ds_asg (vs := [1, 2, 3, 4]) (de_meth0 T.cl_Root T.M_Root_parts (dv 0) (ok_Root_parts T) (hr.mono (by decide)) T.b_Root_parts .nil (fun _ _ => rpL_nil) takesB) (dg_tup rfl (dgs_cons (dg_name (i := 1) sc_stair_of.nd rfl (by first | exact Or.inl rfl | exact Or.inr rfl) (by decide)) (dgs_cons (dg_name (i := 2) sc_stair_of.nd rfl (by first | exact Or.inl rfl | exact Or.inr rfl) (by decide)) (dgs_cons (dg_name (i := 3) sc_stair_of.nd rfl (by first | exact Or.inl rfl | exact Or.inr rfl) (by decide)) (dgs_cons (dg_name (i := 4) sc_stair_of.nd rfl (by first | exact Or.inl rfl | exact Or.inr rfl) (by decide)) dgs_nil))))))
  (db_cons (ds_if (dt_cmp (od_eq hr.units) (dv 2) de_int (nomark _)) (db_one (ds_raiseC rfl takesB PySem.F.excBase_ValueError T.R_NoStair T.gc_NoStair (by rfl))) db_nil)
  (db_cons (ds_if (dt_cmp od_lt (dv 2) de_int (nomark _)) (db_one (ds_par3 1 2 4 rfl sc_stair_of.nd rfl rfl rfl (by decide) (by decide) (by decide) rfl rfl rfl (da_cons (de_op od_sub de_int (dv 1)) (da_cons (de_op od_sub de_int (dv 2)) (da_cons (de_op od_sub de_int (dv 4)) da_nil))) (by rfl))) db_nil)
  (db_cons (ds_par3 1 5 6 rfl sc_stair_of.nd rfl rfl rfl (by decide) (by decide) (by decide) rfl rfl rfl (da_cons (de_op od_mulA (dv 1) (de_callB cd_abs (by rfl) T.n_abs (by decide +kernel) (da_cons (dv 4) da_nil))) (da_cons (de_op od_mulA (de_op od_pow (de_op od_mulA (dv 2) (dv 4)) de_int) (dv 3)) (da_cons (de_op od_mulA (dv 4) (de_callB cd_abs (by rfl) T.n_abs (by decide +kernel) (da_cons (dv 4) da_nil))) da_nil))) (by rfl))
  (db_cons (ds_set 7 sc_stair_of.nd rfl (by first | exact .inl rfl | exact .inr rfl) (de_lstO da_nil))
  (db_cons (ds_while passB (dt_not (dt_val (de_call (ok_is_reduced T) (hr.mono (by decide)) (by rfl) T.m_is_reduced T.F_is_reduced.kp T.b_is_reduced .nil (fun _ _ => rpL_nil) takesB (da_cons (dv 1) (da_cons (dv 6) (da_cons (de_call (ok_side_of T) (hr.mono (by decide)) (by rfl) T.m_side_of T.F_side_of.kp T.b_side_of .nil (fun _ _ => rpL_nil) takesB (da_cons (dv 5) da_nil)) da_nil))))))
  (db_cons (ds_if (dt_cmp (od_eq hr.units) (de_callB cd_len (by rfl) T.n_len (by decide +kernel) (da_cons (dv 7) da_nil)) (de_k (by rfl) T.m_MOST_AHEAD T.r_MOST_AHEAD T.k_MOST_AHEAD) (nomark _)) (db_one (ds_raiseF1 rfl takesB PySem.F.excBase_OverflowError T.X_TooMany (in_TooMany T) (hr.mono (by decide)) T.bI_TooMany T.gc_TooMany (by rfl) (da_cons (de_k (by rfl) T.m_MOST_AHEAD T.r_MOST_AHEAD T.k_MOST_AHEAD) da_nil))) db_nil)
  (db_cons (ds_asg (vs := [1, 6, 8]) (de_call (ok_step_on T) (hr.mono (by decide)) (by rfl) T.m_step_on T.F_step_on.kp T.b_step_on .nil (fun _ _ => rpL_nil) takesB (da_cons (dv 1) (da_cons (dv 6) (da_cons (dv 5) da_nil)))) (dg_tup rfl (dgs_cons (dg_name (i := 8) sc_stair_of.nd rfl (by first | exact Or.inl rfl | exact Or.inr rfl) (by decide)) (dgs_cons (dg_name (i := 1) sc_stair_of.nd rfl (by first | exact Or.inl rfl | exact Or.inr rfl) (by decide)) (dgs_cons (dg_name (i := 6) sc_stair_of.nd rfl (by first | exact Or.inl rfl | exact Or.inr rfl) (by decide)) dgs_nil)))))
  (db_one (ds_expr (de_app (dv 7) (da_cons (dv 8) da_nil)))))))
  (db_one (ds_ret (de_call (ok_told_stair T) (hr.mono (by decide)) (by rfl) T.m_told_stair T.F_told_stair.kp T.b_told_stair .nil (fun _ _ => rpL_nil) takesB (da_cons (de_callTy (cd_tupA rfl) (by rfl) T.n_tuple (by decide +kernel) (da_cons (dv 7) da_nil)) (da_cons (de_call (ok_ring_from T) (hr.mono (by decide)) (by rfl) T.m_ring_from T.F_ring_from.kp T.b_ring_from .nil (fun _ _ => rpL_nil) takesB (da_cons (dv 1) (da_cons (dv 6) (da_cons (dv 5) da_nil)))) da_nil)))))))))))
theorem ok_law_urn (T : Txt w K mg base) : FnG P w K mg base (L2N.CX P w) 1 T.f_law_urn T.fd_law_urn ["_law_script", "_law_at"] (upF K (sp_law_urn)) := by
  refine okD (k := 0) (t := fun Ed => t_law_urn Ed) T.F_law_urn sc_law_urn (len_law_urn) (fun cdv A outer s H E Ed hr => ?_) (pure_law_urn)
  exact (db_cons (ds_set 2 sc_law_urn.nd rfl (by first | exact .inl rfl | exact .inr rfl) de_int)
  (db_cons (ds_if (dt_cmp od_lt (dv 1) (de_callB cd_len (by rfl) T.n_len (by decide +kernel) (da_cons (dv 0) da_nil)) (nomark _)) (db_one (ds_set 2 sc_law_urn.nd rfl (by first | exact .inl rfl | exact .inr rfl) (de_ix (dv 0) (dv 1) (fun _ _ => rfl)))) db_nil)
  (db_cons (ds_set 3 sc_law_urn.nd rfl (by first | exact .inl rfl | exact .inr rfl) (de_callB cd_abs (by rfl) T.n_abs (by decide +kernel) (da_cons (dv 2) da_nil)))
  (db_cons (ds_if (dt_cmp od_lt (dv 3) (de_op od_pow de_int de_int) (nomark _)) (db_one (ds_set 3 sc_law_urn.nd rfl (by first | exact .inl rfl | exact .inr rfl) de_int)) db_nil)
  (db_one (ds_ret (de_lstO (da_cons (dv 3) (da_cons (de_op od_add (de_op od_add (de_op od_add (de_op od_mod (dv 2) de_int) (de_op od_mulA (de_op od_mulA de_int (dv 1)) (dv 1))) (de_op od_mulA de_int (dv 1))) de_int) (da_cons de_int da_nil))))))))))
theorem ok_law_draw (T : Txt w K mg base) : FnG P w K mg base (L2N.CX P w) 1 T.f_law_draw T.fd_law_draw ["_law_urn_here", "_law_wide"] (upF K (sp_law_draw)) := by
  refine okD (k := 0) (t := fun Ed => t_law_draw Ed) T.F_law_draw sc_law_draw (len_law_draw) (fun cdv A outer s H E Ed hr => ?_) (pure_law_draw)
  exact (db_cons (ds_if (dt_cmp od_gt (de_ix (dv 0) de_int (fun _ _ => rfl)) de_int (nomark _)) (db_cons (ds_set 2 sc_law_draw.nd rfl (by first | exact .inl rfl | exact .inr rfl) (de_op od_mod (de_ix (dv 0) de_int (fun _ _ => rfl)) (dv 1)))
  (db_cons (ds_store (dv 0) de_int (de_op od_fdiv (de_ix (dv 0) de_int (fun _ _ => rfl)) (dv 1)))
  (db_one (ds_ret (dv 2))))) db_nil)
  (db_cons (ds_set 3 sc_law_draw.nd rfl (by first | exact .inl rfl | exact .inr rfl) (de_tup (da_cons de_int (da_cons de_int (da_cons de_int (da_cons de_int (da_cons de_int (da_cons de_int (da_cons de_int da_nil)))))))))
  (db_cons (ds_store (dv 0) de_int (de_op od_add (de_ix (dv 0) de_int (fun _ _ => rfl)) de_int))
  (db_cons (ds_set 4 sc_law_draw.nd rfl (by first | exact .inl rfl | exact .inr rfl) (de_ix (dv 0) de_int (fun _ _ => rfl)))
  (db_cons (ds_set 5 sc_law_draw.nd rfl (by first | exact .inl rfl | exact .inr rfl) (de_op od_add (de_op od_add (de_op od_mulA (de_ix (dv 0) de_int (fun _ _ => rfl)) (de_op od_add (de_op od_mulA de_int (dv 4)) de_int)) (de_op od_mulA (de_op od_mulA de_int (dv 4)) (dv 4))) de_int))
  (db_cons (ds_set 6 sc_law_draw.nd rfl (by first | exact .inl rfl | exact .inr rfl) (de_op od_mod (de_op od_pow (dv 5) de_int) (de_ix (dv 3) (de_op od_mod (dv 4) de_int) (fun _ _ => rfl))))
  (db_one (ds_ret (de_op od_mod (de_op od_fdiv (de_op od_mod (de_op od_mulA (dv 6) (de_op od_add (de_op od_fdiv (dv 6) de_int) (dv 4))) (de_ix (dv 3) (de_op od_mod (de_op od_add (dv 4) de_int) de_int) (fun _ _ => rfl))) de_int) (dv 1))))))))))
theorem ok_law_small_stair (T : Txt w K mg base) : FnG P w K mg base (L2N.CX P w) 7 T.f_law_small_stair T.fd_law_small_stair ["_law_urn_here"] (upF K (sp_law_small_stair)) := by
  refine okD (k := 6) (t := fun Ed => t_law_small_stair Ed) T.F_law_small_stair sc_law_small_stair (len_law_small_stair) (fun cdv A outer s H E Ed hr => ?_) (pure_law_small_stair)
  exact (db_cons (ds_set 1 sc_law_small_stair.nd rfl (by first | exact .inl rfl | exact .inr rfl) (de_ix (de_lst (da_cons de_int (da_cons de_int (da_cons de_int (da_cons de_int da_nil))))) (de_call (ok_law_draw T) (hr.mono (by decide)) (by rfl) T.m_law_draw T.F_law_draw.kp T.b_law_draw .nil (fun _ _ => rpL_nil) takesB (da_cons (dv 0) (da_cons de_int da_nil))) (fun _ _ => rfl)))
  (db_cons (ds_set 2 sc_law_small_stair.nd rfl (by first | exact .inl rfl | exact .inr rfl) (de_callTy (cd_tupA rfl) (by rfl) T.n_tuple (by decide +kernel) (da_cons (de_lc (own := [("_law_k", 4)]) rfl sc_law_small_stair.nd (di_rng1 (by rfl) T.n_range (da_cons (de_op od_add de_int (de_call (ok_law_draw T) (hr.mono (by decide)) (by rfl) T.m_law_draw T.F_law_draw.kp T.b_law_draw .nil (fun _ _ => rpL_nil) takesB (da_cons (dv 0) (da_cons de_int da_nil)))) da_nil)) (blkOk_by (own := [("_law_k", 4)]) (N := N_law_small_stair) (sc := defScope s_law_small_stair) (by decide +kernel)) (fun _ _ _ _ _ => (dg_name (i := 4) sc_law_small_stair.nd rfl (by first | exact Or.inl rfl | exact Or.inr rfl) (by decide))) (fun _ _ _ _ _ => dts_nil) (fun _ _ _ _ _ => (de_op od_add de_int (de_call (ok_law_draw T) (hr.mono (by decide)) (by rfl) T.m_law_draw T.F_law_draw.kp T.b_law_draw .nil (fun _ _ => rpL_nil) takes0N (da_cons (dv 0) (da_cons (dv 1) da_nil)))))) da_nil)))
  (db_cons (ds_setLcO (own := [("_law_k", 4)]) 3 rfl sc_law_small_stair.nd rfl rfl (sw_true rfl rfl rfl (by decide +kernel)) (di_rng1 (by rfl) T.n_range (da_cons (de_call (ok_law_draw T) (hr.mono (by decide)) (by rfl) T.m_law_draw T.F_law_draw.kp T.b_law_draw .nil (fun _ _ => rpL_nil) takesB (da_cons (dv 0) (da_cons de_int da_nil))) da_nil)) (blkOk_by (own := [("_law_k", 4)]) (N := N_law_small_stair) (sc := defScope s_law_small_stair) (by decide +kernel)) (fun _ _ _ _ _ => (dg_name (i := 4) sc_law_small_stair.nd rfl (by first | exact Or.inl rfl | exact Or.inr rfl) (by decide))) (fun _ _ _ _ _ => dts_nil) (fun _ _ _ _ _ => (de_op od_add de_int (de_call (ok_law_draw T) (hr.mono (by decide)) (by rfl) T.m_law_draw T.F_law_draw.kp T.b_law_draw .nil (fun _ _ => rpL_nil) takes0N (da_cons (dv 0) (da_cons (dv 1) da_nil))))))
  (db_cons (ds_if (DW.pt (dw_and (dt_cmp (od_neO hr.units) (dv 3) (de_lst da_nil) (nomark _)) (dw_and1 (dt_cmp (od_eq hr.units) (de_call (ok_law_draw T) (hr.mono (by decide)) (by rfl) T.m_law_draw T.F_law_draw.kp T.b_law_draw .nil (fun _ _ => rpL_nil) takesB (da_cons (dv 0) (da_cons de_int da_nil))) de_int (nomark _))))) (db_one (ds_store (dv 3) de_int (de_op od_sub (de_call (ok_law_draw T) (hr.mono (by decide)) (by rfl) T.m_law_draw T.F_law_draw.kp T.b_law_draw .nil (fun _ _ => rpL_nil) takesB (da_cons (dv 0) (da_cons (de_op od_add (de_op od_mulA de_int (dv 1)) de_int) da_nil))) (dv 1)))) db_nil)
  (db_one (ds_ret (de_make T.cl_Stair (ok_Stair___init__ T) (hr.mono (by decide)) (by rfl) T.gc_Stair T.b_Stair___init__ .nil (fun _ _ => rpL_nil) takesB (da_cons (de_callTy (cd_tupA rfl) (by rfl) T.n_tuple (by decide +kernel) (da_cons (dv 3) da_nil)) (da_cons (dv 2) da_nil)))))))))
theorem ok_law_fractions_right (T : Txt w K mg base) : FnG P w K mg base (L2N.CX P w) 7 T.f_law_fractions_right T.fd_law_fractions_right ["_law_stair", "_law_number"] (upF K (sp_law_fractions_right)) := by
  refine okD (k := 6) (t := fun Ed => t_law_fractions_right Ed) T.F_law_fractions_right sc_law_fractions_right (len_law_fractions_right) (fun cdv A outer s H E Ed hr => ?_) (pure_law_fractions_right)
  exact (db_cons (ds_setLc (own := [("_law_many", 11)]) 2 rfl sc_law_fractions_right.nd rfl rfl (sw_true rfl rfl rfl (by decide +kernel)) (di_rng2 (by rfl) T.n_range (da_cons de_int (da_cons de_int da_nil))) (blkOk_by (own := [("_law_many", 11)]) (N := N_law_fractions_right) (sc := defScope s_law_fractions_right) (by decide +kernel)) (fun _ _ _ _ _ => (dg_name (i := 11) sc_law_fractions_right.nd rfl (by first | exact Or.inl rfl | exact Or.inr rfl) (by decide))) (fun _ _ _ _ _ => dts_nil) (fun _ _ _ _ _ => (de_meth T.cl_Stair T.M_Stair_fraction (dv 0) (ok_Stair_fraction T) (hr.mono (by decide)) T.b_Stair_fraction .nil (fun _ _ => rpL_nil) takes0N (da_cons (dv 11) da_nil))))
  (db_cons (ds_for (vs := [3, 4, 5]) passB rfl (di_enum (by rfl) T.n_enumerate (da_cons (dv 2) da_nil)) (dg_tup rfl (dgs_cons (dg_name (i := 3) sc_law_fractions_right.nd rfl (by first | exact Or.inl rfl | exact Or.inr rfl) (by decide)) (dgs_cons (dg_tup rfl (dgs_cons (dg_name (i := 4) sc_law_fractions_right.nd rfl (by first | exact Or.inl rfl | exact Or.inr rfl) (by decide)) (dgs_cons (dg_name (i := 5) sc_law_fractions_right.nd rfl (by first | exact Or.inl rfl | exact Or.inr rfl) (by decide)) dgs_nil))) dgs_nil)))
  (db_cons (ds_set 6 sc_law_fractions_right.nd rfl (by first | exact .inl rfl | exact .inr rfl) (de_make T.cl_Root (ok_Root___init__ T) (hr.mono (by decide)) (by rfl) T.gc_Root T.b_Root___init__ .nil (fun _ _ => rpL_nil) takesB (da_cons (dv 4) (da_cons de_int (da_cons de_int (da_cons (dv 5) da_nil))))))
  (db_one (ds_if (DW.pt (dw_or (dt_cmp (od_ne hr.units) (de_meth T.cl_Root T.M_Root_is_below (dv 6) (ok_Root_is_below T) (hr.mono (by decide)) T.b_Root_is_below .nil (fun _ _ => rpL_nil) takesB (da_cons (dv 1) da_nil)) (de_cmp (od_eq hr.units) (de_op od_mod (dv 3) de_int) de_int (nomark _)) (nomark _)) (dw_or1 (dt_cmp (od_eq hr.units) (de_meth T.cl_Root T.M_Root_is_below (dv 1) (ok_Root_is_below T) (hr.mono (by decide)) T.b_Root_is_below .nil (fun _ _ => rpL_nil) takesB (da_cons (dv 6) da_nil)) (de_cmp (od_eq hr.units) (de_op od_mod (dv 3) de_int) de_int (nomark _)) (nomark _))))) (db_one (ds_ret de_bl)) db_nil))))
  (db_cons (ds_for (vs := [3]) passB rfl (di_rng1 (by rfl) T.n_range (da_cons de_int da_nil)) (dg_name (i := 3) sc_law_fractions_right.nd rfl (by first | exact Or.inl rfl | exact Or.inr rfl) (by decide))
  (db_cons (ds_asg (vs := [7, 8, 9, 10]) (de_tup (da_cons (de_ix (dv 2) (dv 3) (fun _ _ => rfl)) (da_cons (de_ix (dv 2) (de_op od_add (dv 3) de_int) (fun _ _ => rfl)) da_nil))) (dg_tup rfl (dgs_cons (dg_tup rfl (dgs_cons (dg_name (i := 7) sc_law_fractions_right.nd rfl (by first | exact Or.inl rfl | exact Or.inr rfl) (by decide)) (dgs_cons (dg_name (i := 8) sc_law_fractions_right.nd rfl (by first | exact Or.inl rfl | exact Or.inr rfl) (by decide)) dgs_nil))) (dgs_cons (dg_tup rfl (dgs_cons (dg_name (i := 9) sc_law_fractions_right.nd rfl (by first | exact Or.inl rfl | exact Or.inr rfl) (by decide)) (dgs_cons (dg_name (i := 10) sc_law_fractions_right.nd rfl (by first | exact Or.inl rfl | exact Or.inr rfl) (by decide)) dgs_nil))) dgs_nil))))
  (db_one (ds_if (dt_cmp (od_ne hr.units) (de_op od_sub (de_op od_mulA (dv 9) (dv 8)) (de_op od_mulA (dv 7) (dv 10))) (de_ix (de_lst (da_cons de_int (da_cons (de_neg de_int) da_nil))) (de_op od_mod (dv 3) de_int) (fun _ _ => rfl)) (nomark _)) (db_one (ds_ret de_bl)) db_nil))))
  (db_one (ds_ret de_bl)))))
theorem ok_law_ring_alone_right (T : Txt w K mg base) : FnG P w K mg base (L2N.CX P w) 9 T.f_law_ring_alone_right T.fd_law_ring_alone_right ["_law_stair", "_law_number"] (upF K (sp_law_ring_alone_right)) := by
  refine okD (k := 8) (t := fun Ed => t_law_ring_alone_right Ed) T.F_law_ring_alone_right sc_law_ring_alone_right (len_law_ring_alone_right) (fun cdv A outer s H E Ed hr => ?_) (pure_law_ring_alone_right)
  exact (db_cons (ds_set 2 sc_law_ring_alone_right.nd rfl (by first | exact .inl rfl | exact .inr rfl) (de_meth0 T.cl_Root T.M_Root_mate (dv 1) (ok_Root_mate T) (hr.mono (by decide)) T.b_Root_mate .nil (fun _ _ => rpL_nil) takesB))
  (db_cons (ds_set 3 sc_law_ring_alone_right.nd rfl (by first | exact .inl rfl | exact .inr rfl) (de_and (de_meth T.cl_Root T.M_Root_is_below (de_make T.cl_Root (ok_Root___init__ T) (hr.mono (by decide)) (by rfl) T.gc_Root T.b3_Root___init__ T.v3_Root___init__ (fun _ _ => (rpL_cons rfl (rpL_cons rfl (rpL_cons rfl rpL_nil)))) takesB (da_cons de_int da_nil)) (ok_Root_is_below T) (hr.mono (by decide)) T.b_Root_is_below .nil (fun _ _ => rpL_nil) takesB (da_cons (dv 1) da_nil)) (de_and (de_meth T.cl_Root T.M_Root_is_below (dv 2) (ok_Root_is_below T) (hr.mono (by decide)) T.b_Root_is_below .nil (fun _ _ => rpL_nil) takesB (da_cons (de_make T.cl_Root (ok_Root___init__ T) (hr.mono (by decide)) (by rfl) T.gc_Root T.b3_Root___init__ T.v3_Root___init__ (fun _ _ => (rpL_cons rfl (rpL_cons rfl (rpL_cons rfl rpL_nil)))) takesB (da_cons de_int da_nil)) da_nil)) (de_one (de_meth T.cl_Root T.M_Root_is_below (de_make T.cl_Root (ok_Root___init__ T) (hr.mono (by decide)) (by rfl) T.gc_Root T.b3_Root___init__ T.v3_Root___init__ (fun _ _ => (rpL_cons rfl (rpL_cons rfl (rpL_cons rfl rpL_nil)))) takesB (da_cons (de_neg de_int) da_nil)) (ok_Root_is_below T) (hr.mono (by decide)) T.b_Root_is_below .nil (fun _ _ => rpL_nil) takesB (da_cons (dv 2) da_nil))))))
  (db_cons (ds_if (dt_cmp (od_ne hr.units) (dv 3) (de_cmp (od_eq hr.units) (de_meth0 T.cl_Stair T.M_Stair_ahead (dv 0) (ok_Stair_ahead T) (hr.mono (by decide)) T.b_Stair_ahead .nil (fun _ _ => rpL_nil) takesB) (de_tup da_nil) (nomark _)) (nomark _)) (db_one (ds_ret de_bl)) db_nil)
  (db_cons (ds_if (dt_not (dt_val (dv 3))) (db_one (ds_ret de_bl)) db_nil)
  (db_cons (ds_set 4 sc_law_ring_alone_right.nd rfl (by first | exact .inl rfl | exact .inr rfl) (de_call (ok_stair_of T) (hr.mono (by decide)) (by rfl) T.m_stair_of T.F_stair_of.kp T.b_stair_of .nil (fun _ _ => rpL_nil) takesB (da_cons (de_meth T.cl_Root T.M_Root_over (de_make T.cl_Root (ok_Root___init__ T) (hr.mono (by decide)) (by rfl) T.gc_Root T.b3_Root___init__ T.v3_Root___init__ (fun _ _ => (rpL_cons rfl (rpL_cons rfl (rpL_cons rfl rpL_nil)))) takesB (da_cons (de_neg de_int) da_nil)) (ok_Root_over T) (hr.mono (by decide)) T.b_Root_over .nil (fun _ _ => rpL_nil) takesB (da_cons (dv 2) da_nil)) da_nil)))
  (db_one (ds_ret (de_and (de_cmp (od_eq hr.units) (de_meth0 T.cl_Stair T.M_Stair_ahead (dv 4) (ok_Stair_ahead T) (hr.mono (by decide)) T.b_Stair_ahead .nil (fun _ _ => rpL_nil) takesB) (de_tup da_nil) (nomark _)) (de_one (de_cmp (od_eqI T.cl_Stair T.M_Stair___eq__ (ok_Stair___eq__ T) (hr.mono (by decide)) hr.units T.b_Stair___eq__ (fun σ => L2N.passAt takes0N σ)) (dv 4) (de_make T.cl_Stair (ok_Stair___init__ T) (hr.mono (by decide)) (by rfl) T.gc_Stair T.b_Stair___init__ .nil (fun _ _ => rpL_nil) takesB (da_cons (de_tup da_nil) (da_cons (de_rev (de_meth0 T.cl_Stair T.M_Stair_ring (dv 0) (ok_Stair_ring T) (hr.mono (by decide)) T.b_Stair_ring .nil (fun _ _ => rpL_nil) takesB)) da_nil))) (nomark _)))))))))))
theorem ok_law_is_one (T : Txt w K mg base) : FnG P w K mg base (L2N.CX P w) 10 T.f_law_is_one T.fd_law_is_one ["_law_stair"] (upF K (sp_law_is_one)) := by
  refine okD (k := 9) (t := fun Ed => t_law_is_one Ed) T.F_law_is_one sc_law_is_one (len_law_is_one) (fun cdv A outer s H E Ed hr => ?_) (pure_law_is_one)
  exact (db_cons (ds_set 1 sc_law_is_one.nd rfl (by first | exact .inl rfl | exact .inr rfl) (de_meth0 T.cl_Stair T.M_Stair_number (dv 0) (ok_Stair_number T) (hr.mono (by decide)) T.b_Stair_number .nil (fun _ _ => rpL_nil) takesB))
  (db_cons (ds_if (DW.pt (dw_or (dt_not (dt_cmp (od_eqI T.cl_Stair T.M_Stair___eq__ (ok_Stair___eq__ T) (hr.mono (by decide)) hr.units T.b_Stair___eq__ (fun σ => L2N.passAt takes0N σ)) (de_call (ok_stair_of T) (hr.mono (by decide)) (by rfl) T.m_stair_of T.F_stair_of.kp T.b_stair_of .nil (fun _ _ => rpL_nil) takesB (da_cons (dv 1) da_nil)) (dv 0) (nomark _))) (dw_or1 (dt_cmp (od_ne hr.units) (de_meth0 T.cl_Root T.M_Root_whole (dv 1) (ok_Root_whole T) (hr.mono (by decide)) T.b_Root_whole .nil (fun _ _ => rpL_nil) takesB) (de_meth T.cl_Stair T.M_Stair_at (dv 0) (ok_Stair_at T) (hr.mono (by decide)) T.b_Stair_at .nil (fun _ _ => rpL_nil) takesB (da_cons de_int da_nil)) (nomark _))))) (db_one (ds_ret de_bl)) db_nil)
  (db_cons (ds_set 2 sc_law_is_one.nd rfl (by first | exact .inl rfl | exact .inr rfl) (de_meth0 T.cl_Stair T.M_Stair_number (de_meth T.cl_Stair T.M_Stair_behind (dv 0) (ok_Stair_behind T) (hr.mono (by decide)) T.b_Stair_behind .nil (fun _ _ => rpL_nil) takesB (da_cons de_int da_nil)) (ok_Stair_number T) (hr.mono (by decide)) T.b_Stair_number .nil (fun _ _ => rpL_nil) takesB))
  (db_cons (ds_if (DW.pt (dw_or (dt_not (dt_cmp (od_eqI T.cl_Root T.M_Root___eq__ (ok_Root___eq__ T) (hr.mono (by decide)) hr.units T.b_Root___eq__ (fun σ => L2N.passAt takes0N σ)) (de_meth T.cl_Root T.M_Root_times (de_meth T.cl_Root T.M_Root_less (dv 1) (ok_Root_less T) (hr.mono (by decide)) T.b_Root_less .nil (fun _ _ => rpL_nil) takesB (da_cons (de_make T.cl_Root (ok_Root___init__ T) (hr.mono (by decide)) (by rfl) T.gc_Root T.b3_Root___init__ T.v3_Root___init__ (fun _ _ => (rpL_cons rfl (rpL_cons rfl (rpL_cons rfl rpL_nil)))) takesB (da_cons (de_meth T.cl_Stair T.M_Stair_at (dv 0) (ok_Stair_at T) (hr.mono (by decide)) T.b_Stair_at .nil (fun _ _ => rpL_nil) takesB (da_cons de_int da_nil)) da_nil)) da_nil)) (ok_Root_times T) (hr.mono (by decide)) T.b_Root_times .nil (fun _ _ => rpL_nil) takesB (da_cons (dv 2) da_nil)) (de_make T.cl_Root (ok_Root___init__ T) (hr.mono (by decide)) (by rfl) T.gc_Root T.b3_Root___init__ T.v3_Root___init__ (fun _ _ => (rpL_cons rfl (rpL_cons rfl (rpL_cons rfl rpL_nil)))) takesB (da_cons de_int da_nil)) (nomark _))) (dw_or1 (dt_not (dt_val (de_meth T.cl_Root T.M_Root_is_below (de_make T.cl_Root (ok_Root___init__ T) (hr.mono (by decide)) (by rfl) T.gc_Root T.b3_Root___init__ T.v3_Root___init__ (fun _ _ => (rpL_cons rfl (rpL_cons rfl (rpL_cons rfl rpL_nil)))) takesB (da_cons de_int da_nil)) (ok_Root_is_below T) (hr.mono (by decide)) T.b_Root_is_below .nil (fun _ _ => rpL_nil) takesB (da_cons (dv 2) da_nil))))))) (db_one (ds_ret de_bl)) db_nil)
  (db_one (ds_ret (de_and (de_call (ok_law_fractions_right T) (hr.mono (by decide)) (by rfl) T.m_law_fractions_right T.F_law_fractions_right.kp T.b_law_fractions_right .nil (fun _ _ => rpL_nil) takesB (da_cons (dv 0) (da_cons (dv 1) da_nil))) (de_one (de_call (ok_law_ring_alone_right T) (hr.mono (by decide)) (by rfl) T.m_law_ring_alone_right T.F_law_ring_alone_right.kp T.b_law_ring_alone_right .nil (fun _ _ => rpL_nil) takesB (da_cons (dv 0) (da_cons (dv 1) da_nil)))))))))))
theorem ok_law (T : Txt w K mg base) : FnG P w K mg base (L2N.CX P w) 11 T.f_law T.fd_law ["_law_script"] (upF K spLawD) := by
  refine okD (k := 10) (t := fun Ed => t_law Ed) T.F_law sc_law (len_law) (fun cdv A outer s H E Ed hr => ?_) (pure_law)
  exact (db_cons (ds_for (vs := [1]) passB rfl (di_rng1 (by rfl) T.n_range (da_cons (de_callB (cd_max2 rfl) (by rfl) T.n_max (by decide +kernel) (da_cons de_int (da_cons (de_callB (cd_min2 rfl) (by rfl) T.n_min (by decide +kernel) (da_cons de_int (da_cons (de_callB cd_len (by rfl) T.n_len (by decide +kernel) (da_cons (dv 0) da_nil)) da_nil))) da_nil))) da_nil)) (dg_name (i := 1) sc_law.nd rfl (by first | exact Or.inl rfl | exact Or.inr rfl) (by decide))
  (db_cons (ds_set 2 sc_law.nd rfl (by first | exact .inl rfl | exact .inr rfl) (de_call (ok_law_urn T) (hr.mono (by decide)) (by rfl) T.m_law_urn T.F_law_urn.kp T.b_law_urn .nil (fun _ _ => rpL_nil) takesB (da_cons (dv 0) (da_cons (dv 1) da_nil))))
  (db_cons (ds_setLc (own := [("_law_turn", 6)]) 3 rfl sc_law.nd rfl rfl (sw_true rfl rfl rfl (by decide +kernel)) (di_rng1 (by rfl) T.n_range (da_cons de_int da_nil)) (blkOk_by (own := [("_law_turn", 6)]) (N := N_law) (sc := defScope s_law) (by decide +kernel)) (fun _ _ _ _ _ => (dg_name (i := 6) sc_law.nd rfl (by first | exact Or.inl rfl | exact Or.inr rfl) (by decide))) (fun _ _ _ _ _ => dts_nil) (fun _ _ _ _ _ => (de_call (ok_law_small_stair T) (hr.mono (by decide)) (by rfl) T.m_law_small_stair T.F_law_small_stair.kp T.b_law_small_stair .nil (fun _ _ => rpL_nil) takes0N (da_cons (dv 2) da_nil))))
  (db_cons (ds_set 3 sc_law.nd rfl (by first | exact .inl rfl | exact .inr rfl) (de_op od_add (dv 3) (de_lst (da_cons (de_meth T.cl_Stair T.M_Stair_behind (de_ix (dv 3) de_int (fun _ _ => rfl)) (ok_Stair_behind T) (hr.mono (by decide)) T.b_Stair_behind .nil (fun _ _ => rpL_nil) takesB (da_cons (de_op od_add de_int (de_call (ok_law_draw T) (hr.mono (by decide)) (by rfl) T.m_law_draw T.F_law_draw.kp T.b_law_draw .nil (fun _ _ => rpL_nil) takesB (da_cons (dv 2) (da_cons de_int da_nil)))) da_nil)) (da_cons (de_make T.cl_Stair (ok_Stair___init__ T) (hr.mono (by decide)) (by rfl) T.gc_Stair T.b_Stair___init__ .nil (fun _ _ => rpL_nil) takesB (da_cons (de_meth0 T.cl_Stair T.M_Stair_ahead (de_ix (dv 3) de_int (fun _ _ => rfl)) (ok_Stair_ahead T) (hr.mono (by decide)) T.b_Stair_ahead .nil (fun _ _ => rpL_nil) takesB) (da_cons (de_op od_mulA (de_meth0 T.cl_Stair T.M_Stair_ring (de_ix (dv 3) de_int (fun _ _ => rfl)) (ok_Stair_ring T) (hr.mono (by decide)) T.b_Stair_ring .nil (fun _ _ => rpL_nil) takesB) de_int) da_nil))) da_nil)))))
  (db_cons (ds_if (dt_not (dt_val (de_callB (cd_all rfl) (by rfl) T.n_all (by decide +kernel) (da_cons (de_lc (own := [("_law_stair", 7)]) rfl sc_law.nd (di_any (dv 3)) (blkOk_by (own := [("_law_stair", 7)]) (N := N_law) (sc := defScope s_law) (by decide +kernel)) (fun _ _ _ _ _ => (dg_name (i := 7) sc_law.nd rfl (by first | exact Or.inl rfl | exact Or.inr rfl) (by decide))) (fun _ _ _ _ _ => dts_nil) (fun _ _ _ _ _ => (de_call (ok_law_is_one T) (hr.mono (by decide)) (by rfl) T.m_law_is_one T.F_law_is_one.kp T.b_law_is_one .nil (fun _ _ => rpL_nil) takes0N (da_cons (dv 7) da_nil)))) da_nil)))) (db_one (ds_ret de_bl)) db_nil)
  (db_one (ds_for (vs := [4]) passB rfl (di_any (dv 3)) (dg_name (i := 4) sc_law.nd rfl (by first | exact Or.inl rfl | exact Or.inr rfl) (by decide))
  (db_one (ds_for (vs := [5]) passB rfl (di_any (dv 3)) (dg_name (i := 5) sc_law.nd rfl (by first | exact Or.inl rfl | exact Or.inr rfl) (by decide))
  (db_one (ds_if (dt_cmp (od_ne hr.units) (de_cmp (od_eqI T.cl_Stair T.M_Stair___eq__ (ok_Stair___eq__ T) (hr.mono (by decide)) hr.units T.b_Stair___eq__ (fun σ => L2N.passAt takes0N σ)) (dv 4) (dv 5) (nomark _)) (de_cmp (od_eqI T.cl_Root T.M_Root___eq__ (ok_Root___eq__ T) (hr.mono (by decide)) hr.units T.b_Root___eq__ (fun σ => L2N.passAt takes0N σ)) (de_meth0 T.cl_Stair T.M_Stair_number (dv 4) (ok_Stair_number T) (hr.mono (by decide)) T.b_Stair_number .nil (fun _ _ => rpL_nil) takesB) (de_meth0 T.cl_Stair T.M_Stair_number (dv 5) (ok_Stair_number T) (hr.mono (by decide)) T.b_Stair_number .nil (fun _ _ => rpL_nil) takesB) (nomark _)) (nomark _)) (db_one (ds_ret de_bl)) db_nil)))))))))))
  (db_one (ds_ret de_bl)))
end
theorem all_mk {w : World} {K : PySem.W.Frag} {h : Heap} {mg : Str → Option Value} {fa : Addr} (X : K.In h) (G : h.Ns mainGlobals mg) (hfa : mg "law" = some (.ref fa))
    {f0 f1 f2 f3 f4 f5 f6 f7 f8 f9 f10 f11 f12 f13 f14 f15 f16 f17 f18 f19 f20 f21 f22 f23 f24 f25 f26 f27 f28 f29 f30 f31 f32 f33 f34 f35 f36 f37 f38 f39 f40 f41 f42 f43 f44 f45 f46 f47 f48 f49 : Addr} {od0 an0 od1 an1 od2 an2 od3 an3 od4 an4 od5 an5 od6 an6 od7 an7 od8 an8 od9 an9 od10 an10 od11 an11 od12 an12 od13 an13 od14 an14 od15 an15 od16 an16 od17 an17 od18 an18 od19 an19 od20 an20 od21 an21 od22 an22 od23 an23 od24 an24 od25 an25 od26 an26 od27 an27 od28 an28 od29 an29 od30 an30 od31 an31 od32 an32 od33 an33 od34 an34 od35 an35 od36 an36 od37 an37 od38 an38 od39 an39 od40 an40 od41 an41 od42 an42 od43 an43 od44 an44 od45 an45 od46 an46 od47 an47 od48 an48 od49 an49 : Option Addr} {sl0 sl1 sl2 sl3 sl4 sl5 sl6 sl7 sl8 sl9 sl10 sl11 sl12 sl13 sl14 sl15 sl16 sl17 sl18 sl19 sl20 sl21 sl22 sl23 sl24 sl25 sl26 sl27 sl28 sl29 sl30 sl31 sl32 sl33 sl34 sl35 sl36 sl37 sl38 sl39 sl40 sl41 sl42 sl43 sl44 sl45 sl46 sl47 sl48 sl49 : Array (Option Value)}
    {oc0 kV0 dc0 pm0 cd0 ct0 oc1 kV1 dc1 pm1 cd1 ct1 oc2 kV2 dc2 pm2 cd2 ct2 oc3 kV3 dc3 pm3 cd3 ct3 oc4 kV4 dc4 pm4 cd4 ct4 oc5 kV5 dc5 pm5 cd5 ct5 oc6 kV6 dc6 pm6 cd6 ct6 oc7 kV7 dc7 pm7 cd7 ct7 oc8 kV8 dc8 pm8 cd8 ct8 oc9 kV9 dc9 pm9 cd9 ct9 oc10 kV10 dc10 pm10 cd10 ct10 oc11 kV11 dc11 pm11 cd11 ct11 oc12 kV12 dc12 pm12 cd12 ct12 oc13 kV13 dc13 pm13 cd13 ct13 oc14 kV14 dc14 pm14 cd14 ct14 oc15 kV15 dc15 pm15 cd15 ct15 oc16 kV16 dc16 pm16 cd16 ct16 oc17 kV17 dc17 pm17 cd17 ct17 oc18 kV18 dc18 pm18 cd18 ct18 oc19 kV19 dc19 pm19 cd19 ct19 oc20 kV20 dc20 pm20 cd20 ct20 oc21 kV21 dc21 pm21 cd21 ct21 oc22 kV22 dc22 pm22 cd22 ct22 oc23 kV23 dc23 pm23 cd23 ct23 oc24 kV24 dc24 pm24 cd24 ct24 oc25 kV25 dc25 pm25 cd25 ct25 oc26 kV26 dc26 pm26 cd26 ct26 oc27 kV27 dc27 pm27 cd27 ct27 oc28 kV28 dc28 pm28 cd28 ct28 oc29 kV29 dc29 pm29 cd29 ct29 oc30 kV30 dc30 pm30 cd30 ct30 oc31 kV31 dc31 pm31 cd31 ct31 oc32 kV32 dc32 pm32 cd32 ct32 oc33 kV33 dc33 pm33 cd33 ct33 oc34 kV34 dc34 pm34 cd34 ct34 oc35 kV35 dc35 pm35 cd35 ct35 oc36 kV36 dc36 pm36 cd36 ct36 oc37 kV37 dc37 pm37 cd37 ct37 oc38 kV38 dc38 pm38 cd38 ct38 oc39 kV39 dc39 pm39 cd39 ct39 oc40 kV40 dc40 pm40 cd40 ct40 oc41 kV41 dc41 pm41 cd41 ct41 oc42 kV42 dc42 pm42 cd42 ct42 oc43 kV43 dc43 pm43 cd43 ct43 oc44 kV44 dc44 pm44 cd44 ct44 oc45 kV45 dc45 pm45 cd45 ct45 oc46 kV46 dc46 pm46 cd46 ct46 oc47 kV47 dc47 pm47 cd47 ct47 oc48 kV48 dc48 pm48 cd48 ct48 oc49 kV49 dc49 pm49 cd49 ct49 : Value}
    {dT30 dT47 : Addr} {doc30 doc47 : Value} {dod30 dod47 : Option Addr} {dn30 dn47 : Nat} {dsl30 dsl47 : Array (Option Value)} {dk30_0 dk30_1 dk30_2 dk47_0 : Tok}
    {tk_LEAST_SQUARE : Tok}
    {p_LOOKS : Addr} {es_LOOKS : Array DictEntry} {n_LOOKS : Nat}
    {tk_MOST_AHEAD : Tok}
    {tk_MOST_NUMBER : Tok}
    {tk_MOST_RING : Tok}
    {tk_PARTS_0 : Tok}
    {tk_PARTS_1 : Tok}
    {tk_PARTS_2 : Tok}
    {tk_PARTS_3 : Tok}
    {p_PARTS : Addr} {np_PARTS : Nat} {odp_PARTS : Option Addr} {slp_PARTS : Array (Option Value)}
    {C_Root C_Stair : Addr}
    {C_NoNumber fI_NoNumber C_NoPlace fI_NoPlace C_TooMany fI_TooMany : Addr} {xod_NoNumber xan_NoNumber xod_NoPlace xan_NoPlace xod_TooMany xan_TooMany : Option Addr} {xsl_NoNumber xsl_NoPlace xsl_TooMany : Array (Option Value)} {xoc_NoNumber xkV_NoNumber xdc_NoNumber xpm_NoNumber xcd_NoNumber xct_NoNumber xoc_NoPlace xkV_NoPlace xdc_NoPlace xpm_NoPlace xcd_NoPlace xct_NoPlace xoc_TooMany xkV_TooMany xdc_TooMany xpm_TooMany xcd_TooMany xct_TooMany : Value}
    (vg_Root : PySem.W.nsIn K mainGlobals "Root" = some (some (.ref C_Root)))
    (vg_Stair : PySem.W.nsIn K mainGlobals "Stair" = some (some (.ref C_Stair)))
    (vis_Root : isB K C_Root = true)
    (vis_Stair : isB K C_Stair = true)
    (a0 : PySem.W.nsIn K mainGlobals "is_whole" = some (some (.ref f0)))
    (l0 : K.lookup f0 = some ⟨oc0, od0, .func (PySem.W.fnOf "is_whole" "is_whole" (defArgs s_is_whole) (defBody s_is_whole) (defScope s_is_whole) .none kV0 dc0 pm0 an0 cd0 ct0), sl0⟩)
    (c0 : PySem.W.codeIn K cd0 "is_whole" = true)
    (k0 : PySem.W.keepIn K (.ref f0) = true)
    (a1 : PySem.W.nsIn K mainGlobals "shared_by" = some (some (.ref f1)))
    (l1 : K.lookup f1 = some ⟨oc1, od1, .func (PySem.W.fnOf "shared_by" "shared_by" (defArgs s_shared_by) (defBody s_shared_by) (defScope s_shared_by) .none kV1 dc1 pm1 an1 cd1 ct1), sl1⟩)
    (c1 : PySem.W.codeIn K cd1 "shared_by" = true)
    (k1 : PySem.W.keepIn K (.ref f1) = true)
    (a2 : PySem.W.nsIn K mainGlobals "sign_in" = some (some (.ref f2)))
    (l2 : K.lookup f2 = some ⟨oc2, od2, .func (PySem.W.fnOf "sign_in" "sign_in" (defArgs s_sign_in) (defBody s_sign_in) (defScope s_sign_in) .none kV2 dc2 pm2 an2 cd2 ct2), sl2⟩)
    (c2 : PySem.W.codeIn K cd2 "sign_in" = true)
    (k2 : PySem.W.keepIn K (.ref f2) = true)
    (a3 : PySem.W.nsIn K mainGlobals "side_of" = some (some (.ref f3)))
    (l3 : K.lookup f3 = some ⟨oc3, od3, .func (PySem.W.fnOf "side_of" "side_of" (defArgs s_side_of) (defBody s_side_of) (defScope s_side_of) .none kV3 dc3 pm3 an3 cd3 ct3), sl3⟩)
    (c3 : PySem.W.codeIn K cd3 "side_of" = true)
    (k3 : PySem.W.keepIn K (.ref f3) = true)
    (a4 : PySem.W.nsIn K mainGlobals "is_square" = some (some (.ref f4)))
    (l4 : K.lookup f4 = some ⟨oc4, od4, .func (PySem.W.fnOf "is_square" "is_square" (defArgs s_is_square) (defBody s_is_square) (defScope s_is_square) .none kV4 dc4 pm4 an4 cd4 ct4), sl4⟩)
    (c4 : PySem.W.codeIn K cd4 "is_square" = true)
    (k4 : PySem.W.keepIn K (.ref f4) = true)
    (a5 : PySem.W.nsIn K mainGlobals "is_under_root" = some (some (.ref f5)))
    (l5 : K.lookup f5 = some ⟨oc5, od5, .func (PySem.W.fnOf "is_under_root" "is_under_root" (defArgs s_is_under_root) (defBody s_is_under_root) (defScope s_is_under_root) .none kV5 dc5 pm5 an5 cd5 ct5), sl5⟩)
    (c5 : PySem.W.codeIn K cd5 "is_under_root" = true)
    (k5 : PySem.W.keepIn K (.ref f5) = true)
    (a6 : PySem.W.nsIn K mainGlobals "is_bottom" = some (some (.ref f6)))
    (l6 : K.lookup f6 = some ⟨oc6, od6, .func (PySem.W.fnOf "is_bottom" "is_bottom" (defArgs s_is_bottom) (defBody s_is_bottom) (defScope s_is_bottom) .none kV6 dc6 pm6 an6 cd6 ct6), sl6⟩)
    (c6 : PySem.W.codeIn K cd6 "is_bottom" = true)
    (k6 : PySem.W.keepIn K (.ref f6) = true)
    (a7 : PySem.W.nsIn K mainGlobals "look_parts" = some (some (.ref f7)))
    (l7 : K.lookup f7 = some ⟨oc7, od7, .func (PySem.W.fnOf "look_parts" "look_parts" (defArgs s_look_parts) (defBody s_look_parts) (defScope s_look_parts) .none kV7 dc7 pm7 an7 cd7 ct7), sl7⟩)
    (c7 : PySem.W.codeIn K cd7 "look_parts" = true)
    (k7 : PySem.W.keepIn K (.ref f7) = true)
    (a8 : PySem.W.nsIn K mainGlobals "sign_of" = some (some (.ref f8)))
    (l8 : K.lookup f8 = some ⟨oc8, od8, .func (PySem.W.fnOf "sign_of" "sign_of" (defArgs s_sign_of) (defBody s_sign_of) (defScope s_sign_of) .none kV8 dc8 pm8 an8 cd8 ct8), sl8⟩)
    (c8 : PySem.W.codeIn K cd8 "sign_of" = true)
    (k8 : PySem.W.keepIn K (.ref f8) = true)
    (a9 : PySem.W.nsIn K mainGlobals "sign_of_two" = some (some (.ref f9)))
    (l9 : K.lookup f9 = some ⟨oc9, od9, .func (PySem.W.fnOf "sign_of_two" "sign_of_two" (defArgs s_sign_of_two) (defBody s_sign_of_two) (defScope s_sign_of_two) .none kV9 dc9 pm9 an9 cd9 ct9), sl9⟩)
    (c9 : PySem.W.codeIn K cd9 "sign_of_two" = true)
    (k9 : PySem.W.keepIn K (.ref f9) = true)
    (a10 : PySem.W.nsIn K mainGlobals "contrary_of" = some (some (.ref f10)))
    (l10 : K.lookup f10 = some ⟨oc10, od10, .func (PySem.W.fnOf "contrary_of" "contrary_of" (defArgs s_contrary_of) (defBody s_contrary_of) (defScope s_contrary_of) .none kV10 dc10 pm10 an10 cd10 ct10), sl10⟩)
    (c10 : PySem.W.codeIn K cd10 "contrary_of" = true)
    (k10 : PySem.W.keepIn K (.ref f10) = true)
    (a11 : PySem.W.nsIn K mainGlobals "is_within" = some (some (.ref f11)))
    (l11 : K.lookup f11 = some ⟨oc11, od11, .func (PySem.W.fnOf "is_within" "is_within" (defArgs s_is_within) (defBody s_is_within) (defScope s_is_within) .none kV11 dc11 pm11 an11 cd11 ct11), sl11⟩)
    (c11 : PySem.W.codeIn K cd11 "is_within" = true)
    (k11 : PySem.W.keepIn K (.ref f11) = true)
    (a12 : PySem.W.nsIn K mainGlobals "is_row" = some (some (.ref f12)))
    (l12 : K.lookup f12 = some ⟨oc12, od12, .func (PySem.W.fnOf "is_row" "is_row" (defArgs s_is_row) (defBody s_is_row) (defScope s_is_row) .none kV12 dc12 pm12 an12 cd12 ct12), sl12⟩)
    (c12 : PySem.W.codeIn K cd12 "is_row" = true)
    (k12 : PySem.W.keepIn K (.ref f12) = true)
    (a13 : PySem.W.nsIn K mainGlobals "is_number_ring" = some (some (.ref f13)))
    (l13 : K.lookup f13 = some ⟨oc13, od13, .func (PySem.W.fnOf "is_number_ring" "is_number_ring" (defArgs s_is_number_ring) (defBody s_is_number_ring) (defScope s_is_number_ring) .none kV13 dc13 pm13 an13 cd13 ct13), sl13⟩)
    (c13 : PySem.W.codeIn K cd13 "is_number_ring" = true)
    (k13 : PySem.W.keepIn K (.ref f13) = true)
    (a14 : PySem.W.nsIn K mainGlobals "is_ahead" = some (some (.ref f14)))
    (l14 : K.lookup f14 = some ⟨oc14, od14, .func (PySem.W.fnOf "is_ahead" "is_ahead" (defArgs s_is_ahead) (defBody s_is_ahead) (defScope s_is_ahead) .none kV14 dc14 pm14 an14 cd14 ct14), sl14⟩)
    (c14 : PySem.W.codeIn K cd14 "is_ahead" = true)
    (k14 : PySem.W.keepIn K (.ref f14) = true)
    (a15 : PySem.W.nsIn K mainGlobals "shortest_part" = some (some (.ref f15)))
    (l15 : K.lookup f15 = some ⟨oc15, od15, .func (PySem.W.fnOf "shortest_part" "shortest_part" (defArgs s_shortest_part) (defBody s_shortest_part) (defScope s_shortest_part) .none kV15 dc15 pm15 an15 cd15 ct15), sl15⟩)
    (c15 : PySem.W.codeIn K cd15 "shortest_part" = true)
    (k15 : PySem.W.keepIn K (.ref f15) = true)
    (a16 : PySem.W.nsIn K mainGlobals "table_of_row" = some (some (.ref f16)))
    (l16 : K.lookup f16 = some ⟨oc16, od16, .func (PySem.W.fnOf "table_of_row" "table_of_row" (defArgs s_table_of_row) (defBody s_table_of_row) (defScope s_table_of_row) .none kV16 dc16 pm16 an16 cd16 ct16), sl16⟩)
    (c16 : PySem.W.codeIn K cd16 "table_of_row" = true)
    (k16 : PySem.W.keepIn K (.ref f16) = true)
    (a17 : PySem.W.nsIn K mainGlobals "number_of_ring" = some (some (.ref f17)))
    (l17 : K.lookup f17 = some ⟨oc17, od17, .func (PySem.W.fnOf "number_of_ring" "number_of_ring" (defArgs s_number_of_ring) (defBody s_number_of_ring) (defScope s_number_of_ring) .none kV17 dc17 pm17 an17 cd17 ct17), sl17⟩)
    (c17 : PySem.W.codeIn K cd17 "number_of_ring" = true)
    (k17 : PySem.W.keepIn K (.ref f17) = true)
    (a18 : PySem.W.nsIn K mainGlobals "told_stair" = some (some (.ref f18)))
    (l18 : K.lookup f18 = some ⟨oc18, od18, .func (PySem.W.fnOf "told_stair" "told_stair" (defArgs s_told_stair) (defBody s_told_stair) (defScope s_told_stair) .none kV18 dc18 pm18 an18 cd18 ct18), sl18⟩)
    (c18 : PySem.W.codeIn K cd18 "told_stair" = true)
    (k18 : PySem.W.keepIn K (.ref f18) = true)
    (a19 : PySem.W.nsIn K mainGlobals "is_reduced" = some (some (.ref f19)))
    (l19 : K.lookup f19 = some ⟨oc19, od19, .func (PySem.W.fnOf "is_reduced" "is_reduced" (defArgs s_is_reduced) (defBody s_is_reduced) (defScope s_is_reduced) .none kV19 dc19 pm19 an19 cd19 ct19), sl19⟩)
    (c19 : PySem.W.codeIn K cd19 "is_reduced" = true)
    (k19 : PySem.W.keepIn K (.ref f19) = true)
    (a20 : PySem.W.nsIn K mainGlobals "step_on" = some (some (.ref f20)))
    (l20 : K.lookup f20 = some ⟨oc20, od20, .func (PySem.W.fnOf "step_on" "step_on" (defArgs s_step_on) (defBody s_step_on) (defScope s_step_on) .none kV20 dc20 pm20 an20 cd20 ct20), sl20⟩)
    (c20 : PySem.W.codeIn K cd20 "step_on" = true)
    (k20 : PySem.W.keepIn K (.ref f20) = true)
    (a21 : PySem.W.nsIn K mainGlobals "ring_from" = some (some (.ref f21)))
    (l21 : K.lookup f21 = some ⟨oc21, od21, .func (PySem.W.fnOf "ring_from" "ring_from" (defArgs s_ring_from) (defBody s_ring_from) (defScope s_ring_from) .none kV21 dc21 pm21 an21 cd21 ct21), sl21⟩)
    (c21 : PySem.W.codeIn K cd21 "ring_from" = true)
    (k21 : PySem.W.keepIn K (.ref f21) = true)
    (a22 : PySem.W.nsIn K mainGlobals "stair_of" = some (some (.ref f22)))
    (l22 : K.lookup f22 = some ⟨oc22, od22, .func (PySem.W.fnOf "stair_of" "stair_of" (defArgs s_stair_of) (defBody s_stair_of) (defScope s_stair_of) .none kV22 dc22 pm22 an22 cd22 ct22), sl22⟩)
    (c22 : PySem.W.codeIn K cd22 "stair_of" = true)
    (k22 : PySem.W.keepIn K (.ref f22) = true)
    (a23 : PySem.W.nsIn K mainGlobals "_law_urn" = some (some (.ref f23)))
    (l23 : K.lookup f23 = some ⟨oc23, od23, .func (PySem.W.fnOf "_law_urn" "_law_urn" (defArgs s_law_urn) (defBody s_law_urn) (defScope s_law_urn) .none kV23 dc23 pm23 an23 cd23 ct23), sl23⟩)
    (c23 : PySem.W.codeIn K cd23 "_law_urn" = true)
    (k23 : PySem.W.keepIn K (.ref f23) = true)
    (a24 : PySem.W.nsIn K mainGlobals "_law_draw" = some (some (.ref f24)))
    (l24 : K.lookup f24 = some ⟨oc24, od24, .func (PySem.W.fnOf "_law_draw" "_law_draw" (defArgs s_law_draw) (defBody s_law_draw) (defScope s_law_draw) .none kV24 dc24 pm24 an24 cd24 ct24), sl24⟩)
    (c24 : PySem.W.codeIn K cd24 "_law_draw" = true)
    (k24 : PySem.W.keepIn K (.ref f24) = true)
    (a25 : PySem.W.nsIn K mainGlobals "_law_small_stair" = some (some (.ref f25)))
    (l25 : K.lookup f25 = some ⟨oc25, od25, .func (PySem.W.fnOf "_law_small_stair" "_law_small_stair" (defArgs s_law_small_stair) (defBody s_law_small_stair) (defScope s_law_small_stair) .none kV25 dc25 pm25 an25 cd25 ct25), sl25⟩)
    (c25 : PySem.W.codeIn K cd25 "_law_small_stair" = true)
    (k25 : PySem.W.keepIn K (.ref f25) = true)
    (a26 : PySem.W.nsIn K mainGlobals "_law_fractions_right" = some (some (.ref f26)))
    (l26 : K.lookup f26 = some ⟨oc26, od26, .func (PySem.W.fnOf "_law_fractions_right" "_law_fractions_right" (defArgs s_law_fractions_right) (defBody s_law_fractions_right) (defScope s_law_fractions_right) .none kV26 dc26 pm26 an26 cd26 ct26), sl26⟩)
    (c26 : PySem.W.codeIn K cd26 "_law_fractions_right" = true)
    (k26 : PySem.W.keepIn K (.ref f26) = true)
    (a27 : PySem.W.nsIn K mainGlobals "_law_ring_alone_right" = some (some (.ref f27)))
    (l27 : K.lookup f27 = some ⟨oc27, od27, .func (PySem.W.fnOf "_law_ring_alone_right" "_law_ring_alone_right" (defArgs s_law_ring_alone_right) (defBody s_law_ring_alone_right) (defScope s_law_ring_alone_right) .none kV27 dc27 pm27 an27 cd27 ct27), sl27⟩)
    (c27 : PySem.W.codeIn K cd27 "_law_ring_alone_right" = true)
    (k27 : PySem.W.keepIn K (.ref f27) = true)
    (a28 : PySem.W.nsIn K mainGlobals "_law_is_one" = some (some (.ref f28)))
    (l28 : K.lookup f28 = some ⟨oc28, od28, .func (PySem.W.fnOf "_law_is_one" "_law_is_one" (defArgs s_law_is_one) (defBody s_law_is_one) (defScope s_law_is_one) .none kV28 dc28 pm28 an28 cd28 ct28), sl28⟩)
    (c28 : PySem.W.codeIn K cd28 "_law_is_one" = true)
    (k28 : PySem.W.keepIn K (.ref f28) = true)
    (a29 : PySem.W.nsIn K mainGlobals "law" = some (some (.ref f29)))
    (l29 : K.lookup f29 = some ⟨oc29, od29, .func (PySem.W.fnOf "law" "law" (defArgs s_law) (defBody s_law) (defScope s_law) .none kV29 dc29 pm29 an29 cd29 ct29), sl29⟩)
    (c29 : PySem.W.codeIn K cd29 "law" = true)
    (k29 : PySem.W.keepIn K (.ref f29) = true)
    (a30 : PySem.W.findIn K (.ref C_Root) "__init__" = some (some (.ref f30)))
    (l30 : K.lookup f30 = some ⟨oc30, od30, .func (PySem.W.fnOf "__init__" "Root.__init__" (defArgs s_Root___init__) (defBody s_Root___init__) (defScope s_Root___init__) (.ref dT30) kV30 dc30 pm30 an30 cd30 ct30), sl30⟩)
    (dt30 : K.lookup dT30 = some ⟨doc30, dod30, .seq #[.int 0 dk30_0, .int 2 dk30_1, .int 1 dk30_2] dn30, dsl30⟩)
    (c30 : PySem.W.codeIn K cd30 "Root.__init__" = true)
    (k30 : PySem.W.keepIn K (.ref f30) = true)
    (vc_Root : clB K "Root" C_Root f30 = true)
    (vn_Root : noAttrB K C_Root ["held"] = true)
    (a31 : PySem.W.findIn K (.ref C_Root) "parts" = some (some (.ref f31)))
    (l31 : K.lookup f31 = some ⟨oc31, od31, .func (PySem.W.fnOf "parts" "Root.parts" (defArgs s_Root_parts) (defBody s_Root_parts) (defScope s_Root_parts) .none kV31 dc31 pm31 an31 cd31 ct31), sl31⟩)
    (c31 : PySem.W.codeIn K cd31 "Root.parts" = true)
    (k31 : PySem.W.keepIn K (.ref f31) = true)
    (vm31 : methB K C_Root "parts" f31 = true)
    (a32 : PySem.W.findIn K (.ref C_Root) "__eq__" = some (some (.ref f32)))
    (l32 : K.lookup f32 = some ⟨oc32, od32, .func (PySem.W.fnOf "__eq__" "Root.__eq__" (defArgs s_Root___eq__) (defBody s_Root___eq__) (defScope s_Root___eq__) .none kV32 dc32 pm32 an32 cd32 ct32), sl32⟩)
    (c32 : PySem.W.codeIn K cd32 "Root.__eq__" = true)
    (k32 : PySem.W.keepIn K (.ref f32) = true)
    (vm32 : methB K C_Root "__eq__" f32 = true)
    (a33 : PySem.W.findIn K (.ref C_Root) "whole" = some (some (.ref f33)))
    (l33 : K.lookup f33 = some ⟨oc33, od33, .func (PySem.W.fnOf "whole" "Root.whole" (defArgs s_Root_whole) (defBody s_Root_whole) (defScope s_Root_whole) .none kV33 dc33 pm33 an33 cd33 ct33), sl33⟩)
    (c33 : PySem.W.codeIn K cd33 "Root.whole" = true)
    (k33 : PySem.W.keepIn K (.ref f33) = true)
    (vm33 : methB K C_Root "whole" f33 = true)
    (a34 : PySem.W.findIn K (.ref C_Root) "mate" = some (some (.ref f34)))
    (l34 : K.lookup f34 = some ⟨oc34, od34, .func (PySem.W.fnOf "mate" "Root.mate" (defArgs s_Root_mate) (defBody s_Root_mate) (defScope s_Root_mate) .none kV34 dc34 pm34 an34 cd34 ct34), sl34⟩)
    (c34 : PySem.W.codeIn K cd34 "Root.mate" = true)
    (k34 : PySem.W.keepIn K (.ref f34) = true)
    (vm34 : methB K C_Root "mate" f34 = true)
    (a35 : PySem.W.findIn K (.ref C_Root) "is_below" = some (some (.ref f35)))
    (l35 : K.lookup f35 = some ⟨oc35, od35, .func (PySem.W.fnOf "is_below" "Root.is_below" (defArgs s_Root_is_below) (defBody s_Root_is_below) (defScope s_Root_is_below) .none kV35 dc35 pm35 an35 cd35 ct35), sl35⟩)
    (c35 : PySem.W.codeIn K cd35 "Root.is_below" = true)
    (k35 : PySem.W.keepIn K (.ref f35) = true)
    (vm35 : methB K C_Root "is_below" f35 = true)
    (a36 : PySem.W.findIn K (.ref C_Root) "seen_by" = some (some (.ref f36)))
    (l36 : K.lookup f36 = some ⟨oc36, od36, .func (PySem.W.fnOf "seen_by" "Root.seen_by" (defArgs s_Root_seen_by) (defBody s_Root_seen_by) (defScope s_Root_seen_by) .none kV36 dc36 pm36 an36 cd36 ct36), sl36⟩)
    (c36 : PySem.W.codeIn K cd36 "Root.seen_by" = true)
    (k36 : PySem.W.keepIn K (.ref f36) = true)
    (vm36 : methB K C_Root "seen_by" f36 = true)
    (a37 : PySem.W.findIn K (.ref C_Root) "plus" = some (some (.ref f37)))
    (l37 : K.lookup f37 = some ⟨oc37, od37, .func (PySem.W.fnOf "plus" "Root.plus" (defArgs s_Root_plus) (defBody s_Root_plus) (defScope s_Root_plus) .none kV37 dc37 pm37 an37 cd37 ct37), sl37⟩)
    (c37 : PySem.W.codeIn K cd37 "Root.plus" = true)
    (k37 : PySem.W.keepIn K (.ref f37) = true)
    (vm37 : methB K C_Root "plus" f37 = true)
    (a38 : PySem.W.findIn K (.ref C_Root) "less" = some (some (.ref f38)))
    (l38 : K.lookup f38 = some ⟨oc38, od38, .func (PySem.W.fnOf "less" "Root.less" (defArgs s_Root_less) (defBody s_Root_less) (defScope s_Root_less) .none kV38 dc38 pm38 an38 cd38 ct38), sl38⟩)
    (c38 : PySem.W.codeIn K cd38 "Root.less" = true)
    (k38 : PySem.W.keepIn K (.ref f38) = true)
    (vm38 : methB K C_Root "less" f38 = true)
    (a39 : PySem.W.findIn K (.ref C_Root) "times" = some (some (.ref f39)))
    (l39 : K.lookup f39 = some ⟨oc39, od39, .func (PySem.W.fnOf "times" "Root.times" (defArgs s_Root_times) (defBody s_Root_times) (defScope s_Root_times) .none kV39 dc39 pm39 an39 cd39 ct39), sl39⟩)
    (c39 : PySem.W.codeIn K cd39 "Root.times" = true)
    (k39 : PySem.W.keepIn K (.ref f39) = true)
    (vm39 : methB K C_Root "times" f39 = true)
    (a40 : PySem.W.findIn K (.ref C_Root) "over" = some (some (.ref f40)))
    (l40 : K.lookup f40 = some ⟨oc40, od40, .func (PySem.W.fnOf "over" "Root.over" (defArgs s_Root_over) (defBody s_Root_over) (defScope s_Root_over) .none kV40 dc40 pm40 an40 cd40 ct40), sl40⟩)
    (c40 : PySem.W.codeIn K cd40 "Root.over" = true)
    (k40 : PySem.W.keepIn K (.ref f40) = true)
    (vm40 : methB K C_Root "over" f40 = true)
    (a41 : PySem.W.findIn K (.ref C_Stair) "keep_rows" = some (some (.ref f41)))
    (l41 : K.lookup f41 = some ⟨oc41, od41, .func (PySem.W.fnOf "keep_rows" "Stair.keep_rows" (defArgs s_Stair_keep_rows) (defBody s_Stair_keep_rows) (defScope s_Stair_keep_rows) .none kV41 dc41 pm41 an41 cd41 ct41), sl41⟩)
    (c41 : PySem.W.codeIn K cd41 "Stair.keep_rows" = true)
    (k41 : PySem.W.keepIn K (.ref f41) = true)
    (vm41 : methB K C_Stair "keep_rows" f41 = true)
    (a42 : PySem.W.findIn K (.ref C_Stair) "__init__" = some (some (.ref f42)))
    (l42 : K.lookup f42 = some ⟨oc42, od42, .func (PySem.W.fnOf "__init__" "Stair.__init__" (defArgs s_Stair___init__) (defBody s_Stair___init__) (defScope s_Stair___init__) .none kV42 dc42 pm42 an42 cd42 ct42), sl42⟩)
    (c42 : PySem.W.codeIn K cd42 "Stair.__init__" = true)
    (k42 : PySem.W.keepIn K (.ref f42) = true)
    (vc_Stair : clB K "Stair" C_Stair f42 = true)
    (vn_Stair : noAttrB K C_Stair ["held_ahead", "held_ring"] = true)
    (a43 : PySem.W.findIn K (.ref C_Stair) "ahead" = some (some (.ref f43)))
    (l43 : K.lookup f43 = some ⟨oc43, od43, .func (PySem.W.fnOf "ahead" "Stair.ahead" (defArgs s_Stair_ahead) (defBody s_Stair_ahead) (defScope s_Stair_ahead) .none kV43 dc43 pm43 an43 cd43 ct43), sl43⟩)
    (c43 : PySem.W.codeIn K cd43 "Stair.ahead" = true)
    (k43 : PySem.W.keepIn K (.ref f43) = true)
    (vm43 : methB K C_Stair "ahead" f43 = true)
    (a44 : PySem.W.findIn K (.ref C_Stair) "ring" = some (some (.ref f44)))
    (l44 : K.lookup f44 = some ⟨oc44, od44, .func (PySem.W.fnOf "ring" "Stair.ring" (defArgs s_Stair_ring) (defBody s_Stair_ring) (defScope s_Stair_ring) .none kV44 dc44 pm44 an44 cd44 ct44), sl44⟩)
    (c44 : PySem.W.codeIn K cd44 "Stair.ring" = true)
    (k44 : PySem.W.keepIn K (.ref f44) = true)
    (vm44 : methB K C_Stair "ring" f44 = true)
    (a45 : PySem.W.findIn K (.ref C_Stair) "__eq__" = some (some (.ref f45)))
    (l45 : K.lookup f45 = some ⟨oc45, od45, .func (PySem.W.fnOf "__eq__" "Stair.__eq__" (defArgs s_Stair___eq__) (defBody s_Stair___eq__) (defScope s_Stair___eq__) .none kV45 dc45 pm45 an45 cd45 ct45), sl45⟩)
    (c45 : PySem.W.codeIn K cd45 "Stair.__eq__" = true)
    (k45 : PySem.W.keepIn K (.ref f45) = true)
    (vm45 : methB K C_Stair "__eq__" f45 = true)
    (a46 : PySem.W.findIn K (.ref C_Stair) "at" = some (some (.ref f46)))
    (l46 : K.lookup f46 = some ⟨oc46, od46, .func (PySem.W.fnOf "at" "Stair.at" (defArgs s_Stair_at) (defBody s_Stair_at) (defScope s_Stair_at) .none kV46 dc46 pm46 an46 cd46 ct46), sl46⟩)
    (c46 : PySem.W.codeIn K cd46 "Stair.at" = true)
    (k46 : PySem.W.keepIn K (.ref f46) = true)
    (vm46 : methB K C_Stair "at" f46 = true)
    (a47 : PySem.W.findIn K (.ref C_Stair) "behind" = some (some (.ref f47)))
    (l47 : K.lookup f47 = some ⟨oc47, od47, .func (PySem.W.fnOf "behind" "Stair.behind" (defArgs s_Stair_behind) (defBody s_Stair_behind) (defScope s_Stair_behind) (.ref dT47) kV47 dc47 pm47 an47 cd47 ct47), sl47⟩)
    (dt47 : K.lookup dT47 = some ⟨doc47, dod47, .seq #[.int 1 dk47_0] dn47, dsl47⟩)
    (c47 : PySem.W.codeIn K cd47 "Stair.behind" = true)
    (k47 : PySem.W.keepIn K (.ref f47) = true)
    (vm47 : methB K C_Stair "behind" f47 = true)
    (a48 : PySem.W.findIn K (.ref C_Stair) "number" = some (some (.ref f48)))
    (l48 : K.lookup f48 = some ⟨oc48, od48, .func (PySem.W.fnOf "number" "Stair.number" (defArgs s_Stair_number) (defBody s_Stair_number) (defScope s_Stair_number) .none kV48 dc48 pm48 an48 cd48 ct48), sl48⟩)
    (c48 : PySem.W.codeIn K cd48 "Stair.number" = true)
    (k48 : PySem.W.keepIn K (.ref f48) = true)
    (vm48 : methB K C_Stair "number" f48 = true)
    (a49 : PySem.W.findIn K (.ref C_Stair) "fraction" = some (some (.ref f49)))
    (l49 : K.lookup f49 = some ⟨oc49, od49, .func (PySem.W.fnOf "fraction" "Stair.fraction" (defArgs s_Stair_fraction) (defBody s_Stair_fraction) (defScope s_Stair_fraction) .none kV49 dc49 pm49 an49 cd49 ct49), sl49⟩)
    (c49 : PySem.W.codeIn K cd49 "Stair.fraction" = true)
    (k49 : PySem.W.keepIn K (.ref f49) = true)
    (vm49 : methB K C_Stair "fraction" f49 = true)
    (xg_NoNumber : PySem.W.nsIn K mainGlobals "NoNumber" = some (some (.ref C_NoNumber)))
    (xi_NoNumber : PySem.W.findIn K (.ref C_NoNumber) "__init__" = some (some (.ref fI_NoNumber)))
    (xl_NoNumber : K.lookup fI_NoNumber = some ⟨xoc_NoNumber, xod_NoNumber, .func (PySem.W.fnOf "__init__" "NoNumber.__init__" (defArgs sI_NoNumber) (defBody sI_NoNumber) (defScope sI_NoNumber) .none xkV_NoNumber xdc_NoNumber xpm_NoNumber xan_NoNumber xcd_NoNumber xct_NoNumber), xsl_NoNumber⟩)
    (xc_NoNumber : PySem.W.codeIn K xcd_NoNumber "NoNumber.__init__" = true)
    (xk_NoNumber : PySem.W.keepIn K (.ref fI_NoNumber) = true)
    (xf_NoNumber : fxB K "NoNumber" [.type "ArithmeticError", .type "Exception", .type "BaseException", .type "object"] "ArithmeticError.__new__" C_NoNumber fI_NoNumber ["part"] = true)
    (xg_NoPlace : PySem.W.nsIn K mainGlobals "NoPlace" = some (some (.ref C_NoPlace)))
    (xi_NoPlace : PySem.W.findIn K (.ref C_NoPlace) "__init__" = some (some (.ref fI_NoPlace)))
    (xl_NoPlace : K.lookup fI_NoPlace = some ⟨xoc_NoPlace, xod_NoPlace, .func (PySem.W.fnOf "__init__" "NoPlace.__init__" (defArgs sI_NoPlace) (defBody sI_NoPlace) (defScope sI_NoPlace) .none xkV_NoPlace xdc_NoPlace xpm_NoPlace xan_NoPlace xcd_NoPlace xct_NoPlace), xsl_NoPlace⟩)
    (xc_NoPlace : PySem.W.codeIn K xcd_NoPlace "NoPlace.__init__" = true)
    (xk_NoPlace : PySem.W.keepIn K (.ref fI_NoPlace) = true)
    (xf_NoPlace : fxB K "NoPlace" [.type "IndexError", .type "LookupError", .type "Exception", .type "BaseException", .type "object"] "IndexError.__new__" C_NoPlace fI_NoPlace ["place", "many"] = true)
    (xg_TooMany : PySem.W.nsIn K mainGlobals "TooMany" = some (some (.ref C_TooMany)))
    (xi_TooMany : PySem.W.findIn K (.ref C_TooMany) "__init__" = some (some (.ref fI_TooMany)))
    (xl_TooMany : K.lookup fI_TooMany = some ⟨xoc_TooMany, xod_TooMany, .func (PySem.W.fnOf "__init__" "TooMany.__init__" (defArgs sI_TooMany) (defBody sI_TooMany) (defScope sI_TooMany) .none xkV_TooMany xdc_TooMany xpm_TooMany xan_TooMany xcd_TooMany xct_TooMany), xsl_TooMany⟩)
    (xc_TooMany : PySem.W.codeIn K xcd_TooMany "TooMany.__init__" = true)
    (xk_TooMany : PySem.W.keepIn K (.ref fI_TooMany) = true)
    (xf_TooMany : fxB K "TooMany" [.type "OverflowError", .type "ArithmeticError", .type "Exception", .type "BaseException", .type "object"] "OverflowError.__new__" C_TooMany fI_TooMany ["most"] = true)
    (rs_NoKin : rsB K "NoKin" [.type "TypeError", .type "Exception", .type "BaseException", .type "object"] "TypeError.__new__" = true)
    (rs_NoStair : rsB K "NoStair" [.type "ValueError", .type "Exception", .type "BaseException", .type "object"] "ValueError.__new__" = true)
    (g_LEAST_SQUARE : PySem.W.nsIn K mainGlobals "LEAST_SQUARE" = some (some (.int 2 tk_LEAST_SQUARE)))
    (g_LOOKS : PySem.W.nsIn K mainGlobals "LOOKS" = some (some (.ref p_LOOKS)))
    (l_LOOKS : K.lookup p_LOOKS = some ⟨.type "dict", none, .dict es_LOOKS n_LOOKS, #[]⟩)
    (y_LOOKS : PySem.W.KeysLit w.params es_LOOKS.toList)
    (e0_LOOKS : PySem.W.nsIn K p_LOOKS "top" = some (some (.ref f0)))
    (e1_LOOKS : PySem.W.nsIn K p_LOOKS "often" = some (some (.ref f0)))
    (e2_LOOKS : PySem.W.nsIn K p_LOOKS "square" = some (some (.ref f5)))
    (e3_LOOKS : PySem.W.nsIn K p_LOOKS "bottom" = some (some (.ref f6)))
    (g_MOST_AHEAD : PySem.W.nsIn K mainGlobals "MOST_AHEAD" = some (some (.int 20 tk_MOST_AHEAD)))
    (g_MOST_NUMBER : PySem.W.nsIn K mainGlobals "MOST_NUMBER" = some (some (.int 999999 tk_MOST_NUMBER)))
    (g_MOST_RING : PySem.W.nsIn K mainGlobals "MOST_RING" = some (some (.int 40 tk_MOST_RING)))
    (g_PARTS : PySem.W.nsIn K mainGlobals "PARTS" = some (some (.ref p_PARTS)))
    (lp_PARTS : K.lookup p_PARTS = some ⟨.type "tuple", odp_PARTS, .seq #[.str "top" tk_PARTS_0, .str "often" tk_PARTS_1, .str "square" tk_PARTS_2, .str "bottom" tk_PARTS_3] np_PARTS, slp_PARTS⟩)
    (z_abs : PySem.W.nsIn K mainGlobals "abs" = some none)
    (z_all : PySem.W.nsIn K mainGlobals "all" = some none)
    (z_bool : PySem.W.nsIn K mainGlobals "bool" = some none)
    (z_enumerate : PySem.W.nsIn K mainGlobals "enumerate" = some none)
    (z_int : PySem.W.nsIn K mainGlobals "int" = some none)
    (z_isinstance : PySem.W.nsIn K mainGlobals "isinstance" = some none)
    (z_len : PySem.W.nsIn K mainGlobals "len" = some none)
    (z_max : PySem.W.nsIn K mainGlobals "max" = some none)
    (z_min : PySem.W.nsIn K mainGlobals "min" = some none)
    (z_range : PySem.W.nsIn K mainGlobals "range" = some none)
    (z_tuple : PySem.W.nsIn K mainGlobals "tuple" = some none)
    (z_zip : PySem.W.nsIn K mainGlobals "zip" = some none)
    : LawG PySem.Challenge.rw_nearthrees_k75_whole_numbers_and_stairs w K (L2N.CX PySem.Challenge.rw_nearthrees_k75_whole_numbers_and_stairs.prog w) 11 63 "_law_script" mg fa h := by
  have e := hfa.symm.trans (PySem.W.mg_of X G a29)
  cases e
  have F0 := fun_mk (st := s_is_whole) l0 c0 k0
  have b0 := F0.binds (ps := ["thing"]) fun _ _ _ _ _ _ us hl => match us, hl with | [_], _ => rfl
  have F1 := fun_mk (st := s_shared_by) l1 c1 k1
  have b1 := F1.binds (ps := ["one", "other"]) fun _ _ _ _ _ _ us hl => match us, hl with | [_, _], _ => rfl
  have F2 := fun_mk (st := s_sign_in) l2 c2 k2
  have b2 := F2.binds (ps := ["number"]) fun _ _ _ _ _ _ us hl => match us, hl with | [_], _ => rfl
  have F3 := fun_mk (st := s_side_of) l3 c3 k3
  have b3 := F3.binds (ps := ["square"]) fun _ _ _ _ _ _ us hl => match us, hl with | [_], _ => rfl
  have F4 := fun_mk (st := s_is_square) l4 c4 k4
  have b4 := F4.binds (ps := ["number"]) fun _ _ _ _ _ _ us hl => match us, hl with | [_], _ => rfl
  have F5 := fun_mk (st := s_is_under_root) l5 c5 k5
  have b5 := F5.binds (ps := ["thing"]) fun _ _ _ _ _ _ us hl => match us, hl with | [_], _ => rfl
  have F6 := fun_mk (st := s_is_bottom) l6 c6 k6
  have b6 := F6.binds (ps := ["thing"]) fun _ _ _ _ _ _ us hl => match us, hl with | [_], _ => rfl
  have F7 := fun_mk (st := s_look_parts) l7 c7 k7
  have b7 := F7.binds (ps := ["parts"]) fun _ _ _ _ _ _ us hl => match us, hl with | [_], _ => rfl
  have F8 := fun_mk (st := s_sign_of) l8 c8 k8
  have b8 := F8.binds (ps := ["top", "often", "square"]) fun _ _ _ _ _ _ us hl => match us, hl with | [_, _, _], _ => rfl
  have F9 := fun_mk (st := s_sign_of_two) l9 c9 k9
  have b9 := F9.binds (ps := ["top", "often", "square", "other_often", "other_square"]) fun _ _ _ _ _ _ us hl => match us, hl with | [_, _, _, _, _], _ => rfl
  have F10 := fun_mk (st := s_contrary_of) l10 c10 k10
  have b10 := F10.binds (ps := ["number", "above"]) fun _ _ _ _ _ _ us hl => match us, hl with | [_, _], _ => rfl
  have F11 := fun_mk (st := s_is_within) l11 c11 k11
  have b11 := F11.binds (ps := ["thing", "least", "most"]) fun _ _ _ _ _ _ us hl => match us, hl with | [_, _, _], _ => rfl
  have F12 := fun_mk (st := s_is_row) l12 c12 k12
  have b12 := F12.binds (ps := ["thing", "least", "most"]) fun _ _ _ _ _ _ us hl => match us, hl with | [_, _, _], _ => rfl
  have F13 := fun_mk (st := s_is_number_ring) l13 c13 k13
  have b13 := F13.binds (ps := ["thing"]) fun _ _ _ _ _ _ us hl => match us, hl with | [_], _ => rfl
  have F14 := fun_mk (st := s_is_ahead) l14 c14 k14
  have b14 := F14.binds (ps := ["thing"]) fun _ _ _ _ _ _ us hl => match us, hl with | [_], _ => rfl
  have F15 := fun_mk (st := s_shortest_part) l15 c15 k15
  have b15 := F15.binds (ps := ["parts"]) fun _ _ _ _ _ _ us hl => match us, hl with | [_], _ => rfl
  have F16 := fun_mk (st := s_table_of_row) l16 c16 k16
  have b16 := F16.binds (ps := ["row"]) fun _ _ _ _ _ _ us hl => match us, hl with | [_], _ => rfl
  have F17 := fun_mk (st := s_number_of_ring) l17 c17 k17
  have b17 := F17.binds (ps := ["ring"]) fun _ _ _ _ _ _ us hl => match us, hl with | [_], _ => rfl
  have F18 := fun_mk (st := s_told_stair) l18 c18 k18
  have b18 := F18.binds (ps := ["ahead", "ring"]) fun _ _ _ _ _ _ us hl => match us, hl with | [_, _], _ => rfl
  have F19 := fun_mk (st := s_is_reduced) l19 c19 k19
  have b19 := F19.binds (ps := ["top", "below", "side"]) fun _ _ _ _ _ _ us hl => match us, hl with | [_, _, _], _ => rfl
  have F20 := fun_mk (st := s_step_on) l20 c20 k20
  have b20 := F20.binds (ps := ["top", "below", "under"]) fun _ _ _ _ _ _ us hl => match us, hl with | [_, _, _], _ => rfl
  have F21 := fun_mk (st := s_ring_from) l21 c21 k21
  have b21 := F21.binds (ps := ["top", "below", "under"]) fun _ _ _ _ _ _ us hl => match us, hl with | [_, _, _], _ => rfl
  have F22 := fun_mk (st := s_stair_of) l22 c22 k22
  have b22 := F22.binds (ps := ["number"]) fun _ _ _ _ _ _ us hl => match us, hl with | [_], _ => rfl
  have F23 := fun_mk (st := s_law_urn) l23 c23 k23
  have b23 := F23.binds (ps := ["_law_script", "_law_at"]) fun _ _ _ _ _ _ us hl => match us, hl with | [_, _], _ => rfl
  have F24 := fun_mk (st := s_law_draw) l24 c24 k24
  have b24 := F24.binds (ps := ["_law_urn_here", "_law_wide"]) fun _ _ _ _ _ _ us hl => match us, hl with | [_, _], _ => rfl
  have F25 := fun_mk (st := s_law_small_stair) l25 c25 k25
  have b25 := F25.binds (ps := ["_law_urn_here"]) fun _ _ _ _ _ _ us hl => match us, hl with | [_], _ => rfl
  have F26 := fun_mk (st := s_law_fractions_right) l26 c26 k26
  have b26 := F26.binds (ps := ["_law_stair", "_law_number"]) fun _ _ _ _ _ _ us hl => match us, hl with | [_, _], _ => rfl
  have F27 := fun_mk (st := s_law_ring_alone_right) l27 c27 k27
  have b27 := F27.binds (ps := ["_law_stair", "_law_number"]) fun _ _ _ _ _ _ us hl => match us, hl with | [_, _], _ => rfl
  have F28 := fun_mk (st := s_law_is_one) l28 c28 k28
  have b28 := F28.binds (ps := ["_law_stair"]) fun _ _ _ _ _ _ us hl => match us, hl with | [_], _ => rfl
  have F29 := fun_mk (st := s_law) l29 c29 k29
  have b29 := F29.binds (ps := ["_law_script"]) fun _ _ _ _ _ _ us hl => match us, hl with | [_], _ => rfl
  have F30 := Hx.funV_mk (st := s_Root___init__) l30 c30 k30 dt30
  have b30 : Binds K (PySem.W.fnOf "__init__" "Root.__init__" (defArgs s_Root___init__) (defBody s_Root___init__) (defScope s_Root___init__) (.ref dT30) kV30 dc30 pm30 an30 cd30 ct30) ["self", "top", "often", "square", "bottom"] [] := fun s us X hl => F30.to X (match us, (by simp only [List.length_append, List.length_cons, List.length_nil] at hl; omega : us.length = 5) with | [_, _, _, _, _], _ => ⟨_, rfl, rfl⟩)
  have b3_30 : Binds K (PySem.W.fnOf "__init__" "Root.__init__" (defArgs s_Root___init__) (defBody s_Root___init__) (defScope s_Root___init__) (.ref dT30) kV30 dc30 pm30 an30 cd30 ct30) ["self", "top", "often", "square", "bottom"] [.int 0 dk30_0, .int 2 dk30_1, .int 1 dk30_2] := fun s us X hl => F30.to X (match us, (by simp only [List.length_append, List.length_cons, List.length_nil] at hl; omega : us.length = 2) with | [_, _], _ => ⟨_, rfl, rfl⟩)
  have F31 := fun_mk (st := s_Root_parts) l31 c31 k31
  have b31 := F31.binds (ps := ["self"]) fun _ _ _ _ _ _ us hl => match us, hl with | [_], _ => rfl
  have F32 := fun_mk (st := s_Root___eq__) l32 c32 k32
  have b32 := F32.binds (ps := ["self", "other"]) fun _ _ _ _ _ _ us hl => match us, hl with | [_, _], _ => rfl
  have F33 := fun_mk (st := s_Root_whole) l33 c33 k33
  have b33 := F33.binds (ps := ["self"]) fun _ _ _ _ _ _ us hl => match us, hl with | [_], _ => rfl
  have F34 := fun_mk (st := s_Root_mate) l34 c34 k34
  have b34 := F34.binds (ps := ["self"]) fun _ _ _ _ _ _ us hl => match us, hl with | [_], _ => rfl
  have F35 := fun_mk (st := s_Root_is_below) l35 c35 k35
  have b35 := F35.binds (ps := ["self", "other"]) fun _ _ _ _ _ _ us hl => match us, hl with | [_, _], _ => rfl
  have F36 := fun_mk (st := s_Root_seen_by) l36 c36 k36
  have b36 := F36.binds (ps := ["self", "other"]) fun _ _ _ _ _ _ us hl => match us, hl with | [_, _], _ => rfl
  have F37 := fun_mk (st := s_Root_plus) l37 c37 k37
  have b37 := F37.binds (ps := ["self", "other"]) fun _ _ _ _ _ _ us hl => match us, hl with | [_, _], _ => rfl
  have F38 := fun_mk (st := s_Root_less) l38 c38 k38
  have b38 := F38.binds (ps := ["self", "other"]) fun _ _ _ _ _ _ us hl => match us, hl with | [_, _], _ => rfl
  have F39 := fun_mk (st := s_Root_times) l39 c39 k39
  have b39 := F39.binds (ps := ["self", "other"]) fun _ _ _ _ _ _ us hl => match us, hl with | [_, _], _ => rfl
  have F40 := fun_mk (st := s_Root_over) l40 c40 k40
  have b40 := F40.binds (ps := ["self", "other"]) fun _ _ _ _ _ _ us hl => match us, hl with | [_, _], _ => rfl
  have F41 := fun_mk (st := s_Stair_keep_rows) l41 c41 k41
  have b41 := F41.binds (ps := ["self", "ahead", "ring"]) fun _ _ _ _ _ _ us hl => match us, hl with | [_, _, _], _ => rfl
  have F42 := fun_mk (st := s_Stair___init__) l42 c42 k42
  have b42 := F42.binds (ps := ["self", "ahead", "ring"]) fun _ _ _ _ _ _ us hl => match us, hl with | [_, _, _], _ => rfl
  have F43 := fun_mk (st := s_Stair_ahead) l43 c43 k43
  have b43 := F43.binds (ps := ["self"]) fun _ _ _ _ _ _ us hl => match us, hl with | [_], _ => rfl
  have F44 := fun_mk (st := s_Stair_ring) l44 c44 k44
  have b44 := F44.binds (ps := ["self"]) fun _ _ _ _ _ _ us hl => match us, hl with | [_], _ => rfl
  have F45 := fun_mk (st := s_Stair___eq__) l45 c45 k45
  have b45 := F45.binds (ps := ["self", "other"]) fun _ _ _ _ _ _ us hl => match us, hl with | [_, _], _ => rfl
  have F46 := fun_mk (st := s_Stair_at) l46 c46 k46
  have b46 := F46.binds (ps := ["self", "place"]) fun _ _ _ _ _ _ us hl => match us, hl with | [_, _], _ => rfl
  have F47 := Hx.funV_mk (st := s_Stair_behind) l47 c47 k47 dt47
  have b47 : Binds K (PySem.W.fnOf "behind" "Stair.behind" (defArgs s_Stair_behind) (defBody s_Stair_behind) (defScope s_Stair_behind) (.ref dT47) kV47 dc47 pm47 an47 cd47 ct47) ["self", "many"] [] := fun s us X hl => F47.to X (match us, (by simp only [List.length_append, List.length_cons, List.length_nil] at hl; omega : us.length = 2) with | [_, _], _ => ⟨_, rfl, rfl⟩)
  have F48 := fun_mk (st := s_Stair_number) l48 c48 k48
  have b48 := F48.binds (ps := ["self"]) fun _ _ _ _ _ _ us hl => match us, hl with | [_], _ => rfl
  have F49 := fun_mk (st := s_Stair_fraction) l49 c49 k49
  have b49 := F49.binds (ps := ["self", "many"]) fun _ _ _ _ _ _ us hl => match us, hl with | [_, _], _ => rfl
  obtain ⟨C_NoKin, R_NoKin⟩ := rsB_ok rs_NoKin
  obtain ⟨C_NoStair, R_NoStair⟩ := rsB_ok rs_NoStair
  have FI_NoNumber := fun_mk (st := sI_NoNumber) xl_NoNumber xc_NoNumber xk_NoNumber
  have bI_NoNumber := FI_NoNumber.binds (ps := ["self", "part"]) fun _ _ _ _ _ _ us hl => match us, hl with | [_, _], _ => rfl
  have FI_NoPlace := fun_mk (st := sI_NoPlace) xl_NoPlace xc_NoPlace xk_NoPlace
  have bI_NoPlace := FI_NoPlace.binds (ps := ["self", "place", "many"]) fun _ _ _ _ _ _ us hl => match us, hl with | [_, _, _], _ => rfl
  have FI_TooMany := fun_mk (st := sI_TooMany) xl_TooMany xc_TooMany xk_TooMany
  have bI_TooMany := FI_TooMany.binds (ps := ["self", "most"]) fun _ _ _ _ _ _ us hl => match us, hl with | [_, _], _ => rfl
  let T : ∀ base : Heap, Txt w K mg base := fun base => {
    C_Root := C_Root, gc_Root := PySem.W.mg_of X G vg_Root,
    C_Stair := C_Stair, gc_Stair := PySem.W.mg_of X G vg_Stair,
    is_Root := isB_ok vis_Root,
    is_Stair := isB_ok vis_Stair,
    gn_is_whole := a0,
    f_is_whole := _, fd_is_whole := _, F_is_whole := F0, m_is_whole := PySem.W.mg_of X G a0, b_is_whole := b0,
    f_shared_by := _, fd_shared_by := _, F_shared_by := F1, m_shared_by := PySem.W.mg_of X G a1, b_shared_by := b1,
    f_sign_in := _, fd_sign_in := _, F_sign_in := F2, m_sign_in := PySem.W.mg_of X G a2, b_sign_in := b2,
    f_side_of := _, fd_side_of := _, F_side_of := F3, m_side_of := PySem.W.mg_of X G a3, b_side_of := b3,
    f_is_square := _, fd_is_square := _, F_is_square := F4, m_is_square := PySem.W.mg_of X G a4, b_is_square := b4,
    gn_is_under_root := a5,
    f_is_under_root := _, fd_is_under_root := _, F_is_under_root := F5, m_is_under_root := PySem.W.mg_of X G a5, b_is_under_root := b5,
    gn_is_bottom := a6,
    f_is_bottom := _, fd_is_bottom := _, F_is_bottom := F6, m_is_bottom := PySem.W.mg_of X G a6, b_is_bottom := b6,
    f_look_parts := _, fd_look_parts := _, F_look_parts := F7, m_look_parts := PySem.W.mg_of X G a7, b_look_parts := b7,
    f_sign_of := _, fd_sign_of := _, F_sign_of := F8, m_sign_of := PySem.W.mg_of X G a8, b_sign_of := b8,
    f_sign_of_two := _, fd_sign_of_two := _, F_sign_of_two := F9, m_sign_of_two := PySem.W.mg_of X G a9, b_sign_of_two := b9,
    f_contrary_of := _, fd_contrary_of := _, F_contrary_of := F10, m_contrary_of := PySem.W.mg_of X G a10, b_contrary_of := b10,
    f_is_within := _, fd_is_within := _, F_is_within := F11, m_is_within := PySem.W.mg_of X G a11, b_is_within := b11,
    f_is_row := _, fd_is_row := _, F_is_row := F12, m_is_row := PySem.W.mg_of X G a12, b_is_row := b12,
    f_is_number_ring := _, fd_is_number_ring := _, F_is_number_ring := F13, m_is_number_ring := PySem.W.mg_of X G a13, b_is_number_ring := b13,
    f_is_ahead := _, fd_is_ahead := _, F_is_ahead := F14, m_is_ahead := PySem.W.mg_of X G a14, b_is_ahead := b14,
    f_shortest_part := _, fd_shortest_part := _, F_shortest_part := F15, m_shortest_part := PySem.W.mg_of X G a15, b_shortest_part := b15,
    f_table_of_row := _, fd_table_of_row := _, F_table_of_row := F16, m_table_of_row := PySem.W.mg_of X G a16, b_table_of_row := b16,
    f_number_of_ring := _, fd_number_of_ring := _, F_number_of_ring := F17, m_number_of_ring := PySem.W.mg_of X G a17, b_number_of_ring := b17,
    f_told_stair := _, fd_told_stair := _, F_told_stair := F18, m_told_stair := PySem.W.mg_of X G a18, b_told_stair := b18,
    f_is_reduced := _, fd_is_reduced := _, F_is_reduced := F19, m_is_reduced := PySem.W.mg_of X G a19, b_is_reduced := b19,
    f_step_on := _, fd_step_on := _, F_step_on := F20, m_step_on := PySem.W.mg_of X G a20, b_step_on := b20,
    f_ring_from := _, fd_ring_from := _, F_ring_from := F21, m_ring_from := PySem.W.mg_of X G a21, b_ring_from := b21,
    f_stair_of := _, fd_stair_of := _, F_stair_of := F22, m_stair_of := PySem.W.mg_of X G a22, b_stair_of := b22,
    f_law_urn := _, fd_law_urn := _, F_law_urn := F23, m_law_urn := PySem.W.mg_of X G a23, b_law_urn := b23,
    f_law_draw := _, fd_law_draw := _, F_law_draw := F24, m_law_draw := PySem.W.mg_of X G a24, b_law_draw := b24,
    f_law_small_stair := _, fd_law_small_stair := _, F_law_small_stair := F25, m_law_small_stair := PySem.W.mg_of X G a25, b_law_small_stair := b25,
    f_law_fractions_right := _, fd_law_fractions_right := _, F_law_fractions_right := F26, m_law_fractions_right := PySem.W.mg_of X G a26, b_law_fractions_right := b26,
    f_law_ring_alone_right := _, fd_law_ring_alone_right := _, F_law_ring_alone_right := F27, m_law_ring_alone_right := PySem.W.mg_of X G a27, b_law_ring_alone_right := b27,
    f_law_is_one := _, fd_law_is_one := _, F_law_is_one := F28, m_law_is_one := PySem.W.mg_of X G a28, b_law_is_one := b28,
    f_law := _, fd_law := _, F_law := F29, m_law := PySem.W.mg_of X G a29, b_law := b29,
    f_Root___init__ := _, fd_Root___init__ := _, F_Root___init__ := F30, cl_Root := clB_ok vc_Root, na_Root := vn_Root, T_Root___init__ := dT30, its_Root___init__ := #[.int 0 dk30_0, .int 2 dk30_1, .int 1 dk30_2], u3_Root___init__ := [.int 0 dk30_0, .int 2 dk30_1, .int 1 dk30_2], b3_Root___init__ := b3_30, v3_Root___init__ := (.cons ⟨_, rfl⟩ (.cons ⟨_, rfl⟩ (.cons ⟨_, rfl⟩ .nil))), b_Root___init__ := b30,
    f_Root_parts := _, fd_Root_parts := _, F_Root_parts := F31, M_Root_parts := methB_ok vm31, b_Root_parts := b31,
    f_Root___eq__ := _, fd_Root___eq__ := _, F_Root___eq__ := F32, M_Root___eq__ := methB_ok vm32, b_Root___eq__ := b32,
    f_Root_whole := _, fd_Root_whole := _, F_Root_whole := F33, M_Root_whole := methB_ok vm33, b_Root_whole := b33,
    f_Root_mate := _, fd_Root_mate := _, F_Root_mate := F34, M_Root_mate := methB_ok vm34, b_Root_mate := b34,
    f_Root_is_below := _, fd_Root_is_below := _, F_Root_is_below := F35, M_Root_is_below := methB_ok vm35, b_Root_is_below := b35,
    f_Root_seen_by := _, fd_Root_seen_by := _, F_Root_seen_by := F36, M_Root_seen_by := methB_ok vm36, b_Root_seen_by := b36,
    f_Root_plus := _, fd_Root_plus := _, F_Root_plus := F37, M_Root_plus := methB_ok vm37, b_Root_plus := b37,
    f_Root_less := _, fd_Root_less := _, F_Root_less := F38, M_Root_less := methB_ok vm38, b_Root_less := b38,
    f_Root_times := _, fd_Root_times := _, F_Root_times := F39, M_Root_times := methB_ok vm39, b_Root_times := b39,
    f_Root_over := _, fd_Root_over := _, F_Root_over := F40, M_Root_over := methB_ok vm40, b_Root_over := b40,
    f_Stair_keep_rows := _, fd_Stair_keep_rows := _, F_Stair_keep_rows := F41, M_Stair_keep_rows := methB_ok vm41, b_Stair_keep_rows := b41,
    f_Stair___init__ := _, fd_Stair___init__ := _, F_Stair___init__ := F42, cl_Stair := clB_ok vc_Stair, na_Stair := vn_Stair, b_Stair___init__ := b42,
    f_Stair_ahead := _, fd_Stair_ahead := _, F_Stair_ahead := F43, M_Stair_ahead := methB_ok vm43, b_Stair_ahead := b43,
    f_Stair_ring := _, fd_Stair_ring := _, F_Stair_ring := F44, M_Stair_ring := methB_ok vm44, b_Stair_ring := b44,
    f_Stair___eq__ := _, fd_Stair___eq__ := _, F_Stair___eq__ := F45, M_Stair___eq__ := methB_ok vm45, b_Stair___eq__ := b45,
    f_Stair_at := _, fd_Stair_at := _, F_Stair_at := F46, M_Stair_at := methB_ok vm46, b_Stair_at := b46,
    f_Stair_behind := _, fd_Stair_behind := _, F_Stair_behind := F47, M_Stair_behind := methB_ok vm47, T_Stair_behind := dT47, its_Stair_behind := #[.int 1 dk47_0], b_Stair_behind := b47,
    f_Stair_number := _, fd_Stair_number := _, F_Stair_number := F48, M_Stair_number := methB_ok vm48, b_Stair_number := b48,
    f_Stair_fraction := _, fd_Stair_fraction := _, F_Stair_fraction := F49, M_Stair_fraction := methB_ok vm49, b_Stair_fraction := b49,
    C_NoNumber := C_NoNumber, fI_NoNumber := fI_NoNumber, fdI_NoNumber := _, FI_NoNumber := FI_NoNumber, bI_NoNumber := bI_NoNumber, X_NoNumber := fxB_ok pass_ArithmeticError (by decide +kernel) xf_NoNumber, gc_NoNumber := PySem.W.mg_of X G xg_NoNumber,
    C_NoPlace := C_NoPlace, fI_NoPlace := fI_NoPlace, fdI_NoPlace := _, FI_NoPlace := FI_NoPlace, bI_NoPlace := bI_NoPlace, X_NoPlace := fxB_ok pass_IndexError (by decide +kernel) xf_NoPlace, gc_NoPlace := PySem.W.mg_of X G xg_NoPlace,
    C_TooMany := C_TooMany, fI_TooMany := fI_TooMany, fdI_TooMany := _, FI_TooMany := FI_TooMany, bI_TooMany := bI_TooMany, X_TooMany := fxB_ok pass_OverflowError (by decide +kernel) xf_TooMany, gc_TooMany := PySem.W.mg_of X G xg_TooMany,
    C_NoKin := C_NoKin, R_NoKin := R_NoKin, gc_NoKin := PySem.W.mg_of X G R_NoKin.at_,
    C_NoStair := C_NoStair, R_NoStair := R_NoStair, gc_NoStair := PySem.W.mg_of X G R_NoStair.at_,
    v_LEAST_SQUARE := .int 2,
    u_LEAST_SQUARE := _,
    m_LEAST_SQUARE := PySem.W.mg_of X G g_LEAST_SQUARE,
    r_LEAST_SQUARE := ⟨_, rfl⟩,
    k_LEAST_SQUARE := fun _ _ => rfl,
    a_LOOKS := p_LOOKS,
    m_LOOKS := PySem.W.mg_of X G g_LOOKS,
    k_LOOKS := fun z d e => by
      unfold k_LOOKS at e
      split at e
      · rename_i hz
        rw [← Option.some.inj e, hz]
        exact ⟨.ref f0, ⟨_, _, _, l_LOOKS, y_LOOKS, e0_LOOKS, rfl⟩, fun H S => ⟨_, rfl, a0⟩⟩
      split at e
      · rename_i hz
        rw [← Option.some.inj e, hz]
        exact ⟨.ref f0, ⟨_, _, _, l_LOOKS, y_LOOKS, e1_LOOKS, rfl⟩, fun H S => ⟨_, rfl, a0⟩⟩
      split at e
      · rename_i hz
        rw [← Option.some.inj e, hz]
        exact ⟨.ref f5, ⟨_, _, _, l_LOOKS, y_LOOKS, e2_LOOKS, rfl⟩, fun H S => ⟨_, rfl, a5⟩⟩
      split at e
      · rename_i hz
        rw [← Option.some.inj e, hz]
        exact ⟨.ref f6, ⟨_, _, _, l_LOOKS, y_LOOKS, e3_LOOKS, rfl⟩, fun H S => ⟨_, rfl, a6⟩⟩
      exact absurd e (by simp),
    v_MOST_AHEAD := .int 20,
    u_MOST_AHEAD := _,
    m_MOST_AHEAD := PySem.W.mg_of X G g_MOST_AHEAD,
    r_MOST_AHEAD := ⟨_, rfl⟩,
    k_MOST_AHEAD := fun _ _ => rfl,
    v_MOST_NUMBER := .int 999999,
    u_MOST_NUMBER := _,
    m_MOST_NUMBER := PySem.W.mg_of X G g_MOST_NUMBER,
    r_MOST_NUMBER := ⟨_, rfl⟩,
    k_MOST_NUMBER := fun _ _ => rfl,
    v_MOST_RING := .int 40,
    u_MOST_RING := _,
    m_MOST_RING := PySem.W.mg_of X G g_MOST_RING,
    r_MOST_RING := ⟨_, rfl⟩,
    k_MOST_RING := fun _ _ => rfl,
    v_PARTS := .ref p_PARTS,
    u_PARTS := _,
    m_PARTS := PySem.W.mg_of X G g_PARTS,
    r_PARTS := rfl,
    k_PARTS := fun _ _ => (rp_ktup (vs := [.str "top", .str "often", .str "square", .str "bottom"]) lp_PARTS (by show 4 ≤ 1000; decide) (.cons ⟨_, rfl⟩ (.cons ⟨_, rfl⟩ (.cons ⟨_, rfl⟩ (.cons ⟨_, rfl⟩ .nil)))) (rpL_cons rfl (rpL_cons rfl (rpL_cons rfl (rpL_cons rfl rpL_nil))))),
    n_abs := PySem.W.mg_none_of X G z_abs,
    n_all := PySem.W.mg_none_of X G z_all,
    n_bool := PySem.W.mg_none_of X G z_bool,
    n_enumerate := PySem.W.mg_none_of X G z_enumerate,
    n_int := PySem.W.mg_none_of X G z_int,
    n_isinstance := PySem.W.mg_none_of X G z_isinstance,
    n_len := PySem.W.mg_none_of X G z_len,
    n_max := PySem.W.mg_none_of X G z_max,
    n_min := PySem.W.mg_none_of X G z_min,
    n_range := PySem.W.mg_none_of X G z_range,
    n_tuple := PySem.W.mg_none_of X G z_tuple,
    n_zip := PySem.W.mg_none_of X G z_zip
  }
  exact ⟨(PySem.W.fnOf "law" "law" (defArgs s_law) (defBody s_law) (defScope s_law) .none kV29 dc29 pm29 an29 cd29 ct29), [], upF K spLawD, (fun _ h => nomatch h), (fun _ h => nomatch h), (fun _ h => nomatch h), fun s v => .of_eq rfl, fun H a ns hl _ _ hS => law_start hS hl, fun base _ _ _ => ok_law (T base)⟩

end K75
open PySem PySem.W PyProof.Rows
set_option maxRecDepth 100000 in
set_option maxHeartbeats 0 in
theorem PySem.Challenge.cw_nearthrees_k75_whole_numbers_and_stairs_holds : PySem.Challenge.rw_nearthrees_k75_whole_numbers_and_stairs.Holds := by
  w_on; o_law; k_head; (case hw => w_witness2)
  k_fill
  refine Hx.lawG_end (l := PySem.Challenge.rw_nearthrees_k75_whole_numbers_and_stairs) (n := 63) (k := 11) (x := "_law_script") (CX := fun w => L2N.CX (PySem.Challenge.rw_nearthrees_k75_whole_numbers_and_stairs).prog w) rfl (by decide) rfl ⟨⟨rfl, by decide, by decide⟩, rfl⟩ (fun w h Y => PySem.W.kIn_of Y) ?F fun _ _ _ _ _ z => Dv.CX_no z
  case F =>
    intro w mg fa h Y KX G hmg
    refine' K75.all_mk KX G hmg ?vg_Root ?vg_Stair ?vis_Root ?vis_Stair ?a0 ?l0 ?c0 ?k0 ?a1 ?l1 ?c1 ?k1 ?a2 ?l2 ?c2 ?k2 ?a3 ?l3 ?c3 ?k3 ?a4 ?l4 ?c4 ?k4 ?a5 ?l5 ?c5 ?k5 ?a6 ?l6 ?c6 ?k6 ?a7 ?l7 ?c7 ?k7 ?a8 ?l8 ?c8 ?k8 ?a9 ?l9 ?c9 ?k9 ?a10 ?l10 ?c10 ?k10 ?a11 ?l11 ?c11 ?k11 ?a12 ?l12 ?c12 ?k12 ?a13 ?l13 ?c13 ?k13 ?a14 ?l14 ?c14 ?k14 ?a15 ?l15 ?c15 ?k15 ?a16 ?l16 ?c16 ?k16 ?a17 ?l17 ?c17 ?k17 ?a18 ?l18 ?c18 ?k18 ?a19 ?l19 ?c19 ?k19 ?a20 ?l20 ?c20 ?k20 ?a21 ?l21 ?c21 ?k21 ?a22 ?l22 ?c22 ?k22 ?a23 ?l23 ?c23 ?k23 ?a24 ?l24 ?c24 ?k24 ?a25 ?l25 ?c25 ?k25 ?a26 ?l26 ?c26 ?k26 ?a27 ?l27 ?c27 ?k27 ?a28 ?l28 ?c28 ?k28 ?a29 ?l29 ?c29 ?k29 ?a30 ?l30 ?dt30 ?c30 ?k30 ?vc_Root ?vn_Root ?a31 ?l31 ?c31 ?k31 ?vm31 ?a32 ?l32 ?c32 ?k32 ?vm32 ?a33 ?l33 ?c33 ?k33 ?vm33 ?a34 ?l34 ?c34 ?k34 ?vm34 ?a35 ?l35 ?c35 ?k35 ?vm35 ?a36 ?l36 ?c36 ?k36 ?vm36 ?a37 ?l37 ?c37 ?k37 ?vm37 ?a38 ?l38 ?c38 ?k38 ?vm38 ?a39 ?l39 ?c39 ?k39 ?vm39 ?a40 ?l40 ?c40 ?k40 ?vm40 ?a41 ?l41 ?c41 ?k41 ?vm41 ?a42 ?l42 ?c42 ?k42 ?vc_Stair ?vn_Stair ?a43 ?l43 ?c43 ?k43 ?vm43 ?a44 ?l44 ?c44 ?k44 ?vm44 ?a45 ?l45 ?c45 ?k45 ?vm45 ?a46 ?l46 ?c46 ?k46 ?vm46 ?a47 ?l47 ?dt47 ?c47 ?k47 ?vm47 ?a48 ?l48 ?c48 ?k48 ?vm48 ?a49 ?l49 ?c49 ?k49 ?vm49 ?xg_NoNumber ?xi_NoNumber ?xl_NoNumber ?xc_NoNumber ?xk_NoNumber ?xf_NoNumber ?xg_NoPlace ?xi_NoPlace ?xl_NoPlace ?xc_NoPlace ?xk_NoPlace ?xf_NoPlace ?xg_TooMany ?xi_TooMany ?xl_TooMany ?xc_TooMany ?xk_TooMany ?xf_TooMany ?rs_NoKin ?rs_NoStair ?g_LEAST_SQUARE ?g_LOOKS ?l_LOOKS ?y_LOOKS ?e0_LOOKS ?e1_LOOKS ?e2_LOOKS ?e3_LOOKS ?g_MOST_AHEAD ?g_MOST_NUMBER ?g_MOST_RING ?g_PARTS ?lp_PARTS ?z_abs ?z_all ?z_bool ?z_enumerate ?z_int ?z_isinstance ?z_len ?z_max ?z_min ?z_range ?z_tuple ?z_zip
    (case vg_Root => k_is)
    (case vg_Stair => k_is)
    (case vis_Root => kernel_rfl)
    (case vis_Stair => kernel_rfl)
    (case a0 => k_is)
    (case l0 => k_is)
    (case c0 => k_is)
    (case k0 => k_is)
    (case a1 => k_is)
    (case l1 => k_is)
    (case c1 => k_is)
    (case k1 => k_is)
    (case a2 => k_is)
    (case l2 => k_is)
    (case c2 => k_is)
    (case k2 => k_is)
    (case a3 => k_is)
    (case l3 => k_is)
    (case c3 => k_is)
    (case k3 => k_is)
    (case a4 => k_is)
    (case l4 => k_is)
    (case c4 => k_is)
    (case k4 => k_is)
    (case a5 => k_is)
    (case l5 => k_is)
    (case c5 => k_is)
    (case k5 => k_is)
    (case a6 => k_is)
    (case l6 => k_is)
    (case c6 => k_is)
    (case k6 => k_is)
    (case a7 => k_is)
    (case l7 => k_is)
    (case c7 => k_is)
    (case k7 => k_is)
    (case a8 => k_is)
    (case l8 => k_is)
    (case c8 => k_is)
    (case k8 => k_is)
    (case a9 => k_is)
    (case l9 => k_is)
    (case c9 => k_is)
    (case k9 => k_is)
    (case a10 => k_is)
    (case l10 => k_is)
    (case c10 => k_is)
    (case k10 => k_is)
    (case a11 => k_is)
    (case l11 => k_is)
    (case c11 => k_is)
    (case k11 => k_is)
    (case a12 => k_is)
    (case l12 => k_is)
    (case c12 => k_is)
    (case k12 => k_is)
    (case a13 => k_is)
    (case l13 => k_is)
    (case c13 => k_is)
    (case k13 => k_is)
    (case a14 => k_is)
    (case l14 => k_is)
    (case c14 => k_is)
    (case k14 => k_is)
    (case a15 => k_is)
    (case l15 => k_is)
    (case c15 => k_is)
    (case k15 => k_is)
    (case a16 => k_is)
    (case l16 => k_is)
    (case c16 => k_is)
    (case k16 => k_is)
    (case a17 => k_is)
    (case l17 => k_is)
    (case c17 => k_is)
    (case k17 => k_is)
    (case a18 => k_is)
    (case l18 => k_is)
    (case c18 => k_is)
    (case k18 => k_is)
    (case a19 => k_is)
    (case l19 => k_is)
    (case c19 => k_is)
    (case k19 => k_is)
    (case a20 => k_is)
    (case l20 => k_is)
    (case c20 => k_is)
    (case k20 => k_is)
    (case a21 => k_is)
    (case l21 => k_is)
    (case c21 => k_is)
    (case k21 => k_is)
    (case a22 => k_is)
    (case l22 => k_is)
    (case c22 => k_is)
    (case k22 => k_is)
    (case a23 => k_is)
    (case l23 => k_is)
    (case c23 => k_is)
    (case k23 => k_is)
    (case a24 => k_is)
    (case l24 => k_is)
    (case c24 => k_is)
    (case k24 => k_is)
    (case a25 => k_is)
    (case l25 => k_is)
    (case c25 => k_is)
    (case k25 => k_is)
    (case a26 => k_is)
    (case l26 => k_is)
    (case c26 => k_is)
    (case k26 => k_is)
    (case a27 => k_is)
    (case l27 => k_is)
    (case c27 => k_is)
    (case k27 => k_is)
    (case a28 => k_is)
    (case l28 => k_is)
    (case c28 => k_is)
    (case k28 => k_is)
    (case a29 => k_is)
    (case l29 => k_is)
    (case c29 => k_is)
    (case k29 => k_is)
    (case a30 => k_is)
    (case l30 => k_is)
    (case dt30 => k_is)
    (case c30 => k_is)
    (case k30 => k_is)
    (case vc_Root => kernel_rfl)
    (case vn_Root => kernel_rfl)
    (case a31 => k_is)
    (case l31 => k_is)
    (case c31 => k_is)
    (case k31 => k_is)
    (case vm31 => kernel_rfl)
    (case a32 => k_is)
    (case l32 => k_is)
    (case c32 => k_is)
    (case k32 => k_is)
    (case vm32 => kernel_rfl)
    (case a33 => k_is)
    (case l33 => k_is)
    (case c33 => k_is)
    (case k33 => k_is)
    (case vm33 => kernel_rfl)
    (case a34 => k_is)
    (case l34 => k_is)
    (case c34 => k_is)
    (case k34 => k_is)
    (case vm34 => kernel_rfl)
    (case a35 => k_is)
    (case l35 => k_is)
    (case c35 => k_is)
    (case k35 => k_is)
    (case vm35 => kernel_rfl)
    (case a36 => k_is)
    (case l36 => k_is)
    (case c36 => k_is)
    (case k36 => k_is)
    (case vm36 => kernel_rfl)
    (case a37 => k_is)
    (case l37 => k_is)
    (case c37 => k_is)
    (case k37 => k_is)
    (case vm37 => kernel_rfl)
    (case a38 => k_is)
    (case l38 => k_is)
    (case c38 => k_is)
    (case k38 => k_is)
    (case vm38 => kernel_rfl)
    (case a39 => k_is)
    (case l39 => k_is)
    (case c39 => k_is)
    (case k39 => k_is)
    (case vm39 => kernel_rfl)
    (case a40 => k_is)
    (case l40 => k_is)
    (case c40 => k_is)
    (case k40 => k_is)
    (case vm40 => kernel_rfl)
    (case a41 => k_is)
    (case l41 => k_is)
    (case c41 => k_is)
    (case k41 => k_is)
    (case vm41 => kernel_rfl)
    (case a42 => k_is)
    (case l42 => k_is)
    (case c42 => k_is)
    (case k42 => k_is)
    (case vc_Stair => kernel_rfl)
    (case vn_Stair => kernel_rfl)
    (case a43 => k_is)
    (case l43 => k_is)
    (case c43 => k_is)
    (case k43 => k_is)
    (case vm43 => kernel_rfl)
    (case a44 => k_is)
    (case l44 => k_is)
    (case c44 => k_is)
    (case k44 => k_is)
    (case vm44 => kernel_rfl)
    (case a45 => k_is)
    (case l45 => k_is)
    (case c45 => k_is)
    (case k45 => k_is)
    (case vm45 => kernel_rfl)
    (case a46 => k_is)
    (case l46 => k_is)
    (case c46 => k_is)
    (case k46 => k_is)
    (case vm46 => kernel_rfl)
    (case a47 => k_is)
    (case l47 => k_is)
    (case dt47 => k_is)
    (case c47 => k_is)
    (case k47 => k_is)
    (case vm47 => kernel_rfl)
    (case a48 => k_is)
    (case l48 => k_is)
    (case c48 => k_is)
    (case k48 => k_is)
    (case vm48 => kernel_rfl)
    (case a49 => k_is)
    (case l49 => k_is)
    (case c49 => k_is)
    (case k49 => k_is)
    (case vm49 => kernel_rfl)
    (case xg_NoNumber => k_is)
    (case xi_NoNumber => k_is)
    (case xl_NoNumber => k_is)
    (case xc_NoNumber => k_is)
    (case xk_NoNumber => k_is)
    (case xf_NoNumber => kernel_rfl)
    (case xg_NoPlace => k_is)
    (case xi_NoPlace => k_is)
    (case xl_NoPlace => k_is)
    (case xc_NoPlace => k_is)
    (case xk_NoPlace => k_is)
    (case xf_NoPlace => kernel_rfl)
    (case xg_TooMany => k_is)
    (case xi_TooMany => k_is)
    (case xl_TooMany => k_is)
    (case xc_TooMany => k_is)
    (case xk_TooMany => k_is)
    (case xf_TooMany => kernel_rfl)
    (case rs_NoKin => kernel_rfl)
    (case rs_NoStair => kernel_rfl)
    (case g_LEAST_SQUARE => k_is)
    (case g_LOOKS => k_is)
    (case l_LOOKS => k_is)
    (case y_LOOKS => exact ⟨⟨_, _, rfl, rfl⟩, ⟨_, _, rfl, rfl⟩, ⟨_, _, rfl, rfl⟩, ⟨_, _, rfl, rfl⟩, trivial⟩)
    (case e0_LOOKS => k_is)
    (case e1_LOOKS => k_is)
    (case e2_LOOKS => k_is)
    (case e3_LOOKS => k_is)
    (case g_MOST_AHEAD => k_is)
    (case g_MOST_NUMBER => k_is)
    (case g_MOST_RING => k_is)
    (case g_PARTS => k_is)
    (case lp_PARTS => k_is)
    (case z_abs => k_is)
    (case z_all => k_is)
    (case z_bool => k_is)
    (case z_enumerate => k_is)
    (case z_int => k_is)
    (case z_isinstance => k_is)
    (case z_len => k_is)
    (case z_max => k_is)
    (case z_min => k_is)
    (case z_range => k_is)
    (case z_tuple => k_is)
    (case z_zip => k_is)
#print axioms PySem.Challenge.cw_nearthrees_k75_whole_numbers_and_stairs_holds
