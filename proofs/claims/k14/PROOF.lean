import PyProof.Rows.All
import Wide.All
import OpenK.AllK
import Wide.FinOn
import HandS.CallSlots
import HandS.EndTab
import HandS.EndBits
import HandS.Words
import HandS.WordsExc
import HandS.HotCalls
import HandS.ExcCtx
import HandS.Lambda
import HandS.Comp
import KE.KExcIs
import KE.KTryMore
import HandS.IsInst
import HandS.ExcIs
import HandS.Codes
import HandS.Defaults
import HandS.TupMul
import HandS.SortKw
import HandS.FltList
import HandS.Iter
import KE.DataMinKey
import PyProof.WalkInts
import HandS.TupAny
import PyProof.SumAnyB
import PyProof.InstSpecial
import HandS.Rev
import HandS.MapObj
import HandS.MapJoin
import KE.DataMinMax
import HandS.List
import KE.SortData
import HandS.ForMost
import HandS.Exc
import HandS.ExcOwn
import HandS.Wide
import HandS.Style
import HandS.Conv
import HandS.More
import KE.KNestM
import HandS.WideBits
import HandS.Zip
import PyProof.StrLawsIn
import HandS.Dict
import PyProof.StrLawsRepr
import PyProof.FitsInt
import PyProof.Rows.RegStrFacts
import PyProof.ReprRoads
import HandS.ExcInit
import HandS.ExcField
import HandS.Strs
import HandS.Deep
import PyProof.P3In
import PyProof.TupleKey
import PyProof.DictRoadsH
import PyProof.DictKinds
import HandS.FStr
import KE.LtData
import KE.KSuperObj
import HandS.IntHex
import HandS.ReplaceLit
import PyProof.StrLawsReplace
import KE.GoesEnumKw
import PyProof.Rows.CountFlat
import PyProof.InstNe
import HandS.SlotsOwn
import KE.KCallOwn
import HandS.RaiseMore
import PyProof.EqKinds
import PyProof.FactsAll.bool_1
import PyProof.FactsAll.NoneType_1
import HandS.OwnEq
import PyProof.Rows.ReprOcc
import PySem.Challenge.RW_nearthrees_k14_roots_of_rings_and_turns
set_option Elab.async false
set_option linter.all false
set_option maxRecDepth 100000
set_option maxHeartbeats 4000000
/-! Promises of defs that are called where nothing is being shown (repr): calls, bodies, the law's end. -/
namespace Hx
open PySem PySem.Spec PyProof.Rows L2
/-- room for k calls, and no repr is under way -/
structure RoomG (k : Nat) (A : Around) : Prop where
  rm : Room k A
  gd : A.guards = some []
section
variable {j k : Nat} {A : Around}
theorem RoomG.mono (r : RoomG k A) (h : j ≤ k) : RoomG j A := ⟨r.rm.mono h, r.gd⟩
theorem RoomG.deeper (r : RoomG (k + 1) A) (env : Env) : RoomG k (A.deeper env) := ⟨r.rm.deeper env, r.gd⟩
theorem RoomG.in1 (r : RoomG (k + 1) A) : RoomG k A.in1 := ⟨r.rm.in1, r.gd⟩
theorem RoomG.depth (r : RoomG k A) : A.depth < recursionLimit := r.rm.depth
theorem RoomG.units (r : RoomG k A) : A.units + 64 < cLine := r.rm.units
theorem RoomG.hd (r : RoomG k A) : A.handled = none := r.rm.hd
end
structure FnG (P : Program) (w : World) (K : PySem.W.Frag) (mg : Str → Option Value) (base : Heap) (CX : CXT) (k : Nat) (f : Addr) (fd : FuncData) (ps : List Str) (sp : Sp) : Prop where
  len : ∀ vs H Q E, sp vs H Q E → vs.length = ps.length
  run : ∀ (A : Around) (outer : List Env) (s : Shared) (H : Hp) (args : Args) (us : List Value) (vs : List V) (Q : VK) (E : XK), RoomG k A → Env0 P w K mg base A outer s H → BindsTo s fd args (ps.zip us) → Vals vs us → sp vs H Q E →
    codeAny (model P w) A (.call (.ref f) args) (CR CX outer P w H s Q E) s
section
variable {X : Cx} {CX : CXT} {k : Nat} {f : Addr} {fd : FuncData} {ps : List Str} {sp : Sp} {dvs : List V} {ds : List Value} {E : L2.St → XK} {x : Str} {p pos : Pos} {e : Expr} {es : List Expr} {t : TA}
theorem fnG_run {pins : List (Addr × Obj)} {σ : L2.St} {H : Hp} {s : Shared} {Q : VK} {us : List Value} {vs : List V} (F : FnG X.prog X.w X.K X.mg X.base CX k f fd ps sp) (hr : RoomG k X.A) (hb : Binds X.K fd ps ds) (hd : Vals dvs ds) (hx : PassesAt CX X σ (E σ))
    (I : Inv X pins σ H s) (r : Vals vs us) (h : sp (vs ++ dvs) H Q (E σ)) : wpAny (model X.prog X.w) X.A (call (.ref f) us) (EP X pins σ Q) X.xe s := by
  have all : Vals (vs ++ dvs) (us ++ ds) := r.append hd
  have bind := hb s us I.kIn (by rw [← all.length]; exact F.len _ _ _ _ h)
  refine wpAny_call (codeAny_mono (F.run X.A X.stack s H _ _ _ Q (E σ) hr I.env0 bind all h) fun out s' got => ?_)
  match out, got with
  | .error e, got => exact hx pins H s e s' I got
  | .ok (.ret u), got => exact I.after got
/-- f(e, ..) -/
theorem pe_callG (F : FnG X.prog X.w X.K X.mg X.base CX k f fd ps sp) (hr : RoomG k X.A) (hg : Gl X x) (hm : X.mg x = some (.ref f)) (hk : PySem.W.keepIn X.K (.ref f) = true) (hb : Binds X.K fd ps ds) (hd : Vals dvs ds) (hx : ∀ σ, PassesAt CX X σ (E σ))
    (ha : PA X (e :: es) t) (hdb : (x == ("__debug__" : Str)) = false := by decide) (he : starEach (e :: es) X.env = (false, eval e X.env) :: starEach es X.env := by rfl) (hpl : (backTo pos (starEach es X.env)).any (·.1) = false := by rfl) :
    PE X (.Call (.Name x p) (e :: es) [] pos) (tCallSD sp dvs E t) :=
  ⟨fun pins s σ H Q I h => wpAny_Call_Name_kw (ld_glob I hg hm (PySem.W.callWith_K (h₀ := X.base) I.ok.mod.kin hk (thn (ha.run pos pins s σ H _ I h) fun us s1 ⟨vs, H1, I1, r, q⟩ => ⟨I1.kIn, fnG_run F hr hb hd (hx σ) I1 r q⟩) he hpl) hdb)⟩
end
/-- a def by its body -/
theorem fnG_of {CX : CXT} {P : Program} {w : World} {K : PySem.W.Frag} {mg : Str → Option Value} {base : Heap} {k : Nat} {f : Addr} {x qual : Str} {st : Stmt} {fd : FuncData} {N ps : List Str} {sp : Sp} (F : L2.Fun K x qual st f fd) (S : FnScope N ps (defScope st)) (len : ∀ vs H Q E, sp vs H Q E → vs.length = ps.length)
    (body : ∀ (cdv : Value), cdv = fd.code → ∀ (A : Around) (outer : List Env) (s : Shared) (H : Hp) (vs : List V) (Q : VK) (E : XK), RoomG k (A.deeper (envOfC qual (defScope st) s.heap.objs.size f cdv)) → sp vs H Q E →
      ∃ t, PSs (cxOf CX P w K mg base N qual (defScope st) f cdv A outer s H E) (defBody st) t ∧ t { nx := fun _ H' => Q .non H', rt := Q } (L2.start N vs) H) : FnG P w K mg base CX (k + 1) f fd ps sp := by
  refine ⟨len, fun A outer s H args us vs Q E room e0 bind r q => ?_⟩
  obtain ⟨oc, od, kV, doc, pm, an, cdv, ct, osl, rfl, lk, code⟩ := F.ex
  have KX : K.In s.heap := e0.mod.kin.keeps fun b o e => (e0.bs b o e).1
  have lim : s.heap.NoLimit := e0.mod.nolimit.keeps fun b o e => (e0.bs b o e).1
  have known : ∀ y ∈ ps.zip us, (defScope st).names.lookup y.1 = some .local ∨ ((defScope st).names.lookup y.1 = some .cell ∧ ((cellsFrom (s.heap.objs.size + 1) (defScope st).names []).lookup y.1).isSome = true) := fun y hy =>
    (S.par y.1 (List.of_mem_zip (a := y.1) (b := y.2) hy).1).imp id fun z => ⟨z, PySem.W.cellsFrom_some _ _ _ (.inl z)⟩
  refine codeAny_call_function room.depth (KX _ _ lk) rfl S.co S.gen rfl (PySem.W.codeRec_of KX code) (bind _ _ _ _ (wpAny_newFunctionEnv_cells S.kind known fun env he s1 y => ?_))
  subst he
  obtain ⟨t, ht, hq⟩ := body cdv rfl A outer s H vs Q E (room.deeper _) q
  have I : Inv (cxOf CX P w K mg base N qual (defScope st) f cdv A outer s H E) [] (L2.start N vs) H s1 := inv_start S room.hd e0 (len _ _ _ _ q) r y
  refine ⟨lim.keeps y.toInCall.keep, codeAny_func (wpAny_mono (ht.run [] s1 _ H _ I hq) (fun fl s' z => ?_) fun e s' z => z)⟩
  match fl, z with
  | .ret u, ⟨v, σ', H', J, rv, z⟩ => exact ⟨v, H', J.os, J.bare, J.base, J.hok, rv, z⟩
  | .next, ⟨σ', H', J, z⟩ => exact ⟨.non, H', J.os, J.bare, J.base, J.hok, rfl, z⟩
  | .brk, ⟨_, _, _, z⟩ => exact z.elim
  | .cont, ⟨_, _, _, z⟩ => exact z.elim
/-! ### the law -/
section
variable {P : Program} {w : World} {K : PySem.W.Frag} {mg mb : Str → Option Value} {CX : CXT} {k : Nat} {fa a : Addr} {cs : List (Addr × Addr)} {fd : FuncData} {x : Str} {sp : Sp} {s : Shared} {vs : List Value} {ns : List Int}
abbrev tblO : Obj := { cls := .none, data := .fields #[] }
abbrev scrO (vs : List Value) : Obj := { cls := .type "list", data := .seq vs.toArray }
/-- the heap at the law's start: its tables, and the script where the written part has it not -/
def lawH (K : PySem.W.Frag) (cs : List (Addr × Addr)) (a : Addr) (vs : List Value) (ns : List Int) : Hp := fun b => if b ∈ cs.map (·.2) then some (.tbl #[]) else if b = a ∧ K.lookup a = none then some (.frz (scrO vs) (.lst (ns.map V.int))) else none
theorem lawH_tab {b : Addr} (h : b ∈ cs.map (·.2)) : lawH K cs a vs ns b = some (.tbl #[]) := if_pos h
theorem lawH_cases (b : Addr) : (b ∈ cs.map (·.2) ∧ lawH K cs a vs ns b = some (.tbl #[])) ∨ (b ∉ cs.map (·.2) ∧ (b = a ∧ K.lookup a = none) ∧ lawH K cs a vs ns b = some (.frz (scrO vs) (.lst (ns.map V.int)))) ∨ (b ∉ cs.map (·.2) ∧ ¬ (b = a ∧ K.lookup a = none) ∧ lawH K cs a vs ns b = none) := by
  unfold lawH
  by_cases h : b ∈ cs.map (·.2)
  · exact .inl ⟨h, if_pos h⟩
  · by_cases g : b = a ∧ K.lookup a = none
    · exact .inr (.inl ⟨h, g, (if_neg h).trans (if_pos g)⟩)
    · exact .inr (.inr ⟨h, g, (if_neg h).trans (if_neg g)⟩)
theorem lawG_call (KX : K.In s.heap) (hm : s.heap.Ns mainGlobals mg) (hb : s.heap.Ns builtinsNs mb) (hbo : ∀ x : Str, x ≠ "__name__" → mb x = bootBuiltins x) (hn : s.heap.NoLimit) (hgen : s.gens = #[])
    (hT : ∀ p ∈ cs, s.heap.get? p.2 = some tblO) (nT : ∀ p ∈ cs, K.lookup p.2 = none) (hC : ∀ p ∈ cs, PySem.W.CodeHd s.heap p.1 p.2)
    (hbm : ∃ (bm : Addr) (ob : Obj), mg "__builtins__" = some (.ref bm) ∧ bm ≠ builtinsNs ∧ s.heap.get? bm = some ob ∧ ob.cls = .type "module" ∧ ob.dict = some builtinsNs ∧ ob.data = .plain)
    (ha : s.heap.get? a = some (scrO vs)) (hi : IntsAre vs ns) (hl : ns.length ≤ sizeLine) (hr : RoomG k callerA)
    (F : ∀ base : Heap, K.In base → base.Ns mainGlobals mg → (∀ p ∈ cs, LamX.TabB base mg p.1 p.2) → FnG P w K mg base CX k fa fd [x] sp) (bind : ∀ (s : Shared) (u : Value), BindsTo s fd ⟨[u], []⟩ [(x, u)])
    (hsp : ∀ H : Hp, (∀ p ∈ cs, H p.2 = some (.tbl #[])) → SqL K H a (ns.map V.int) → sp [.ref a] H (fun v _ => v = .bl true) fun _ _ _ => False)
    (hCX : ∀ H e s', CX [] H s (fun _ _ _ => False) e s' → False) :
    codeAny (model P w) callerA (.call (.ref fa) ⟨[.ref a], []⟩) (fun r s' => r = .ok (.ret (.bool true)) ∧ OldK s.heap s'.heap ∧ s'.os = s.os ∧ AllBare s'.gens) s := by
  have tabAt : ∀ b, b ∈ cs.map (·.2) → s.heap.get? b = some tblO := fun b h => by
    obtain ⟨p, hp, e⟩ := List.mem_map.mp h
    exact e ▸ hT p hp
  have tabK : ∀ b, b ∈ cs.map (·.2) → K.lookup b = none := fun b h => by
    obtain ⟨p, hp, e⟩ := List.mem_map.mp h
    exact e ▸ nT p hp
  have inT : ∀ p ∈ cs, p.2 ∈ cs.map (·.2) := fun p hp => List.mem_map.mpr ⟨p, hp, rfl⟩
  have aT : a ∉ cs.map (·.2) := fun h => by
    have z := ha.symm.trans (tabAt a h)
    cases z
  -- what is neither a list nor an empty record isn't tracked
  have out : ∀ {b : Addr} {o : Obj}, s.heap.get? b = some o → (∀ us n, o.data ≠ .seq us n) → o.data ≠ .fields #[] → lawH K cs a vs ns b = none := fun {b o} e h1 h2 => by
    rcases lawH_cases (K := K) (cs := cs) (a := a) (vs := vs) (ns := ns) b with ⟨z, _⟩ | ⟨_, z, _⟩ | ⟨_, _, z⟩
    · rw [tabAt b z] at e
      cases e
      exact absurd rfl h2
    · rw [z.1, ha] at e
      cases e
      exact absurd rfl (h1 _ _)
    · exact z
  have seen : ∀ {b : Addr} {o : Obj}, s.heap.get? b = some o → (∀ us n, o.data ≠ .seq us n) → o.data ≠ .fields #[] → (hidT s.heap (lawH K cs a vs ns)).get? b = some o := fun e h1 h2 => hidT_get e (out e h1 h2)
  have space : ∀ {b : Addr} {m : Str → Option Value}, s.heap.Ns b m → (hidT s.heap (lawH K cs a vs ns)).Ns b m := fun ⟨o, es, ep, e, d, r⟩ => ⟨o, es, ep, seen e (fun us n z => by rw [d] at z; cases z) (fun z => by rw [d] at z; cases z), d, r⟩
  have KB : K.In (hidT s.heap (lawH K cs a vs ns)) := fun b o e => hidT_get (KX b o e) (by
    rcases lawH_cases (K := K) (cs := cs) (a := a) (vs := vs) (ns := ns) b with ⟨z, _⟩ | ⟨_, z, _⟩ | ⟨_, _, z⟩
    · rw [tabK b z] at e
      cases e
    · rw [z.1, z.2] at e
      cases e
    · exact z)
  have hmod : L2.Mod K mg (hidT s.heap (lawH K cs a vs ns)) := ⟨KB, space hm, ⟨mb, space hb, hbo⟩, hn.imp fun _ h => ⟨space h.1, h.2⟩⟩
  have TB : ∀ p ∈ cs, LamX.TabB (hidT s.heap (lawH K cs a vs ns)) mg p.1 p.2 := fun p hp => by
    have tp := hT p hp
    refine ⟨?_, ?_, fun z => ?_⟩
    · obtain ⟨o, us, c1, c2, c3, c4, c5, c6, c7, e1, r1, r2, r3, rest⟩ := hC p hp
      refine ⟨o, us, c1, c2, c3, c4, c5, c6, c7, seen e1 (fun vs n z => by rw [r2] at z; cases z) (fun z => ?_), r1, r2, r3, rest⟩
      rw [r2] at z
      cases z
      simp at r3
    · obtain ⟨bm, ob, b1, b2, b3, b4, b5, b6⟩ := hbm
      have n1 : bm ≠ mainGlobals := fun q => by
        obtain ⟨o, es, ep, e, d, _⟩ := hm
        rw [← q, b3] at e
        cases e
        rw [b6] at d
        cases d
      have n2 : bm ≠ p.2 := fun q => by
        rw [q, tp] at b3
        cases b3
        cases b6
      exact ⟨bm, ob, b1, b2, n1, n2, seen b3 (fun vs n z => by rw [b6] at z; cases z) (fun z => by rw [b6] at z; cases z), b4, b5, b6⟩
    · obtain ⟨o, es, ep, e, d, _⟩ := hm
      rw [z, tp] at e
      cases e
      cases d
  have hok : HOk P w (lawH K cs a vs ns) s.heap := fun b u e => by
    rcases lawH_cases (K := K) (cs := cs) (a := a) (vs := vs) (ns := ns) b with ⟨z, q⟩ | ⟨_, z, q⟩ | ⟨_, _, q⟩
    · cases q.symm.trans e
      exact tabAt b z
    · cases q.symm.trans e
      rw [z.1]
      exact ⟨ha, by rw [List.length_map]; exact hl, vs, _, vals_ints hi, ha⟩
    · cases q.symm.trans e
  have e0 : Env0 P w K mg (hidT s.heap (lawH K cs a vs ns)) callerA [] s (lawH K cs a vs ns) := ⟨rfl, hmod, fun b o e => of_hidT e, Nat.le_of_eq (hidT_size _ _), trivial, fun b z => (nomatch (show b ∈ ([] : List Addr) from z)), hok, .of_eq hgen⟩
  have list : SqL K (lawH K cs a vs ns) a (ns.map V.int) := by
    cases q : K.lookup a with
    | some o =>
      cases ha.symm.trans (KX a o q)
      exact .inr ⟨_, vs.toArray, _, q, rfl, rfl, rfl, by rw [List.size_toArray, hi.length]; exact hl, by simpa using vals_ints hi⟩
    | none => exact .inl (.inr ⟨scrO vs, (if_neg aT).trans (if_pos ⟨rfl, q⟩)⟩)
  refine codeAny_mono ((F _ KB (space hm) TB).run callerA [] s (lawH K cs a vs ns) ⟨[.ref a], []⟩ [.ref a] [.ref a] _ _ hr e0 (bind s (.ref a)) (.cons rfl .nil) (hsp _ (fun p hp => lawH_tab (inT p hp)) list)) fun r s' got => ?_
  match r, got with
  | .error e, got => exact (hCX _ e s' got).elim
  | .ok (.ret u), ⟨v, H', os, bare, un, hok', rv, q⟩ =>
    have q' : v = .bl true := q
    subst q'
    obtain rfl : u = Value.bool true := rv
    have kept : ∀ b o, b ∉ cs.map (·.2) → s.heap.get? b = some o → s'.heap.get? b = some o := fun b o nb e => by
      rcases lawH_cases (K := K) (cs := cs) (a := a) (vs := vs) (ns := ns) b with ⟨z, _⟩ | ⟨_, z, q⟩ | ⟨_, _, q⟩
      · exact absurd z nb
      · have h1 := (hok b _ q).1
        rw [e] at h1
        cases h1
        exact (hok' b _ (un.frzs b _ _ q)).1
      · exact un.keep b o e q (fun z => (nomatch (show b ∈ ([] : List Addr) from z))) (fun z => (nomatch z))
    have grown : ∀ p ∈ cs, ∃ more : Array Value, s'.heap.get? p.2 = some { cls := .none, data := .fields more } := fun p hp => by
      obtain ⟨more, z⟩ := un.tbls p.2 #[] (lawH_tab (inT p hp))
      exact ⟨_, hok' p.2 _ z⟩
    refine ⟨rfl, ⟨fun b o e => ?_, fun b o e => ?_⟩, os, bare⟩
    · by_cases hb : b ∈ cs.map (·.2)
      · obtain ⟨p, hp, rfl⟩ := List.mem_map.mp hb
        obtain ⟨more, hmo⟩ := grown p hp
        cases (hT p hp).symm.trans e
        exact .inr (.inl ⟨((hC p hp).tab (hT p hp)).isCodeTable, rfl, #[], more, rfl, by rw [Array.empty_append]; exact hmo⟩)
      · exact .inl (kept b o hb e)
    · by_cases hb : b ∈ cs.map (·.2)
      · obtain ⟨p, hp, rfl⟩ := List.mem_map.mp hb
        obtain ⟨more, hmo⟩ := grown p hp
        exact ⟨_, hmo⟩
      · exact ⟨o, kept b o hb e⟩
end
/-- what is known of the law at the head's heap -/
def LawG (l : PySem.W.OpenLaw) (w : World) (K : PySem.W.Frag) (CX : CXT) (k n : Nat) (x : Str) (mg : Str → Option Value) (fa : Addr) (h : Heap) : Prop :=
  ∃ (fd : FuncData) (cs : List (Addr × Addr)) (sp : Sp), (∀ p ∈ cs, h.get? p.2 = some tblO) ∧ (∀ p ∈ cs, K.lookup p.2 = none) ∧ (∀ p ∈ cs, PySem.W.CodeHd h p.1 p.2) ∧ (∀ (s : Shared) (u : Value), BindsTo s fd ⟨[u], []⟩ [(x, u)]) ∧
    (∀ (H : Hp) (a : Addr) (ns : List Int), ns.length ≤ n → (∀ z ∈ ns, Builtin.Int.intBits z ≤ 1048576) → (∀ p ∈ cs, H p.2 = some (.tbl #[])) → SqL K H a (ns.map V.int) → sp [.ref a] H (fun v _ => v = .bl true) fun _ _ _ => False) ∧
    ∀ base : Heap, K.In base → base.Ns mainGlobals mg → (∀ p ∈ cs, LamX.TabB base mg p.1 p.2) → FnG l.prog w K mg base CX k fa fd [x] sp
theorem lawG_end {l : PySem.W.OpenLaw} {n k : Nat} {q : Program} {loose : List Str} {XP : (Str → Option Value) → Heap → Prop} {YP : World → Heap → Prop} {d : DefRec} {K : Params → PySem.W.Frag} {CX : World → CXT} {x : Str}
    (hn : l.most = some n) (hn2 : n ≤ sizeLine) (hdf : d.params.defaults = []) (hr : RoomG k callerA) (hY : ∀ (w : World) (h : Heap), YP w h → (K w.params).In h)
    (F : ∀ (w : World) (mg : Str → Option Value) (fa : Addr) (h : Heap), YP w h → (K w.params).In h → h.Ns mainGlobals mg → mg d.name = some (.ref fa) → LawG l w (K w.params) (CX w) k n x mg fa h)
    (hCX : ∀ (w : World) (H : Hp) (s : Shared) (e : Value) (s' : Shared), CX w [] H s (fun _ _ _ => False) e s' → False) :
    PySem.W.WalkO q loose XP YP l.row.toRowW d [] (fun f vs => PySem.call f vs) :=
  Att.attach_callB hn hdf fun w s₀ s₁ mg mb fa o pm cd doc a vs ns G Y ho hd hcd hmg hobj hints hlen hbits hg =>
    let KX := hY w _ Y
    let ⟨_, _, _, hT, nT, hC, hb, hsp, hF⟩ := F w mg fa _ Y KX G.T.g hmg
    lawG_call KX G.T.g G.T.b G.T.builtins G.T.nolimit hg hT nT hC G.T.bmain hobj hints (Nat.le_trans hlen hn2) hr hF hb (fun H hH hS => hsp H a ns hlen hbits hH hS) fun H e s' => hCX w H s₁ e s'
end Hx

/-! loops and stores while an exception is handled -/
namespace Hx
open PySem PySem.Spec PyProof.Rows L2 HotX
section
variable {prog : Program} {w : World} {A : Around} {E : Value → Shared → Prop} {s : Shared}
/-- the end of an iterator, told by an exception of its own that nobody sees -/
theorem told_end {B : Around} {x1 : Addr} {Q : Option Value → Shared → Prop} (hot : HotAt B x1 s.heap)
    (k : ∀ h' : Heap, (∀ b o, s.heap.get? b = some o → h'.get? b = some o) → Q none { s with heap := h' }) {α : Type} {P : α → Shared → Prop} :
    wpAny (model prog w) B (newExc (.type "StopIteration") [] >>= fun e => (raiseNew e : Sem α)) P
      (fun e s' => wpAny (model prog w) A (do if ← isInstance e (.type "StopIteration") then pure none else throw e) Q E s') s := by
  obtain ⟨hh, o1, v1, g1, d1, c1⟩ := hot
  refine wpAny_bind ?_
  unfold newExc newTuple
  have g2 : ∀ (a c : Obj) (b : Addr) (o : Obj), s.heap.get? b = some o → ((s.heap.push a).push c).get? b = some o := fun a c b o e => Heap.get?_push_of_some _ (Heap.get?_push_of_some _ e)
  refine wpAny_bind (wpAny_newObj_type (wpAny_bind (m := firstArgMember _ _) (wpAny_of_eq (a := Value.none) (by first | rfl | (simp only [firstArgMember]; rfl)) (wpAny_newObj_type ?_ (by size_fits)))) (by size_fits))
  dsimp only
  generalize hv : (#[Value.ref s.heap.objs.size, Value.none, Value.none, Value.none, Value.bool false, Value.none] ++ ownMembersOf (Value.type "StopIteration") [] : Array Value) = vs
  have h2 : 2 < vs.size := by rw [← hv, Array.size_append]; simp; omega
  refine raiseNew_hot ⟨hh, o1, v1, g2 _ _ _ _ g1, d1, c1⟩ (Nat.ne_of_lt (Heap.lt_size (Heap.get?_push_of_some _ g1))) (Heap.get?_push_size _ rfl) rfl h2 ?_
  refine wpAny_bind (wpAny_isInstance (b := true) ⟨_, Heap.get?_update_self _ (Heap.get?_push_size _ rfl) rfl, rfl⟩ isSubtype_stop (wpAny_pure (k _ fun b o e => ?_)))
  have lt := Heap.lt_size (Heap.get?_push_of_some { cls := .type "tuple", data := .seq ([] : List Value).toArray } e)
  exact (Heap.get?_update_other _ _ (Nat.ne_of_gt lt)).trans (g2 _ _ _ _ e)
/-- the object of the handled exception is no iterator -/
theorem hot_ne {x1 it : Addr} {o : Obj} {a b : Value} (hot : HotAt A x1 s.heap) (ho : s.heap.get? it = some o) (hd : o.data = .fields #[a, b]) : it ≠ x1 := fun z => by
  obtain ⟨_, o1, v1, g1, d1, c1⟩ := hot
  subst z
  rw [ho] at g1
  cases g1
  rw [hd] at d1
  cases d1
  simp at c1
theorem hot_upd {x1 it : Addr} {f : Obj → Obj} (hot : HotAt A x1 s.heap) (ne : it ≠ x1) : HotAt A.in1 x1 (s.heap.update it f) := by
  obtain ⟨hh, o1, v1, g1, d1, c1⟩ := hot
  exact ⟨hh, o1, v1, (Heap.get?_update_other _ _ ne).trans g1, d1, c1⟩
theorem list_end_hot {it l x1 : Addr} {i : Nat} {items : Array Value} {Q : Option Value → Shared → Prop} (hot : HotAt A x1 s.heap) (hit : s.heap.IsListIter it l i) (hl : s.heap.IsList l items) (hx : items[i]? = none)
    (hQ : ∀ h', (∀ b o, b ≠ it → s.heap.get? b = some o → h'.get? b = some o) → Q none { s with heap := h' }) : wpAny (model prog w) A (pyNext (.ref it)) Q E s := by
  have hT := hit.typeIs
  obtain ⟨o, ho, hc, hd⟩ := hit
  obtain ⟨ol, hol, _, nl, hdl⟩ := hl
  unfold pyNext
  refine wpAny_bind (wpAny_attempt (wpAny_callSpecial?_slot (name := Str.ofString "__next__") hT slot_listiter_next (wpAny_call_entry slot_listiter_next hT entry_listiter_next ?_ (args_listiter_next _))))
  show wpAny _ _ (field (.ref it) 0 >>= _) _ _ s
  refine wpAny_bind (wpAny_field ho hd (x := .ref l) rfl ?_)
  have nn : ¬ ((Value.ref l == Value.none) = true) := Bool.false_ne_true
  refine (if_neg nn).symm ▸ (show wpAny _ _ (field (.ref it) 1 >>= _) _ _ s from wpAny_bind (wpAny_field ho hd (x := .int i 0) rfl ?_))
  refine (show wpAny _ _ (seqItems? (.ref l) >>= _) _ _ s from wpAny_bind (wpAny_seqItems hol hdl ?_))
  simp only [Int.toNat_natCast, hx]
  refine wpAny_bind (wpAny_rule (wpAny_bind (wpAny_setField ho hd (by simp) ?_)))
  refine told_end (prog := prog) (w := w) (A := A) (B := A.in1) (E := E) (Q := Q) (s := { s with heap := _ }) (hot_upd hot (hot_ne hot ho hd)) fun h' k => hQ h' fun b o ne e => k b o ?_
  exact (Heap.get?_update_other _ _ (Ne.symm ne)).trans e
theorem tuple_end_hot {it l x1 : Addr} {i : Nat} {items : Array Value} {Q : Option Value → Shared → Prop} (hot : HotAt A x1 s.heap) (hit : IsTupIter s.heap it l i) (hl : IsTup s.heap l items) (hx : items[i]? = none)
    (hQ : ∀ h', (∀ b o, b ≠ it → s.heap.get? b = some o → h'.get? b = some o) → Q none { s with heap := h' }) : wpAny (model prog w) A (pyNext (.ref it)) Q E s := by
  have hT := hit.typeIs
  obtain ⟨o, ho, hc, hd⟩ := hit
  obtain ⟨ol, hol, _, nl, hdl⟩ := hl
  unfold pyNext
  refine wpAny_bind (wpAny_attempt (wpAny_callSpecial?_slot (name := Str.ofString "__next__") hT slot_tupleiter_next (wpAny_call_entry slot_tupleiter_next hT entry_tupleiter_next ?_ (args_tupleiter_next _))))
  show wpAny _ _ (field (.ref it) 0 >>= _) _ _ s
  refine wpAny_bind (wpAny_field ho hd (x := .ref l) rfl ?_)
  have nn : ¬ ((Value.ref l == Value.none) = true) := Bool.false_ne_true
  refine (if_neg nn).symm ▸ (show wpAny _ _ (field (.ref it) 1 >>= _) _ _ s from wpAny_bind (wpAny_field ho hd (x := .int i 0) rfl ?_))
  refine (show wpAny _ _ (seqItems? (.ref l) >>= _) _ _ s from wpAny_bind (wpAny_seqItems hol hdl ?_))
  simp only [Int.toNat_natCast, hx]
  refine wpAny_bind (wpAny_rule (wpAny_bind (wpAny_setField ho hd (by simp) ?_)))
  refine told_end (prog := prog) (w := w) (A := A) (B := A.in1) (E := E) (Q := Q) (s := { s with heap := _ }) (hot_upd hot (hot_ne hot ho hd)) fun h' k => hQ h' fun b o ne e => k b o ?_
  exact (Heap.get?_update_other _ _ (Ne.symm ne)).trans e
/-- a, b, .. = t, t a tuple of so many -/
theorem unpack_hot {x1 t : Addr} {items : Array Value} {targets : List (Bool × (Value → Sem Unit))} {Q : Unit → Shared → Prop} (hot : HotAt A x1 s.heap) (ht : IsTup s.heap t items) (hn : targets.length = items.size) (hstar : targets.findIdx? (·.1) = none)
    (h : ∀ h', (∀ b o, s.heap.get? b = some o → h'.get? b = some o) → wpAny (model prog w) A (assignInOrder (targets.map (·.2)) items.toList) Q E { s with heap := h' }) : wpAny (model prog w) A (unpack (.ref t) targets) Q E s := by
  have lt : t < s.heap.objs.size := let ⟨_, e, _⟩ := ht; Heap.lt_size e
  have it0 : IsTupIter (s.heap.push { cls := .type "tuple_iterator", data := .fields #[.ref t, .int 0 0] }) s.heap.objs.size t 0 := ⟨_, Heap.get?_push_size _ rfl, rfl, rfl⟩
  have all : (items.toList.drop 0).take items.size = items.toList := List.take_of_length_le (by simp)
  unfold unpack unpackItems notIterableAtAll
  rw [hn, hstar]
  refine wpAny_bind (wpAny_holding (wpAny_bind (wpAny_bind (wpAny_specialOf ht.typeIs slot_tuple_iter.lookup (wpAny_pure ?_)))))
  rw [if_neg Bool.false_ne_true]
  refine wpAny_bind (wpAny_holding (iter_tuple ht (wpAny_bind (wpAny_holding (draw_tuple (Nat.ne_of_lt lt) items.size 0 _ _ it0 (ht.push _) (by omega) fun h1 it1 sb => ?_)))))
  have t1 : IsTup h1 t items := (ht.push _).extBut sb.extBut (Nat.ne_of_lt lt)
  have k1 : ∀ b o, s.heap.get? b = some o → h1.get? b = some o := fun b o e => sb.extBut b o (Nat.ne_of_lt (Heap.lt_size e)) (Heap.get?_push_of_some _ e)
  have hot1 : HotAt A x1 h1 := let ⟨hh, o1, v1, g1, d1, c1⟩ := hot; ⟨hh, o1, v1, k1 _ _ g1, d1, c1⟩
  rw [all, if_neg (by simp)]
  refine wpAny_bind (wpAny_holding (tuple_end_hot (s := { s with heap := h1 }) hot1 it1 t1 (by simp) fun h2 k2 => ?_))
  simp only [Option.isSome_none, Bool.false_eq_true, if_false]
  exact wpAny_pure (h h2 fun b o e => k2 b o (Nat.ne_of_lt (Heap.lt_size e)) (k1 b o e))
end
section
variable {X : Cx} {pos : Pos}
theorem pg_tupH {es : List Expr} {k : Nat} {t : TGs} {n : Nat} (hc : L2H.HotC X) (h : PGs X es t) (hn : (assignEach es X.env).length = n := by rfl) (hst : (assignEach es X.env).findIdx? (·.1) = none := by rfl) : PG X (.Tuple es k pos) (gTup X.K n t) :=
  ⟨fun pins s σ H v u Q I r ⟨a, xs, e, hq, hl, hw⟩ => by
    subst e
    obtain rfl : u = Value.ref a := r
    obtain ⟨its, rv, ht, _⟩ := I.tuple hq
    obtain ⟨x1, hot⟩ := hc.at I
    rw [assign_Tuple]
    refine wpAny_bind (wpAny_standAt (unpack_hot hot ht (by rw [hn, ← hl, rv.length]; simp) hst fun h' k => ?_))
    have I' : Inv X pins σ H { s with heap := h' } := I.kept (t' := s.toks) k
    simpa using h.run pins _ σ H xs _ Q I' (by simpa using rv) hw⟩
theorem turn_listH {P : Program} {w : World} {K : PySem.W.Frag} {tg : Expr} (a it : Addr) : L2H.TurnH P w K tg (Itl K a) [it] it (fun i h => h.IsListIter it a i) := by
  have T := turn_list (P := P) (w := w) (K := K) (tg := tg) a it
  refine ⟨T.mem, T.obj, T.keep, ?_, ?_, T.self⟩
  · intro X hP hw hK _ i pins s σ H E I hf st ⟨xs, x, hq, hx⟩
    subst hP hw hK
    obtain ⟨its, rv, p, _⟩ := I.list hq
    obtain ⟨u, hu, ru⟩ := rv.get hx
    obtain ⟨f0, f1, _, f3, f4, f5⟩ := hf it T.mem
    refine wpAny_pyNext_list_item st p.isList (x := u) (by simpa using hu) fun h' st' sb => ⟨u, rfl, ?_⟩
    obtain ⟨o, e, c, d⟩ := id st'
    refine go_of (s := { s with heap := h' }) e c d (by decide) ⟨x, H, ?_, ru, ⟨rfl, fun ys hy => ?_⟩, st', fun b hb => (hf b hb).1⟩
    · exact I.turned (t' := s.toks) (fun b o hb q => (sb.2 b hb).trans q) f0 f1 f3 f4 f5
    · rw [I.list_inj hy hq]
      exact hx
  · intro X hP hw hK hc i pins s σ H E I hf st ⟨xs, hq, hx⟩
    subst hP hw hK
    obtain ⟨its, rv, p, _⟩ := I.list hq
    obtain ⟨f0, f1, _, f3, f4, f5⟩ := hf it T.mem
    obtain ⟨x1, hot⟩ := hc.at I
    have hl := rv.length
    exact list_end_hot hot st p.isList (by simp; omega) fun h' k => ⟨rfl, I.turned (t' := s.toks) k f0 f1 f3 f4 f5⟩
def iLstH (K : PySem.W.Frag) (tl : TE) : TI := fun σ H R => tl σ H fun x H1 => ∃ a, x = .ref a ∧ (∃ xs, SqL K H1 a xs) ∧ R (Itl K a) H1
theorem pi_listH {tg l : Expr} {tl : TE} (hl : PE X l tl) : L2H.PIH X tg l (iLstH X.K tl) :=
  ⟨fun pins s σ H R I h => thn (hl.run pins s σ H _ I h) fun v s1 ⟨x, H1, I1, r1, a, ex, ⟨xs, hq⟩, q⟩ => by
    subst ex
    obtain rfl : v = Value.ref a := r1
    obtain ⟨_, _, p, _⟩ := I1.list hq
    refine wpAny_pyIter_list p.isList ⟨s1.heap.objs.size, [s1.heap.objs.size], _, Itl X.K a, H1, rfl, I1.kept (t' := s1.toks) fun b o e => Heap.get?_push_of_some _ e, turn_listH a _, ⟨_, Heap.get?_push_size _ rfl, rfl, rfl⟩, fun b hb => ?_, q⟩
    rw [List.mem_singleton.mp hb]
    exact I1.fpOk (Nat.le_refl _) (I1.hok.fresh (Nat.le_refl _))⟩
end
end Hx

/-! a comprehension while an exception is handled -/
namespace Hx
open PySem PySem.Spec PyProof.Rows L2 HotX
/-- a comprehension's block that bears the def's pins -/
abbrev blkP (X : Cx) (s : Shared) (H : Hp) (scope : Scope) (ce : Env) (fp : List Addr) : Cx := { X.blk s H scope ce fp with pn := X.pn }
section
variable {X : Cx} {pins : List (Addr × Obj)} {σ : L2.St} {H : Hp} {s : Shared}
theorem okP {scope : Scope} {ce : Env} {fp : List Addr} (k : (X.blk s H scope ce fp).Ok) : (blkP X s H scope ce fp).Ok := k.toTry X.pn _
theorem blkP_start {scope : Scope} {own : List (Str × Nat)} {fp : List Addr} (I : Inv X pins σ H s) (ok : BlkOk X.N X.env.scope scope own) (hN : X.N.Nodup) (hfp : ∀ b ∈ fp, FpOk X pins H b ∧ b < s.heap.objs.size) :
    Inv (blkP X s H scope (compEnvC scope (cellsFrom (s.heap.objs.size + 1) scope.names (cloFrom X.env.cells scope.names [])) s.heap.objs.size X.env) fp) [] (wipe σ (own.map (·.2))) H { s with heap := pushCells (s.heap.push { cls := .type "dict", data := .dict #[] }) scope.names } := by
  have B := block_start I ok hN hfp
  refine ⟨okP B.ok, B.os, B.bare, B.base, B.loc, B.cell, B.free, B.freeC, fun p hp => ?_, B.hok, B.len⟩
  rw [List.append_nil] at hp
  obtain ⟨p1, p2, p3, p4, p5⟩ := I.pin p (List.mem_append_left _ hp)
  refine ⟨pushCells_keeps _ _ _ _ (Heap.get?_push_of_some _ p1), p2, Nat.ne_of_lt (Heap.lt_size p1), fun z => ?_, p5⟩
  rcases List.mem_cons.mp (I.stkSub p.1 z) with e | e
  · exact p3 e
  · exact p4 e
/-- name = [elt for target in iter if ..], an exception being handled -/
theorem ps_setLcH {i : Nat} {y : Str} {py : Pos} {elt tg iter : Expr} {ifs : List Expr} {scope : Scope} {own : List (Str × Nat)} {pos spos : Pos} {wi : TI} {g : TG} {tt : TT} {te : TE} (hc : L2H.HotC X) (hN : X.N.Nodup) (hy : X.N[i]? = some y) (hyl : X.env.scope.names.lookup y = some .local)
    (hsw : swapsWith (.ListComp elt [⟨tg, iter, ifs, 0⟩] scope pos) (some (.Name y py)) spos.line X.env = pure true) (hi : L2H.PIH X tg iter wi) (ok : BlkOk X.N X.env.scope scope own)
    (hg : ∀ (s : Shared) (H : Hp) (C : Addr) (cl : List (Str × Addr)) (fp : List Addr), PG (blkP X s H scope (compEnvC scope cl C X.env) fp) tg g) (ht : ∀ (s : Shared) (H : Hp) (C : Addr) (cl : List (Str × Addr)) (fp : List Addr), PTs (blkP X s H scope (compEnvC scope cl C X.env) fp) ifs tt)
    (he : ∀ (s : Shared) (H : Hp) (C : Addr) (cl : List (Str × Addr)) (fp : List Addr), PE (blkP X s H scope (compEnvC scope cl C X.env) fp) elt te) (hs : ∀ x, foldedSetIterable iter X.env x = pure x := by intro _; rfl) :
    PS X (.Assign [.Name y py] (.ListComp elt [⟨tg, iter, ifs, 0⟩] scope pos) spos) (tAsg (tLc wi g tt te (own.map (·.2))) (gName i)) := by
  refine ⟨fun pins s σ H D I h => ?_⟩
  rw [exec_Assign_Name_used _ _ _ _ hsw]
  have hfree : ∀ z ∈ scope.names, z.2 = .free → ∃ c, X.env.cells.lookup z.1 = some c := fun z hz e => I.ok.has _ ((ok.free z hz e).imp id id)
  have fin0 : ∀ {v : Value} {s' : Shared}, SP X pins D .next s' → wpAny (model X.prog X.w) X.A (pure PUnit.unit) (fun _ s' => wpAny (model X.prog X.w) X.A (pure Flow.next) (SP X pins D) X.xe s') X.xe s' := fun q => wpAny_pure (wpAny_pure q)
  refine wpAny_bind (wpAny_standAt (wpAny_bind ?_))
  show wpAny _ X.A (do let _ ← comprehension (.ListComp elt [⟨tg, iter, ifs, 0⟩] scope pos) scope X.env (firstIterPos [⟨tg, iter, ifs, 0⟩] pos) (newList []) false (eval iter X.env) (some (assign (.Name y py) X.env))) _ _ s
  refine wpAny_bind (wpAny_mono ?_ (fun v s' q => fin0 (v := v) q) fun _ _ z => z)
  refine wpAny_comprehension_free (use := some (assign (.Name y py) X.env)) (Q := fun _ s' => SP X pins D .next s') rfl hs (closure_ok hfree) ok.kind (fun z hz e => by rw [ok.uniq z hz, e])
    (thn (hi.run pins s σ H _ I h) fun _ s1 hx => thn hx fun itv s2 ⟨it, fp, tn, J, H2, e, I2, T, st2, f2, q⟩ => ?_)
  subst e
  refine wpAny_newObj_type (newEnv_comp ?_) (Nat.zero_le _)
  -- the new list
  obtain ⟨L, hL⟩ : ∃ L, L = s2.heap.objs.size := ⟨_, rfl⟩
  obtain ⟨s3, h3⟩ : ∃ s3 : Shared, s3 = { s2 with heap := s2.heap.push { cls := .type "list", data := .seq ([] : List Value).toArray } } := ⟨_, rfl⟩
  have old : ∀ b o, s2.heap.get? b = some o → s3.heap.get? b = some o := fun b o e => by rw [h3]; exact Heap.get?_push_of_some _ e
  obtain ⟨W, ⟨m0, w0⟩, turn⟩ := q L (I2.hok.fresh (Nat.le_of_eq hL.symm))
  obtain ⟨H3, eH3⟩ : ∃ H3, H3 = upd H2 L (.lst []) := ⟨_, rfl⟩
  have I3 : Inv X pins σ H3 s3 := by
    rw [h3, eH3]
    exact I2.laid (t' := s2.toks) (fun b o e => Heap.get?_push_of_some _ e) (Nat.le_of_eq hL.symm) ⟨Nat.zero_le _, [], 0, .nil, by rw [hL]; exact Heap.get?_push_size _ rfl⟩
  have f3 : ∀ b ∈ fp, FpOk X pins H3 b ∧ b < s3.heap.objs.size := fun b hb => by
    obtain ⟨o, e, _⟩ := T.obj _ _ st2 b hb
    refine ⟨⟨?_, (f2 b hb).2⟩, Heap.lt_size (old b o e)⟩
    rw [eH3, upd_ne (by rw [hL]; exact Nat.ne_of_lt (Heap.lt_size e))]
    exact (f2 b hb).1
  have st3 := T.keep _ _ _ st2 fun b _ => old b
  have I4 := blkP_start I3 ok hN f3
  rw [← h3, ← hL]
  obtain ⟨C, hC⟩ : ∃ C, C = s3.heap.objs.size := ⟨_, rfl⟩
  rw [← hC] at I4 ⊢
  obtain ⟨cl, hcl⟩ : ∃ cl, cl = cellsFrom (C + 1) scope.names (cloFrom X.env.cells scope.names []) := ⟨_, rfl⟩
  rw [← hcl] at I4 ⊢
  have pg := hg s3 H3 C cl fp
  have pt := ht s3 H3 C cl fp
  have pe := he s3 H3 C cl fp
  have hot : L2H.HotC (blkP X s3 H3 scope (compEnvC scope cl C X.env) fp) := hc
  generalize hs4 : ({ s3 with heap := pushCells (s3.heap.push { cls := .type "dict", data := .dict #[] }) scope.names } : Shared) = s4 at I4 ⊢
  have st4 : tn 0 s4.heap := T.keep _ _ _ st3 fun b _ o e => by rw [← hs4]; exact pushCells_keeps _ _ _ _ (Heap.get?_push_of_some _ e)
  have stat : ∀ {σ' : L2.St} {H' : Hp} {s' : Shared}, Inv (blkP X s3 H3 scope (compEnvC scope cl C X.env) fp) [] σ' H' s' → (∀ b ∈ fp, H' b = none) → ∀ b ∈ fp, FpOk (blkP X s3 H3 scope (compEnvC scope cl C X.env) fp) [] H' b := fun I' hn b hb =>
    ⟨hn b hb, (I'.ok.exf b hb).1, I'.ok.exfs b hb, .inl hb, fun x c e => (I'.ok.exf b hb).2 x c e, fun p hp => (f3 b hb).1.2.2.2.2.2 p (List.mem_append_left _ (by simpa using hp))⟩
  have loop : codeAny (model X.prog X.w) X.A (.compLoop (.ListComp elt [⟨tg, iter, ifs, 0⟩] scope pos) 0 (.ref it) (.ref L) (compEnvC scope cl C X.env))
      (compPost (model X.prog X.w) X.A X.xe (some (assign (.Name y py) X.env)) (fun _ s' => SP X pins D .next s') (.ref L) C) s4 := by
    refine compLoop_any (fun n s' => ∃ j H', Inv (blkP X s3 H3 scope (compEnvC scope cl C X.env) fp) [] (wipe σ (own.map (·.2))) H' s' ∧ tn j s'.heap ∧ (∀ b ∈ fp, H' b = none) ∧ W j n H') ?_ m0 ⟨0, H3, I4, st4, fun b hb => (f3 b hb).1.1, by rw [eH3]; exact w0⟩
    rintro n s5 ⟨j, H5, I5, st5, n5, w5⟩
    rcases turn j n H5 w5 with ⟨stop, qq⟩ | ⟨go, Nx, hNx, step⟩
    · refine thnF (T.done (blkP X s3 H3 scope (compEnvC scope cl C X.env) fp) rfl rfl rfl hot j [] s5 _ H5 _ I5 (stat I5 n5) st5 stop) fun r s6 ⟨hr, I6⟩ => ?_
      subst hr
      have I7 : Inv X pins σ H5 s6 := I3.call' (ch := fp) I6.os I6.base I6.hok I6.bare fun b hb => let f := (f3 b hb).1.2; ⟨f.2.2.1, f.1, f.2.2.2.1, f.2.2.2.2⟩
      obtain ⟨m, hn, _⟩ := I6.loc
      have hn : s6.heap.Ns C m := hn
      have fC := I3.fpOk (b := C) (H' := H5) (Nat.le_of_eq hC.symm) I6.free
      show wpAny _ _ (assign (.Name y py) X.env (.ref L)) _ _ _
      refine wpAny_assign_Name (store_ok2 (v := V.ref L) I7 hN hy (.inl hyl) rfl (fun s8 I8 ⟨a, sb, ha⟩ => ?_) (.inr hyl))
      have ne : C ≠ a := by
        rcases ha with z | z
        · rw [z]; exact fC.2.1
        · exact fun e => fC.2.2.2.2.1 y a z e.symm
      refine ⟨m, hn.sameBut sb ne, fun h9 sb9 => ⟨_, H5, ?_, qq⟩⟩
      exact I8.turned (t' := s8.toks) (fun b o hb e => (sb9.2 b hb).trans e) fC.1 fC.2.1 fC.2.2.2.1 fC.2.2.2.2.1 fC.2.2.2.2.2
    · refine thnF (T.item (blkP X s3 H3 scope (compEnvC scope cl C X.env) fp) rfl rfl rfl hot j [] s5 _ H5 _ I5 (stat I5 n5) st5 go) fun r s6 ⟨u, hr, h6⟩ => ?_
      subst hr
      refine thnF h6 fun _ s7 ⟨x, H7, I7, r7, y7, st7, n7⟩ => ?_
      refine thnF (pg.run _ s7 _ H7 x u _ (I7.pinned (stat I7 n7) (T.obj _ _ st7)) r7 (step x H7 y7)) fun _ s8 ⟨σ8, H8, I8, hw8, q8⟩ => thnF (pt.run _ s8 σ8 H8 _ I8 q8) fun b s9 ⟨H9, I9, q9⟩ => ?_
      have fin : ∀ {s' : Shared} {H' : Hp}, Inv (blkP X s3 H3 scope (compEnvC scope cl C X.env) fp) ([] ++ pinsAt fp s7.heap) σ8 H' s' → Nx H' →
          ∃ m, m < n ∧ ∃ j H', Inv (blkP X s3 H3 scope (compEnvC scope cl C X.env) fp) [] (wipe σ (own.map (·.2))) H' s' ∧ tn j s'.heap ∧ (∀ b ∈ fp, H' b = none) ∧ W j m H' := fun {s' H'} I' nx => by
        obtain ⟨m', hm, w'⟩ := hNx H' nx
        have pin' : ∀ b ∈ fp, ∀ o, s7.heap.get? b = some o → s'.heap.get? b = some o ∧ H' b = none := fun b hb o e => (I'.pin (b, o) (List.mem_append_right _ (List.mem_append_right _ (mem_pinsAt hb e)))).imp id fun z => z.1
        refine ⟨m', hm, j + 1, H', (I'.unpinned (pins := [])).weak (by rw [← hw8, wipe_length]) (fun l v e => (wipe_some (by rw [hw8]; exact e)).1), T.keep _ _ _ st7 fun b hb o e => (pin' b hb o e).1, fun b hb => ?_, w'⟩
        obtain ⟨o, e, _⟩ := T.obj _ _ st7 b hb
        exact (pin' b hb o e).2
      cases b with
      | false =>
        rw [if_neg Bool.false_ne_true] at q9 ⊢
        exact fin I9 q9
      | true =>
        rw [if_pos rfl] at q9 ⊢
        refine thnF (pe.run _ s9 σ8 H9 _ I9 q9) fun z s10 ⟨yv, H10, I10, r10, acc, hD, hz, nx⟩ => ?_
        exact app_ok (X := blkP X s3 H3 scope (compEnvC scope cl C X.env) fp) I10 hD hz r10 fun s11 I11 => fin I11 nx
  exact codeAny_compStart_list loop (T.self X.A 0 _ _ _ st4 loop)
end
end Hx

/-! calls within an except suite; several clauses that name the exception; a lambda handed to a def -/
namespace Hx
open PySem PySem.Spec PyProof.Rows L2 HotX
/-! ### a def called within an except suite -/
theorem run_hot {CX : CXT} {P : Program} {w : World} {K : PySem.W.Frag} {mg : Str → Option Value} {base : Heap} {k : Nat} {f : Addr} {x qual : Str} {st : Stmt} {fd : FuncData} {N ps : List Str} (F : L2.Fun K x qual st f fd) (S : FnScope N ps (defScope st))
    {A : Around} {outer : List Env} {s : Shared} {H : Hp} {us : List Value} {vs : List V} {Q : VK} {E : XK} {p : Addr × Obj} (hr : L2H.RoomH (k + 1) A) (hpin : L2H.PinOk outer H s p) (e0 : Env0 P w K mg base A outer s H) (hb : BindsTo s fd ⟨us, []⟩ (ps.zip us)) (r : Vals vs us) (hl : vs.length = ps.length)
    (hbody : ∀ cdv : Value, L2H.RoomH k (A.deeper (envOfC qual (defScope st) s.heap.objs.size f cdv)) → ∃ t, PSs (L2H.cxH CX P w K mg base N qual (defScope st) f cdv A outer s H E p) (defBody st) t ∧ t { nx := fun _ H' => Q .non H', rt := Q } (L2.start N vs) H) :
    codeAny (model P w) A (.call (.ref f) ⟨us, []⟩) (CR CX outer P w H s Q E) s := by
  obtain ⟨oc, od, kV, doc, pm, an, cdv, ct, osl, rfl, lk, hcd⟩ := F.ex
  have KX : K.In s.heap := e0.mod.kin.keeps fun b o e => (e0.bs b o e).1
  have hk : ∀ y ∈ ps.zip us, (defScope st).names.lookup y.1 = some .local ∨ ((defScope st).names.lookup y.1 = some .cell ∧ ((cellsFrom (s.heap.objs.size + 1) (defScope st).names []).lookup y.1).isSome = true) := fun y hy =>
    (S.par y.1 (List.of_mem_zip (a := y.1) (b := y.2) hy).1).imp id fun q => ⟨q, PySem.W.cellsFrom_some _ _ _ (.inl q)⟩
  refine codeAny_call_function hr.depth (KX _ _ lk) rfl S.co S.gen rfl (PySem.W.codeRec_of KX hcd) (hb _ _ _ _ (wpAny_newFunctionEnv_cells S.kind hk fun env he s1 x => ?_))
  subst he
  obtain ⟨t, ht, hq⟩ := hbody cdv (hr.deeper _)
  have I := L2H.inv_startH (CX := CX) (w := w) (P := P) (K := K) (mg := mg) (base := base) (cd := cdv) (A := A) (outer := outer) (H := H) (E := E) S hpin e0 hl r x
  have lim : s.heap.NoLimit := e0.mod.nolimit.keeps fun b o e => (e0.bs b o e).1
  refine ⟨lim.keeps x.toInCall.keep, codeAny_func (wpAny_mono (ht.run [] s1 _ H _ I hq) (fun fl s' hs => ?_) fun e s' hs => hs)⟩
  match fl, hs with
  | .ret u, ⟨v, σ', H', J, rv, q⟩ => exact ⟨v, H', J.os, J.bare, J.base, J.hok, rv, q⟩
  | .next, ⟨σ', H', J, q⟩ => exact ⟨.non, H', J.os, J.bare, J.base, J.hok, rfl, q⟩
  | .brk, ⟨_, _, _, q⟩ => exact q.elim
  | .cont, ⟨_, _, _, q⟩ => exact q.elim
section
variable {X : Cx}
/-- f(e), e the exception that the suite holds; TW: what f makes of it -/
theorem pe_hot {a : Addr} {oe : Obj} {pn : List (Addr × Obj)} {f : Addr} {fd : FuncData} {x n : Str} {i k : Nat} {st : Stmt} {Ng : List Str} {pp : Str} {TW : Hp → VK → Prop} {q1 q2 pos : Pos} (F : L2.Fun X.K x x st f fd) (S : FnScope Ng [pp] (defScope st)) (hb : Binds X.K fd [pp] []) (hr : L2H.RoomH (k + 1) X.A)
    (hv : ∃ vs : Array Value, oe.data = .fields vs ∧ vs[2]? = some .none) (hg : Gl X x) (hm : X.mg x = some (.ref f)) (hN : X.N[i]? = some n) (hn : Vis X.env.scope n)
    (hbody : ∀ (A : Around) (outer : List Env) (s : Shared) (H : Hp) (Q : VK) (cdv : Value), L2H.RoomH k (A.deeper (envOfC x (defScope st) s.heap.objs.size f cdv)) → A.handled = some (.ref a) → TW H Q →
      ∃ t, PSs (L2H.cxH C8.CX0 X.prog X.w X.K X.mg X.base Ng x (defScope st) f cdv A outer s H C8.E0 (a, oe)) (defBody st) t ∧ t { nx := fun _ H' => Q .non H', rt := Q } (L2.start Ng [.ref a]) H)
    (hdb : (x == ("__debug__" : Str)) = false := by decide) (hd : (n == ("__debug__" : Str)) = false := by decide) (hcd : (n == ("__classdict__" : Str)) = false := by decide) :
    PE (X.suite a ((a, oe) :: pn)) (.Call (.Name x q1) [.Name n q2] [] pos) (fun σ H Q => σ[i]? = some (some (.ref a)) ∧ TW H Q) := by
  refine ⟨fun pins s σ H Q I ⟨hσ, h⟩ => ?_⟩
  have hp := I.pin (a, oe) (List.mem_append_left _ List.mem_cons_self)
  refine wpAny_Call_Name_kw (ld_glob (X := X.suite a ((a, oe) :: pn)) I hg hm ?_ hdb)
  have pa : PA (X.suite a ((a, oe) :: pn)) [.Name n q2] (tCons (fun σ H Q => ∃ v, σ[i]? = some (some v) ∧ Q v H) tNil) := pa_cons (pe_var (X := X.suite a ((a, oe) :: pn)) hN hn hd hcd) pa_nil
  refine PySem.W.callWith_K (h₀ := X.base) I.ok.mod.kin F.kp (thn (pa.run pos pins s σ H (fun vs H1 => vs = [.ref a] ∧ H1 = H) I ⟨_, hσ, rfl, rfl⟩) fun us s1 ⟨vs, H1, I1, r, ev, eH⟩ => ⟨I1.kIn, ?_⟩) rfl rfl
  subst ev
  rw [eH] at I1
  have P1 := I1.pin (a, oe) (List.mem_append_left _ List.mem_cons_self)
  have pin1 : L2H.PinOk X.stack H s1 (a, oe) := ⟨P1.1, P1.2.1, fun z => (List.mem_cons.mp (I1.stkSub a z)).elim P1.2.2.1 P1.2.2.2.1, P1.2.2.2.2⟩
  have hl : us.length = [pp].length := r.length.symm
  have b := hb s1 us I1.kIn (by rw [List.append_nil]; exact hl)
  rw [List.append_nil] at b
  refine wpAny_call (codeAny_mono (run_hot (CX := C8.CX0) (E := C8.E0) (Q := Q) F S (L2H.RoomH.mk hr.dp hr.un) pin1 I1.env0 b r rfl fun cdv hr' => hbody _ _ s1 H Q cdv hr' rfl h) fun rs s' hq => ?_)
  match rs, hq with
  | .ok (.ret u), hq => exact I1.after hq
  | .ok .next, hq => exact hq.elim
  | .ok .brk, hq => exact hq.elim
  | .ok .cont, hq => exact hq.elim
  | .error e, hq => exact (show False from hq).elim
/-- isinstance(e, c), e a pinned exception of an own class -/
def rIsW (K : PySem.W.Frag) (D a : Addr) (oe : Obj) : List V → Hp → VK → Prop := fun xs H Q => ∃ (c : V) (cv : Value) (b : Bool), xs = [.ref a, c] ∧ ClsV c cv ∧ (oe.dict = none ∨ ∃ dx fs, oe.dict = some dx ∧ H dx = some (.xd fs)) ∧ PySem.W.kitOne K (.ref D) cv = some b ∧ Q (.bl b) H
theorem call_isW {a D : Addr} {oe : Obj} (C : ExcC X.K D) (hp : (a, oe) ∈ X.pn) (hcls : oe.cls = .ref D) (hv : ∃ vs : Array Value, oe.data = .fields vs) : CallR X (.builtin "isinstance") (rIsW X.K D a oe) := by
  intro pins s σ H xs us Q I r ⟨c, cv, b, e0, k, hd, e, q⟩
  subst e0
  obtain ⟨u1, u2, rfl, r1, r2⟩ := vals2 r
  obtain rfl : u1 = Value.ref a := r1
  have e2 := k.eq r2
  subst e2
  have get := (I.pin (a, oe) (List.mem_append_left _ hp)).1
  obtain ⟨vs, hv⟩ := hv
  have hcl : (PySem.W.clsIn X.K D).isSome = true := let ⟨cd, h1, _⟩ := PySem.W.any_some C.hd; by rw [h1]; rfl
  have nc : PySem.W.notCls oe = true := by unfold PySem.W.notCls; rw [hv] <;> rfl
  obtain ⟨od, J⟩ : ∃ od, PySem.W.InstAt s.heap a oe D od := by
    rcases hd with h0 | ⟨dx, fs, h1, h2⟩
    · exact ⟨none, get, hcls, nc, by rw [h0]; trivial⟩
    · obtain ⟨mA, ⟨od, es, ep, g1, _⟩, _⟩ := I.hok dx _ h2
      exact ⟨some od, get, hcls, nc, by rw [h1]; exact g1⟩
  exact PySem.W.kia_one (PySem.W.kitx_exc hcl C.hg C.hk C.hs C.ha C.hn C.ht C.hm) I.kIn J e (fun z => nomatch z) fun tk => ⟨.bl b, H, I.kept (t' := tk) fun _ _ z => z, rfl, q⟩
end
end Hx

/-! try: several clauses, each of one class or of a tuple of classes, with a name or without -/
namespace Hx
open PySem PySem.Spec PyProof.Rows L2 HotX
/-! ### the tests -/
section
variable {M : Model} {K : PySem.W.Frag}
open PySem.W
theorem exm_each {cls : Value} : ∀ (cs : List Value) (b : Bool), exmAny K cls cs = some b → ∀ c ∈ cs, ∃ v, exmOne K cls c = some v
  | c :: r, b, h, d, hd => by
    obtain ⟨b1, d1, h1, h2, _⟩ := exmAny_cons h
    rcases List.mem_cons.mp hd with e | hd
    · exact ⟨b1, e ▸ h1⟩
    · exact exm_each r d1 h2 d hd
/-- a written tuple of classes, of any length -/
theorem exm_tuple {cs : List Value} {cls : Value} {tp e : Addr} {b : Bool} {h : Heap} (X : K.In h) (LT : Looks M h (typeOf (.ref e)) cls) (hp : h.get? tp = some { cls := .type "tuple", data := .seq cs.toArray }) (hx : exmAny K cls cs = some b) :
    Looks M h (excMatches (.ref e) (.ref tp)) b := by
  intro A Q E s k q
  have isT : Looks M s.heap (isInstance (.ref tp) (.type "tuple")) true := (((Looks.ld hp).andThen .now).andThen (Looks.of_pure isSubtype_tuple_tuple)).keeps k
  have LTs := LT.keeps k
  have one : ∀ c ∈ cs, ∀ v, exmOne K cls c = some v → Looks M s.heap (isExcClass c) true ∧ Looks M s.heap (isSubtype cls c) v := fun c _ v hv =>
    let ⟨h1, h2⟩ := exm_cls (M := M) X hv
    ⟨h1.keeps k, h2.keeps k⟩
  -- first all are seen to be classes of exceptions, then each is asked
  have pass1 : ∀ (l : List Value), (∀ c ∈ l, c ∈ cs) → ∀ {f : Value → PUnit → Sem (ForInStep PUnit)} {Q' : PUnit → Shared → Prop}, (∀ c ∈ cs, ∀ {R : ForInStep PUnit → Shared → Prop}, R (.yield ⟨⟩) s → wpAny M A (f c ⟨⟩) R E s) → Q' ⟨⟩ s → wpAny M A (forIn l PUnit.unit f) Q' E s := by
    intro l
    induction l with
    | nil => intro _ f Q' _ z; rw [List.forIn_nil]; exact wpAny_pure z
    | cons c r ih =>
      intro hm f Q' hf z
      rw [List.forIn_cons]
      exact wpAny_bind (hf c (hm c (.head _)) (ih (fun d hd => hm d (.tail _ hd)) hf z))
  have pass2 : ∀ (l : List Value) (v : Bool), (∀ c ∈ l, c ∈ cs) → exmAny K cls l = some v → ∀ {f : Value → (Option Bool × Unit) → Sem (ForInStep (Option Bool × Unit))} {Q' : (Option Bool × Unit) → Shared → Prop},
      (∀ c ∈ cs, ∀ u, exmOne K cls c = some u → ∀ {R : ForInStep (Option Bool × Unit) → Shared → Prop}, R (if u = true then .done (some true, ()) else .yield (none, ())) s → wpAny M A (f c (none, ())) R E s) →
      Q' (if v = true then (some true, ()) else (none, ())) s → wpAny M A (forIn l ((none : Option Bool), ()) f) Q' E s := by
    intro l
    induction l with
    | nil =>
      intro v _ hv f Q' _ z
      cases (show some false = some v from hv)
      rw [List.forIn_nil]
      exact wpAny_pure z
    | cons c r ih =>
      intro v hm hv f Q' hf z
      obtain ⟨u, d, h1, h2, rfl⟩ := exmAny_cons hv
      rw [List.forIn_cons]
      refine wpAny_bind (hf c (hm c (.head _)) u h1 ?_)
      cases u with
      | true => exact wpAny_pure z
      | false => exact ih d (fun d hd => hm d (.tail _ hd)) h2 hf z
  unfold excMatches
  refine wpAny_bind (isT.at ?_)
  dsimp only
  rw [if_pos rfl]
  have hp' := k _ _ hp
  first
    | refine wpAny_bind (wpAny_seqItems hp' rfl ?_)
    | refine wpAny_bind (wpAny_bind (wpAny_seqItems hp' rfl (wpAny_pure ?_)))
  dsimp only [Option.getD_some, Option.getD]
  refine wpAny_bind (wpAny_pure (wpAny_bind (pass1 cs (fun _ h => h) (fun c hc R z => ?_) ?_)))
  · obtain ⟨v, hv⟩ := exm_each cs b hx c hc
    refine wpAny_bind ((one c hc v hv).1.at ?_)
    rw [if_neg (by decide)]
    exact wpAny_pure z
  · refine wpAny_bind (LTs.at (wpAny_bind (pass2 cs b (fun _ h => h) hx (fun c hc u hu R z => ?_) ?_)))
    · refine wpAny_bind ((one c hc u hu).2.at ?_)
      cases u <;> exact wpAny_pure z
    · cases b <;> exact wpAny_pure q
end
/-- a clause's written classes -/
inductive Nms (X : Cx) : List Expr → List Value → Prop
  | nil : Nms X [] []
  | cons {x : Str} {p : Pos} {c : Value} {es : List Expr} {cs : List Value} (h : Names X x c) (r : Nms X es cs) : Nms X (.Name x p :: es) (c :: cs)
inductive Tst (X : Cx) : Expr → List Value → Prop
  | one {x : Str} {p : Pos} {c : Value} (h : Names X x c) : Tst X (.Name x p) [c]
  | many {es : List Expr} {cs : List Value} {k : Nat} {p : Pos} (h : Nms X es cs) (hz : cs.length ≤ 1000) : Tst X (.Tuple es k p) cs
section
variable {X : Cx} {a : Addr} {pn pins : List (Addr × Obj)} {σ : L2.St} {H : Hp} {s : Shared}
theorem name_in {x : Str} {p : Pos} {c : Value} {Q : Value → Shared → Prop} {E : Value → Shared → Prop} (S : Inv (X.suite a pn) pins σ H s) (h : Names X x c) (q : Q c s) : wpAny (model X.prog X.w) (X.A.mark (some (.ref a))) (eval (.Name x p) X.env) Q E s := by
  obtain ⟨hg, hd, hm | ⟨hm, hv, hn⟩⟩ := h
  · exact ld_glob (X := X.suite a pn) S hg hm q hd
  · exact ld_blt (X := X.suite a pn) S hg hm hv q hn hd
theorem names_in {E : Value → Shared → Prop} {pos : Pos} (S : Inv (X.suite a pn) pins σ H s) {es : List Expr} {cs : List Value} (h : Nms X es cs) : ∀ {Q : List Value → Shared → Prop}, Q cs s → wpAny (model X.prog X.w) (X.A.mark (some (.ref a))) (spliced (backTo pos (starEach es X.env))) Q E s := by
  induction h with
  | nil => intro Q q; exact Calls.spliced_nil q
  | cons hc _ ih => intro Q q; exact Calls.spliced_cons (name_in S hc (ih q))
/-- a clause's test: it changes nothing that was there -/
theorem tst_in {e : Expr} {cs : List Value} {cls : Value} {b : Bool} {oe : Obj} {Q : Bool → Shared → Prop} {E E2 : Value → Shared → Prop} (t : Tst X e cs) (S : Inv (X.suite a pn) pins σ H s) (get : s.heap.get? a = some oe) (hcls : oe.cls = cls) (hx : PySem.W.exmAny X.K cls cs = some b)
    (q : ∀ h' : Heap, (∀ c o, s.heap.get? c = some o → h'.get? c = some o) → Q b { s with heap := h' }) :
    wpAny (model X.prog X.w) (X.A.mark (some (.ref a))) (eval e X.env) (fun c s1 => wpAny (model X.prog X.w) (X.A.mark (some (.ref a))) (excMatches (.ref a) c) Q E2 s1) E s := by
  have look : ∀ (h : Heap), h.get? a = some oe → PySem.W.Looks (model X.prog X.w) h (typeOf (.ref a)) cls := fun h g A' Q' E' s' k z => wpAny_typeOf_ref (k _ _ g) (by rw [hcls]; exact z)
  cases t with
  | one hc =>
    obtain ⟨b1, d1, h1, h2, rfl⟩ := PySem.W.exmAny_cons hx
    cases (show some false = some d1 from h2)
    refine name_in S hc ((PySem.W.exm_one (M := model X.prog X.w) S.kIn (look _ get) h1).here ?_)
    have z := q s.heap fun _ _ z => z
    rw [Bool.or_false] at z
    exact z
  | many hc hz =>
    refine wpAny_Tuple_spliced (names_in S hc ⟨Nat.le_trans hz (by rw [sizeLine_eq]; decide), ?_⟩)
    have k : ∀ c o, s.heap.get? c = some o → (s.heap.push { cls := .type "tuple", data := .seq cs.toArray }).get? c = some o := fun c o z => Heap.get?_push_of_some _ z
    exact (exm_tuple (M := model X.prog X.w) (S.kIn.keeps k) (look _ (k _ _ get)) (Heap.get?_push_size _ rfl) hx).here (q _ k)
end
/-! ### the clauses -/
/-- behind a suite the name is gone -/
def goneN (n : Option (Str × Nat)) (D : Ends) : Ends := match n with
  | none => D
  | some (_, i) => { nx := fun σ H => D.nx (σ.set i none) H, rt := D.rt, bk := fun σ H => D.bk (σ.set i none) H, ct := fun σ H => D.ct (σ.set i none) H }
def bindN (n : Option (Str × Nat)) (a : Addr) (σ : L2.St) : L2.St := match n with
  | none => σ
  | some (_, i) => σ.set i (some (.ref a))
structure Cl where
  cs : List Value
  n : Option (Str × Nat)
  ts : Addr → Value → Option Addr → TS
/-- what the clauses wish of an exception, one after the other -/
def wCls (K : PySem.W.Frag) (Wout : WX) (D : Ends) : List Cl → WX
  | [] => Wout
  | c :: r => fun cls d σ H => ∃ b, PySem.W.exmAny K cls c.cs = some b ∧ (b = true → ∀ a, H a = none → c.ts a cls d (goneN c.n D) (bindN c.n a σ) H) ∧ (b = false → wCls K Wout D r cls d σ H)
def NmOk (X : Cx) : Option (Str × Nat) → Prop
  | none => True
  | some (n, i) => X.N.Nodup ∧ X.N[i]? = some n ∧ X.env.kindOf n = some .local
inductive Hds (X : Cx) : List ExceptHandler → List Cl → Prop
  | nil : Hds X [] []
  | cons {c : Cl} {e : Expr} {b₀ : Stmt} {suite : List Stmt} {pos : Pos} {hds : List ExceptHandler} {l : List Cl} (hn : NmOk X c.n) (ht : Tst X e c.cs)
      (hsu : ∀ (a : Addr) (oe : Obj) (cls : Value) (d : Option Addr) (pn : List (Addr × Obj)), L2N.Zn cls d oe → (∃ vs, oe.data = .fields vs) → PSs (X.suite a ((a, oe) :: pn)) (b₀ :: suite) (c.ts a cls d)) (r : Hds X hds l) :
      Hds X (.ExceptHandler (some e) (c.n.map (·.1)) (b₀ :: suite) pos :: hds) (c :: l)
section
variable {X : Cx} {Wout : WX} {a : Addr} {B : Heap} {pins : List (Addr × Obj)} {σ : L2.St} {H : Hp} {cls : Value} {d : Option Addr} {D : Ends} {sI s' : Shared}
/-- what stands of a caught exception -/
structure Cgt (X : Cx) (a : Addr) (B : Heap) (pins : List (Addr × Obj)) (σ : L2.St) (H : Hp) (cls : Value) (d : Option Addr) (sI s : Shared) : Prop where
  inv : Inv X pins σ H sI
  nb : ∀ b o, sI.heap.get? b = some o → b ∉ frs X.stack → B.get? b = some o
  up : sI.heap.UpToSlots s.heap
  fl : HandSPX.FlyingZ B X.stack a (L2N.Zn cls d) s.heap
  na : H a = none
  os : s.os = sI.os
  ag : AllBare s.gens
theorem Cgt.step {h' : Heap} (c : Cgt X a B pins σ H cls d sI s') (fl : HandSPX.FlyingZ B X.stack a (L2N.Zn cls d) h') (up : s'.heap.UpToSlots h') : Cgt X a B pins σ H cls d sI { s' with heap := h' } := ⟨c.inv, c.nb, c.up.trans up, fl, c.na, c.os, c.ag⟩
theorem Cgt.here (c : Cgt X a B pins σ H cls d sI s') : Inv X pins σ H s' := c.inv.landed c.nb c.fl.1 c.up c.os c.ag
theorem Cgt.obj (c : Cgt X a B pins σ H cls d sI s') (hs : X.stack = X.env :: X.outer) (hf : X.env.frame = some X.env.locals) : ∃ oe vs, s'.heap.get? a = some oe ∧ L2N.Zn cls d oe ∧ oe.data = .fields vs ∧ Inv (X.suite a ((a, oe) :: (X.pn ++ pins))) [] σ H s' := by
  obtain ⟨oe, vs, he, hz, hd⟩ := c.fl.there
  have nfr : a ∉ frs X.stack := fun hm => by
    obtain ⟨_, o, e, hnf⟩ := c.fl.2.2.1.mem hm
    rw [he] at e
    cases e
    exact hnf _ hd
  rw [hs] at nfr
  refine ⟨oe, vs, he, hz, hd, c.here.suite he hd c.na (fun z => nfr ?_) fun hm => nfr ?_⟩
  · exact List.mem_filterMap.mpr ⟨X.env, .head _, by rw [hf, z]⟩
  · obtain ⟨e, he, q⟩ := List.mem_filterMap.mp hm
    exact List.mem_filterMap.mpr ⟨e, .tail _ he, q⟩
theorem flying_new {fs : List Env} {Z : Obj → Prop} {h h' : Heap} (k : ∀ c o, h.get? c = some o → h'.get? c = some o) (fl : HandSPX.FlyingZ B fs a Z h) : HandSPX.FlyingZ B fs a Z h' := by
  obtain ⟨f1, f2, f3, oe, vs, T, oT, ts, g1, hz, hd, h1, hn, ne, g2, hT, h3⟩ := fl
  exact ⟨fun c o e => k c o (f1 c o e), f2, f3.of_keeps fun c o e _ => ⟨o, k c o e, rfl⟩, oe, vs, T, oT, ts, k _ _ g1, hz, hd, h1, hn, ne, k _ _ g2, hT, h3⟩
/-- the suite's end: the name goes, the def's own context is back -/
theorem suite_end {f : Flow} {oe : Obj} {n : Option (Str × Nat)} {pos : Pos} {s6 : Shared} (ok : X.Ok) (hn : NmOk X n) (q : SP (X.suite a ((a, oe) :: (X.pn ++ pins))) [] (goneN n D) f s6) :
    (match n.map (·.1) with
      | none => SP X pins D f s6
      | some m => wpAny (model X.prog X.w) X.A (do bindName X.env m .none; unbindBehindTheSuite X.env m pos) (fun _ s7 => SP X pins D f s7) X.xe s6) := by
  match n, hn, q with
  | none, _, q =>
    match f, q with
    | .next, ⟨σ6, H6, S6, q6⟩ => exact ⟨_, _, S6.unsuite ok, q6⟩
    | .brk, ⟨σ6, H6, S6, q6⟩ => exact ⟨_, _, S6.unsuite ok, q6⟩
    | .cont, ⟨σ6, H6, S6, q6⟩ => exact ⟨_, _, S6.unsuite ok, q6⟩
    | .ret u, ⟨v, σ6, H6, S6, r6, q6⟩ => exact ⟨_, _, _, S6.unsuite ok, r6, q6⟩
  | some (m, i), ⟨hN, hi, hl⟩, q =>
    match f, q with
    | .next, ⟨σ6, H6, S6, q6⟩ => exact gone_ok (S6.unsuite ok) hN hi hl fun s7 J => ⟨_, _, J, q6⟩
    | .brk, ⟨σ6, H6, S6, q6⟩ => exact gone_ok (S6.unsuite ok) hN hi hl fun s7 J => ⟨_, _, J, q6⟩
    | .cont, ⟨σ6, H6, S6, q6⟩ => exact gone_ok (S6.unsuite ok) hN hi hl fun s7 J => ⟨_, _, J, q6⟩
    | .ret u, ⟨v, σ6, H6, S6, r6, q6⟩ => exact gone_ok (S6.unsuite ok) hN hi hl fun s7 J => ⟨_, _, _, J, r6, q6⟩
theorem handle_ok (hs : X.stack = X.env :: X.outer) (hf : X.env.frame = some X.env.locals) (tk : L2N.Takes X Wout) {hds : List ExceptHandler} {l : List Cl} (hh : Hds X hds l) :
    ∀ s' : Shared, Cgt X a B pins σ H cls d sI s' → wCls X.K Wout D l cls d σ H → wpAny (model X.prog X.w) X.A (handleBy (.ref a) X.env hds) (SP X pins D) X.xe s' := by
  induction hh with
  | nil =>
    intro s' c w
    obtain ⟨_, _, _, oe, vs, T, oT, ts', he, hz, hd, h1, hr⟩ := id c.fl
    refine wpAny_handleBy_nil ?_
    unfold PySem.passOn
    refine wpAny_bind (wpAny_field he hd h1 ?_)
    rw [if_neg (show ¬ ((Value.ref T == Value.none) = true) from by simp)]
    have fin : wpAny (model X.prog X.w) X.A (setFlight (.ref a) X.env.frame) (fun _ s4 => wpAny (model X.prog X.w) X.A (throw (.ref a) : Sem Flow) (SP X pins D) X.xe s4) X.xe s' := by
      rw [hf]
      exact HandSPX.setFlight_upZ (s := s') c.fl fun h4 hh4 up4 => wpAny_throw (tk _ _ ⟨a, B, sI, pins, σ, H, cls, d, rfl, c.inv, c.nb, c.up.trans up4, .inr (.inr hh4), c.na, c.os, c.ag, w⟩)
    first
      | exact wpAny_bind (wpAny_pure (wpAny_bind fin))
      | exact wpAny_bind fin
  | @cons cl e b₀ suite pos hds l hn ht hsu r ih =>
    intro s' c ⟨b, hb, yes, no⟩
    obtain ⟨oe, vs, he, hz, hd, S⟩ := c.obj hs hf
    refine wpAny_handleBy_cons (codeAny_handlers_test (tst_in ht S he hz.1 hb fun h' k => ?_)) (by intro q; cases q)
    have c2 : Cgt X a B pins σ H cls d sI { s' with heap := h' } := c.step (flying_new k c.fl) (Heap.UpToSlots.of_keeps k)
    cases b with
    | false => exact ih _ c2 (no rfl)
    | true =>
      have ok := c.inv.ok
      obtain ⟨cs, n, ts⟩ := cl
      cases n with
      | none =>
        refine codeAny_handlers_suite (HandSPX.lands_againZ (s := { s' with heap := h' }) c2.fl fun h4 fl4 up4 => ?_)
        obtain ⟨oe4, vs4, he4, hz4, hd4, S4⟩ := (c2.step fl4 up4).obj hs hf
        exact wpAny_mono ((hsu a oe4 cls d (X.pn ++ pins) hz4 ⟨_, hd4⟩).run [] _ σ H _ S4 (yes rfl a c.na)) (fun f s6 q => suite_end (n := none) (pos := pos) ok trivial q) fun _ _ z => z.elim
      | some ni =>
        obtain ⟨nm, i⟩ := ni
        obtain ⟨hN, hi, hl⟩ := id hn
        refine codeAny_handlers_suite_as (HandSPX.lands_againZ (s := { s' with heap := h' }) c2.fl fun h4 fl4 up4 => ?_)
        obtain ⟨oe4, vs4, he4, hz4, hd4, S4⟩ := (c2.step fl4 up4).obj hs hf
        refine store_ok (X := X.suite a ((a, oe4) :: (X.pn ++ pins))) (v := .ref a) S4 hN hi (.inl hl) rfl (fun s5 S5 => ?_) (.inr hl)
        exact wpAny_mono ((hsu a oe4 cls d (X.pn ++ pins) hz4 ⟨_, hd4⟩).run [] s5 _ H _ S5 (yes rfl a c.na)) (fun f s6 q => suite_end (n := some (nm, i)) (pos := pos) ok hn q) fun _ _ z => z.elim
theorem ps_tryN {body : List Stmt} {h₀ : ExceptHandler} {hds : List ExceptHandler} {l : List Cl} {pos : Pos} {tb : WX → TS} (hs : X.stack = X.env :: X.outer) (hf : X.env.frame = some X.env.locals) (tk : L2N.Takes X Wout)
    (hb : ∀ (W : WX) (pn : List (Addr × Obj)) (xe : Value → Shared → Prop), L2N.Takes (X.tr pn xe) W → PassesOwn (model X.prog X.w) X.A X.env xe → PSs (X.tr pn xe) body (tb W)) (hh : Hds X (h₀ :: hds) l) :
    PS X (.Try body (h₀ :: hds) [] [] pos) (fun D σ H => tb (wCls X.K Wout D l) D σ H) := by
  refine ⟨fun pins s σ H D I h => wpAny_Try_except ?_⟩
  have fr : X.A.frames = some (X.env :: X.outer) := by rw [I.ok.frames, hs]
  have body' := hb (wCls X.K Wout D l) (X.pn ++ pins) (fun e s₁ => wpAny (model X.prog X.w) X.A (noteFrame e X.env) (fun _ s₂ => wpAny (model X.prog X.w) X.A (setFlight e none) (fun _ s₃ =>
    wpAny (model X.prog X.w) X.A (handleBy e X.env (h₀ :: hds)) (SP X pins D) X.xe s₃) X.xe s₂) X.xe s₁) (fun u s' ⟨a, B, sI, pins', σ', H', cls, d, e, J, nb, up, sky, na, os, ag, w⟩ => ?_) PassesOwn.looking
  · refine wpAny_mono (body'.run [] s σ H D (I.toTry _) h) (fun f s1 q => ?_) fun _ _ z => z
    match f, q with
    | .next, ⟨σ', H', J, q⟩ => exact wpAny_execs_nil ⟨σ', H', J.ofTry I.ok, q⟩
    | .brk, ⟨σ', H', J, q⟩ => exact ⟨σ', H', J.ofTry I.ok, q⟩
    | .cont, ⟨σ', H', J, q⟩ => exact ⟨σ', H', J.ofTry I.ok, q⟩
    | .ret u, ⟨v, σ', H', J, r, q⟩ => exact ⟨v, σ', H', J.ofTry I.ok, r, q⟩
  · subst e
    have sky' : Sky B (X.env :: X.outer) a (L2N.Zn cls d) X.env.locals s'.heap := hs ▸ sky
    refine L2N.Sky.land L2N.Zn.steady fr hf sky' fun h3 fl3 up3 => handle_ok hs hf tk hh { s' with heap := h3 } ⟨J.ofTry I.ok, nb, up.trans up3, by rw [hs]; exact fl3, na, os, ag⟩ w
end
end Hx

/-! a lambda without parameters handed to a def that calls it within a try -/
namespace Hx
open PySem PySem.Spec PyProof.Rows L2 HotX LamX
section
variable {X : Cx} {pins : List (Addr × Obj)} {σ : L2.St} {H HZ : Hp} {s : Shared}
end
end Hx

/-! A def called with keywords, where what it raises is wished for at the caller's slots. -/
namespace Hx
open PySem PySem.Spec PyProof.Rows L2
/-- the things at these places -/
def sel {α : Type} (idx : List Nat) (l : List α) : List α := idx.filterMap fun i => l[i]?
section
variable {X : Cx} {CX : CXT} {k n : Nat} {f : Addr} {fd : FuncData} {ps ks : List Str} {sp : Sp} {idx : List Nat} {dvs : List V} {E : L2.St → XK} {x : Str} {p pos : Pos} {e : Expr} {es : List Expr} {kws : List Keyword} {t tk : TA}
end
end Hx

/-! A tuple told once. -/
namespace Hx
open PySem PySem.Spec PyProof.Rows L2
theorem once_tuple (l : Addr) (items : Array Value) (n : Nat) (dd : Option Addr) (sl : Array (Option Value)) (u : Tok) :
    Meets (Builtin.«tuple.__mul__» ⟨[.ref l, .int 1 u], []⟩) (fun _ R s => s.heap.get? l = some { cls := .type "tuple", dict := dd, data := .seq items n, slots := sl } ∧ R (.ok (.ret (Value.ref l))) s) :=
  .of_wp fun prog w A R s h => by
    obtain ⟨hp, g, d, tk, os⟩ := s
    obtain ⟨hl, h⟩ := h
    have f1 := AutoSeq1.idx_int
    have c0 : (decide ((1 : Int) < -(2 ^ 63)) || decide ((1 : Int) ≥ 2 ^ 63)) = false := by decide
    have c1 : (items.isEmpty || (1 : Int) == 1) = true := by rw [show ((1 : Int) == 1) = true from rfl, Bool.or_true]
    wp_walk using wpAny_loadPart' hl
    repeat (first
      | (refine wpAny_ite_false (decide_eq_false (by rw [c0]; exact Bool.false_ne_true)) ?_; wp_walk using wpAny_loadPart' hl)
      | (refine wpAny_ite_true (decide_eq_true (by exact c1)) ?_; wp_walk using wpAny_loadPart' hl))
    exact ⟨_, rfl, h⟩
section
variable {X : Cx}
def rOnce (K : PySem.W.Frag) : R2 := fun x y H Q => ∃ l xs, x = .ref l ∧ y = .int 1 ∧ SqT K H l xs ∧ Q (.ref l) H
theorem op_once : OpR X (binaryOp .Mult) (rOnce X.K) := by
  intro pins s σ H x y v u Q I rx ry h
  obtain ⟨l, xs, rfl, rfl, hT, q⟩ := h
  cases rx
  obtain ⟨t, rfl⟩ := ry
  obtain ⟨its, r, ⟨⟨cls, dd, data, sl⟩, ho, hc, n, hd⟩, hs⟩ := I.tuple hT
  simp only at hc hd
  subst hc hd
  refine wpAny_binaryOp_repeat_ref (T := "tuple") (U := "int") (by decide) ⟨_, ho, rfl⟩ (fun s' => typeIs_int s' 1 t) noFill_tuple_mul F.fills_int_mul F.slot_int_rmul repeat_tuple F.slot_int_index.lookup
    (call_meets F.slot_int_rmul (typeIs_int s 1 t) F.entry_int_rmul (F.args_int_rmul_2 _ _) (int_rmul_tuple 1 t l its.toArray n dd sl)
      ⟨ho, rfl, ⟨_, ho, rfl⟩, call_meets F.slot_tuple_mul ⟨_, ho, rfl⟩ F.entry_tuple_mul (F.args_tuple_mul_2 _ _) (once_tuple l its.toArray n dd sl t) ⟨ho, ?_⟩⟩)
  exact ⟨.ref l, H, I, rfl, q⟩
end
end Hx

/-! max and min of a list by a def that tells an int of each. -/
namespace Hx
open PySem PySem.Spec PyProof.Rows L2
def PV (xs : List V) (i : Nat) (v : Value) : Prop := ∃ x, xs[i]? = some x ∧ RelV x v
theorem vals_at : ∀ {xs : List V} {its : List Value}, Vals xs its → ∀ {i : Nat} {v : Value}, its.toArray[i]? = some v → PV xs i v := fun {xs its} r {i v} h => by
  have h' : its[i]? = some v := by simpa using h
  clear h
  induction r generalizing i with
  | nil => simp at h'
  | cons r t ih =>
    cases i with
    | zero =>
      simp at h'
      subst h'
      exact ⟨_, rfl, r⟩
    | succ i =>
      obtain ⟨x, hx, rx⟩ := ih (i := i) (by simpa using h')
      exact ⟨x, by simpa using hx, rx⟩
section
variable {X : Cx} {k : Nat} {f : Addr} {fd : FuncData} {p : Str} {sp : Sp} {pins : List (Addr × Obj)} {σ : L2.St}
end
end Hx
namespace Hx
open PySem PySem.Spec PyProof.Rows L2
/-! ### max, min of a list of ints -/
section
variable {X : Cx}
end
end Hx

/-! sum of a list of tuples, from a tuple on. -/
namespace Hx
open PySem PySem.Spec PyProof.Rows L2 HT
section
variable {X : Cx} {pins : List (Addr × Obj)} {σ : L2.St}
end
end Hx

/-! Own classes over promises of defs that are called where nothing is being shown: an instance is made, its methods are called. -/
namespace Hx
open PySem PySem.Spec PyProof.Rows L2
theorem RoomG.make {k : Nat} {A : Around} (r : RoomG (k + 1) A) (C : Addr) (us : List Value) (kw : List (Str × Value)) : RoomG k (A.under (.builtin "type.__call__" ⟨.ref C :: us, kw⟩)) := ⟨r.rm.make C us kw, r.gd⟩
/-- C(e, ..): what __init__ is handed is the new instance and the arguments -/
def tMakeS (C : Addr) (sp : Sp) (dvs : List V) (E : L2.St → XK) (t : TA) : TE := fun σ H Q => t σ H fun vs H1 => ∀ x dx, H1 x = none → H1 dx = none → dx ≠ x →
  sp (.ref x :: (vs ++ dvs)) (upd (upd H1 dx (.own x)) x (.ins C dx [])) (fun v H2 => v = .non ∧ Q (.ref x) H2) (E σ)
def tMethS (C : Addr) (m : Str) (sp : Sp) (dvs : List V) (E : L2.St → XK) (ta : TE) (t : TA) : TE := fun σ H Q => ta σ H fun x H1 => ∃ a dx fs, x = .ref a ∧ H1 a = some (.ins C dx fs) ∧ fs.lookup m = none ∧
  t σ H1 fun vs H2 => sp (x :: (vs ++ dvs)) H2 Q (E σ)
section
variable {X : Cx} {CX : CXT} {k : Nat} {f C : Addr} {fd : FuncData} {ps : List Str} {sp : Sp} {dvs : List V} {ds : List Value} {E : L2.St → XK} {x m : Str} {p pos apos : Pos} {o e : Expr} {es : List Expr} {t : TA} {ta : TE}
theorem makeG_run {pins : List (Addr × Obj)} {σ : L2.St} {H : Hp} {s : Shared} {Q : VK} {us : List Value} {vs : List V} (M : Mk X.K C f) (F : FnG X.prog X.w X.K X.mg X.base CX k f fd ps sp) (hr : RoomG (k + 1) X.A) (hb : Binds X.K fd ps ds) (hd : Vals dvs ds) (hx : PassesAt CX X σ (E σ))
    (I : Inv X pins σ H s) (r : Vals vs us)
    (h : ∀ x dx, H x = none → H dx = none → dx ≠ x → sp (.ref x :: (vs ++ dvs)) (upd (upd H dx (.own x)) x (.ins C dx [])) (fun v H2 => v = .non ∧ Q (.ref x) H2) (E σ)) :
    wpAny (model X.prog X.w) X.A (call (.ref C) us) (EP X pins σ Q) X.xe s := by
  have ready := Inv.made (C := C) I
  have spun := h (s.heap.objs.size + 1) s.heap.objs.size (I.hok.fresh (Nat.le_succ _)) (I.hok.fresh (Nat.le_refl _)) (Nat.ne_of_lt (Nat.lt_succ_self _))
  have all : Vals (V.ref (s.heap.objs.size + 1) :: (vs ++ dvs)) (Value.ref (s.heap.objs.size + 1) :: (us ++ ds)) := .cons rfl (r.append hd)
  have many : (Value.ref (s.heap.objs.size + 1) :: us ++ ds).length = ps.length := (show _ = _ from all.length.symm).trans (F.len _ _ _ _ spun)
  refine wpAny_call (make_map (f := f) I.kIn M.makes M.init (beq_iff_eq.mp M.fn) (codeAny_mono (F.run _ X.stack _ _ ⟨Value.ref (s.heap.objs.size + 1) :: us, []⟩ (Value.ref (s.heap.objs.size + 1) :: (us ++ ds)) _ _ (E σ) (hr.make C us [])
    (ready.env0.make C us []) (hb _ (Value.ref (s.heap.objs.size + 1) :: us) ready.kIn many) all spun) fun out s' got => ?_))
  match out, got with
  | .error e, got => exact hx pins _ _ e s' ready got
  | .ok (.ret u), got =>
    obtain ⟨v, H', J, rv, ev, q⟩ := ready.after got
    subst ev
    exact ⟨rv, V.ref (s.heap.objs.size + 1), H', J, rfl, q⟩
theorem pe_makeG (M : Mk X.K C f) (F : FnG X.prog X.w X.K X.mg X.base CX k f fd ps sp) (hr : RoomG (k + 1) X.A) (hg : Gl X x) (hm : X.mg x = some (.ref C)) (hb : Binds X.K fd ps ds) (hd : Vals dvs ds) (hx : ∀ σ, PassesAt CX X σ (E σ))
    (ha : PA X (e :: es) t) (hdb : (x == ("__debug__" : Str)) = false := by decide) (he : starEach (e :: es) X.env = (false, eval e X.env) :: starEach es X.env := by rfl) (hpl : (backTo pos (starEach es X.env)).any (·.1) = false := by rfl) :
    PE X (.Call (.Name x p) (e :: es) [] pos) (tMakeS C sp dvs E t) :=
  ⟨fun pins s σ H Q I h => wpAny_Call_Name_kw (ld_glob I hg hm (PySem.W.callWith_K (h₀ := X.base) I.ok.mod.kin M.kp (thn (ha.run pos pins s σ H _ I h) fun us s1 ⟨vs, H1, I1, r, q⟩ => ⟨I1.kIn, makeG_run M F hr hb hd (hx σ) I1 r q⟩) he hpl) hdb)⟩
/-- o.m(e, ..) -/
theorem pe_methG {pl : Sem Bool} (he : PE X o ta) (c : Cls X.K C) (hm : Meth X.K C m f) (F : FnG X.prog X.w X.K X.mg X.base CX k f fd ps sp) (hr : RoomG k X.A) (hb : Binds X.K fd ps ds) (hd : Vals dvs ds) (hx : ∀ σ, PassesAt CX X σ (E σ)) (ha : PA X (e :: es) t)
    (hst : starEach (e :: es) X.env = (false, eval e X.env) :: starEach es X.env := by rfl) (hpl : (backTo pos (starEach es X.env)).any (·.1) = false := by rfl)
    (ht : eval (.Call (.Attribute o m apos) (e :: es) [] pos) X.env = (do
      let ov ← eval o X.env
      standAt apos.atName
      let (f, first) ← holding [ov] (getMethod ov m pl)
      callWith pos f first (backTo pos (starEach (e :: es) X.env)) (backToKw pos (keywordEach [] X.env))) := by rfl) :
    PE X (.Call (.Attribute o m apos) (e :: es) [] pos) (tMethS C m sp dvs E ta t) := by
  refine ⟨fun pins s σ H Q I h => PySem.W.methodCall_KW (pl := pl) (thn (he.run pins s σ H _ I h) fun u s1 ⟨x, H1, I1, rx, a, dx, fs, ex, ea, l, q⟩ => ?_) ht⟩
  subst ex
  cases rx
  exact getmeth_ok I1 ea c hm l (PySem.W.callWith_K (first := [.ref a]) (h₀ := X.base) I.ok.mod.kin hm.kp (thn (ha.run pos pins s1 σ H1 _ I1 q) fun us s2 ⟨vs, H2, I2, r, q2⟩ => ⟨I2.kIn, fnG_run (us := .ref a :: us) (vs := .ref a :: vs) F hr hb hd (hx σ) I2 (.cons rfl r) q2⟩) hst hpl)
/-- o.m() -/
theorem pe_methG0 {pl : Sem Bool} (he : PE X o ta) (c : Cls X.K C) (hm : Meth X.K C m f) (F : FnG X.prog X.w X.K X.mg X.base CX k f fd ps sp) (hr : RoomG k X.A) (hb : Binds X.K fd ps ds) (hd : Vals dvs ds) (hx : ∀ σ, PassesAt CX X σ (E σ))
    (ht : eval (.Call (.Attribute o m apos) [] [] pos) X.env = (do
      let ov ← eval o X.env
      standAt apos.atName
      let (f, first) ← holding [ov] (getMethod ov m pl)
      callWith pos f first (backTo pos (starEach [] X.env)) (backToKw pos (keywordEach [] X.env))) := by rfl) :
    PE X (.Call (.Attribute o m apos) [] [] pos) (tMethS C m sp dvs E ta tNil) := by
  refine ⟨fun pins s σ H Q I h => PySem.W.methodCall_KW (pl := pl) (thn (he.run pins s σ H _ I h) fun u s1 ⟨x, H1, I1, rx, a, dx, fs, ex, ea, l, q⟩ => ?_) ht⟩
  subst ex
  cases rx
  exact getmeth_ok I1 ea c hm l (PySem.W.callWith_K0 (first := [.ref a]) I1.kIn hm.kp (fnG_run (us := [.ref a]) (vs := [.ref a]) F hr hb hd (hx σ) I1 (.cons rfl .nil) q))
end
end Hx
namespace Hx
open PySem PySem.Spec PyProof.Rows L2
end Hx

/-! Defs with defaults whose promises are called where nothing is being shown. -/
namespace Hx
open PySem PySem.Spec PyProof.Rows L2
/-- a def whose defaults are the items of the tuple at T -/
structure FunV (K : PySem.W.Frag) (x qual : Str) (st : Stmt) (f : Addr) (fd : FuncData) (T : Addr) (its : Array Value) : Prop where
  ex : ∃ (oc : Value) (od : Option Addr) (kV doc pm : Value) (an : Option Addr) (cdv ct : Value) (osl : Array (Option Value)),
    fd = PySem.W.fnOf x qual (defArgs st) (defBody st) (defScope st) (.ref T) kV doc pm an cdv ct ∧ K.lookup f = some ⟨oc, od, .func fd, osl⟩ ∧ PySem.W.codeIn K cdv qual = true
  dfl : ∃ (o : Obj) (n : Nat), K.lookup T = some o ∧ o.data = .seq its n
  kp : PySem.W.keepIn K (.ref f) = true
theorem funV_mk {K : PySem.W.Frag} {x qual : Str} {st : Stmt} {f T : Addr} {its : Array Value} {oc oc2 kV doc pm cdv ct : Value} {od od2 an : Option Addr} {osl osl2 : Array (Option Value)} {n : Nat}
    (l : K.lookup f = some ⟨oc, od, .func (PySem.W.fnOf x qual (defArgs st) (defBody st) (defScope st) (.ref T) kV doc pm an cdv ct), osl⟩) (c : PySem.W.codeIn K cdv qual = true) (k : PySem.W.keepIn K (.ref f) = true) (t : K.lookup T = some ⟨oc2, od2, .seq its n, osl2⟩) :
    FunV K x qual st f (PySem.W.fnOf x qual (defArgs st) (defBody st) (defScope st) (.ref T) kV doc pm an cdv ct) T its := ⟨⟨oc, od, kV, doc, pm, an, cdv, ct, osl, rfl, l, c⟩, ⟨_, n, t, rfl⟩, k⟩
/-- what a call binds, where the defaults are looked at -/
theorem FunV.to {K : PySem.W.Frag} {x qual : Str} {st : Stmt} {f T : Addr} {its : Array Value} {fd : FuncData} {args : Args} {bs : List (Str × Value)} {s : Shared} (F : FunV K x qual st f fd T its) (X : K.In s.heap)
    (h : ∃ k, bindArgs fd args = seqItems? (.ref T) >>= k ∧ k (some its) = pure bs) : BindsTo s fd args bs := by
  obtain ⟨o, n, lT, oT⟩ := F.dfl
  obtain ⟨k, e1, e2⟩ := h
  refine BindsTo.of_looks fun M => ?_
  rw [e1]
  exact looks_items X lT oT (.of_pure e2)
/-- such a def by its body -/
theorem fnG_ofV {CX : CXT} {P : Program} {w : World} {K : PySem.W.Frag} {mg : Str → Option Value} {base : Heap} {k : Nat} {f T : Addr} {its : Array Value} {x qual : Str} {st : Stmt} {fd : FuncData} {N ps : List Str} {sp : Sp} (F : FunV K x qual st f fd T its) (S : FnScope N ps (defScope st)) (len : ∀ vs H Q E, sp vs H Q E → vs.length = ps.length)
    (body : ∀ (cdv : Value), cdv = fd.code → ∀ (A : Around) (outer : List Env) (s : Shared) (H : Hp) (vs : List V) (Q : VK) (E : XK), RoomG k (A.deeper (envOfC qual (defScope st) s.heap.objs.size f cdv)) → sp vs H Q E →
      ∃ t, PSs (cxOf CX P w K mg base N qual (defScope st) f cdv A outer s H E) (defBody st) t ∧ t { nx := fun _ H' => Q .non H', rt := Q } (L2.start N vs) H) : FnG P w K mg base CX (k + 1) f fd ps sp := by
  refine ⟨len, fun A outer s H args us vs Q E room e0 bind r q => ?_⟩
  obtain ⟨oc, od, kV, doc, pm, an, cdv, ct, osl, rfl, lk, code⟩ := F.ex
  have KX : K.In s.heap := e0.mod.kin.keeps fun b o e => (e0.bs b o e).1
  have lim : s.heap.NoLimit := e0.mod.nolimit.keeps fun b o e => (e0.bs b o e).1
  have known : ∀ y ∈ ps.zip us, (defScope st).names.lookup y.1 = some .local ∨ ((defScope st).names.lookup y.1 = some .cell ∧ ((cellsFrom (s.heap.objs.size + 1) (defScope st).names []).lookup y.1).isSome = true) := fun y hy =>
    (S.par y.1 (List.of_mem_zip (a := y.1) (b := y.2) hy).1).imp id fun z => ⟨z, PySem.W.cellsFrom_some _ _ _ (.inl z)⟩
  refine codeAny_call_function room.depth (KX _ _ lk) rfl S.co S.gen rfl (PySem.W.codeRec_of KX code) (bind _ _ _ _ (wpAny_newFunctionEnv_cells S.kind known fun env he s1 y => ?_))
  subst he
  obtain ⟨t, ht, hq⟩ := body cdv rfl A outer s H vs Q E (room.deeper _) q
  have I : Inv (cxOf CX P w K mg base N qual (defScope st) f cdv A outer s H E) [] (L2.start N vs) H s1 := inv_start S room.hd e0 (len _ _ _ _ q) r y
  refine ⟨lim.keeps y.toInCall.keep, codeAny_func (wpAny_mono (ht.run [] s1 _ H _ I hq) (fun fl s' z => ?_) fun e s' z => z)⟩
  match fl, z with
  | .ret u, ⟨v, σ', H', J, rv, z⟩ => exact ⟨v, H', J.os, J.bare, J.base, J.hok, rv, z⟩
  | .next, ⟨σ', H', J, z⟩ => exact ⟨.non, H', J.os, J.bare, J.base, J.hok, rfl, z⟩
  | .brk, ⟨_, _, _, z⟩ => exact z.elim
  | .cont, ⟨_, _, _, z⟩ => exact z.elim
end Hx

/-! len of an instance whose class has a __len__ of its own. -/
namespace Hx
open PySem PySem.Spec PyProof.Rows L2
open Builtin
end Hx

/-! sep.join(reversed(xs)), xs a list of texts -/
namespace Hx
open PySem PySem.Spec PyProof.Rows L2 Builtin Builtin.Str
section
variable {prog : Program} {w : World} {A : Around} {E : Value → Shared → Prop} {s : Shared}
end
section
variable {X : Cx}
end
end Hx

/-! min of four ints; min of a list of ints with default. -/
namespace Hx
open PySem PySem.Spec PyProof.Rows L2
section
variable {prog : Program} {w : World} {A : Around} {E : Value → Shared → Prop} {s : Shared}
end
section
variable {X : Cx}
end
end Hx

/-! sorted and min of a list of data of one make. -/
namespace Hx
open PySem PySem.Spec PyProof.Rows L2
section
variable {X : Cx}
theorem each_vals {bs : List (V × PyData)} : ∀ {its : List Value}, Vals (bs.map Prod.fst) its → PySem.W.EachIs (fun v (b : V × PyData) => RelV b.1 v) its bs := by
  induction bs with
  | nil => intro its r; cases r; exact .nil
  | cons b bs ih => intro its r; cases r with | cons h t => exact .cons h (ih t)
theorem each_reads {pins : List (Addr × Obj)} {σ : L2.St} {H : Hp} {s : Shared} (J : Inv X pins σ H s) : ∀ {bs : List (V × PyData)} {its : List Value}, PySem.W.EachIs (fun v (b : V × PyData) => RelV b.1 v) its bs → (∀ b ∈ bs, Dp X.K H b.1 b.2) → PySem.W.EachIs (fun v (b : V × PyData) => ∃ as, Reads s.heap v b.2 as) its bs
  | _, _, .nil, _ => .nil
  | _, _, .cons (b := b) h t, hd => .cons (Dp.reads J b.2 b.1 _ (hd b List.mem_cons_self) h) (each_reads J t fun c hc => hd c (List.mem_cons_of_mem _ hc))
def rMinD (K : PySem.W.Frag) : List V → Hp → VK → Prop := fun vs H Q => ∃ (l : Addr) (bs : List (V × PyData)), vs = [.ref l] ∧ SqL K H l (bs.map Prod.fst) ∧ (∀ b ∈ bs, Dp K H b.1 b.2) ∧ PySem.W.AlikeAll (bs.map Prod.snd) ∧ 0 < bs.length ∧ PyData.depthAll (bs.map Prod.snd) ≤ 50 ∧
  ∀ x, (bs.map Prod.fst)[argBest (fun i j => PySem.W.dataLt ((bs.map Prod.snd).getD i .none) ((bs.map Prod.snd).getD j .none)) (bs.length - 1)]? = some x → Q x H
end
end Hx

/-! A layer of readings by value over the hand layer: tuples, frozen lists, frozen instances are values; owned lists and instances stand in a store. -/
namespace Dv
open PySem L2

inductive D where
  | non | bl (b : Bool) | int (i : Int) | str (x : Str)
  | tup (xs : List D) | lst (xs : List D) | tupX (xs : List D)
  | inst (C : Str) (ns : List Str) (xs : List D)
  | obj (a : Addr) | ty (n : String)
  | exc (a : Addr) (od : Option Addr) (ns : List Str) (xs : List D)
  | fn (x : Str)

inductive SO where
  | lst (xs : List D)
  | ins (C : Str) (ns : List Str) (xs : List D)
  | tab (q : Str)

abbrev Sd := Addr → Option SO
def upS (S : Sd) (a : Addr) (o : SO) : Sd := fun b => if b = a then some o else S b
def del (S : Sd) (a : Addr) : Sd := fun b => if b = a then none else S b
theorem upS_same {S : Sd} {a : Addr} {o : SO} : upS S a o a = some o := by unfold upS; rw [if_pos rfl]
theorem upS_ne {S : Sd} {a b : Addr} {o : SO} (h : b ≠ a) : upS S a o b = S b := by unfold upS; rw [if_neg h]
theorem upS_upS {S : Sd} {a : Addr} {o u : SO} : upS (upS S a o) a u = upS S a u := by
  funext b; unfold upS; split <;> rfl
theorem del_same {S : Sd} {a : Addr} : del S a a = none := by unfold del; rw [if_pos rfl]
theorem del_ne {S : Sd} {a b : Addr} (h : b ≠ a) : del S a b = S b := by unfold del; rw [if_neg h]
theorem del_upS {S : Sd} {a : Addr} {o : SO} (h : S a = none) : del (upS S a o) a = S := by
  funext b
  by_cases e : b = a
  · rw [e, del_same, h]
  · rw [del_ne e, upS_ne e]

/-- a list of the written part -/
def KL (K : PySem.W.Frag) (a : Addr) (xs : List V) : Prop :=
  ∃ (o : Obj) (its : Array Value) (n : Nat), K.lookup a = some o ∧ o.cls = .type "list" ∧ o.dict = none ∧ o.data = .seq its n ∧ its.size ≤ sizeLine ∧ Vals xs its.toList

/-- the class that a global of the text names -/
def ClsAt (K : PySem.W.Frag) (n : Str) (C : Addr) : Prop := PySem.W.nsIn K mainGlobals n = some (some (.ref C))
theorem ClsAt.one {K : PySem.W.Frag} {n : Str} {C D : Addr} (h : ClsAt K n C) (g : ClsAt K n D) : C = D := by
  unfold ClsAt at h g
  rw [h] at g
  cases g
  rfl
mutual
def Rp (K : PySem.W.Frag) (H : Hp) (S : Sd) : D → V → Prop
  | .non, v => v = .non
  | .bl b, v => v = .bl b
  | .int i, v => v = .int i
  | .str x, v => v = .str x
  | .tup ds, v => ∃ a vs, v = .ref a ∧ SqT K H a vs ∧ RpL K H S ds vs
  | .lst ds, v => ∃ a vs, v = .ref a ∧ ((Rd H a (.lst vs) ∧ S a = none) ∨ KL K a vs) ∧ RpL K H S ds vs
  | .inst n ns ds, v => ∃ C a dx fs, ClsAt K n C ∧ v = .ref a ∧ H a = some (.ins C dx fs) ∧ S a = none ∧ fs.map Prod.fst = ns ∧ RpL K H S ds (fs.map Prod.snd)
  | .tupX ds, v => ∃ a o vs, v = .ref a ∧ H a = some (.frz o (.tup vs)) ∧ o.dict = none ∧ RpL K H S ds vs
  | .obj a, v => v = .ref a
  | .ty n, v => v = .ty n
  | .fn x, v => ∃ f, v = .ref f ∧ PySem.W.nsIn K mainGlobals x = some (some (.ref f))
  | .exc a od ns ds, v => v = .ref a ∧ (od = none → ns = []) ∧ (∀ dx, od = some dx → ∃ fs, H dx = some (.xd fs) ∧ S dx = none ∧ (ns = [] ∨ (fs.map Prod.fst = ns ∧ RpL K H S ds (fs.map Prod.snd))))
def RpL (K : PySem.W.Frag) (H : Hp) (S : Sd) : List D → List V → Prop
  | [], vs => vs = []
  | d :: ds, vs => ∃ v r, vs = v :: r ∧ Rp K H S d v ∧ RpL K H S ds r
end

def SoOk (K : PySem.W.Frag) (H : Hp) (S : Sd) (a : Addr) : SO → Prop
  | .lst ds => ∃ vs, H a = some (.lst vs) ∧ RpL K H S ds vs
  | .ins n ns ds => ∃ C dx fs, ClsAt K n C ∧ H a = some (.ins C dx fs) ∧ fs.map Prod.fst = ns ∧ RpL K H S ds (fs.map Prod.snd)
  | .tab q => LamX.TabS H a q
def RelS (K : PySem.W.Frag) (H : Hp) (S : Sd) : Prop := ∀ a o, S a = some o → SoOk K H S a o
/-- what is not owned stays, and stays not owned -/
def Step (H : Hp) (S : Sd) (H' : Hp) (S' : Sd) : Prop := ∀ a o, H a = some o → S a = none → H' a = some o ∧ S' a = none

section
variable {K : PySem.W.Frag} {H H' H2 : Hp} {S S' S2 : Sd} {a p : Addr} {ds es : List D} {vs ws : List V} {d : D} {v : V}

theorem RelS.some_h (R : RelS K H S) {o : SO} (h : S a = some o) : (∃ vs, H a = some (.lst vs)) ∨ (∃ C dx fs, H a = some (.ins C dx fs)) ∨ ∃ ps, H a = some (.tbl ps) := by
  have x := R a o h
  cases o with
  | lst ds => obtain ⟨vs, e, _⟩ := x; exact .inl ⟨vs, e⟩
  | ins C ns ds => obtain ⟨C, dx, fs, _, e, _⟩ := x; exact .inr (.inl ⟨C, dx, fs, e⟩)
  | tab q => obtain ⟨ps, e, _⟩ := x; exact .inr (.inr ⟨ps, e⟩)
theorem RelS.freeOf (R : RelS K H S) (h1 : ∀ vs, H a ≠ some (.lst vs)) (h2 : ∀ C dx fs, H a ≠ some (.ins C dx fs)) (h3 : ∀ ps, H a ≠ some (.tbl ps)) : S a = none := by
  cases e : S a with
  | none => rfl
  | some o =>
    rcases R.some_h e with ⟨vs, q⟩ | ⟨C, dx, fs, q⟩ | ⟨ps, q⟩
    · exact absurd q (h1 vs)
    · exact absurd q (h2 C dx fs)
    · exact absurd q (h3 ps)
theorem RelS.free (R : RelS K H S) (h : H a = none) : S a = none := R.freeOf (fun _ q => by rw [h] at q; cases q) (fun _ _ _ q => by rw [h] at q; cases q) fun _ q => by rw [h] at q; cases q
theorem RelS.tupFree (R : RelS K H S) (h : H a = some (.tup vs)) : S a = none := R.freeOf (fun _ q => by rw [h] at q; cases q) (fun _ _ _ q => by rw [h] at q; cases q) fun _ q => by rw [h] at q; cases q
theorem RelS.frzFree {o : Obj} {u : HO} (R : RelS K H S) (h : H a = some (.frz o u)) : S a = none := R.freeOf (fun _ q => by rw [h] at q; cases q) (fun _ _ _ q => by rw [h] at q; cases q) fun _ q => by rw [h] at q; cases q
theorem RelS.codeFree {q : Str} (R : RelS K H S) (h : H a = some (LamX.CodeO a q)) : S a = none := R.freeOf (fun _ z => by rw [h] at z; cases z) (fun _ _ _ z => by rw [h] at z; cases z) fun ps z => by rw [h] at z; exact LamX.codeO_ne ps (Option.some.inj z)

theorem Step.refl : Step H S H S := fun _ _ h1 h2 => ⟨h1, h2⟩
theorem Step.trans (s1 : Step H S H' S') (s2 : Step H' S' H2 S2) : Step H S H2 S2 := fun b o h1 h2 =>
  let ⟨q1, q2⟩ := s1 b o h1 h2
  s2 b o q1 q2
theorem step_rdT (R : RelS K H S) (s : Step H S H' S') (h : Rd H a (.tup vs)) : Rd H' a (.tup vs) := by
  rcases h with h | ⟨o, h⟩
  · exact .inl (s a _ h (R.tupFree h)).1
  · exact .inr ⟨o, (s a _ h (R.frzFree h)).1⟩
theorem step_sqT (R : RelS K H S) (s : Step H S H' S') (h : SqT K H a vs) : SqT K H' a vs := by
  rcases h with h | h
  · exact .inl (step_rdT R s h)
  · exact .inr h
theorem step_rdL (s : Step H S H' S') (h : Rd H a (.lst vs)) (n : S a = none) : Rd H' a (.lst vs) ∧ S' a = none := by
  rcases h with h | ⟨o, h⟩
  · exact ⟨.inl (s a _ h n).1, (s a _ h n).2⟩
  · exact ⟨.inr ⟨o, (s a _ h n).1⟩, (s a _ h n).2⟩

mutual
theorem rp_step (R : RelS K H S) (s : Step H S H' S') : ∀ (d : D) (v : V), Rp K H S d v → Rp K H' S' d v
  | .non, v, h => h
  | .bl _, v, h => h
  | .int _, v, h => h
  | .str _, v, h => h
  | .tup ds, v, h => by
    obtain ⟨a, vs, e, q, r⟩ := h
    exact ⟨a, vs, e, step_sqT R s q, rpL_step R s ds vs r⟩
  | .lst ds, v, h => by
    obtain ⟨a, vs, e, q, r⟩ := h
    refine ⟨a, vs, e, ?_, rpL_step R s ds vs r⟩
    rcases q with ⟨q, n⟩ | q
    · exact .inl (step_rdL s q n)
    · exact .inr q
  | .inst C ns ds, v, h => by
    obtain ⟨C, a, dx, fs, c, e, q, n, hn, r⟩ := h
    exact ⟨C, a, dx, fs, c, e, (s a _ q n).1, (s a _ q n).2, hn, rpL_step R s ds _ r⟩
  | .tupX ds, v, h => by
    obtain ⟨a, o, vs, e, q, n, r⟩ := h
    exact ⟨a, o, vs, e, (s a _ q (R.frzFree q)).1, n, rpL_step R s ds vs r⟩
  | .obj _, v, h => h
  | .ty _, v, h => h
  | .fn _, v, h => h
  | .exc a od ns ds, v, h => by
    obtain ⟨e, h0, h1⟩ := h
    refine ⟨e, h0, fun dx ed => ?_⟩
    obtain ⟨fs, q, n, r⟩ := h1 dx ed
    exact ⟨fs, (s dx _ q n).1, (s dx _ q n).2, r.imp id fun ⟨e1, r1⟩ => ⟨e1, rpL_step R s ds _ r1⟩⟩
theorem rpL_step (R : RelS K H S) (s : Step H S H' S') : ∀ (ds : List D) (vs : List V), RpL K H S ds vs → RpL K H' S' ds vs
  | [], vs, h => h
  | d :: ds, vs, h => by
    obtain ⟨v, r, e, h1, h2⟩ := h
    exact ⟨v, r, e, rp_step R s d v h1, rpL_step R s ds r h2⟩
end

theorem rpL_nil : RpL K H S [] [] := rfl
theorem rpL_cons (h : Rp K H S d v) (r : RpL K H S ds vs) : RpL K H S (d :: ds) (v :: vs) := ⟨v, vs, rfl, h, r⟩
theorem rpL_len : ∀ {ds : List D} {vs : List V}, RpL K H S ds vs → ds.length = vs.length
  | [], vs, h => by
    have e : vs = [] := h
    rw [e]; rfl
  | d :: ds, vs, h => by
    obtain ⟨v, r, e, _, h2⟩ := h
    rw [e, List.length_cons, List.length_cons, rpL_len h2]
theorem rpL_get : ∀ {ds : List D} {vs : List V} {i : Nat} {d : D}, RpL K H S ds vs → ds[i]? = some d → ∃ v, vs[i]? = some v ∧ Rp K H S d v
  | [], _, i, d, _, e => by simp at e
  | d0 :: ds, vs, 0, d, h, e => by
    obtain ⟨v, r, e1, h1, h2⟩ := h
    simp at e
    subst e e1
    exact ⟨v, by simp, h1⟩
  | d0 :: ds, vs, i + 1, d, h, e => by
    obtain ⟨v, r, e1, h1, h2⟩ := h
    subst e1
    obtain ⟨w, q1, q2⟩ := rpL_get (i := i) h2 (by simpa using e)
    exact ⟨w, by simpa using q1, q2⟩
theorem rpL_app : ∀ {ds : List D} {vs : List V}, RpL K H S ds vs → RpL K H S es ws → RpL K H S (ds ++ es) (vs ++ ws)
  | [], vs, h, k => by
    have e : vs = [] := h
    subst e
    exact k
  | d :: ds, vs, h, k => by
    obtain ⟨v, r, e, h1, h2⟩ := h
    subst e
    exact ⟨v, r ++ ws, rfl, h1, rpL_app h2 k⟩
theorem rpL_take : ∀ {ds : List D} {vs : List V} (n : Nat), RpL K H S ds vs → RpL K H S (ds.take n) (vs.take n)
  | [], vs, n, h => by
    have e : vs = [] := h
    subst e
    simp [RpL]
  | d :: ds, vs, 0, h => by simp [RpL]
  | d :: ds, vs, n + 1, h => by
    obtain ⟨v, r, e, h1, h2⟩ := h
    subst e
    exact ⟨v, r.take n, rfl, h1, rpL_take n h2⟩
theorem rpL_drop : ∀ {ds : List D} {vs : List V} (n : Nat), RpL K H S ds vs → RpL K H S (ds.drop n) (vs.drop n)
  | [], vs, n, h => by
    have e : vs = [] := h
    subst e
    simp [RpL]
  | d :: ds, vs, 0, h => h
  | d :: ds, vs, n + 1, h => by
    obtain ⟨v, r, e, h1, h2⟩ := h
    subst e
    exact rpL_drop n h2
theorem rpL_set : ∀ {ds : List D} {vs : List V} (n : Nat), RpL K H S ds vs → Rp K H S d v → RpL K H S (ds.set n d) (vs.set n v)
  | [], vs, n, h, k => by
    have e : vs = [] := h
    subst e
    simp [RpL]
  | d0 :: ds, vs, 0, h, k => by
    obtain ⟨w, r, e, h1, h2⟩ := h
    subst e
    exact ⟨v, r, rfl, k, h2⟩
  | d0 :: ds, vs, n + 1, h, k => by
    obtain ⟨w, r, e, h1, h2⟩ := h
    subst e
    exact ⟨w, r.set n v, rfl, h1, rpL_set n h2 k⟩
theorem rpL_rev : ∀ {ds : List D} {vs : List V}, RpL K H S ds vs → RpL K H S ds.reverse vs.reverse
  | [], vs, h => by
    have e : vs = [] := h
    subst e
    simp [RpL]
  | d :: ds, vs, h => by
    obtain ⟨v, r, e, h1, h2⟩ := h
    subst e
    rw [List.reverse_cons, List.reverse_cons]
    exact rpL_app (rpL_rev h2) (rpL_cons h1 rpL_nil)

theorem soOk_step (R : RelS K H S) (s : Step H S H' S') {o : SO} (h : SoOk K H S a o) (k : ∀ u, H a = some u → H' a = some u) : SoOk K H' S' a o := by
  cases o with
  | lst ds => obtain ⟨vs, e, r⟩ := h; exact ⟨vs, k _ e, rpL_step R s _ _ r⟩
  | ins C ns ds => obtain ⟨C, dx, fs, c, e, n, r⟩ := h; exact ⟨C, dx, fs, c, k _ e, n, rpL_step R s _ _ r⟩
  | tab q =>
    obtain ⟨ps, e, t, c⟩ := h
    refine ⟨ps, k _ e, t, fun pos cv hc => ?_⟩
    obtain ⟨c', e1, e2⟩ := c pos cv hc
    exact ⟨c', e1, (s c' _ e2 (R.codeFree e2)).1⟩

/-- a new object, not owned -/
theorem step_new {o : HO} (h : H p = none) : Step H S (upd H p o) S := fun b u h1 h2 => ⟨by rw [upd_ne (ne_of_none h1 h)]; exact h1, h2⟩
theorem rel_new {o : HO} (R : RelS K H S) (h : H p = none) : RelS K (upd H p o) S := fun b u e =>
  soOk_step R (step_new h) (R b u e) fun w hw => by rw [upd_ne (ne_of_none hw h)]; exact hw
/-- a new object, owned -/
theorem step_own {o : HO} {u : SO} (h : H p = none) : Step H S (upd H p o) (upS S p u) := fun b w h1 h2 => by
  have n := ne_of_none h1 h
  exact ⟨by rw [upd_ne n]; exact h1, by rw [upS_ne n]; exact h2⟩
theorem rel_own {o : HO} {u : SO} (R : RelS K H S) (h : H p = none) (k : SoOk K (upd H p o) (upS S p u) p u) : RelS K (upd H p o) (upS S p u) := fun b w e => by
  by_cases hb : b = p
  · subst hb
    rw [upS_same] at e
    cases e
    exact k
  · rw [upS_ne hb] at e
    exact soOk_step R (step_own h) (R b w e) fun x hx => by rw [upd_ne hb]; exact hx
/-- an owned object is changed -/
theorem step_set {o : HO} {u u0 : SO} (h : S a = some u0) : Step H S (upd H a o) (upS S a u) := fun b w h1 h2 => by
  have n : b ≠ a := fun e => by rw [e, h] at h2; cases h2
  exact ⟨by rw [upd_ne n]; exact h1, by rw [upS_ne n]; exact h2⟩
theorem rel_set {o : HO} {u u0 : SO} (R : RelS K H S) (h : S a = some u0) (k : SoOk K (upd H a o) (upS S a u) a u) : RelS K (upd H a o) (upS S a u) := fun b w e => by
  by_cases hb : b = a
  · subst hb
    rw [upS_same] at e
    cases e
    exact k
  · rw [upS_ne hb] at e
    exact soOk_step R (step_set h) (R b w e) fun x hx => by rw [upd_ne hb]; exact hx
/-- an owned object is let go -/
theorem step_del : Step H S H (del S a) := fun b w h1 h2 => ⟨h1, by
  by_cases e : b = a
  · rw [e]; exact del_same
  · rw [del_ne e]; exact h2⟩
theorem rel_del (R : RelS K H S) : RelS K H (del S a) := fun b w e => by
  by_cases hb : b = a
  · rw [hb, del_same] at e; cases e
  · rw [del_ne hb] at e
    exact soOk_step R step_del (R b w e) fun x hx => hx
theorem rp_frozen (R : RelS K H S) (h : S a = some (.lst ds)) : Rp K H (del S a) (.lst ds) (.ref a) := by
  obtain ⟨vs, e, r⟩ := R a _ h
  exact ⟨a, vs, rfl, .inl ⟨.inl e, del_same⟩, rpL_step R step_del _ _ r⟩
theorem rp_frozenI {C : Str} {ns : List Str} (R : RelS K H S) (h : S a = some (.ins C ns ds)) : Rp K H (del S a) (.inst C ns ds) (.ref a) := by
  obtain ⟨C, dx, fs, c, e, n, r⟩ := R a _ h
  exact ⟨C, a, dx, fs, c, rfl, e, del_same, n, rpL_step R step_del _ _ r⟩
end

/-! ### the state by values -/
abbrev Si := List (Option D)
abbrev DK := D → Sd → Prop
abbrev TED := Si → Sd → DK → Prop
abbrev TTD := Si → Sd → (Bool → Sd → Prop) → Prop
abbrev TAD := Si → Sd → (List D → Sd → Prop) → Prop
structure EndsD where
  nx : Si → Sd → Prop
  rt : DK
  bk : Si → Sd → Prop := fun _ _ => False
  ct : Si → Sd → Prop := fun _ _ => False
abbrev TSD := EndsD → Si → Sd → Prop
/-- an exception by values: its class, its own fields -/
structure Xd where
  cls : Str
  ns : List Str
  xs : List D
abbrev XKD := Xd → Sd → Prop
abbrev WXD := Xd → Si → Sd → Prop

structure Ok (K : PySem.W.Frag) (H : Hp) (S : Sd) (fr : List (V × D)) (σd : Si) (σ : L2.St) : Prop where
  rel : RelS K H S
  fr : ∀ p ∈ fr, Rp K H S p.2 p.1
  len : σd.length = σ.length
  si : ∀ (i : Nat) (d : D), σd[i]? = some (some d) → ∃ v, σ[i]? = some (some v) ∧ Rp K H S d v
/-- the exception's object: its class by the module's name, its own dict bears its fields -/
def RpX (K : PySem.W.Frag) (H : Hp) (S : Sd) (x : Xd) (cls : Value) (od : Option Addr) : Prop :=
  PySem.W.nsIn K mainGlobals x.cls = some (some cls) ∧ (od = none → x.ns = []) ∧ (∀ dx, od = some dx → ∃ fs, H dx = some (.xd fs) ∧ S dx = none ∧ (x.ns = [] ∨ (fs.map Prod.fst = x.ns ∧ RpL K H S x.xs (fs.map Prod.snd))))
/-- what is wished of exceptions: by the heap, by values -/
structure Wi where
  V : L2.WX
  D : WXD
abbrev W0 : Wi := ⟨fun _ _ _ _ => False, fun _ _ _ => False⟩
def Cl (K : PySem.W.Frag) (W : Wi) (fr : List (V × D)) : Prop := ∀ σd σ H S cls od x, Ok K H S fr σd σ → RpX K H S x cls od → W.D x σd S → W.V cls od σ H
theorem Cl.zero {K : PySem.W.Frag} {fr : List (V × D)} : Cl K W0 fr := fun _ _ _ _ _ _ _ _ _ h => h

section
variable {K : PySem.W.Frag} {H H' : Hp} {S S' : Sd} {fr : List (V × D)} {σd : Si} {σ : L2.St} {d : D} {v : V} {W : Wi}
theorem Ok.step (o : Ok K H S fr σd σ) (s : Step H S H' S') (r : RelS K H' S') : Ok K H' S' fr σd σ :=
  ⟨r, fun p hp => rp_step o.rel s _ _ (o.fr p hp), o.len, fun i d e => let ⟨v, h1, h2⟩ := o.si i d e; ⟨v, h1, rp_step o.rel s _ _ h2⟩⟩
theorem Ok.cons (o : Ok K H S fr σd σ) (h : Rp K H S d v) : Ok K H S ((v, d) :: fr) σd σ :=
  ⟨o.rel, fun p hp => by
    rcases List.mem_cons.mp hp with e | hp
    · rw [e]; exact h
    · exact o.fr p hp, o.len, o.si⟩
theorem Ok.tail {q : V × D} (o : Ok K H S (q :: fr) σd σ) : Ok K H S fr σd σ := ⟨o.rel, fun p hp => o.fr p (List.mem_cons_of_mem _ hp), o.len, o.si⟩
theorem Ok.head {q : V × D} (o : Ok K H S (q :: fr) σd σ) : Rp K H S q.2 q.1 := o.fr q List.mem_cons_self
theorem Ok.set (o : Ok K H S fr σd σ) (h : Rp K H S d v) (i : Nat) : Ok K H S fr (σd.set i (some d)) (σ.set i (some v)) := by
  refine ⟨o.rel, o.fr, by rw [List.length_set, List.length_set]; exact o.len, fun j e q => ?_⟩
  by_cases hj : i = j
  · subst hj
    have hl : i < σd.length := by
      rcases Nat.lt_or_ge i σd.length with z | z
      · exact z
      · have w : (σd.set i (some d))[i]? = none := List.getElem?_eq_none (by rw [List.length_set]; exact z)
        rw [w] at q; cases q
    rw [List.getElem?_set_self hl] at q
    cases q
    exact ⟨v, List.getElem?_set_self (by rw [← o.len]; exact hl), h⟩
  · rw [List.getElem?_set_ne hj] at q
    obtain ⟨w, h1, h2⟩ := o.si j e q
    exact ⟨w, by rw [List.getElem?_set_ne hj]; exact h1, h2⟩
theorem Ok.gone (o : Ok K H S fr σd σ) (i : Nat) (w : Option V) : Ok K H S fr (σd.set i none) (σ.set i w) := by
  refine ⟨o.rel, o.fr, by rw [List.length_set, List.length_set]; exact o.len, fun j e q => ?_⟩
  by_cases hj : i = j
  · subst hj
    rcases Nat.lt_or_ge i σd.length with z | z
    · rw [List.getElem?_set_self z] at q; cases q
    · have w : (σd.set i none)[i]? = none := List.getElem?_eq_none (by rw [List.length_set]; exact z)
      rw [w] at q; cases q
  · rw [List.getElem?_set_ne hj] at q
    obtain ⟨w, h1, h2⟩ := o.si j e q
    exact ⟨w, by rw [List.getElem?_set_ne hj]; exact h1, h2⟩
theorem Cl.tail {q : V × D} (c : Cl K W fr) : Cl K W (q :: fr) := fun σd σ H S cls od x o => c σd σ H S cls od x o.tail

/-! ### readings by values, lifted -/
def upE (K : PySem.W.Frag) (W : Wi) (t : TED) : TE := fun σ H Qv => ∃ σd S fr Qd, Ok K H S fr σd σ ∧ Cl K W fr ∧ t σd S Qd ∧ ∀ v d H' S', Ok K H' S' fr σd σ → Rp K H' S' d v → Qd d S' → Qv v H'
def upT (K : PySem.W.Frag) (W : Wi) (t : TTD) : TT := fun σ H Qv => ∃ σd S fr Qd, Ok K H S fr σd σ ∧ Cl K W fr ∧ t σd S Qd ∧ ∀ b H' S', Ok K H' S' fr σd σ → Qd b S' → Qv b H'
def upA (K : PySem.W.Frag) (W : Wi) (t : TAD) : TA := fun σ H Qv => ∃ σd S fr Qd, Ok K H S fr σd σ ∧ Cl K W fr ∧ t σd S Qd ∧ ∀ vs ds H' S', Ok K H' S' fr σd σ → RpL K H' S' ds vs → Qd ds S' → Qv vs H'
structure EndOk (K : PySem.W.Frag) (fr : List (V × D)) (Dd : EndsD) (D : Ends) : Prop where
  nx : ∀ σd σ H S, Ok K H S fr σd σ → Dd.nx σd S → D.nx σ H
  rt : ∀ v d σd σ H S, Ok K H S fr σd σ → Rp K H S d v → Dd.rt d S → D.rt v H
  bk : ∀ σd σ H S, Ok K H S fr σd σ → Dd.bk σd S → D.bk σ H
  ct : ∀ σd σ H S, Ok K H S fr σd σ → Dd.ct σd S → D.ct σ H
def upSt (K : PySem.W.Frag) (W : Wi) (t : TSD) : TS := fun D σ H => ∃ σd S fr Dd, Ok K H S fr σd σ ∧ Cl K W fr ∧ t Dd σd S ∧ EndOk K fr Dd D
end

theorem PE.imp {X : Cx} {e : Expr} {t t' : TE} (h : PE X e t) (k : ∀ σ H Q, t' σ H Q → t σ H Q) : PE X e t' := ⟨fun pins s σ H Q I q => h.run pins s σ H Q I (k _ _ _ q)⟩
theorem PT.imp {X : Cx} {e : Expr} {t t' : TT} (h : PT X e t) (k : ∀ σ H Q, t' σ H Q → t σ H Q) : PT X e t' := ⟨fun pins s σ H Q I q => h.run pins s σ H Q I (k _ _ _ q)⟩
theorem PW.imp {X : Cx} {e : Expr} {t t' : TT} (h : PW X e t) (k : ∀ σ H Q, t' σ H Q → t σ H Q) : PW X e t' := ⟨fun wh pins s σ H Q I q => h.run wh pins s σ H Q I (k _ _ _ q)⟩
theorem PA.imp {X : Cx} {e : List Expr} {t t' : TA} (h : PA X e t) (k : ∀ σ H Q, t' σ H Q → t σ H Q) : PA X e t' := ⟨fun pos pins s σ H Q I q => h.run pos pins s σ H Q I (k _ _ _ q)⟩
theorem PS.imp {X : Cx} {e : Stmt} {t t' : TS} (h : PS X e t) (k : ∀ D σ H, t' D σ H → t D σ H) : PS X e t' := ⟨fun pins s σ H D I q => h.run pins s σ H D I (k _ _ _ q)⟩
theorem PSs.imp {X : Cx} {e : List Stmt} {t t' : TS} (h : PSs X e t) (k : ∀ D σ H, t' D σ H → t D σ H) : PSs X e t' := ⟨fun pins s σ H D I q => h.run pins s σ H D I (k _ _ _ q)⟩

structure DE (X : Cx) (W : Wi) (e : Expr) (t : TED) : Prop where
  p : PE X e (upE X.K W t)
structure DT (X : Cx) (W : Wi) (e : Expr) (t : TTD) : Prop where
  p : PT X e (upT X.K W t)
structure DW (X : Cx) (W : Wi) (e : Expr) (t : TTD) : Prop where
  p : PW X e (upT X.K W t)
structure DA (X : Cx) (W : Wi) (es : List Expr) (t : TAD) : Prop where
  p : PA X es (upA X.K W t)
structure DS (X : Cx) (W : Wi) (s : Stmt) (t : TSD) : Prop where
  p : PS X s (upSt X.K W t)
structure DB (X : Cx) (W : Wi) (s : List Stmt) (t : TSD) : Prop where
  p : PSs X s (upSt X.K W t)
end Dv

/-! Readings by value, 1: expressions, tests, operators, displays, subscripts. -/
namespace Dv
open PySem L2 PyProof.Rows

theorem sl_eq : sizeLine = 16777216 := sizeLine_eq
theorem sz_le {n : Nat} (h : n ≤ 16777216) : n ≤ sizeLine := by rw [sl_eq]; exact h
theorem sz_lt' {n : Nat} (h : n < 16777216) : n < sizeLine := by rw [sl_eq]; exact h

section
variable {X : Cx} {W : Wi} {a b c e : Expr} {ta tb tc : TED} {tA tB : TTD} {pos : Pos} {es : List Expr}

/-! ### names, constants -/
def dVar (i : Nat) : TED := fun σ S Q => match σ[i]? with
  | some (some d) => Q d S
  | _ => False
theorem dVar_inv {i : Nat} {σ : Si} {S : Sd} {Q : DK} (h : dVar i σ S Q) : ∃ d, σ[i]? = some (some d) ∧ Q d S := by
  unfold dVar at h
  split at h
  · exact ⟨_, by assumption, h⟩
  · exact h.elim
theorem dv (i : Nat) {x : Str} {pos : Pos} (hN : X.N[i]? = some x := by rfl) (hv : Vis X.env.scope x := by first | exact Or.inl rfl | exact Or.inr (Or.inl rfl) | exact Or.inr (Or.inr rfl)) (hd : (x == ("__debug__" : Str)) = false := by decide)
    (hcd : (x == ("__classdict__" : Str)) = false := by decide) : DE X W (.Name x pos) (dVar i) :=
  ⟨PE.imp (pe_var hN hv hd hcd) fun σ H Q ⟨σd, S, fr, Qd, ok, cl, h, k⟩ => by
    obtain ⟨d, e, q⟩ := dVar_inv h
    obtain ⟨v, e2, r⟩ := ok.si i d e
    exact ⟨v, e2, k v d H S ok r q⟩⟩
def dC (d : D) : TED := fun _ S Q => Q d S
theorem de_c {v : V} {d : D} (h : PE X e (tC v)) (r : ∀ H S, Rp X.K H S d v) : DE X W e (dC d) :=
  ⟨PE.imp h fun σ H Q ⟨σd, S, fr, Qd, ok, cl, q, k⟩ => k v d H S ok (r H S) q⟩
theorem de_int {i j pos} : DE X W (.Constant (.int i) j pos) (dC (.int i)) := de_c pe_int fun _ _ => rfl
theorem de_bl {i j pos} : DE X W (.Constant (.bool i) j pos) (dC (.bl i)) := de_c pe_bl fun _ _ => rfl
theorem de_non {j pos} : DE X W (.Constant .none j pos) (dC .non) := de_c pe_non fun _ _ => rfl
theorem de_str {x j pos} : DE X W (.Constant (.str x) j pos) (dC (.str x)) := de_c pe_str fun _ _ => rfl
/-- a module's constant -/
theorem de_k {x : Str} {v : V} {d : D} {u : Value} {pos : Pos} (hg : Gl X x) (hm : X.mg x = some u) (r : RelV v u) (kr : ∀ H S, Rp X.K H S d v) (hd : (x == ("__debug__" : Str)) = false := by decide) : DE X W (.Name x pos) (dC d) := de_c (pe_glob hg hm r hd) kr
/-- a built-in class as a value -/
theorem de_ty {x : Str} {n : String} {pos : Pos} (hg : Gl X x) (hm : X.mg x = none) (hv : bootBuiltins x = some (.type n)) (hn : x ≠ "__name__" := by decide) (hd : (x == ("__debug__" : Str)) = false := by decide) : DE X W (.Name x pos) (dC (.ty n)) :=
  de_c (pe_bltn (v := .ty n) hg hm hv rfl hn hd) fun _ _ => rfl

/-! ### operators -/
abbrev RD2 := D → D → Sd → DK → Prop
def Lift2 (K : PySem.W.Frag) (r : R2) (rd : RD2) : Prop := ∀ H S fr σd σ x y dx dy Qv Qd, Ok K H S fr σd σ → Rp K H S dx x → Rp K H S dy y → rd dx dy S Qd →
  (∀ v d H' S', Ok K H' S' fr σd σ → Rp K H' S' d v → Qd d S' → Qv v H') → r x y H Qv
def OpD (X : Cx) (f : Value → Value → Sem Value) (rd : RD2) : Prop := ∃ r : R2, OpR X f r ∧ Lift2 X.K r rd
def dOp (rd : RD2) (ta tb : TED) : TED := fun σ S Q => ta σ S fun x S1 => tb σ S1 fun y S2 => rd x y S2 Q
theorem op2_lift {r : R2} {rd : RD2} (l : Lift2 X.K r rd) (σ : L2.St) (H : Hp) (Q : VK) (h : upE X.K W (dOp rd ta tb) σ H Q) : tOp r (upE X.K W ta) (upE X.K W tb) σ H Q := by
  obtain ⟨σd, S, fr, Qd, ok, cl, h, k⟩ := h
  refine ⟨σd, S, fr, _, ok, cl, h, fun x dx H1 S1 ok1 r1 h1 => ?_⟩
  refine ⟨σd, S1, (x, dx) :: fr, _, ok1.cons r1, cl.tail, h1, fun y dy H2 S2 ok2 r2 h2 => ?_⟩
  exact l H2 S2 fr σd σ x y dx dy Q Qd ok2.tail ok2.head r2 h2 k
theorem de_op {op : Operator} {rd : RD2} (ho : OpD X (binaryOp op) rd) (ha : DE X W a ta) (hb : DE X W b tb) : DE X W (.BinOp a op b pos) (dOp rd ta tb) := by
  obtain ⟨r, ho, l⟩ := ho
  exact ⟨PE.imp (pe_op ho ha.p hb.p) (op2_lift l)⟩
theorem de_cmp {op : CmpOp} {rd : RD2} (ho : OpD X (compareOp op) rd) (ha : DE X W a ta) (hb : DE X W b tb) (hm : behindInMarks op b = false) : DE X W (.Compare a [op] [b] pos) (dOp rd ta tb) := by
  obtain ⟨r, ho, l⟩ := ho
  exact ⟨PE.imp (pe_cmpR ho ha.p hb.p hm) (op2_lift l)⟩
/-- a value that is a truth, as a test -/
def dTest (t : TED) : TTD := fun σ S Q => t σ S fun x S1 => match x with
  | .bl k => Q k S1
  | _ => False
theorem test_lift {t : TED} (σ : L2.St) (H : Hp) (Q : Bool → Hp → Prop) (h : upT X.K W (dTest t) σ H Q) : tTest (upE X.K W t) σ H Q := by
  obtain ⟨σd, S, fr, Qd, ok, cl, h, k⟩ := h
  refine ⟨σd, S, fr, _, ok, cl, h, fun x dx H1 S1 ok1 r1 h1 => ?_⟩
  cases dx with
  | bl b => exact ⟨b, r1, k b H1 S1 ok1 h1⟩
  | _ => exact (show False from h1).elim
theorem tTest_mono {t t' : TE} (h : ∀ σ H Q, t' σ H Q → t σ H Q) (σ : L2.St) (H : Hp) (Q : Bool → Hp → Prop) (q : tTest t' σ H Q) : tTest t σ H Q := h σ H _ q
theorem dt_cmp {op : CmpOp} {rd : RD2} (ho : OpD X (compareOp op) rd) (ha : DE X W a ta) (hb : DE X W b tb) (hm : behindInMarks op b = false) : DT X W (.Compare a [op] [b] pos) (dTest (dOp rd ta tb)) := by
  obtain ⟨r, ho, l⟩ := ho
  exact ⟨PT.imp (pt_cmpR ho ha.p hb.p hm) fun σ H Q h => tTest_mono (op2_lift l) σ H Q (test_lift σ H Q h)⟩
/-- an expression whose value is a truth, as a test -/
theorem dt_val {t : TED} (h : DE X W e t) (he : ∀ whole, isTrue e X.env whole = (do let v ← whole; standAt e.pos; holding [v] (truthy v)) := by intro _; rfl) : DT X W e (dTest t) :=
  ⟨PT.imp (pt_val h.p he) fun σ H Q q => test_lift σ H Q q⟩
def dUn (rd : D → Sd → DK → Prop) (ta : TED) : TED := fun σ S Q => ta σ S fun x S1 => rd x S1 Q
def rdNeg : D → Sd → DK → Prop
  | .int i, S, Q => Q (.int (-i)) S
  | _, _, _ => False
/-! ### and, or, not -/
def dAndV (ta tb : TED) : TED := fun σ S Q => ta σ S fun x S1 => match x with
  | .bl k => if k = true then tb σ S1 Q else Q (.bl false) S1
  | _ => False
def dOrV (ta tb : TED) : TED := fun σ S Q => ta σ S fun x S1 => match x with
  | .bl k => if k = true then Q (.bl true) S1 else tb σ S1 Q
  | _ => False
def dNotV (ta : TED) : TED := fun σ S Q => ta σ S fun x S1 => match x with
  | .bl k => Q (.bl (!k)) S1
  | _ => False
theorem de_one {op : BoolOp} (h : DE X W a ta) : DE X W (.BoolOp op [a] pos) ta := ⟨pe_one h.p⟩
theorem de_and {rest : List Expr} (ha : DE X W a ta) (hb : DE X W (.BoolOp .And (b :: rest) pos) tb) : DE X W (.BoolOp .And (a :: b :: rest) pos) (dAndV ta tb) :=
  ⟨PE.imp (pe_and ha.p hb.p) fun σ H Q ⟨σd, S, fr, Qd, ok, cl, h, k⟩ => ⟨σd, S, fr, _, ok, cl, h, fun x dx H1 S1 ok1 r1 h1 => by
    cases dx with
    | bl b =>
      refine ⟨b, r1, ?_⟩
      cases b with
      | true => exact (if_pos rfl : _ = _) ▸ ⟨σd, S1, fr, Qd, ok1, cl, (show tb σd S1 Qd from by simpa using h1), k⟩
      | false => exact (show Q (.bl false) H1 from k _ (.bl false) H1 S1 ok1 rfl (by simpa using h1))
    | _ => exact (show False from h1).elim⟩⟩
theorem de_not (ha : DE X W a ta) : DE X W (.UnaryOp .Not a pos) (dNotV ta) :=
  ⟨PE.imp (pe_not ha.p) fun σ H Q ⟨σd, S, fr, Qd, ok, cl, h, k⟩ => ⟨σd, S, fr, _, ok, cl, h, fun x dx H1 S1 ok1 r1 h1 => by
    cases dx with
    | bl b => exact ⟨b, r1, k _ (.bl (!b)) H1 S1 ok1 rfl h1⟩
    | _ => exact (show False from h1).elim⟩⟩
def dAnd (t u : TTD) : TTD := fun σ S Q => t σ S fun k S1 => if k = true then u σ S1 Q else Q false S1
def dOr (t u : TTD) : TTD := fun σ S Q => t σ S fun k S1 => if k = true then Q true S1 else u σ S1 Q
def dNot (t : TTD) : TTD := fun σ S Q => t σ S fun k S1 => Q (!k) S1
theorem DW.pt (h : DW X W e tA) : DT X W e tA := ⟨h.p.pt⟩
theorem dw_and1 (ha : DT X W a tA) : DW X W (.BoolOp .And [a] pos) tA := ⟨pw_and1 ha.p⟩
theorem dw_or1 (ha : DT X W a tA) : DW X W (.BoolOp .Or [a] pos) tA := ⟨pw_or1 ha.p⟩
theorem dw_and {rest : List Expr} (ha : DT X W a tA) (hb : DW X W (.BoolOp .And (b :: rest) pos) tB) : DW X W (.BoolOp .And (a :: b :: rest) pos) (dAnd tA tB) :=
  ⟨PW.imp (pw_and ha.p hb.p) fun σ H Q ⟨σd, S, fr, Qd, ok, cl, h, k⟩ => ⟨σd, S, fr, _, ok, cl, h, fun c H1 S1 ok1 h1 => by
    cases c with
    | true => exact (show upT X.K W tB σ H1 Q from ⟨σd, S1, fr, Qd, ok1, cl, (show tB σd S1 Qd from by simpa using h1), k⟩)
    | false => exact (show Q false H1 from k false H1 S1 ok1 (by simpa using h1))⟩⟩
theorem dw_or {rest : List Expr} (ha : DT X W a tA) (hb : DW X W (.BoolOp .Or (b :: rest) pos) tB) : DW X W (.BoolOp .Or (a :: b :: rest) pos) (dOr tA tB) :=
  ⟨PW.imp (pw_or ha.p hb.p) fun σ H Q ⟨σd, S, fr, Qd, ok, cl, h, k⟩ => ⟨σd, S, fr, _, ok, cl, h, fun c H1 S1 ok1 h1 => by
    cases c with
    | false => exact (show upT X.K W tB σ H1 Q from ⟨σd, S1, fr, Qd, ok1, cl, (show tB σd S1 Qd from by simpa using h1), k⟩)
    | true => exact (show Q true H1 from k true H1 S1 ok1 (by simpa using h1))⟩⟩
theorem dt_not (ha : DT X W a tA) : DT X W (.UnaryOp .Not a pos) (dNot tA) :=
  ⟨PT.imp (pt_not ha.p) fun σ H Q ⟨σd, S, fr, Qd, ok, cl, h, k⟩ => ⟨σd, S, fr, _, ok, cl, h, fun c H1 S1 ok1 h1 => k (!c) H1 S1 ok1 h1⟩⟩
def dIf (t : TTD) (ta tb : TED) : TED := fun σ S Q => t σ S fun k S1 => if k = true then ta σ S1 Q else tb σ S1 Q
theorem de_if (hc : DT X W c tA) (ha : DE X W a ta) (hb : DE X W b tb) : DE X W (.IfExp c a b pos) (dIf tA ta tb) :=
  ⟨PE.imp (pe_ifExp hc.p ha.p hb.p) fun σ H Q ⟨σd, S, fr, Qd, ok, cl, h, k⟩ => ⟨σd, S, fr, _, ok, cl, h, fun c H1 S1 ok1 h1 => by
    cases c with
    | true => exact (show upE X.K W ta σ H1 Q from ⟨σd, S1, fr, Qd, ok1, cl, (show ta σd S1 Qd from by simpa using h1), k⟩)
    | false => exact (show upE X.K W tb σ H1 Q from ⟨σd, S1, fr, Qd, ok1, cl, (show tb σd S1 Qd from by simpa using h1), k⟩)⟩⟩

/-! ### arguments, displays -/
def dNil : TAD := fun _ S Q => Q [] S
def dCons (ta : TED) (tr : TAD) : TAD := fun σ S Q => ta σ S fun x S1 => tr σ S1 fun xs S2 => Q (x :: xs) S2
theorem da_nil : DA X W [] dNil := ⟨PA.imp pa_nil fun σ H Q ⟨σd, S, fr, Qd, ok, cl, h, k⟩ => k [] [] H S ok rfl h⟩
theorem da_cons {tr : TAD} (ha : DE X W a ta) (hr : DA X W es tr) (hs : starEach (a :: es) X.env = (false, eval a X.env) :: starEach es X.env := by rfl) : DA X W (a :: es) (dCons ta tr) :=
  ⟨PA.imp (pa_cons ha.p hr.p hs) fun σ H Q ⟨σd, S, fr, Qd, ok, cl, h, k⟩ => ⟨σd, S, fr, _, ok, cl, h, fun x dx H1 S1 ok1 r1 h1 =>
    ⟨σd, S1, (x, dx) :: fr, _, ok1.cons r1, cl.tail, h1, fun vs ds H2 S2 ok2 r2 h2 => k (x :: vs) (dx :: ds) H2 S2 ok2.tail (rpL_cons ok2.head r2) h2⟩⟩⟩
def dTup (t : TAD) : TED := fun σ S Q => t σ S fun ds S1 => ds.length ≤ 16777216 ∧ Q (.tup ds) S1
def dLst (t : TAD) : TED := fun σ S Q => t σ S fun ds S1 => ds.length ≤ 16777216 ∧ Q (.lst ds) S1
/-- an owned list -/
def dLstO (t : TAD) : TED := fun σ S Q => t σ S fun ds S1 => ds.length ≤ 16777216 ∧ ∀ p, S1 p = none → Q (.obj p) (upS S1 p (.lst ds))
theorem rp_tupNew {K : PySem.W.Frag} {H : Hp} {S : Sd} {p : Addr} {vs : List V} {ds : List D} (R : RelS K H S) (hp : H p = none) (r : RpL K H S ds vs) : Rp K (upd H p (.tup vs)) S (.tup ds) (.ref p) :=
  ⟨p, vs, rfl, SqT.of upd_same, rpL_step R (step_new hp) _ _ r⟩
theorem rp_lstNew {K : PySem.W.Frag} {H : Hp} {S : Sd} {p : Addr} {vs : List V} {ds : List D} (R : RelS K H S) (hp : H p = none) (r : RpL K H S ds vs) : Rp K (upd H p (.lst vs)) S (.lst ds) (.ref p) :=
  ⟨p, vs, rfl, .inl ⟨.inl upd_same, R.free hp⟩, rpL_step R (step_new hp) _ _ r⟩
theorem Ok.new {K : PySem.W.Frag} {H : Hp} {S : Sd} {fr : List (V × D)} {σd : Si} {σ : L2.St} {p : Addr} {o : HO} (ok : Ok K H S fr σd σ) (hp : H p = none) : Ok K (upd H p o) S fr σd σ := ok.step (step_new hp) (rel_new ok.rel hp)
theorem soOk_new {K : PySem.W.Frag} {H : Hp} {S : Sd} {p : Addr} {vs : List V} {ds : List D} (R : RelS K H S) (hp : H p = none) (r : RpL K H S ds vs) : SoOk K (upd H p (.lst vs)) (upS S p (.lst ds)) p (.lst ds) :=
  ⟨vs, upd_same, rpL_step R (step_own hp) _ _ r⟩
theorem Ok.own {K : PySem.W.Frag} {H : Hp} {S : Sd} {fr : List (V × D)} {σd : Si} {σ : L2.St} {p : Addr} {vs : List V} {ds : List D} (ok : Ok K H S fr σd σ) (hp : H p = none) (r : RpL K H S ds vs) :
    Ok K (upd H p (.lst vs)) (upS S p (.lst ds)) fr σd σ := ok.step (step_own hp) (rel_own ok.rel hp (soOk_new ok.rel hp r))
theorem de_tup {x1 : Nat} {t : TAD} (h : DA X W es t) : DE X W (.Tuple es x1 pos) (dTup t) :=
  ⟨PE.imp (pe_tup h.p) fun σ H Q ⟨σd, S, fr, Qd, ok, cl, h, k⟩ => ⟨σd, S, fr, _, ok, cl, h, fun vs ds H1 S1 ok1 r1 h1 => ⟨sz_le (by rw [← rpL_len r1]; exact h1.1), fun p hp =>
    k (.ref p) (.tup ds) _ S1 (ok1.new hp) (rp_tupNew ok1.rel hp r1) h1.2⟩⟩⟩
theorem de_lst {t : TAD} (h : DA X W es t) : DE X W (.List es pos) (dLst t) :=
  ⟨PE.imp (pe_lst h.p) fun σ H Q ⟨σd, S, fr, Qd, ok, cl, h, k⟩ => ⟨σd, S, fr, _, ok, cl, h, fun vs ds H1 S1 ok1 r1 h1 => ⟨sz_le (by rw [← rpL_len r1]; exact h1.1), fun p hp =>
    k (.ref p) (.lst ds) _ S1 (ok1.new hp) (rp_lstNew ok1.rel hp r1) h1.2⟩⟩⟩
theorem de_lstO {t : TAD} (h : DA X W es t) : DE X W (.List es pos) (dLstO t) :=
  ⟨PE.imp (pe_lst h.p) fun σ H Q ⟨σd, S, fr, Qd, ok, cl, h, k⟩ => ⟨σd, S, fr, _, ok, cl, h, fun vs ds H1 S1 ok1 r1 h1 => ⟨sz_le (by rw [← rpL_len r1]; exact h1.1), fun p hp =>
    k (.ref p) (.obj p) _ (upS S1 p (.lst ds)) (ok1.own hp r1) rfl (h1.2 p (ok1.rel.free hp))⟩⟩⟩
end

/-! ### the arithmetic operators -/
/-- the items of a sequence -/
def itemsD (S : Sd) : D → Option (List D)
  | .tup ds => some ds
  | .lst ds => some ds
  | .obj a => match S a with
    | some (.lst ds) => some ds
    | _ => none
  | _ => none
section
variable {K : PySem.W.Frag} {H : Hp} {S : Sd} {fr : List (V × D)} {σd : Si} {σ : L2.St} {d : D} {v : V} {ds : List D}
/-- a list's items by the heap -/
theorem rp_list (R : RelS K H S) (h : Rp K H S (.lst ds) v) : ∃ a vs, v = .ref a ∧ SqL K H a vs ∧ RpL K H S ds vs := by
  obtain ⟨a, vs, e, q, r⟩ := h
  refine ⟨a, vs, e, ?_, r⟩
  rcases q with ⟨q, _⟩ | q
  · exact .inl q
  · exact .inr q
theorem rp_obj (R : RelS K H S) {a : Addr} (e : S a = some (.lst ds)) : ∃ vs, H a = some (.lst vs) ∧ RpL K H S ds vs := R a _ e
theorem rp_items (R : RelS K H S) (h : Rp K H S d v) (e : itemsD S d = some ds) : ∃ a vs, v = .ref a ∧ (SqL K H a vs ∨ SqT K H a vs) ∧ RpL K H S ds vs := by
  cases d with
  | tup xs =>
    cases e
    obtain ⟨a, vs, e, q, r⟩ := h
    exact ⟨a, vs, e, .inr q, r⟩
  | lst xs =>
    cases e
    obtain ⟨a, vs, e, q, r⟩ := rp_list R h
    exact ⟨a, vs, e, .inl q, r⟩
  | obj a =>
    have e' : (match S a with | some (.lst ds) => some ds | _ => none) = some ds := e
    split at e'
    · rename_i xs q
      cases e'
      obtain ⟨vs, q1, q2⟩ := rp_obj R q
      exact ⟨a, vs, h, .inl (.inl (.inl q1)), q2⟩
    · cases e'
  | _ => cases e
end

/-- the items of a list -/
def lstD (S : Sd) : D → Option (List D)
  | .lst ds => some ds
  | .obj a => match S a with
    | some (.lst ds) => some ds
    | _ => none
  | _ => none
theorem rp_lstD {K : PySem.W.Frag} {H : Hp} {S : Sd} {d : D} {v : V} {ds : List D} (R : RelS K H S) (h : Rp K H S d v) (e : lstD S d = some ds) : ∃ a vs, v = .ref a ∧ SqL K H a vs ∧ RpL K H S ds vs := by
  cases d with
  | lst xs =>
    cases e
    exact rp_list R h
  | obj a =>
    have e' : (match S a with | some (.lst ds) => some ds | _ => none) = some ds := e
    split at e'
    · rename_i xs q
      cases e'
      obtain ⟨vs, q1, q2⟩ := rp_obj R q
      exact ⟨a, vs, h, .inl (.inl q1), q2⟩
    · cases e'
  | _ => cases e
def catD (Q : DK) (S : Sd) : Option (List D) → Option (List D) → Prop
  | some a, some b => a.length + b.length ≤ 16777216 ∧ Q (.lst (a ++ b)) S
  | _, _ => False
theorem catD_inv {Q : DK} {S : Sd} : ∀ {o u : Option (List D)}, catD Q S o u → ∃ a b, o = some a ∧ u = some b ∧ a.length + b.length ≤ 16777216 ∧ Q (.lst (a ++ b)) S
  | some a, some b, h => ⟨a, b, rfl, rfl, h.1, h.2⟩
  | none, _, h => h.elim
  | some _, none, h => h.elim
def rdAdd : RD2 := fun x y S Q => match x, y with
  | .int i, .int j => Q (.int (i + j)) S
  | .int i, .bl k => Q (.int (i + b2i k)) S
  | .str x, .str y => x.length + y.length ≤ 16777216 ∧ Q (.str (x ++ y)) S
  | .tup x, .tup y => x.length + y.length ≤ 16777216 ∧ Q (.tup (x ++ y)) S
  | x, y => catD Q S (lstD S x) (lstD S y)
def rdSub : RD2
  | .int i, .int j, S, Q => Q (.int (i - j)) S
  | _, _, _, _ => False
def rdFdiv : RD2
  | .int i, .int j, S, Q => (j ≠ 0 ∧ j.natAbs.log2 < 9000) ∧ Q (.int (i.fdiv j)) S
  | _, _, _, _ => False
def rdMod : RD2
  | .int i, .int j, S, Q => j ≠ 0 ∧ Q (.int (i.fmod j)) S
  | _, _, _, _ => False
def rdPow : RD2
  | .int i, .int j, S, Q => (0 ≤ j ∧ ((i.natAbs.log2 : Int) + 1) * j ≤ 134217728) ∧ Q (.int (i ^ j.toNat)) S
  | _, _, _, _ => False
section
variable {X : Cx}
theorem od_sub : OpD X (binaryOp .Sub) rdSub := ⟨_, op_sub, fun H S fr σd σ x y dx dy Qv Qd ok rx ry h k => by
  cases dx with
  | int i =>
    cases dy with
    | int j => exact ⟨i, j, rx, ry, k _ (.int (i - j)) H S ok rfl h⟩
    | _ => exact (show False from h).elim
  | _ => cases dy <;> exact (show False from h).elim⟩
theorem od_fdiv : OpD X (binaryOp .FloorDiv) rdFdiv := ⟨rI (fun _ j => j ≠ 0 ∧ j.natAbs.log2 < 9000) fun i j => .int (i.fdiv j), opI (fun i j t u s Q E hc q => floordiv_int hc.1 q (.inl (PyProof.noPylong_of_log2 hc.2))), fun H S fr σd σ x y dx dy Qv Qd ok rx ry h k => by
  cases dx with
  | int i =>
    cases dy with
    | int j => exact ⟨i, j, rx, ry, h.1, k _ (.int (i.fdiv j)) H S ok rfl h.2⟩
    | _ => exact (show False from h).elim
  | _ => cases dy <;> exact (show False from h).elim⟩
theorem od_mod : OpD X (binaryOp .Mod) rdMod := ⟨_, op_modN, fun H S fr σd σ x y dx dy Qv Qd ok rx ry h k => by
  cases dx with
  | int i =>
    cases dy with
    | int j => exact ⟨i, j, rx, ry, h.1, k _ (.int (i.fmod j)) H S ok rfl h.2⟩
    | _ => exact (show False from h).elim
  | _ => cases dy <;> exact (show False from h).elim⟩
theorem bits_le (x : Int) : Builtin.Int.intBits x ≤ x.natAbs.log2 + 1 := by
  unfold Builtin.Int.intBits
  split <;> omega
theorem od_pow : OpD X (binaryOp .Pow) rdPow := ⟨rI (fun i j => 0 ≤ j ∧ ((i.natAbs.log2 : Int) + 1) * j ≤ 134217728) fun i j => .int (i ^ j.toNat), opI (fun i j t u s Q E hc q => pow_int hc.1 (by
    have h1 := bits_le i
    have h2 : (Builtin.Int.intBits i : Int) * j ≤ ((i.natAbs.log2 : Int) + 1) * j := Int.mul_le_mul_of_nonneg_right (by omega) hc.1
    have h3 := hc.2
    have h4 : (2 : Int) ^ 27 = 134217728 := by decide
    omega) q), fun H S fr σd σ x y dx dy Qv Qd ok rx ry h k => by
  cases dx with
  | int i =>
    cases dy with
    | int j => exact ⟨i, j, rx, ry, h.1, k _ (.int (i ^ j.toNat)) H S ok rfl h.2⟩
    | _ => exact (show False from h).elim
  | _ => cases dy <;> exact (show False from h).elim⟩
/-- two lists, tracked or not -/
def rCatL (K : PySem.W.Frag) : R2 := fun x y H Q => ∃ l b xs zs, x = .ref l ∧ y = .ref b ∧ SqL K H l xs ∧ SqL K H b zs ∧ xs.length + zs.length ≤ sizeLine ∧ ∀ p, H p = none → Q (.ref p) (upd H p (.lst (xs ++ zs)))
theorem op_catL : OpR X (binaryOp .Add) (rCatL X.K) := by
  intro pins s σ H x y v u Q I rx ry h
  obtain ⟨l, b, xs, zs, rfl, rfl, hH, hB, hz, q⟩ := h
  cases rx
  cases ry
  obtain ⟨its, r, ⟨o1, n1, e1, c1, d1, f1⟩, z1⟩ := I.list hH
  obtain ⟨its2, r2, ⟨o2, n2, e2, c2, d2, f2⟩, z2⟩ := I.list hB
  obtain ⟨cls, dd, data, sl⟩ := o1
  obtain ⟨cls2, dd2, data2, sl2⟩ := o2
  simp only at c1 d1 f1 c2 d2 f2
  subst c1 d1 f1 c2 d2 f2
  have ea : its.toArray ++ its2.toArray = (its ++ its2).toArray := by simp
  have l1 := r.length
  have l2 := r2.length
  refine concat_meets ⟨_, e1, rfl⟩ ⟨_, e2, rfl⟩ noFill_list_add seq_list_add PySem.F.slot_list_add PySem.F.entry_list_add (PySem.F.args_list_add_2 _ _) (list_addW l b its.toArray its2.toArray n1 n2 none none sl sl2 (by simp only [List.size_toArray]; omega)) ⟨e1, e2, ?_⟩
  rw [ea]
  exact ⟨.ref _, _, I.lnew (t' := s.toks) (r.append r2) (by rw [List.length_append]; omega), rfl, q _ I.fresh⟩
theorem od_add : OpD X (binaryOp .Add) rdAdd := by
  refine ⟨_, (op_add (X := X)).or (op_add_ib.or (op_add_str.or (op_catA.or op_catL))), fun H S fr σd σ x y dx dy Qv Qd ok rx ry h k => ?_⟩
  have lists : catD Qd S (lstD S dx) (lstD S dy) → rCatL X.K x y H Qv := fun q => by
    obtain ⟨a, b, h1, h2, h3⟩ := catD_inv q
    obtain ⟨p, vs, e1, q1, r1⟩ := rp_lstD ok.rel rx h1
    obtain ⟨q, ws, e2, q2, r2⟩ := rp_lstD ok.rel ry h2
    exact ⟨p, q, vs, ws, e1, e2, q1, q2, by rw [← rpL_len r1, ← rpL_len r2, sl_eq]; exact h3.1, fun l hl => k _ (.lst (a ++ b)) _ S (ok.new hl) (rp_lstNew ok.rel hl (rpL_app r1 r2)) h3.2⟩
  cases dx with
  | int i =>
    cases dy with
    | int j => exact .inl ⟨i, j, rx, ry, k _ (.int (i + j)) H S ok rfl h⟩
    | bl j => exact .inr (.inl ⟨i, j, rx, ry, k _ (.int (i + b2i j)) H S ok rfl h⟩)
    | _ => exact (show False from h).elim
  | str i =>
    cases dy with
    | str j => exact .inr (.inr (.inl ⟨i, j, rx, ry, by rw [sl_eq]; exact h.1, k _ (.str (i ++ j)) H S ok rfl h.2⟩))
    | _ => exact (show False from h).elim
  | tup xs =>
    cases dy with
    | tup ys =>
      obtain ⟨p, vs, e1, q1, r1⟩ := rx
      obtain ⟨q, ws, e2, q2, r2⟩ := ry
      have h' : xs.length + ys.length ≤ 16777216 ∧ Qd (.tup (xs ++ ys)) S := h
      refine .inr (.inr (.inr (.inl ⟨p, q, vs, ws, e1, e2, q1, q2, by rw [← rpL_len r1, ← rpL_len r2, sl_eq]; exact h'.1, fun e => ?_, fun _ e => ?_, fun _ _ l hl => ?_⟩)))
      · subst e
        have e3 : xs = [] := List.length_eq_zero_iff.mp (rpL_len r1)
        subst e3
        exact k _ (.tup ys) H S ok ⟨q, ws, rfl, q2, r2⟩ h'.2
      · subst e
        have e3 : ys = [] := List.length_eq_zero_iff.mp (rpL_len r2)
        subst e3
        have q := h'.2
        rw [List.append_nil] at q
        exact k _ (.tup xs) H S ok ⟨p, vs, rfl, q1, r1⟩ q
      · exact k _ (.tup (xs ++ ys)) _ S (ok.new hl) (rp_tupNew ok.rel hl (rpL_app r1 r2)) h'.2
    | _ => exact (show False from h).elim
  | lst xs => exact .inr (.inr (.inr (.inr (lists (by cases dy <;> exact h)))))
  | obj p => exact .inr (.inr (.inr (.inr (lists (by cases dy <;> exact h)))))
  | non => exact (by cases dy <;> exact h : False).elim
  | bl b => exact (by cases dy <;> exact h : False).elim
  | tupX ds => exact (by cases dy <;> exact h : False).elim
  | inst C ns ds => exact (by cases dy <;> exact h : False).elim
  | ty n => exact (by cases dy <;> exact h : False).elim
  | exc a od ns xs => exact (by cases dy <;> exact h : False).elim
  | fn x => exact (by cases dy <;> exact h : False).elim
end
end Dv

/-! Readings by value, 2: equality, order, chains, in, subscripts, slices, calls, built-ins. -/
namespace Dv
open PySem L2 PyProof.Rows

/-! ### plain data -/
mutual
def isData : D → Bool
  | .non => true | .bl _ => true | .int _ => true | .str _ => true
  | .tup ds => isDataL ds
  | .lst ds => isDataL ds
  | _ => false
def isDataL : List D → Bool
  | [] => true
  | d :: ds => isData d && isDataL ds
end
mutual
def pd : D → PyData
  | .bl b => .bool b | .int i => .int i | .str x => .str x
  | .tup ds => .tuple (pdL ds)
  | .lst ds => .list (pdL ds)
  | _ => .none
def pdL : List D → List PyData
  | [] => []
  | d :: ds => pd d :: pdL ds
end
mutual
/-- == of data -/
def deq : D → D → Bool
  | .non, .non => true
  | .bl a, .bl b => a == b
  | .bl a, .int j => (if a then 1 else 0) == j
  | .int i, .bl b => i == (if b then 1 else 0)
  | .int i, .int j => i == j
  | .str x, .str y => x == y
  | .tup xs, .tup ys => deqL xs ys
  | .lst xs, .lst ys => deqL xs ys
  | _, _ => false
def deqL : List D → List D → Bool
  | [], [] => true
  | x :: xs, y :: ys => deq x y && deqL xs ys
  | _, _ => false
end
mutual
theorem eqv_pd : ∀ (x y : D), isData x = true → isData y = true → PyData.eqv (pd x) (pd y) = deq x y
  | .tup xs, y, hx, hy => by
    cases y with
    | tup ys =>
      have h1 : isDataL xs = true := hx
      have h2 : isDataL ys = true := hy
      show PyData.eqvAll (pdL xs) (pdL ys) = deqL xs ys
      exact eqv_pdL xs ys h1 h2
    | tupX _ => exact absurd (show false = true from hy) Bool.false_ne_true
    | inst _ _ _ => exact absurd (show false = true from hy) Bool.false_ne_true
    | obj _ => exact absurd (show false = true from hy) Bool.false_ne_true
    | ty _ => exact absurd (show false = true from hy) Bool.false_ne_true
    | exc _ _ _ _ => exact absurd (show false = true from hy) Bool.false_ne_true
    | fn _ => exact absurd (show false = true from hy) Bool.false_ne_true
    | _ => rfl
  | .lst xs, y, hx, hy => by
    cases y with
    | lst ys =>
      have h1 : isDataL xs = true := hx
      have h2 : isDataL ys = true := hy
      show PyData.eqvAll (pdL xs) (pdL ys) = deqL xs ys
      exact eqv_pdL xs ys h1 h2
    | tupX _ => exact absurd (show false = true from hy) Bool.false_ne_true
    | inst _ _ _ => exact absurd (show false = true from hy) Bool.false_ne_true
    | obj _ => exact absurd (show false = true from hy) Bool.false_ne_true
    | ty _ => exact absurd (show false = true from hy) Bool.false_ne_true
    | exc _ _ _ _ => exact absurd (show false = true from hy) Bool.false_ne_true
    | fn _ => exact absurd (show false = true from hy) Bool.false_ne_true
    | _ => rfl
  | .non, y, hx, hy => by
    cases y with
    | tupX _ => exact absurd (show false = true from hy) Bool.false_ne_true
    | inst _ _ _ => exact absurd (show false = true from hy) Bool.false_ne_true
    | obj _ => exact absurd (show false = true from hy) Bool.false_ne_true
    | ty _ => exact absurd (show false = true from hy) Bool.false_ne_true
    | exc _ _ _ _ => exact absurd (show false = true from hy) Bool.false_ne_true
    | fn _ => exact absurd (show false = true from hy) Bool.false_ne_true
    | _ => rfl
  | .bl _, y, hx, hy => by
    cases y with
    | tupX _ => exact absurd (show false = true from hy) Bool.false_ne_true
    | inst _ _ _ => exact absurd (show false = true from hy) Bool.false_ne_true
    | obj _ => exact absurd (show false = true from hy) Bool.false_ne_true
    | ty _ => exact absurd (show false = true from hy) Bool.false_ne_true
    | exc _ _ _ _ => exact absurd (show false = true from hy) Bool.false_ne_true
    | fn _ => exact absurd (show false = true from hy) Bool.false_ne_true
    | _ => rfl
  | .int _, y, hx, hy => by
    cases y with
    | tupX _ => exact absurd (show false = true from hy) Bool.false_ne_true
    | inst _ _ _ => exact absurd (show false = true from hy) Bool.false_ne_true
    | obj _ => exact absurd (show false = true from hy) Bool.false_ne_true
    | ty _ => exact absurd (show false = true from hy) Bool.false_ne_true
    | exc _ _ _ _ => exact absurd (show false = true from hy) Bool.false_ne_true
    | fn _ => exact absurd (show false = true from hy) Bool.false_ne_true
    | _ => rfl
  | .str _, y, hx, hy => by
    cases y with
    | tupX _ => exact absurd (show false = true from hy) Bool.false_ne_true
    | inst _ _ _ => exact absurd (show false = true from hy) Bool.false_ne_true
    | obj _ => exact absurd (show false = true from hy) Bool.false_ne_true
    | ty _ => exact absurd (show false = true from hy) Bool.false_ne_true
    | exc _ _ _ _ => exact absurd (show false = true from hy) Bool.false_ne_true
    | fn _ => exact absurd (show false = true from hy) Bool.false_ne_true
    | _ => rfl
  | .tupX _, y, hx, hy => absurd (show false = true from hx) Bool.false_ne_true
  | .inst _ _ _, y, hx, hy => absurd (show false = true from hx) Bool.false_ne_true
  | .obj _, y, hx, hy => absurd (show false = true from hx) Bool.false_ne_true
  | .ty _, y, hx, hy => absurd (show false = true from hx) Bool.false_ne_true
  | .exc _ _ _ _, y, hx, hy => absurd (show false = true from hx) Bool.false_ne_true
theorem eqv_pdL : ∀ (xs ys : List D), isDataL xs = true → isDataL ys = true → PyData.eqvAll (pdL xs) (pdL ys) = deqL xs ys
  | [], [], _, _ => rfl
  | [], y :: ys, _, _ => rfl
  | x :: xs, [], _, _ => rfl
  | x :: xs, y :: ys, hx, hy => by
    have h1 := Bool.and_eq_true_iff.mp (show (isData x && isDataL xs) = true from hx)
    have h2 := Bool.and_eq_true_iff.mp (show (isData y && isDataL ys) = true from hy)
    show (PyData.eqv (pd x) (pd y) && PyData.eqvAll (pdL xs) (pdL ys)) = (deq x y && deqL xs ys)
    rw [eqv_pd x y h1.1 h2.1, eqv_pdL xs ys h1.2 h2.2]
end
section
variable {K : PySem.W.Frag} {H : Hp} {S : Sd}
mutual
theorem dp_of (R : RelS K H S) : ∀ (d : D) (v : V), isData d = true → Rp K H S d v → Dp K H v (pd d)
  | .non, v, _, h => by
    have e : v = .non := h
    subst e; exact .non
  | .bl b, v, _, h => by
    have e : v = .bl b := h
    subst e; exact .bl b
  | .int i, v, _, h => by
    have e : v = .int i := h
    subst e; exact .int i
  | .str x, v, _, h => by
    have e : v = .str x := h
    subst e; exact .str x
  | .tup ds, v, k, h => by
    obtain ⟨a, vs, e, q, r⟩ := h
    subst e
    exact .tup q (dp_ofL R ds vs k r)
  | .lst ds, v, k, h => by
    obtain ⟨a, vs, e, q, r⟩ := rp_list R h
    subst e
    exact .lst q (dp_ofL R ds vs k r)
  | .tupX _, v, k, _ => absurd (show false = true from k) Bool.false_ne_true
  | .inst _ _ _, v, k, _ => absurd (show false = true from k) Bool.false_ne_true
  | .obj _, v, k, _ => absurd (show false = true from k) Bool.false_ne_true
  | .ty _, v, k, _ => absurd (show false = true from k) Bool.false_ne_true
  | .exc _ _ _ _, v, k, _ => absurd (show false = true from k) Bool.false_ne_true
theorem dp_ofL (R : RelS K H S) : ∀ (ds : List D) (vs : List V), isDataL ds = true → RpL K H S ds vs → DpAll K H vs (pdL ds)
  | [], vs, _, h => by
    have e : vs = [] := h
    subst e; exact .nil
  | d :: ds, vs, k, h => by
    obtain ⟨v, r, e, h1, h2⟩ := h
    subst e
    have k' := Bool.and_eq_true_iff.mp (show (isData d && isDataL ds) = true from k)
    exact .cons (dp_of R d v k'.1 h1) (dp_ofL R ds r k'.2 h2)
end
end
/-- what == may be asked of -/
def eqOk (d : D) : Bool := isData d && SeqAt.shaped (pd d)
def rdEq : RD2 := fun x y S Q => match x, y with
  | .int i, .int j => Q (.bl (decide (i = j))) S
  | .str i, .str j => Q (.bl (decide (i = j))) S
  | .bl i, .bl j => Q (.bl (decide (i = j))) S
  | x, y => (eqOk x = true ∧ eqOk y = true) ∧ Q (.bl (deq x y)) S
def rdNe : RD2 := fun x y S Q => match x, y with
  | .int i, .int j => Q (.bl (!decide (i = j))) S
  | .str i, .str j => Q (.bl (!decide (i = j))) S
  | .bl i, .bl j => Q (.bl (!decide (i = j))) S
  | x, y => (eqOk x = true ∧ eqOk y = true) ∧ Q (.bl (!deq x y)) S
def rdLt : RD2
  | .int i, .int j, S, Q => Q (.bl (decide (i < j))) S
  | _, _, _, _ => False
def rdLe : RD2
  | .int i, .int j, S, Q => Q (.bl (decide (i ≤ j))) S
  | _, _, _, _ => False
def rdGt : RD2
  | .int i, .int j, S, Q => Q (.bl (decide (j < i))) S
  | _, _, _, _ => False
def rdGe : RD2
  | .int i, .int j, S, Q => Q (.bl (decide (j ≤ i))) S
  | _, _, _, _ => False
def rdIsN : RD2
  | x, .non, S, Q => Q (.bl (match x with | .non => true | _ => false)) S
  | _, _, _, _ => False
def rdNotN : RD2
  | x, .non, S, Q => Q (.bl (match x with | .non => false | _ => true)) S
  | _, _, _, _ => False
theorem rp_non {K : PySem.W.Frag} {H : Hp} {S : Sd} {d : D} {v : V} (h : Rp K H S d v) : decide (v = .non) = (match d with | .non => true | _ => false) := by
  cases d with
  | non => have e : v = .non := h; subst e; rfl
  | bl b => have e : v = .bl b := h; subst e; rfl
  | int b => have e : v = .int b := h; subst e; rfl
  | str b => have e : v = .str b := h; subst e; rfl
  | tup ds => obtain ⟨a, vs, e, _⟩ := h; subst e; rfl
  | lst ds => obtain ⟨a, vs, e, _⟩ := h; subst e; rfl
  | tupX ds => obtain ⟨a, o, vs, e, _⟩ := h; subst e; rfl
  | inst C ns ds => obtain ⟨C2, a, dx, fs, c, e, _⟩ := h; subst e; rfl
  | obj a => have e : v = .ref a := h; subst e; rfl
  | ty n => have e : v = .ty n := h; subst e; rfl
  | exc a od ns xs => obtain ⟨e, _⟩ := h; subst e; rfl
  | fn x => obtain ⟨f, e, _⟩ := h; subst e; rfl
section
variable {X : Cx}
theorem ordI {f : Value → Value → Sem Value} {g : Int → Int → Bool} {rd : RD2} (ho : OpR X f (rI0 fun i j => .bl (g i j))) (h : ∀ x y S Q, rd x y S Q → ∃ i j, x = .int i ∧ y = .int j ∧ Q (.bl (g i j)) S) : OpD X f rd :=
  ⟨_, ho, fun H S fr σd σ x y dx dy Qv Qd ok rx ry q k => by
    obtain ⟨i, j, rfl, rfl, q'⟩ := h dx dy S Qd q
    exact ⟨i, j, rx, ry, k _ (.bl (g i j)) H S ok rfl q'⟩⟩
theorem od_lt : OpD X (compareOp .Lt) rdLt := ordI op_lt fun x y S Q h => by
  cases x with
  | int i => cases y with
    | int j => exact ⟨i, j, rfl, rfl, h⟩
    | _ => exact (show False from h).elim
  | _ => cases y <;> exact (show False from h).elim
theorem od_le : OpD X (compareOp .LtE) rdLe := ordI op_le fun x y S Q h => by
  cases x with
  | int i => cases y with
    | int j => exact ⟨i, j, rfl, rfl, h⟩
    | _ => exact (show False from h).elim
  | _ => cases y <;> exact (show False from h).elim
theorem od_gt : OpD X (compareOp .Gt) rdGt := ordI op_gt fun x y S Q h => by
  cases x with
  | int i => cases y with
    | int j => exact ⟨i, j, rfl, rfl, h⟩
    | _ => exact (show False from h).elim
  | _ => cases y <;> exact (show False from h).elim
theorem od_ge : OpD X (compareOp .GtE) rdGe := ordI op_ge fun x y S Q h => by
  cases x with
  | int i => cases y with
    | int j => exact ⟨i, j, rfl, rfl, h⟩
    | _ => exact (show False from h).elim
  | _ => cases y <;> exact (show False from h).elim
theorem eq_lift {K : PySem.W.Frag} : Lift2 K (fun x y H Q => rEq x y H Q ∨ rEqD K x y H Q) rdEq := fun H S fr σd σ x y dx dy Qv Qd ok rx ry h k => by
  have gen : (eqOk dx = true ∧ eqOk dy = true) ∧ Qd (.bl (deq dx dy)) S → rEqD K x y H Qv := fun ⟨⟨h1, h2⟩, q⟩ => by
    have a1 := Bool.and_eq_true_iff.mp h1
    have a2 := Bool.and_eq_true_iff.mp h2
    refine ⟨pd dx, pd dy, dp_of ok.rel dx x a1.1 rx, dp_of ok.rel dy y a2.1 ry, a1.2, a2.2, ?_⟩
    rw [eqv_pd dx dy a1.1 a2.1]
    exact k _ (.bl (deq dx dy)) H S ok rfl q
  cases dx with
  | int i => cases dy with
    | int j =>
      have e1 : x = .int i := rx
      have e2 : y = .int j := ry
      subst e1 e2
      refine .inl ⟨rfl, ?_⟩
      refine k _ (.bl (decide (i = j))) H S ok ?_ h
      show V.bl _ = V.bl _
      congr 1
      simp
    | _ => exact .inr (gen h)
  | str i => cases dy with
    | str j =>
      have e1 : x = .str i := rx
      have e2 : y = .str j := ry
      subst e1 e2
      refine .inl ⟨rfl, ?_⟩
      refine k _ (.bl (decide (i = j))) H S ok ?_ h
      show V.bl _ = V.bl _
      congr 1
      simp
    | _ => exact .inr (gen h)
  | bl i => cases dy with
    | bl j =>
      have e1 : x = .bl i := rx
      have e2 : y = .bl j := ry
      subst e1 e2
      refine .inl ⟨rfl, ?_⟩
      refine k _ (.bl (decide (i = j))) H S ok ?_ h
      show V.bl _ = V.bl _
      congr 1
      simp
    | _ => exact .inr (gen h)
  | _ => exact .inr (gen (by cases dy <;> exact h))
theorem ne_lift {K : PySem.W.Frag} : Lift2 K (fun x y H Q => rNe x y H Q ∨ rNeD K x y H Q) rdNe := fun H S fr σd σ x y dx dy Qv Qd ok rx ry h k => by
  have gen : (eqOk dx = true ∧ eqOk dy = true) ∧ Qd (.bl (!deq dx dy)) S → rNeD K x y H Qv := fun ⟨⟨h1, h2⟩, q⟩ => by
    have a1 := Bool.and_eq_true_iff.mp h1
    have a2 := Bool.and_eq_true_iff.mp h2
    refine ⟨pd dx, pd dy, dp_of ok.rel dx x a1.1 rx, dp_of ok.rel dy y a2.1 ry, a1.2, a2.2, ?_⟩
    rw [eqv_pd dx dy a1.1 a2.1]
    exact k _ (.bl (!deq dx dy)) H S ok rfl q
  cases dx with
  | int i => cases dy with
    | int j =>
      have e1 : x = .int i := rx
      have e2 : y = .int j := ry
      subst e1 e2
      refine .inl ⟨rfl, ?_⟩
      refine k _ (.bl (!decide (i = j))) H S ok ?_ h
      show V.bl _ = V.bl _
      congr 1
      simp
    | _ => exact .inr (gen h)
  | str i => cases dy with
    | str j =>
      have e1 : x = .str i := rx
      have e2 : y = .str j := ry
      subst e1 e2
      refine .inl ⟨rfl, ?_⟩
      refine k _ (.bl (!decide (i = j))) H S ok ?_ h
      show V.bl _ = V.bl _
      congr 1
      simp
    | _ => exact .inr (gen h)
  | bl i => cases dy with
    | bl j =>
      have e1 : x = .bl i := rx
      have e2 : y = .bl j := ry
      subst e1 e2
      refine .inl ⟨rfl, ?_⟩
      refine k _ (.bl (!decide (i = j))) H S ok ?_ h
      show V.bl _ = V.bl _
      congr 1
      simp
    | _ => exact .inr (gen h)
  | _ => exact .inr (gen (by cases dy <;> exact h))
theorem od_eq (hu : X.A.units + 64 < cLine) : OpD X (compareOp .Eq) rdEq := ⟨_, op_eq.or (op_eqD hu), eq_lift⟩
theorem od_ne (hu : X.A.units + 64 < cLine) : OpD X (compareOp .NotEq) rdNe := ⟨_, op_ne.or (op_neD hu), ne_lift⟩
theorem od_notN : OpD X (compareOp .IsNot) rdNotN := ⟨_, op_notN, fun H S fr σd σ x y dx dy Qv Qd ok rx ry h k => by
  cases dy with
  | non =>
    refine ⟨ry, ?_⟩
    rw [rp_non rx]
    cases dx <;> exact k _ (.bl _) H S ok rfl h
  | _ => cases dx <;> exact (show False from h).elim⟩
end

/-! ### chains of comparisons -/
section
variable {X : Cx} {W : Wi} {a b c d e : Expr} {ta tb tc td : TED} {pos : Pos}
def dChain (r r' : RD2) (ta tb tc : TED) : TED := fun σ S Q => ta σ S fun x S1 => tb σ S1 fun y S2 => r x y S2 fun z S3 => match z with
  | .bl k => if k = true then tc σ S3 fun w S4 => r' y w S4 Q else Q (.bl false) S3
  | _ => False
theorem chain_lift {r r' : R2} {rd rd' : RD2} (l : Lift2 X.K r rd) (l' : Lift2 X.K r' rd') (σ : L2.St) (H : Hp) (Q : VK) (h : upE X.K W (dChain rd rd' ta tb tc) σ H Q) : tChain r r' (upE X.K W ta) (upE X.K W tb) (upE X.K W tc) σ H Q := by
  obtain ⟨σd, S, fr, Qd, ok, cl, h, k⟩ := h
  refine ⟨σd, S, fr, _, ok, cl, h, fun x dx H1 S1 ok1 r1 h1 => ?_⟩
  refine ⟨σd, S1, (x, dx) :: fr, _, ok1.cons r1, cl.tail, h1, fun y dy H2 S2 ok2 r2 h2 => ?_⟩
  refine l H2 S2 ((y, dy) :: fr) σd σ x y dx dy _ _ (ok2.tail.cons r2) ok2.head r2 h2 fun z dz H3 S3 ok3 r3 h3 => ?_
  cases dz with
  | bl k0 =>
    refine ⟨k0, r3, ?_⟩
    cases k0 with
    | true =>
      exact (show upE X.K W tc σ H3 (fun w' H4 => r' y w' H4 Q) from ⟨σd, S3, (y, dy) :: fr, _, ok3, cl.tail, (show tc σd S3 _ from by simpa using h3), fun w dw H4 S4 ok4 r4 h4 =>
        l' H4 S4 fr σd σ y w dy dw Q Qd ok4.tail ok4.head r4 h4 k⟩)
    | false => exact (show Q (.bl false) H3 from k _ (.bl false) H3 S3 ok3.tail rfl (by simpa using h3))
  | _ => exact (show False from h3).elim
theorem de_chain {op op' : CmpOp} {rd rd' : RD2} (ho : OpD X (compareOp op) rd) (ho' : OpD X (compareOp op') rd') (ha : DE X W a ta) (hb : DE X W b tb) (hc : DE X W c tc)
    (hm : lastMarks [op, op'] [b, c] = false := by with_unfolding_all rfl) : DE X W (.Compare a [op, op'] [b, c] pos) (dChain rd rd' ta tb tc) := by
  obtain ⟨r, ho, l⟩ := ho
  obtain ⟨r', ho', l'⟩ := ho'
  exact ⟨PE.imp (pe_chain ho ho' ha.p hb.p hc.p hm) (chain_lift l l')⟩
theorem dt_chain {op op' : CmpOp} {rd rd' : RD2} (ho : OpD X (compareOp op) rd) (ho' : OpD X (compareOp op') rd') (ha : DE X W a ta) (hb : DE X W b tb) (hc : DE X W c tc)
    (hm : lastMarks [op, op'] [b, c] = false := by with_unfolding_all rfl) : DT X W (.Compare a [op, op'] [b, c] pos) (dTest (dChain rd rd' ta tb tc)) := by
  obtain ⟨r, ho, l⟩ := ho
  obtain ⟨r', ho', l'⟩ := ho'
  exact ⟨PT.imp (pt_chain ho ho' ha.p hb.p hc.p hm) fun σ H Q h => tTest_mono (chain_lift l l') σ H Q (test_lift σ H Q h)⟩
def dChain3 (r r' r2 : RD2) (ta tb tc td : TED) : TED := fun σ S Q => ta σ S fun x S1 => tb σ S1 fun y S2 => r x y S2 fun z S3 => match z with
  | .bl k => if k = true then tc σ S3 fun w S4 => r' y w S4 fun z2 S5 => match z2 with
      | .bl k2 => if k2 = true then td σ S5 fun w2 S6 => r2 w w2 S6 Q else Q (.bl false) S5
      | _ => False
    else Q (.bl false) S3
  | _ => False
end

/-! ### subscripts, slices -/
def ixQ (S : Sd) (Q : DK) : Option D → Prop
  | some d => Q d S
  | none => False
def ixS (S : Sd) (Q : DK) : Option Nat → Prop
  | some c => Q (.str ⟨#[c]⟩) S
  | none => False
def rdIx : RD2
  | .tup ds, .int i, S, Q => ixQ S Q (atI ds i)
  | .lst ds, .int i, S, Q => ixQ S Q (atI ds i)
  | .obj a, .int i, S, Q => match S a with
    | some (.lst ds) => ixQ S Q (atI ds i)
    | _ => False
  | .str z, .int i, S, Q => z.length ≤ 16777216 ∧ ixS S Q (atI z.cps.toList i)
  | _, _, _, _ => False
theorem ixQ_inv {S : Sd} {Q : DK} {o : Option D} (h : ixQ S Q o) : ∃ d, o = some d ∧ Q d S := by
  cases o with
  | none => exact h.elim
  | some d => exact ⟨d, rfl, h⟩
theorem atI_rp {K : PySem.W.Frag} {H : Hp} {S : Sd} {ds : List D} {vs : List V} {i : Int} {d : D} (r : RpL K H S ds vs) (h : atI ds i = some d) : ∃ v, atI vs i = some v ∧ Rp K H S d v := by
  unfold atI at h ⊢
  rw [← rpL_len r]
  cases e : ixN ds.length i with
  | none => rw [e] at h; cases h
  | some j =>
    rw [e] at h
    exact rpL_get r h
section
variable {X : Cx} {W : Wi} {a b e : Expr} {ta tb te : TED} {pos p2 : Pos}
theorem ix_lift {K : PySem.W.Frag} : Lift2 K (rIx K) rdIx := fun H S fr σd σ x y dx dy Qv Qd ok rx ry h k => by
  cases dy with
  | int i =>
    cases dx with
    | tup ds =>
      obtain ⟨d, e, q⟩ := ixQ_inv h
      obtain ⟨p, vs, e1, q1, r1⟩ := rx
      obtain ⟨v, e2, r2⟩ := atI_rp r1 e
      exact .inr (.inl ⟨p, vs, i, v, e1, ry, q1, e2, k v d H S ok r2 q⟩)
    | lst ds =>
      obtain ⟨d, e, q⟩ := ixQ_inv h
      obtain ⟨p, vs, e1, q1, r1⟩ := rp_list ok.rel rx
      obtain ⟨v, e2, r2⟩ := atI_rp r1 e
      exact .inl ⟨p, vs, i, v, e1, ry, q1, e2, k v d H S ok r2 q⟩
    | obj p =>
      have h' : (match S p with | some (.lst ds) => ixQ S Qd (atI ds i) | _ => False) := h
      split at h'
      · rename_i ds q0
        obtain ⟨d, e, q⟩ := ixQ_inv h'
        obtain ⟨vs, q1, r1⟩ := rp_obj ok.rel q0
        obtain ⟨v, e2, r2⟩ := atI_rp r1 e
        exact .inl ⟨p, vs, i, v, rx, ry, SqL.of q1, e2, k v d H S ok r2 q⟩
      · exact h'.elim
    | str z =>
      have h' : z.length ≤ 16777216 ∧ ixS S Qd (atI z.cps.toList i) := h
      cases e : atI z.cps.toList i with
      | none => rw [e] at h'; exact h'.2.elim
      | some c =>
        rw [e] at h'
        exact .inr (.inr ⟨z, i, c, rx, ry, sz_le h'.1, e, k _ (.str ⟨#[c]⟩) H S ok rfl h'.2⟩)
    | _ => exact (show False from h).elim
  | _ => cases dx <;> exact (show False from h).elim
theorem de_ix (ha : DE X W a ta) (hb : DE X W b tb) (hs : PlainIx b) : DE X W (.Subscript a b pos) (dOp rdIx ta tb) := ⟨PE.imp (pe_ix ix_seq ha.p hb.p hs) (op2_lift ix_lift)⟩
abbrev TOD := Si → Sd → (Option Int → Sd → Prop) → Prop
def upO (K : PySem.W.Frag) (W : Wi) (t : TOD) : TO := fun σ H Qv => ∃ σd S fr Qd, Ok K H S fr σd σ ∧ Cl K W fr ∧ t σd S Qd ∧ ∀ o H' S', Ok K H' S' fr σd σ → Qd o S' → Qv o H'
structure DO (X : Cx) (W : Wi) (e : Option Expr) (t : TOD) : Prop where
  p : PO X e (upO X.K W t)
def dNoPart : TOD := fun _ S Q => Q none S
def dPart (t : TED) : TOD := fun σ S Q => t σ S fun x S1 => match x with
  | .int i => Q (some i) S1
  | _ => False
theorem PO.imp {e : Option Expr} {t t' : TO} (h : PO X e t) (k : ∀ σ H Q, t' σ H Q → t σ H Q) : PO X e t' := ⟨fun pins s σ H Q I q => h.run pins s σ H Q I (k _ _ _ q)⟩
theorem do_none : DO X W none dNoPart := ⟨PO.imp po_none fun σ H Q ⟨σd, S, fr, Qd, ok, cl, h, k⟩ => k none H S ok h⟩
theorem do_some (h : DE X W e te) : DO X W (some e) (dPart te) := ⟨PO.imp (po_some h.p) fun σ H Q ⟨σd, S, fr, Qd, ok, cl, h, k⟩ => ⟨σd, S, fr, _, ok, cl, h, fun x dx H1 S1 ok1 r1 h1 => by
  cases dx with
  | int i => exact ⟨i, r1, k (some i) H1 S1 ok1 h1⟩
  | _ => exact (show False from h1).elim⟩⟩
def cutD (xs : List D) (lo hi : Option Int) : List D := (xs.drop (HT.sIx xs.length 0 lo)).take (HT.sIx xs.length xs.length hi - HT.sIx xs.length 0 lo)
def rdSl : D → Option Int → Option Int → Sd → DK → Prop
  | .tup ds, lo, hi, S, Q => Q (.tup (cutD ds lo hi)) S
  | .lst ds, lo, hi, S, Q => Q (.lst (cutD ds lo hi)) S
  | .obj a, lo, hi, S, Q => match S a with
    | some (.lst ds) => Q (.lst (cutD ds lo hi)) S
    | _ => False
  | .str z, lo, hi, S, Q => z.length ≤ 16777216 ∧ Q (.str (cutS z lo hi)) S
  | _, _, _, _, _ => False
def dSl (te : TED) (tl th : TOD) : TED := fun σ S Q => te σ S fun x S1 => tl σ S1 fun l S2 => th σ S2 fun u S3 => rdSl x l u S3 Q
theorem cut_rp {K : PySem.W.Frag} {H : Hp} {S : Sd} {ds : List D} {vs : List V} {lo hi : Option Int} (r : RpL K H S ds vs) : RpL K H S (cutD ds lo hi) (cutV vs lo hi) := by
  unfold cutD cutV
  rw [← rpL_len r]
  exact rpL_take _ (rpL_drop _ r)
theorem de_slice {lo hi : Option Expr} {tl th : TOD} (he : DE X W e te) (hl : DO X W lo tl) (hu : DO X W hi th) : DE X W (.Subscript e (.Slice lo hi none p2) pos) (dSl te tl th) :=
  ⟨PE.imp (pe_slice (sl_list.or (sl_tupA.or sl_str)) he.p hl.p hu.p) fun σ H Q ⟨σd, S, fr, Qd, ok, cl, h, k⟩ => ⟨σd, S, fr, _, ok, cl, h, fun x dx H1 S1 ok1 r1 h1 =>
    ⟨σd, S1, (x, dx) :: fr, _, ok1.cons r1, cl.tail, h1, fun l H2 S2 ok2 h2 => ⟨σd, S2, (x, dx) :: fr, _, ok2, cl.tail, h2, fun u H3 S3 ok3 h3 => by
      have rx := ok3.head
      have ok4 := ok3.tail
      cases dx with
      | lst ds =>
        obtain ⟨p, vs, e1, q1, r1⟩ := rp_list ok4.rel rx
        exact .inl ⟨p, vs, e1, q1, fun p hp => k _ (.lst (cutD ds l u)) _ S3 (ok4.new hp) (rp_lstNew ok4.rel hp (cut_rp r1)) h3⟩
      | obj p =>
        have h' : (match S3 p with | some (.lst ds) => Qd (.lst (cutD ds l u)) S3 | _ => False) := h3
        split at h'
        · rename_i ds q0
          obtain ⟨vs, q1, r1⟩ := rp_obj ok4.rel q0
          exact .inl ⟨p, vs, rx, SqL.of q1, fun p hp => k _ (.lst (cutD ds l u)) _ S3 (ok4.new hp) (rp_lstNew ok4.rel hp (cut_rp r1)) h'⟩
        · exact h'.elim
      | tup ds =>
        obtain ⟨p, vs, e1, q1, r1⟩ := rx
        refine .inr (.inl ⟨p, vs, e1, q1, fun hw => ?_, fun _ p hp => k _ (.tup (cutD ds l u)) _ S3 (ok4.new hp) (rp_tupNew ok4.rel hp (cut_rp r1)) h3⟩)
        have e2 : cutD ds l u = ds := by
          unfold cutD
          rw [rpL_len r1, hw.1, hw.2, List.drop_zero, Nat.sub_zero, ← rpL_len r1, List.take_length]
        have h' : Qd (.tup (cutD ds l u)) S3 := h3
        rw [e2] at h'
        exact k _ (.tup ds) H3 S3 ok4 ⟨p, vs, rfl, q1, r1⟩ h'
      | str z =>
        have h' : z.length ≤ 16777216 ∧ Qd (.str (cutS z l u)) S3 := h3
        exact .inr (.inr ⟨z, rx, sz_le h'.1, k _ (.str (cutS z l u)) H3 S3 ok4 rfl h'.2⟩)
      | _ => exact (show False from h3).elim⟩⟩⟩⟩
end
end Dv

/-! Readings by value, 3: calls, built-ins, statements, loops, comprehensions, defs. -/
namespace Dv
open PySem L2 PyProof.Rows

/-! ### the promise of a def, lifted -/
abbrev SpD := List D → Sd → DK → XKD → Prop
def FrOk (K : PySem.W.Frag) (H : Hp) (S : Sd) (fr : List (V × D)) : Prop := ∀ p ∈ fr, Rp K H S p.2 p.1
def upF (K : PySem.W.Frag) (sp : SpD) : Sp := fun vs H Qv E => ∃ ds S fr Qd Ed, RelS K H S ∧ FrOk K H S fr ∧ RpL K H S ds vs ∧ sp ds S Qd Ed ∧
  (∀ v d H' S', RelS K H' S' → FrOk K H' S' fr → Rp K H' S' d v → Qd d S' → Qv v H') ∧
  ∀ cls od x H' S', RelS K H' S' → FrOk K H' S' fr → RpX K H' S' x cls od → Ed x S' → E cls od H'
/-- the known slots, as pairs -/
def prs (σd : Si) (σ : L2.St) : List (V × D) := (σ.zip σd).filterMap fun p => match p with
  | (some v, some d) => some (v, d)
  | _ => none
theorem prs_mem {σd : Si} {σ : L2.St} {i : Nat} {v : V} {d : D} (h1 : σ[i]? = some (some v)) (h2 : σd[i]? = some (some d)) : (v, d) ∈ prs σd σ := by
  unfold prs
  refine List.mem_filterMap.mpr ⟨(some v, some d), ?_, rfl⟩
  refine List.mem_iff_getElem?.mpr ⟨i, ?_⟩
  rw [List.getElem?_zip_eq_some]
  exact ⟨h1, h2⟩
theorem prs_of {σd : Si} {σ : L2.St} {p : V × D} (h : p ∈ prs σd σ) : ∃ i : Nat, σ[i]? = some (some p.1) ∧ σd[i]? = some (some p.2) := by
  unfold prs at h
  obtain ⟨q, hq, e⟩ := List.mem_filterMap.mp h
  obtain ⟨i, hi⟩ := List.mem_iff_getElem?.mp hq
  rw [List.getElem?_zip_eq_some] at hi
  obtain ⟨q1, q2⟩ := q
  cases q1 with
  | none => cases e
  | some v => cases q2 with
    | none => cases e
    | some d =>
      cases e
      exact ⟨i, hi.1, hi.2⟩
section
variable {K : PySem.W.Frag} {H : Hp} {S : Sd} {fr : List (V × D)} {σd : Si} {σ : L2.St}
theorem Ok.out (ok : Ok K H S fr σd σ) : FrOk K H S (fr ++ prs σd σ) := fun p hp => by
  rcases List.mem_append.mp hp with h | h
  · exact ok.fr p h
  · obtain ⟨i, h1, h2⟩ := prs_of h
    obtain ⟨v, h3, r⟩ := ok.si i _ h2
    rw [h1] at h3
    cases h3
    exact r
theorem Ok.back {H' : Hp} {S' : Sd} (ok : Ok K H S fr σd σ) (R : RelS K H' S') (f : FrOk K H' S' (fr ++ prs σd σ)) : Ok K H' S' fr σd σ :=
  ⟨R, fun p hp => f p (List.mem_append_left _ hp), ok.len, fun i d e => by
    obtain ⟨v, h1, _⟩ := ok.si i d e
    exact ⟨v, h1, f (v, d) (List.mem_append_right _ (prs_mem h1 e))⟩⟩
end

section
variable {X : Cx} {W : Wi} {k : Nat} {f : Addr} {fd : FuncData} {ps : List Str} {sp : SpD} {ds : List Value} {dvs : List V} {dds : List D} {x : Str} {p pos : Pos} {e : Expr} {es : List Expr} {t : TAD}
def dCall (sp : SpD) (dds : List D) (WD : WXD) (t : TAD) : TED := fun σ S Q => t σ S fun xs S1 => sp (xs ++ dds) S1 Q fun y S2 => WD y σ S2
theorem call_lift (hdd : ∀ H S, RpL X.K H S dds dvs) (σ : L2.St) (H : Hp) (Q : VK) (h : upE X.K W (dCall sp dds W.D t) σ H Q) : tCallSD (upF X.K sp) dvs (WE W.V) (upA X.K W t) σ H Q := by
  obtain ⟨σd, S, fr, Qd, ok, cl, h, k⟩ := h
  refine ⟨σd, S, fr, _, ok, cl, h, fun vs ds H1 S1 ok1 r1 h1 => ?_⟩
  refine ⟨ds ++ dds, S1, fr ++ prs σd σ, Qd, _, ok1.rel, ok1.out, rpL_app r1 (hdd H1 S1), h1, fun v d H2 S2 R2 f2 r2 q2 => ?_, fun cls od x H2 S2 R2 f2 rx q2 => ?_⟩
  · exact k v d H2 S2 (ok1.back R2 f2) r2 q2
  · exact cl σd σ H2 S2 cls od x (ok1.back R2 f2) rx q2
theorem de_call (F : Hx.FnG X.prog X.w X.K X.mg X.base (L2N.CX X.prog X.w) k f fd ps (upF X.K sp)) (hr : Hx.RoomG k X.A) (hg : Gl X x) (hm : X.mg x = some (.ref f)) (hk : PySem.W.keepIn X.K (.ref f) = true) (hb : Binds X.K fd ps ds) (hd : Vals dvs ds)
    (hdd : ∀ H S, RpL X.K H S dds dvs) (tk : L2N.Takes X W.V) (ha : DA X W (e :: es) t) (hdb : (x == ("__debug__" : Str)) = false := by decide) (he : starEach (e :: es) X.env = (false, eval e X.env) :: starEach es X.env := by rfl)
    (hpl : (backTo pos (starEach es X.env)).any (·.1) = false := by rfl) : DE X W (.Call (.Name x p) (e :: es) [] pos) (dCall sp dds W.D t) :=
  ⟨PE.imp (Hx.pe_callG F hr hg hm hk hb hd (fun σ => L2N.passAt tk σ) ha.p hdb he hpl) (call_lift hdd)⟩

/-! ### built-ins -/
abbrev RDC := List D → Sd → DK → Prop
def LiftC (K : PySem.W.Frag) (r : List V → Hp → VK → Prop) (rd : RDC) : Prop := ∀ H S fr σd σ xs ds Qv Qd, Ok K H S fr σd σ → RpL K H S ds xs → rd ds S Qd →
  (∀ v d H' S', Ok K H' S' fr σd σ → Rp K H' S' d v → Qd d S' → Qv v H') → r xs H Qv
def CallD (X : Cx) (f : Value) (rd : RDC) : Prop := ∃ r, CallR X f r ∧ LiftC X.K r rd
def dCB (rd : RDC) (t : TAD) : TED := fun σ S Q => t σ S fun xs S1 => rd xs S1 Q
theorem cb_lift {r : List V → Hp → VK → Prop} {rd : RDC} (l : LiftC X.K r rd) (σ : L2.St) (H : Hp) (Q : VK) (h : upE X.K W (dCB rd t) σ H Q) : tCB r (upA X.K W t) σ H Q := by
  obtain ⟨σd, S, fr, Qd, ok, cl, h, k⟩ := h
  exact ⟨σd, S, fr, _, ok, cl, h, fun vs ds H1 S1 ok1 r1 h1 => l H1 S1 fr σd σ vs ds Q Qd ok1 r1 h1 k⟩
theorem de_callB {id : String} {rd : RDC} (hc : CallD X (.builtin id) rd) (hg : Gl X x) (hm : X.mg x = none) (hv : bootBuiltins x = some (.builtin id)) (ha : DA X W (e :: es) t) (hn : x ≠ "__name__" := by decide) (hdb : (x == ("__debug__" : Str)) = false := by decide)
    (he : starEach (e :: es) X.env = (false, eval e X.env) :: starEach es X.env := by rfl) (hpl : (backTo pos (starEach es X.env)).any (·.1) = false := by rfl) : DE X W (.Call (.Name x p) (e :: es) [] pos) (dCB rd t) := by
  obtain ⟨r, hc, l⟩ := hc
  exact ⟨PE.imp (pe_callB hc hg hm hv ha.p hn hdb he hpl) (cb_lift l)⟩
theorem de_callTy {T : String} {rd : RDC} (hc : CallD X (.type T) rd) (hg : Gl X x) (hm : X.mg x = none) (hv : bootBuiltins x = some (.type T)) (ha : DA X W (e :: es) t) (hn : x ≠ "__name__" := by decide) (hdb : (x == ("__debug__" : Str)) = false := by decide)
    (he : starEach (e :: es) X.env = (false, eval e X.env) :: starEach es X.env := by rfl) (hpl : (backTo pos (starEach es X.env)).any (·.1) = false := by rfl) : DE X W (.Call (.Name x p) (e :: es) [] pos) (dCB rd t) := by
  obtain ⟨r, hc, l⟩ := hc
  exact ⟨PE.imp (pe_callTy hc hg hm hv ha.p hn hdb he hpl) (cb_lift l)⟩
end
section
variable {K : PySem.W.Frag} {H : Hp} {S : Sd}
theorem rpL1 {d : D} {vs : List V} (h : RpL K H S [d] vs) : ∃ v, vs = [v] ∧ Rp K H S d v := by
  obtain ⟨v, r, e, h1, h2⟩ := h
  have e2 : r = [] := h2
  subst e2
  exact ⟨v, e, h1⟩
theorem rpL2 {c d : D} {vs : List V} (h : RpL K H S [c, d] vs) : ∃ v w, vs = [v, w] ∧ Rp K H S c v ∧ Rp K H S d w := by
  obtain ⟨v, r, e, h1, h2⟩ := h
  obtain ⟨w, e2, h3⟩ := rpL1 h2
  subst e2
  exact ⟨v, w, e, h1, h3⟩
theorem rpL_of_ints {ns : List Int} : RpL K H S (ns.map D.int) (ns.map V.int) := by
  induction ns with
  | nil => exact rfl
  | cons n r ih => exact ⟨_, _, rfl, rfl, ih⟩
theorem rpL_bls {ns : List Bool} : ∀ {vs : List V}, RpL K H S (ns.map D.bl) vs → vs = ns.map V.bl := by
  induction ns with
  | nil => intro vs h; exact h
  | cons n r ih =>
    intro vs h
    obtain ⟨v, s, e, h1, h2⟩ := h
    have e1 : v = .bl n := h1
    rw [e, e1, ih h2]
    rfl
theorem rpL_strs {ns : List Str} : ∀ {vs : List V}, RpL K H S (ns.map D.str) vs → vs = ns.map V.str := by
  induction ns with
  | nil => intro vs h; exact h
  | cons n r ih =>
    intro vs h
    obtain ⟨v, s, e, h1, h2⟩ := h
    have e1 : v = .str n := h1
    rw [e, e1, ih h2]
    rfl
end
def rdLen : RDC
  | [.str z], S, Q => z.length ≤ 16777216 ∧ Q (.int z.length) S
  | [d], S, Q => match itemsD S d with
    | some ds => Q (.int ds.length) S
    | none => False
  | _, _, _ => False
def rdAbs : RDC
  | [.int i], S, Q => Q (.int (if i < 0 then -i else i)) S
  | _, _, _ => False
def rdMax2 : RDC
  | [.int i, .int j], S, Q => Q (.int (if j > i then j else i)) S
  | _, _, _ => False
def rdMin2 : RDC
  | [.int i, .int j], S, Q => Q (.int (if j < i then j else i)) S
  | _, _, _ => False
def rdInt : RDC
  | [.int i], S, Q => Q (.int i) S
  | [.bl b], S, Q => Q (.int (if b then 1 else 0)) S
  | _, _, _ => False
def rdAll : RDC
  | [d], S, Q => ∃ bs : List Bool, lstD S d = some (bs.map D.bl) ∧ Q (.bl (bs.all id)) S
  | _, _, _ => False
def rdTupC : RDC
  | [d], S, Q => match itemsD S d with
    | some ds => Q (.tup ds) S
    | none => False
  | _, _, _ => False
def rdListC : RDC
  | [d], S, Q => match itemsD S d with
    | some ds => Q (.lst ds) S
    | none => False
  | _, _, _ => False
/-- a value's built-in type -/
def tyD : D → Option String
  | .non => some "NoneType" | .bl _ => some "bool" | .int _ => some "int" | .str _ => some "str" | .tup _ => some "tuple" | .lst _ => some "list" | _ => none
def isiD (d : D) (n : String) : Option Bool := match tyD d with
  | some t => kitB t n
  | none => none
def rdIsi : RDC
  | [d, .ty n], S, Q => match isiD d n with
    | some b => Q (.bl b) S
    | none => False
  | _, _, _ => False
section
variable {X : Cx}
theorem cd_len : CallD X (.builtin "len") rdLen := ⟨_, call_len, fun H S fr σd σ xs ds Qv Qd ok r h k => by
  match ds, r, h with
  | [d], r, h =>
    obtain ⟨v, rfl, r0⟩ := rpL1 r
    have r := r0
    have gen : (match itemsD S d with | some ds => Qd (.int ds.length) S | none => False) → ∃ x n, [v] = [x] ∧ LenV X.K x H n ∧ Qv (.int n) H := fun h => by
      cases e : itemsD S d with
      | none => rw [e] at h; exact h.elim
      | some ds =>
        rw [e] at h
        obtain ⟨a, vs, rfl, q, r2⟩ := rp_items ok.rel r e
        refine ⟨_, vs.length, rfl, ?_, k _ (.int ds.length) H S ok (by rw [rpL_len r2]; rfl) h⟩
        rcases q with q | q
        · exact .inl ⟨vs, q, rfl⟩
        · exact .inr ⟨vs, q, rfl⟩
    cases d with
    | str z =>
      have e : v = .str z := r
      subst e
      have h' : z.length ≤ 16777216 ∧ Qd (.int z.length) S := h
      exact ⟨_, z.length, rfl, ⟨sz_le h'.1, rfl⟩, k _ (.int z.length) H S ok rfl h'.2⟩
    | _ => exact gen h
  | [], _, h => exact (show False from h).elim
  | a :: _ :: _, _, h => exact (by cases a <;> exact h : False).elim⟩
theorem int1_lift {K : PySem.W.Frag} {g : Int → D} {gv : Int → V} {rd : RDC} (hg : ∀ i H S, Rp K H S (g i) (gv i)) (h1 : ∀ ds S Q, rd ds S Q → ∃ i, ds = [.int i] ∧ Q (g i) S) :
    LiftC K (fun xs H Q => ∃ i, xs = [.int i] ∧ Q (gv i) H) rd := fun H S fr σd σ xs ds Qv Qd ok r h k => by
  obtain ⟨i, rfl, q⟩ := h1 ds S Qd h
  obtain ⟨v, rfl, r0⟩ := rpL1 r
  have r := r0
  have e : v = .int i := r
  subst e
  exact ⟨i, rfl, k _ (g i) H S ok (hg i H S) q⟩
theorem inv_abs {ds : List D} {S : Sd} {Q : DK} (h : rdAbs ds S Q) : ∃ i, ds = [.int i] ∧ Q (.int (if i < 0 then -i else i)) S := by
  cases ds with
  | nil => exact h.elim
  | cons d t => cases t with
    | nil => cases d <;> first | exact ⟨_, rfl, h⟩ | exact (show False from h).elim
    | cons e r => cases d <;> exact (show False from h).elim
theorem inv_int {ds : List D} {S : Sd} {Q : DK} (h : rdInt ds S Q) : (∃ i, ds = [.int i] ∧ Q (.int i) S) ∨ ∃ b, ds = [.bl b] ∧ Q (.int (if b then 1 else 0)) S := by
  cases ds with
  | nil => exact h.elim
  | cons d t => cases t with
    | nil => cases d <;> first | exact .inl ⟨_, rfl, h⟩ | exact .inr ⟨_, rfl, h⟩ | exact (show False from h).elim
    | cons e r => cases d <;> exact (show False from h).elim
theorem inv_max2 {ds : List D} {S : Sd} {Q : DK} (h : rdMax2 ds S Q) : ∃ i j, ds = [.int i, .int j] ∧ Q (.int (if j > i then j else i)) S := by
  cases ds with
  | nil => exact h.elim
  | cons d t => cases t with
    | nil => cases d <;> exact (show False from h).elim
    | cons e r => cases r with
      | nil => cases d <;> cases e <;> first | exact ⟨_, _, rfl, h⟩ | exact (show False from h).elim
      | cons f r => cases d <;> cases e <;> exact (show False from h).elim
theorem inv_min2 {ds : List D} {S : Sd} {Q : DK} (h : rdMin2 ds S Q) : ∃ i j, ds = [.int i, .int j] ∧ Q (.int (if j < i then j else i)) S := by
  cases ds with
  | nil => exact h.elim
  | cons d t => cases t with
    | nil => cases d <;> exact (show False from h).elim
    | cons e r => cases r with
      | nil => cases d <;> cases e <;> first | exact ⟨_, _, rfl, h⟩ | exact (show False from h).elim
      | cons f r => cases d <;> cases e <;> exact (show False from h).elim
theorem inv_isi {ds : List D} {S : Sd} {Q : DK} (h : rdIsi ds S Q) : ∃ d n b, ds = [d, .ty n] ∧ isiD d n = some b ∧ Q (.bl b) S := by
  cases ds with
  | nil => exact h.elim
  | cons d t => cases t with
    | nil => exact (show False from h).elim
    | cons e r => cases r with
      | cons f r => cases e <;> exact (show False from h).elim
      | nil =>
        cases e with
        | ty n =>
          have h' : (match isiD d n with | some b => Q (.bl b) S | none => False) := h
          cases q : isiD d n with
          | none => rw [q] at h'; exact h'.elim
          | some b => rw [q] at h'; exact ⟨d, n, b, rfl, q, h'⟩
        | _ => exact (show False from h).elim
theorem cd_abs : CallD X (.builtin "abs") rdAbs := ⟨_, call_abs, int1_lift (g := fun i => .int (if i < 0 then -i else i)) (fun _ _ _ => rfl) fun ds S Q h => inv_abs h⟩
theorem int2_lift {K : PySem.W.Frag} {g : Int → Int → D} {gv : Int → Int → V} {rd : RDC} (hg : ∀ i j H S, Rp K H S (g i j) (gv i j)) (h1 : ∀ ds S Q, rd ds S Q → ∃ i j, ds = [.int i, .int j] ∧ Q (g i j) S) :
    LiftC K (fun xs H Q => ∃ i j, xs = [.int i, .int j] ∧ Q (gv i j) H) rd := fun H S fr σd σ xs ds Qv Qd ok r h k => by
  obtain ⟨i, j, rfl, q⟩ := h1 ds S Qd h
  obtain ⟨v, w, rfl, r1, r2⟩ := rpL2 r
  have e : v = .int i := r1
  have e2 : w = .int j := r2
  subst e e2
  exact ⟨i, j, rfl, k _ (g i j) H S ok (hg i j H S) q⟩
theorem cd_max2 (hc : X.calm = true) : CallD X (.builtin "max") rdMax2 := ⟨_, call_max2 hc, int2_lift (g := fun i j => .int (if j > i then j else i)) (fun _ _ _ _ => rfl) fun ds S Q h => inv_max2 h⟩
theorem cd_min2 (hc : X.calm = true) : CallD X (.builtin "min") rdMin2 := ⟨_, call_min2 hc, int2_lift (g := fun i j => .int (if j < i then j else i)) (fun _ _ _ _ => rfl) fun ds S Q h => inv_min2 h⟩
theorem cd_int : CallD X (.type "int") rdInt := ⟨_, call_int1, fun H S fr σd σ xs ds Qv Qd ok r h k => by
  rcases inv_int h with ⟨i, rfl, q⟩ | ⟨b, rfl, q⟩
  · obtain ⟨v, rfl, r0⟩ := rpL1 r
    have r := r0
    have e : v = .int i := r
    subst e
    exact .inl ⟨i, rfl, k _ (.int i) H S ok rfl q⟩
  · obtain ⟨v, rfl, r0⟩ := rpL1 r
    have r := r0
    have e : v = .bl b := r
    subst e
    exact .inr ⟨b, rfl, k _ (.int (if b then 1 else 0)) H S ok rfl q⟩⟩
theorem cd_all (hc : X.calm = true) : CallD X (.builtin "all") rdAll := ⟨_, cr_all hc, fun H S fr σd σ xs ds Qv Qd ok r h k => by
  match ds, r, h with
  | [], _, h => exact (show False from h).elim
  | _ :: _ :: _, _, h => exact (show False from h).elim
  | [d], r, h =>
    obtain ⟨v, rfl, r0⟩ := rpL1 r
    have r := r0
    obtain ⟨bs, e, q⟩ := h
    obtain ⟨a, vs, rfl, q1, r1⟩ := rp_lstD ok.rel r e
    rw [rpL_bls r1] at q1
    exact ⟨a, bs, rfl, q1, k _ (.bl (bs.all id)) H S ok rfl q⟩⟩
theorem cd_tuple : CallD X (.type "tuple") rdTupC := ⟨_, call_tuple_of, fun H S fr σd σ xs ds Qv Qd ok r h k => by
  match ds, r, h with
  | [], _, h => exact (show False from h).elim
  | _ :: _ :: _, _, h => exact (show False from h).elim
  | [d], r, h =>
    obtain ⟨v, rfl, r0⟩ := rpL1 r
    have r := r0
    have h' : (match itemsD S d with | some ds => Qd (.tup ds) S | none => False) := h
    cases e : itemsD S d with
    | none => rw [e] at h'; exact h'.elim
    | some ds =>
      rw [e] at h'
      obtain ⟨a, vs, rfl, q, r2⟩ := rp_items ok.rel r e
      refine ⟨a, vs, rfl, ?_⟩
      rcases q with q | q
      · exact .inl ⟨q, fun l hl => k _ (.tup ds) _ S (ok.new hl) (rp_tupNew ok.rel hl r2) h'⟩
      · exact .inr ⟨q, k _ (.tup ds) H S ok ⟨a, vs, rfl, q, r2⟩ h'⟩⟩
theorem isi_ty {K : PySem.W.Frag} {H : Hp} {S : Sd} {d : D} {v : V} {t : String} (R : RelS K H S) (r : Rp K H S d v) (e : tyD d = some t) : TyX K H v (.type t) := by
  cases d with
  | non => cases e; have e : v = .non := r; subst e; exact .base .non
  | bl b => cases e; have e : v = .bl b := r; subst e; exact .base (.bl b)
  | int i => cases e; have e : v = .int i := r; subst e; exact .base (.int i)
  | str x => cases e; have e : v = .str x := r; subst e; exact .base (.str x)
  | tup ds =>
    cases e
    obtain ⟨a, vs, rfl, q, _⟩ := r
    rcases q with (q | ⟨o, q⟩) | ⟨o, its, n, h1, h2, _⟩
    · exact .base (.tup q)
    · exact .fTuple q
    · exact .kTuple h1 h2
  | lst ds =>
    cases e
    obtain ⟨a, vs, rfl, q, _⟩ := r
    rcases q with ⟨q | ⟨o, q⟩, _⟩ | ⟨o, its, n, h1, h2, _⟩
    · exact .base (.lst q)
    · exact .base (.frz q)
    · exact .kList h1 h2
  | _ => cases e
theorem cd_isi : CallD X (.builtin "isinstance") rdIsi := ⟨_, call_isi, fun H S fr σd σ xs ds Qv Qd ok r h k => by
  obtain ⟨d, n, b, rfl, e, q⟩ := inv_isi h
  obtain ⟨v, w, rfl, r1, r2⟩ := rpL2 r
  have e0 : w = .ty n := r2
  subst e0
  unfold isiD at e
  cases e2 : tyD d with
  | none => rw [e2] at e; cases e
  | some t =>
    rw [e2] at e
    exact ⟨v, .ty n, .type t, .type n, b, rfl, .ty n, isi_ty ok.rel r1 e2, kit_ty e, k _ (.bl b) H S ok rfl q⟩⟩
end
end Dv

/-! Readings by value, 4: statements, targets, loops, comprehensions, defs. -/
namespace Dv
open PySem L2 PyProof.Rows

section
variable {K : PySem.W.Frag} {H : Hp} {S : Sd} {fr : List (V × D)} {Dd : EndsD} {D0 : Ends} {σd : Si} {σ : L2.St} {W : Wi}
theorem Ok.pre {fr2 : List (V × D)} (o : Ok K H S (fr2 ++ fr) σd σ) : Ok K H S fr σd σ := ⟨o.rel, fun p hp => o.fr p (List.mem_append_right _ hp), o.len, o.si⟩
theorem Cl.pre {fr2 : List (V × D)} (c : Cl K W fr) : Cl K W (fr2 ++ fr) := fun σd σ H S cls od x o => c σd σ H S cls od x o.pre
end

section
variable {X : Cx} {W : Wi} {st : Stmt} {rest : List Stmt} {t u : TSD} {e c : Expr} {te : TED} {tc : TTD} {pos : Pos}
def dNext : TSD := fun D σ S => D.nx σ S
def dSeq (t u : TSD) : TSD := fun D σ S => t { D with nx := u D } σ S
theorem db_nil : DB X W [] dNext := ⟨PSs.imp pss_nil fun D σ H ⟨σd, S, fr, Dd, ok, cl, h, k⟩ => k.nx σd σ H S ok h⟩
theorem db_cons (h1 : DS X W st t) (h2 : DB X W rest u) : DB X W (st :: rest) (dSeq t u) :=
  ⟨PSs.imp (pss_cons h1.p h2.p) fun D σ H ⟨σd, S, fr, Dd, ok, cl, h, k⟩ => ⟨σd, S, fr, { Dd with nx := u Dd }, ok, cl, h,
    ⟨fun σd' σ' H' S' ok' q => ⟨σd', S', fr, Dd, ok', cl, q, k⟩, k.rt, k.bk, k.ct⟩⟩⟩
theorem db_one (h1 : DS X W st t) : DB X W [st] t := ⟨pss_one h1.p⟩
def dDrop (te : TED) : TSD := fun D σ S => te σ S fun _ S1 => D.nx σ S1
def dRet (te : TED) : TSD := fun D σ S => te σ S D.rt
theorem ds_ret (he : DE X W e te) : DS X W (.Return (some e) pos) (dRet te) :=
  ⟨PS.imp (ps_ret he.p) fun D σ H ⟨σd, S, fr, Dd, ok, cl, h, k⟩ => ⟨σd, S, fr, _, ok, cl, h, fun v d H' S' ok' r q => k.rt v d σd σ H' S' ok' r q⟩⟩
def dIfS (c : TTD) (t u : TSD) : TSD := fun D σ S => c σ S fun b S1 => if b = true then t D σ S1 else u D σ S1
theorem ds_if {a b : List Stmt} (hc : DT X W c tc) (ha : DB X W a t) (hb : DB X W b u) : DS X W (.If c a b pos) (dIfS tc t u) :=
  ⟨PS.imp (ps_if hc.p ha.p hb.p) fun D σ H ⟨σd, S, fr, Dd, ok, cl, h, k⟩ => ⟨σd, S, fr, _, ok, cl, h, fun b H1 S1 ok1 h1 => by
    cases b with
    | true => exact (show upSt X.K W t D σ H1 from ⟨σd, S1, fr, Dd, ok1, cl, (show t Dd σd S1 from by simpa using h1), k⟩)
    | false => exact (show upSt X.K W u D σ H1 from ⟨σd, S1, fr, Dd, ok1, cl, (show u Dd σd S1 from by simpa using h1), k⟩)⟩⟩

/-! ### targets -/
abbrev TGD := D → Si → Sd → (Si → Sd → Prop) → Prop
abbrev TGsD := List D → Si → Sd → (Si → Sd → Prop) → Prop
/-- vs: slots that may change -/
def upG (K : PySem.W.Frag) (W : Wi) (vs : List Nat) (t : TGD) : TG := fun v σ H Q => ∃ σd S fr Qd d, Ok K H S fr σd σ ∧ Cl K W fr ∧ Rp K H S d v ∧ t d σd S Qd ∧
  ∀ σ' σd' H' S', Ok K H' S' fr σd' σ' → wipe σ' vs = wipe σ vs → Qd σd' S' → Q σ' H'
def upGs (K : PySem.W.Frag) (W : Wi) (vs : List Nat) (t : TGsD) : TGs := fun us σ H Q => ∃ σd S fr Qd ds, Ok K H S fr σd σ ∧ Cl K W fr ∧ RpL K H S ds us ∧ t ds σd S Qd ∧
  ∀ σ' σd' H' S', Ok K H' S' fr σd' σ' → wipe σ' vs = wipe σ vs → Qd σd' S' → Q σ' H'
structure DG (X : Cx) (W : Wi) (vs : List Nat) (e : Expr) (t : TGD) : Prop where
  p : PG X e (upG X.K W vs t)
structure DGs (X : Cx) (W : Wi) (vs : List Nat) (es : List Expr) (t : TGsD) : Prop where
  p : PGs X es (upGs X.K W vs t)
theorem PG.imp {e : Expr} {t t' : TG} (h : PG X e t) (k : ∀ v σ H Q, t' v σ H Q → t v σ H Q) : PG X e t' := ⟨fun pins s σ H v u Q I r q => h.run pins s σ H v u Q I r (k _ _ _ _ q)⟩
theorem PGs.imp {e : List Expr} {t t' : TGs} (h : PGs X e t) (k : ∀ v σ H Q, t' v σ H Q → t v σ H Q) : PGs X e t' := ⟨fun pins s σ H v u Q I r q => h.run pins s σ H v u Q I r (k _ _ _ _ q)⟩
theorem wipe_set {σ : L2.St} {i : Nat} {x : Option V} : ∀ {vs : List Nat}, i ∈ vs → wipe (σ.set i x) vs = wipe σ vs
  | v :: vs, h => by
    unfold wipe
    by_cases hv : i ∈ vs
    · rw [wipe_set hv]
    · have e : i = v := by
        rcases List.mem_cons.mp h with e | e
        · exact e
        · exact absurd e hv
      subst e
      have gen : ∀ (ws : List Nat), i ∉ ws → wipe (σ.set i x) ws = (wipe σ ws).set i x := by
        intro ws
        induction ws with
        | nil => intro _; rfl
        | cons w ws ih =>
          intro hm
          have h1 : i ≠ w := fun e => hm (by rw [e]; exact List.mem_cons_self)
          have h2 : i ∉ ws := fun e => hm (List.mem_cons_of_mem _ e)
          show (wipe (σ.set i x) ws).set w none = ((wipe σ ws).set w none).set i x
          rw [ih h2, List.set_comm _ _ h1]
      rw [gen vs hv, List.set_set]
def dName (i : Nat) : TGD := fun d σ S Q => Q (σ.set i (some d)) S
theorem dg_name {vs : List Nat} {i : Nat} {x : Str} (hN : X.N.Nodup) (hi : X.N[i]? = some x) (hx : Loc X.env.scope x) (hv : i ∈ vs) (hf : X.fn x = true ∨ X.env.scope.names.lookup x = some .local := by first | exact .inl rfl | exact .inr rfl | assumption) :
    DG X W vs (.Name x pos) (dName i) := ⟨PG.imp (pg_name hN hi hx hf) fun v σ H Q ⟨σd, S, fr, Qd, d, ok, cl, r, h, k⟩ => k _ _ H S (ok.set r i) (wipe_set hv) h⟩
def dGNil : TGsD := fun ds σ S Q => match ds with
  | [] => Q σ S
  | _ => False
def dGCons (t : TGD) (u : TGsD) : TGsD := fun ds σ S Q => match ds with
  | d :: r => t d σ S fun σ' S' => u r σ' S' Q
  | [] => False
theorem dgs_nil {vs : List Nat} : DGs X W vs [] dGNil := ⟨PGs.imp pgs_nil fun v σ H Q ⟨σd, S, fr, Qd, ds, ok, cl, r, h, k⟩ => by
  cases ds with
  | nil => exact ⟨r, k σ σd H S ok rfl h⟩
  | cons d s => exact (show False from h).elim⟩
theorem dgs_cons {vs : List Nat} {es : List Expr} {t : TGD} {u : TGsD} (h1 : DG X W vs e t) (h2 : DGs X W vs es u) (hs : (assignEach (e :: es) X.env).map (·.2) = assign e X.env :: (assignEach es X.env).map (·.2) := by rfl) : DGs X W vs (e :: es) (dGCons t u) :=
  ⟨PGs.imp (pgs_cons h1.p h2.p hs) fun us σ H Q ⟨σd, S, fr, Qd, ds, ok, cl, r, h, k⟩ => by
    cases ds with
    | nil => exact (show False from h).elim
    | cons d s =>
      obtain ⟨v, ur, e1, r1, r2⟩ := r
      refine ⟨v, ur, e1, σd, S, (ur.zip s) ++ fr, fun σ' S' => u s σ' S' Qd, d, ?_, cl.pre, r1, h, fun σ' σd' H' S' ok' hw q => ?_⟩
      · refine ⟨ok.rel, fun p hp => ?_, ok.len, ok.si⟩
        rcases List.mem_append.mp hp with hp | hp
        · obtain ⟨i, hi⟩ := List.mem_iff_getElem?.mp hp
          rw [List.getElem?_zip_eq_some] at hi
          obtain ⟨w, q1, q2⟩ := rpL_get r2 hi.2
          rw [hi.1] at q1
          cases q1
          exact q2
        · exact ok.fr p hp
      · refine ⟨σd', S', fr, Qd, s, ok'.pre, cl, ?_, q, fun σ2 σd2 H2 S2 ok2 hw2 q2 => k σ2 σd2 H2 S2 ok2 (hw2.trans hw) q2⟩
        have hl := rpL_len r2
        have gen : ∀ (s : List D) (ur : List V), s.length = ur.length → (∀ p ∈ ur.zip s, Rp X.K H' S' p.2 p.1) → RpL X.K H' S' s ur := by
          intro s
          induction s with
          | nil => intro ur hl _; exact List.length_eq_zero_iff.mp hl.symm
          | cons d s ih =>
            intro ur hl hz
            cases ur with
            | nil => cases hl
            | cons w ur =>
              refine ⟨w, ur, rfl, hz (w, d) (by simp), ih ur (by simpa using hl) fun p hp => hz p ?_⟩
              rw [List.zip_cons_cons]
              exact List.mem_cons_of_mem _ hp
        exact gen s ur hl fun p hp => ok'.fr p (List.mem_append_left _ hp)⟩
/-- (a, b, ..) = a tuple or a list of that length -/
def dTupG (n : Nat) (t : TGsD) : TGD := fun d σ S Q => match d with
  | .tup ds => ds.length = n ∧ t ds σ S Q
  | _ => False
theorem dg_tup {vs : List Nat} {es : List Expr} {k : Nat} {t : TGsD} {n : Nat} (hc : X.calm = true) (h : DGs X W vs es t) (hn : (assignEach es X.env).length = n := by rfl) (hst : (assignEach es X.env).findIdx? (·.1) = none := by rfl) :
    DG X W vs (.Tuple es k pos) (dTupG n t) := ⟨PG.imp (pg_tup hc h.p hn hst) fun v σ H Q ⟨σd, S, fr, Qd, d, ok, cl, r, q, k⟩ => by
  cases d with
  | tup ds =>
    obtain ⟨a, vs, e, q1, r1⟩ := r
    exact ⟨a, vs, e, q1, (rpL_len r1).symm.trans q.1, σd, S, fr, Qd, ds, ok, cl, r1, q.2, k⟩
  | _ => exact (show False from q).elim⟩
def dAsg (te : TED) (g : TGD) : TSD := fun D σ S => te σ S fun x S1 => g x σ S1 D.nx
theorem ds_asg {vs : List Nat} {tg : Expr} {g : TGD} (he : DE X W e te) (hg : DG X W vs tg g) (hs : swapsWithSole [tg] e pos.line X.env = pure false := by rfl) (hw : swappedStores [tg] e X.env = pure none := by rfl)
    (h1 : (assignEach [tg] X.env).map (·.2) = [assign tg X.env] := by rfl) : DS X W (.Assign [tg] e pos) (dAsg te g) :=
  ⟨PS.imp (ps_asg he.p hg.p hs hw h1) fun D σ H ⟨σd, S, fr, Dd, ok, cl, h, k⟩ => ⟨σd, S, fr, _, ok, cl, h, fun v d H1 S1 ok1 r1 q => ⟨σd, S1, fr, Dd.nx, d, ok1, cl, r1, q, fun σ' σd' H' S' ok' _ q' => k.nx σd' σ' H' S' ok' q'⟩⟩⟩
def dSet (i : Nat) (te : TED) : TSD := fun D σ S => te σ S fun x S1 => D.nx (σ.set i (some x)) S1
theorem ds_set (i : Nat) {x : Str} {pos' : Pos} (hN : X.N.Nodup) (hi : X.N[i]? = some x) (hx : Loc X.env.scope x) (he : DE X W e te) (hs : swapsWith e (some (.Name x pos')) pos.line X.env = pure false := by rfl)
    (hf : X.fn x = true ∨ X.env.scope.names.lookup x = some .local := by first | exact .inl rfl | exact .inr rfl | assumption) : DS X W (.Assign [.Name x pos'] e pos) (dSet i te) :=
  ⟨PS.imp (ps_set hN hi hx he.p hs hf) fun D σ H ⟨σd, S, fr, Dd, ok, cl, h, k⟩ => ⟨σd, S, fr, _, ok, cl, h, fun v d H1 S1 ok1 r1 q => k.nx _ _ H1 S1 (ok1.set r1 i) q⟩⟩
/-- a, b = x, y -/
def dPar (i j : Nat) (ta : TAD) : TSD := fun D σ S => ta σ S fun vs S1 => match vs with
  | [v, w] => D.nx ((σ.set i (some v)).set j (some w)) S1
  | _ => False
/-- l[k] = e, l an owned list -/
def setQ (S : Sd) (k : D) (v : D) (Q : Sd → Prop) : D → Prop
  | .obj a => match S a, k with
    | some (.lst ds), .int i => match ixN ds.length i with
      | some j => Q (upS S a (.lst (ds.set j v)))
      | none => False
    | _, _ => False
  | _ => False
theorem setQ_inv {S : Sd} {k v o : D} {Q : Sd → Prop} (h : setQ S k v Q o) : ∃ a ds i j, o = .obj a ∧ S a = some (.lst ds) ∧ k = .int i ∧ ixN ds.length i = some j ∧ Q (upS S a (.lst (ds.set j v))) := by
  cases o with
  | obj a =>
    unfold setQ at h
    dsimp only at h
    split at h
    · rename_i x y ds i e
      split at h
      · rename_i j ej
        exact ⟨a, ds, i, j, rfl, e, rfl, ej, h⟩
      · exact h.elim
    · exact h.elim
  | _ => exact (show False from h).elim
def dStore (to ti te : TED) : TSD := fun D σ S => te σ S fun v S1 => to σ S1 fun o S2 => ti σ S2 fun k S3 => setQ S3 k v (D.nx σ) o
theorem ds_store {o i : Expr} {to ti : TED} {spos : Pos} (ho : DE X W o to) (hi : DE X W i ti) (he : DE X W e te) (ha : ∀ v, assign (.Subscript o i spos) X.env v = (do
      let ov ← holding [v] (eval o X.env)
      let iv ← holding [v, ov] (eval i X.env)
      standAt spos
      holding [v, ov, iv] (setItem ov iv v)
      release [v, ov, iv] []) := by intro _; rfl) (hs : swapsWithSole [.Subscript o i spos] e pos.line X.env = pure false := by rfl) (hw : swappedStores [.Subscript o i spos] e X.env = pure none := by rfl)
    (h1 : (assignEach [.Subscript o i spos] X.env).map (·.2) = [assign (.Subscript o i spos) X.env] := by rfl) : DS X W (.Assign [.Subscript o i spos] e pos) (dStore to ti te) :=
  ⟨PS.imp (ps_asg he.p (pg_sub ho.p hi.p set_list ha) hs hw h1) fun D σ H ⟨σd, S, fr, Dd, ok, cl, h, k⟩ => ⟨σd, S, fr, _, ok, cl, h, fun v d H1 S1 ok1 r1 q =>
    ⟨σd, S1, (v, d) :: fr, _, ok1.cons r1, cl.tail, q, fun ov od H2 S2 ok2 r2 q => ⟨σd, S2, (ov, od) :: (v, d) :: fr, _, ok2.cons r2, cl.tail.tail, q, fun kv kd H3 S3 ok3 r3 q => by
      obtain ⟨a, ds, n, j, e1, e2, e3, e4, q5⟩ := setQ_inv q
      have ro := ok3.head
      have rv := ok3.tail.head
      have ok4 := ok3.tail.tail
      subst e1 e3
      obtain ⟨vs, hv, rl⟩ := rp_obj ok4.rel e2
      refine ⟨a, vs, n, j, ro, r3, hv, by rw [← rpL_len rl]; exact e4, ?_⟩
      have st : Step H3 S3 (upd H3 a (.lst (vs.set j v))) (upS S3 a (.lst (ds.set j d))) := step_set e2
      exact k.nx σd σ _ _ (ok4.step st (rel_set ok4.rel e2 ⟨_, upd_same, rpL_step ok4.rel st _ _ (rpL_set j rl rv)⟩)) q5⟩⟩⟩⟩
/-! ### methods of built-in types -/
def tyM (T : String) (d : D) (S : Sd) : Prop := match d with
  | .str _ => T = "str"
  | .int _ => T = "int"
  | .lst ds => T = "list"
  | .obj a => T = "list" ∧ ∃ ds, S a = some (.lst ds)
  | _ => False
theorem tyM_V {K : PySem.W.Frag} {H : Hp} {S : Sd} {d : D} {v : V} {T : String} (R : RelS K H S) (r : Rp K H S d v) (t : tyM T d S) : tyV K T v H := by
  cases d with
  | str x => have e : v = .str x := r; subst e; exact t
  | int x => have e : v = .int x := r; subst e; exact t
  | lst ds =>
    obtain ⟨a, vs, rfl, q, _⟩ := rp_list R r
    exact .inl ⟨t, vs, q⟩
  | obj a =>
    obtain ⟨t, ds, e⟩ := t
    obtain ⟨vs, q, _⟩ := rp_obj R e
    have e : v = .ref a := r
    subst e
    exact .inl ⟨t, vs, SqL.of q⟩
  | _ => exact (show False from t).elim
abbrev RDM := D → List D → Sd → DK → Prop
def LiftM (K : PySem.W.Frag) (r : V → List V → Hp → VK → Prop) (rd : RDM) : Prop := ∀ H S fr σd σ x dx xs ds Qv Qd, Ok K H S fr σd σ → Rp K H S dx x → RpL K H S ds xs → rd dx ds S Qd →
  (∀ v d H' S', Ok K H' S' fr σd σ → Rp K H' S' d v → Qd d S' → Qv v H') → r x xs H Qv
def dBM (T : String) (rd : RDM) (to : TED) (t : TAD) : TED := fun σ S Q => to σ S fun o S1 => tyM T o S1 ∧ t σ S1 fun vs S2 => rd o vs S2 Q
def dBM0 (T : String) (rd : RDM) (to : TED) : TED := fun σ S Q => to σ S fun o S1 => tyM T o S1 ∧ rd o [] S1 Q
theorem de_bm {o : Expr} {to : TED} {es : List Expr} {t : TAD} {T id : String} {name : Str} {apos cpos : Pos} {r : V → List V → Hp → VK → Prop} {rd : RDM} (pa : PlainAttrs T) (slot : Slot T name id) (hty : typeOf (.builtin id) = pure (.type "method_descriptor")) (hm : MtR X id r) (l : LiftM X.K r rd)
    (ho : DE X W o to) (ha : DA X W (e :: es) t) (hbase : attributeBase o name X.env (eval o X.env) = eval o X.env := by rfl)
    (hfew : ((backTo cpos (starEach (e :: es) X.env)).all (fun x => !x.1) && (backToKw cpos (keywordEach [] X.env)).all (fun x => x.1.isSome)
      && decide ((e :: es).length + ([] : List Keyword).length + (if ([] : List Keyword).isEmpty then 0 else 1) < 30)) = true := by rfl)
    (hline : (apos.endLine == cpos.line) = true := by rfl) (hs : starEach (e :: es) X.env = (false, eval e X.env) :: starEach es X.env := by rfl) (hplain : (backTo cpos (starEach es X.env)).any (·.1) = false := by rfl) :
    DE X W (.Call (.Attribute o name apos) (e :: es) [] cpos) (dBM T rd to t) :=
  ⟨PE.imp (pe_bm pa slot hty hm ho.p ha.p hbase hfew hline hs hplain) fun σ H Q ⟨σd, S, fr, Qd, ok, cl, h, k⟩ =>
    ⟨σd, S, fr, _, ok, cl, h, fun x dx H1 S1 ok1 r1 q => ⟨tyM_V ok1.rel r1 q.1, σd, S1, (x, dx) :: fr, _, ok1.cons r1, cl.tail, q.2, fun vs ds H2 S2 ok2 r2 q2 =>
      l H2 S2 fr σd σ x dx vs ds Q Qd ok2.tail ok2.head r2 q2 k⟩⟩⟩
/-! ### what a loop walks -/
structure ItD (K : PySem.W.Frag) (J : It) (xs : List D) (fr : List (V × D)) : Prop where
  go : ∀ (i : Nat) (d : D), xs[i]? = some d → ∀ H S σd σ, Ok K H S fr σd σ → J.go i H ∧ ∀ x H', J.yld i H x H' → Ok K H' S fr σd σ ∧ Rp K H' S d x
  stop : ∀ H S σd σ, Ok K H S fr σd σ → J.stop xs.length H
abbrev TID := Si → Sd → (List D → Sd → Prop) → Prop
def upI (K : PySem.W.Frag) (W : Wi) (t : TID) : TI := fun σ H R => ∃ σd S fr Rd, Ok K H S fr σd σ ∧ Cl K W fr ∧ t σd S Rd ∧ ∀ J xs H' S' fr', Ok K H' S' (fr' ++ fr) σd σ → ItD K J xs (fr' ++ fr) → Rd xs S' → R J H'
structure DI (X : Cx) (W : Wi) (tg iter : Expr) (t : TID) : Prop where
  p : PI X tg iter (upI X.K W t)
theorem PI.imp {tg iter : Expr} {t t' : TI} (h : PI X tg iter t) (k : ∀ σ H Q, t' σ H Q → t σ H Q) : PI X tg iter t' := ⟨fun pins s σ H Q I q => h.run pins s σ H Q I (k _ _ _ q)⟩
theorem itd_list {K : PySem.W.Frag} {a : Addr} {ds : List D} {fr : List (V × D)} : ItD K (Itl K a) ds ((.ref a, .lst ds) :: fr) where
  go := fun i d e H S σd σ ok => by
    obtain ⟨a', vs, e1, q, r⟩ := rp_list ok.rel ok.head
    have e1' : V.ref a = .ref a' := e1
    cases e1'
    obtain ⟨v, h1, h2⟩ := rpL_get r e
    refine ⟨⟨vs, v, q, h1⟩, fun x H' y => ?_⟩
    obtain ⟨e2, y⟩ := y
    subst e2
    have h3 := y vs q
    rw [h1] at h3
    cases h3
    exact ⟨ok, h2⟩
  stop := fun H S σd σ ok => by
    obtain ⟨a', vs, e1, q, r⟩ := rp_list ok.rel ok.head
    have e1' : V.ref a = .ref a' := e1
    cases e1'
    exact ⟨vs, q, by rw [rpL_len r]; exact Nat.le_refl _⟩
theorem itd_tup {K : PySem.W.Frag} {a : Addr} {ds : List D} {fr : List (V × D)} : ItD K (Itt K a) ds ((.ref a, .tup ds) :: fr) where
  go := fun i d e H S σd σ ok => by
    obtain ⟨a', vs, e1, q, r⟩ := ok.head
    have e1' : V.ref a = .ref a' := e1
    cases e1'
    obtain ⟨v, h1, h2⟩ := rpL_get r e
    refine ⟨⟨vs, v, q, h1⟩, fun x H' y => ?_⟩
    obtain ⟨e2, y⟩ := y
    subst e2
    have h3 := y vs q
    rw [h1] at h3
    cases h3
    exact ⟨ok, h2⟩
  stop := fun H S σd σ ok => by
    obtain ⟨a', vs, e1, q, r⟩ := ok.head
    have e1' : V.ref a = .ref a' := e1
    cases e1'
    exact ⟨vs, q, by rw [rpL_len r]; exact Nat.le_refl _⟩
def rgD (lo : Int) (n : Nat) : List D := (List.range n).map fun (i : Nat) => D.int (lo + i)
theorem itd_rng {K : PySem.W.Frag} {lo : Int} {n : Nat} {fr : List (V × D)} : ItD K (Itr lo n) (rgD lo n) fr where
  go := fun i d e H S σd σ ok => by
    unfold rgD at e
    rw [List.getElem?_map] at e
    cases q : (List.range n)[i]? with
    | none => rw [q] at e; cases e
    | some j =>
      rw [q] at e
      cases e
      obtain ⟨h1, h2⟩ := List.getElem?_eq_some_iff.mp q
      rw [List.getElem_range] at h2
      subst h2
      refine ⟨show i < n by simpa using h1, fun x H' y => ?_⟩
      obtain ⟨e2, y⟩ := y
      subst e2
      subst y
      exact ⟨ok, rfl⟩
  stop := fun H S σd σ ok => by
    unfold rgD
    rw [List.length_map, List.length_range]
    exact Nat.le_refl n
/-- over a list or a tuple that stands still -/
def dIter (te : TED) : TID := fun σ S R => te σ S fun x S1 => match x with
  | .lst ds => R ds S1
  | _ => False
def dRng1 (ta : TAD) : TID := fun σ S R => ta σ S fun xs S1 => match xs with
  | [.int j] => (-(2 ^ 62) ≤ j ∧ j < 2 ^ 62) ∧ R (rgD 0 j.toNat) S1
  | _ => False
def dRng2 (ta : TAD) : TID := fun σ S R => ta σ S fun xs S1 => match xs with
  | [.int i, .int j] => (-(2 ^ 62) ≤ i ∧ i < 2 ^ 62 ∧ -(2 ^ 62) ≤ j ∧ j < 2 ^ 62) ∧ R (rgD i (j - i).toNat) S1
  | _ => False
theorem di_rng1 {a tg : Expr} {ta : TAD} {p pos : Pos} (hg : Gl X "range") (hm : X.mg "range" = none) (ha : DA X W [a] ta) (hs : starEach [a] X.env = [(false, eval a X.env)] := by rfl) : DI X W tg (.Call (.Name "range" p) [a] [] pos) (dRng1 ta) :=
  ⟨PI.imp (pi_range1 hg hm ha.p hs) fun σ H R ⟨σd, S, fr, Rd, ok, cl, h, k⟩ => ⟨σd, S, fr, _, ok, cl, h, fun vs ds H1 S1 ok1 r1 q => by
    cases ds with
    | nil => exact (show False from q).elim
    | cons d r => cases r with
      | cons _ _ => cases d <;> exact (show False from q).elim
      | nil => cases d with
        | int j =>
          obtain ⟨v, rfl, r2⟩ := rpL1 r1
          have e : v = .int j := r2
          subst e
          exact ⟨j, rfl, q.1.1, q.1.2, k _ _ H1 S1 [] ok1 itd_rng q.2⟩
        | _ => exact (show False from q).elim⟩⟩
theorem di_rng2 {a b tg : Expr} {ta : TAD} {p pos : Pos} (hg : Gl X "range") (hm : X.mg "range" = none) (ha : DA X W [a, b] ta) (hs : starEach [a, b] X.env = [(false, eval a X.env), (false, eval b X.env)] := by rfl) (hs2 : starEach [b] X.env = [(false, eval b X.env)] := by rfl) : DI X W tg (.Call (.Name "range" p) [a, b] [] pos) (dRng2 ta) :=
  ⟨PI.imp (pi_range2 hg hm ha.p hs hs2) fun σ H R ⟨σd, S, fr, Rd, ok, cl, h, k⟩ => ⟨σd, S, fr, _, ok, cl, h, fun vs ds H1 S1 ok1 r1 q => by
    cases ds with
    | nil => exact (show False from q).elim
    | cons d r => cases r with
      | nil => cases d <;> exact (show False from q).elim
      | cons d2 r => cases r with
        | cons _ _ => cases d <;> cases d2 <;> exact (show False from q).elim
        | nil => cases d with
          | int i => cases d2 with
            | int j =>
              obtain ⟨v, w, rfl, r2, r3⟩ := rpL2 r1
              have e : v = .int i := r2
              have e2 : w = .int j := r3
              subst e e2
              exact ⟨i, j, rfl, q.1, k _ _ H1 S1 [] ok1 itd_rng q.2⟩
            | _ => exact (show False from q).elim
          | _ => cases d2 <;> exact (show False from q).elim⟩⟩

/-! ### for -/
def dLoop (g : TGD) (tb : TSD) (D : EndsD) : List Dv.D → Si → Sd → Prop
  | [], σ, S => D.nx σ S
  | x :: r, σ, S => g x σ S fun σ2 S2 => tb { D with nx := dLoop g tb D r, ct := dLoop g tb D r, bk := D.nx } σ2 S2
def dFor (ti : TID) (g : TGD) (tb : TSD) : TSD := fun D σ S => ti σ S fun xs S1 => dLoop g tb D xs σ S1
theorem ds_for {vs : List Nat} {tg iter : Expr} {body : List Stmt} {ti : TID} {g : TGD} {tb : TSD} (hp : PassesOwn (model X.prog X.w) X.A X.env X.xe) (hc : X.calm = true) (hi : DI X W tg iter ti) (hg : DG X W vs tg g) (hb : DB X W body tb)
    (hs : ∀ x, foldedSetIterable iter X.env x = pure x := by intro _; rfl) : DS X W (.For tg iter body [] pos) (dFor ti g tb) :=
  ⟨PS.imp (ps_for hp hc hi.p hg.p hb.p hs) fun D σ H ⟨σd, S, fr, Dd, ok, cl, h, k⟩ => ⟨σd, S, fr, _, ok, cl, h, fun J xs H1 S1 fr' ok1 it q => by
    refine ⟨fun i m σ' H' => m = xs.length - i ∧ i ≤ xs.length ∧ ∃ σd' S', Ok X.K H' S' (fr' ++ fr) σd' σ' ∧ dLoop g tb Dd (xs.drop i) σd' S', ⟨_, rfl, Nat.zero_le _, σd, S1, ok1, by simpa using q⟩, ?_⟩
    rintro i m σ' H' ⟨rfl, hi, σd', S', ok', q'⟩
    by_cases hlt : i < xs.length
    · have ex : xs[i]? = some xs[i] := List.getElem?_eq_getElem hlt
      have dr : xs.drop i = xs[i] :: xs.drop (i + 1) := List.drop_eq_getElem_cons hlt
      rw [dr] at q'
      obtain ⟨g1, g2⟩ := it.go i _ ex H' S' σd' σ' ok'
      refine .inr ⟨g1, fun σ2 H2 => ∃ σd2 S2, Ok X.K H2 S2 (fr' ++ fr) σd2 σ2 ∧ dLoop g tb Dd (xs.drop (i + 1)) σd2 S2, fun σ2 H2 ⟨σd2, S2, h1, h2⟩ => ⟨_, by omega, rfl, hlt, σd2, S2, h1, h2⟩, fun x H2 y => ?_⟩
      obtain ⟨ok2, r2⟩ := g2 x H2 y
      refine ⟨σd', S', fr' ++ fr, _, xs[i], ok2, cl.pre, r2, q', fun σ3 σd3 H3 S3 ok3 _ q3 => ⟨σd3, S3, fr' ++ fr, _, ok3, cl.pre, q3, ?_⟩⟩
      exact ⟨fun σd4 σ4 H4 S4 ok4 q4 => ⟨σd4, S4, ok4, q4⟩, fun v d σd4 σ4 H4 S4 ok4 r4 q4 => k.rt v d σd4 σ4 H4 S4 ok4.pre r4 q4, fun σd4 σ4 H4 S4 ok4 q4 => k.nx σd4 σ4 H4 S4 ok4.pre q4, fun σd4 σ4 H4 S4 ok4 q4 => ⟨σd4, S4, ok4, q4⟩⟩
    · have e : i = xs.length := by omega
      subst e
      rw [List.drop_length] at q'
      exact .inl ⟨it.stop H' S' σd' σ' ok', k.nx σd' σ' H' S' ok'.pre q'⟩⟩⟩

/-! ### while -/
end
end Dv

/-! Readings by value, 5: comprehensions, defs, the law's end. -/
namespace Dv
open PySem L2 PyProof.Rows

def wipeD (σ : Si) : List Nat → Si
  | [] => σ
  | v :: vs => (wipeD σ vs).set v none
section
variable {K : PySem.W.Frag} {H : Hp} {S : Sd} {fr : List (V × D)} {σd : Si} {σ : L2.St}
theorem Ok.wipe (o : Ok K H S fr σd σ) : ∀ vs : List Nat, Ok K H S fr (wipeD σd vs) (L2.wipe σ vs)
  | [] => o
  | v :: vs => (Ok.wipe o vs).gone v none
theorem wipe_wipe (σ : L2.St) (vs : List Nat) : L2.wipe (L2.wipe σ vs) vs = L2.wipe σ vs := by
  have gen : ∀ (ws : List Nat), (∀ w ∈ ws, w ∈ vs) → L2.wipe (L2.wipe σ ws) vs = L2.wipe σ vs := by
    intro ws
    induction ws with
    | nil => intro _; rfl
    | cons w ws ih =>
      intro h
      show L2.wipe ((L2.wipe σ ws).set w none) vs = L2.wipe σ vs
      rw [wipe_set (h w List.mem_cons_self)]
      exact ih fun x hx => h x (List.mem_cons_of_mem _ hx)
  exact gen vs fun _ h => h
end

section
variable {X : Cx} {W : Wi} {pos : Pos}
structure DTs (X : Cx) (W : Wi) (ifs : List Expr) (t : TTD) : Prop where
  p : PTs X ifs (upT X.K W t)
theorem PTs.imp {ifs : List Expr} {t t' : TT} (h : PTs X ifs t) (k : ∀ σ H Q, t' σ H Q → t σ H Q) : PTs X ifs t' := ⟨fun pins s σ H Q I q => h.run pins s σ H Q I (k _ _ _ q)⟩
def dYes : TTD := fun _ S Q => Q true S
theorem dts_nil : DTs X W [] dYes := ⟨PTs.imp pts_nil fun σ H Q ⟨σd, S, fr, Qd, ok, cl, h, k⟩ => k true H S ok h⟩
theorem dts_one {c : Expr} {t : TTD} (h : DT X W c t) : DTs X W [c] t := ⟨pts_one h.p⟩
def dLcL (g : TGD) (tt : TTD) (te : TED) (p : Addr) (σw : Si) : List D → List D → Sd → (List D → Sd → Prop) → Prop
  | [], acc, S, Q => Q acc S
  | x :: r, acc, S, Q => g x σw S fun σ2 S2 => tt σ2 S2 fun b S3 => if b = true then te σ2 S3 fun y S4 => S4 p = some (.lst acc) ∧ acc.length < 16777216 ∧ dLcL g tt te p σw r (acc ++ [y]) (upS S4 p (.lst (acc ++ [y]))) Q
    else dLcL g tt te p σw r acc S3 Q
def dComp (ti : TID) (g : TGD) (tt : TTD) (te : TED) (vs : List Nat) : TED := fun σ S Q => ti σ S fun xs S1 => ∀ p, S1 p = none → dLcL g tt te p (wipeD σ vs) xs [] (upS S1 p (.lst [])) fun acc S2 => S2 p = some (.lst acc) ∧ Q (.lst acc) (del S2 p)
theorem lc_lift {K : PySem.W.Frag} {ti : TID} {g : TGD} {tt : TTD} {te : TED} {vs : List Nat} (σ : L2.St) (H : Hp) (Q : VK) (h : upE K W (dComp ti g tt te vs) σ H Q) :
    tLc (upI K W ti) (upG K W0 vs g) (upT K W0 tt) (upE K W0 te) vs σ H Q := by
  obtain ⟨σd, S, fr, Qd, ok, cl, h, k⟩ := h
  refine ⟨σd, S, fr, _, ok, cl, h, fun J xs H1 S1 fr' ok1 it q => ?_⟩
  intro Dl hD
  have q0 := q Dl (ok1.rel.free hD)
  have ok2 : Ok K (upd H1 Dl (.lst [])) (upS S1 Dl (.lst [])) (fr' ++ fr) σd σ := ok1.own hD rpL_nil
  have Fin : (List D → Sd → Prop) := fun acc S2 => S2 Dl = some (.lst acc) ∧ Qd (.lst acc) (del S2 Dl)
  refine ⟨fun i m H' => m = xs.length - i ∧ i ≤ xs.length ∧ ∃ S' acc, RelS K H' S' ∧ FrOk K H' S' ((fr' ++ fr) ++ prs σd σ) ∧ dLcL g tt te Dl (wipeD σd vs) (xs.drop i) acc S' (fun acc S2 => S2 Dl = some (.lst acc) ∧ Qd (.lst acc) (del S2 Dl)),
    ⟨_, rfl, Nat.zero_le _, _, [], ok2.rel, ok2.out, by simpa using q0⟩, ?_⟩
  rintro i m H' ⟨rfl, hi, S', acc, R', F', q'⟩
  have okp : Ok K H' S' ((fr' ++ fr) ++ prs σd σ) σd σ := ⟨R', F', ok.len, fun i d e => by
    obtain ⟨v, h1, _⟩ := ok.si i d e
    exact ⟨v, h1, F' (v, d) (List.mem_append_right _ (prs_mem h1 e))⟩⟩
  have ok' : Ok K H' S' (fr' ++ fr) σd σ := ⟨R', fun p hp => F' p (List.mem_append_left _ hp), okp.len, okp.si⟩
  by_cases hlt : i < xs.length
  · have ex : xs[i]? = some xs[i] := List.getElem?_eq_getElem hlt
    have dr : xs.drop i = xs[i] :: xs.drop (i + 1) := List.drop_eq_getElem_cons hlt
    rw [dr] at q'
    obtain ⟨g1, g2⟩ := it.go i _ ex H' S' σd σ ok'
    refine .inr ⟨g1, fun H2 => ∃ S2 acc2, RelS K H2 S2 ∧ FrOk K H2 S2 ((fr' ++ fr) ++ prs σd σ) ∧ dLcL g tt te Dl (wipeD σd vs) (xs.drop (i + 1)) acc2 S2 (fun acc S2 => S2 Dl = some (.lst acc) ∧ Qd (.lst acc) (del S2 Dl)), fun H2 ⟨S2, acc2, h1, h2, h3⟩ => ⟨_, by omega, rfl, hlt, S2, acc2, h1, h2, h3⟩, fun x H2 y => ?_⟩
    obtain ⟨ok3, _⟩ := g2 x H2 y
    obtain ⟨_, r2⟩ := (it.go i _ ex H' S' σd σ ok').2 x H2 y
    have okp3 : Ok K H2 S' ((fr' ++ fr) ++ prs σd σ) σd σ := ⟨ok3.rel, ok3.out, ok3.len, ok3.si⟩
    refine ⟨wipeD σd vs, S', (fr' ++ fr) ++ prs σd σ, _, xs[i], okp3.wipe vs, Cl.zero, r2, q', fun σ3 σd3 H3 S3 ok4 hw q3 => ⟨hw.trans (wipe_wipe σ vs), σd3, S3, (fr' ++ fr) ++ prs σd σ, _, ok4, Cl.zero, q3, fun b H4 S4 ok5 q4 => ?_⟩⟩
    cases b with
    | true =>
      refine (show upE K W0 te σ3 H4 _ from ⟨σd3, S4, (fr' ++ fr) ++ prs σd σ, _, ok5, Cl.zero, (by simpa using q4), fun y dy H5 S5 ok6 r6 q5 => ?_⟩)
      obtain ⟨p1, p2, p3⟩ := q5
      obtain ⟨ws, hv, rl⟩ := rp_obj ok6.rel p1
      have st : Step H5 S5 (upd H5 Dl (.lst (ws ++ [y]))) (upS S5 Dl (.lst (acc ++ [dy]))) := step_set p1
      have okf := ok6.step st (rel_set ok6.rel p1 ⟨_, upd_same, rpL_step ok6.rel st _ _ (rpL_app rl (rpL_cons r6 rpL_nil))⟩)
      exact ⟨ws, hv, by rw [← rpL_len rl]; exact sz_lt' p2, _, _, okf.rel, okf.fr, p3⟩
    | false => exact ⟨S4, acc, ok5.rel, ok5.fr, by simpa using q4⟩
  · have e : i = xs.length := by omega
    subst e
    rw [List.drop_length] at q'
    obtain ⟨p1, p2⟩ := q'
    exact .inl ⟨it.stop H' S' σd σ ok', k _ (.lst acc) H' _ (ok'.pre.step step_del (rel_del ok'.rel)) (rp_frozen ok'.rel p1) p2⟩
theorem de_lc {elt tg iter : Expr} {ifs : List Expr} {scope : Scope} {own : List (Str × Nat)} {ti : TID} {g : TGD} {tt : TTD} {te : TED} (hc : X.calm = true) (hN : X.N.Nodup) (hi : DI X W tg iter ti) (ok : BlkOk X.N X.env.scope scope own)
    (hg : ∀ (s : Shared) (H : Hp) (C : Addr) (cl : List (Str × Addr)) (fp : List Addr), DG (X.blk s H scope (compEnvC scope cl C X.env) fp) W0 (own.map (·.2)) tg g) (ht : ∀ (s : Shared) (H : Hp) (C : Addr) (cl : List (Str × Addr)) (fp : List Addr), DTs (X.blk s H scope (compEnvC scope cl C X.env) fp) W0 ifs tt)
    (he : ∀ (s : Shared) (H : Hp) (C : Addr) (cl : List (Str × Addr)) (fp : List Addr), DE (X.blk s H scope (compEnvC scope cl C X.env) fp) W0 elt te) (hs : ∀ x, foldedSetIterable iter X.env x = pure x := by intro _; rfl) :
    DE X W (.ListComp elt [⟨tg, iter, ifs, 0⟩] scope pos) (dComp ti g tt te (own.map (·.2))) :=
  ⟨PE.imp (pe_lc hc hN hi.p ok (fun s H C cl fp => (hg s H C cl fp).p) (fun s H C cl fp => (ht s H C cl fp).p) (fun s H C cl fp => (he s H C cl fp).p) hs) fun σ H Q h => lc_lift σ H Q h⟩
theorem ds_setLc (i : Nat) {y : Str} {py : Pos} {elt tg iter : Expr} {ifs : List Expr} {scope : Scope} {own : List (Str × Nat)} {spos : Pos} {ti : TID} {g : TGD} {tt : TTD} {te : TED} (hc : X.calm = true) (hN : X.N.Nodup) (hy : X.N[i]? = some y) (hyl : X.env.scope.names.lookup y = some .local)
    (hsw : swapsWith (.ListComp elt [⟨tg, iter, ifs, 0⟩] scope pos) (some (.Name y py)) spos.line X.env = pure true) (hi : DI X W tg iter ti) (ok : BlkOk X.N X.env.scope scope own)
    (hg : ∀ (s : Shared) (H : Hp) (C : Addr) (cl : List (Str × Addr)) (fp : List Addr), DG (X.blk s H scope (compEnvC scope cl C X.env) fp) W0 (own.map (·.2)) tg g) (ht : ∀ (s : Shared) (H : Hp) (C : Addr) (cl : List (Str × Addr)) (fp : List Addr), DTs (X.blk s H scope (compEnvC scope cl C X.env) fp) W0 ifs tt)
    (he : ∀ (s : Shared) (H : Hp) (C : Addr) (cl : List (Str × Addr)) (fp : List Addr), DE (X.blk s H scope (compEnvC scope cl C X.env) fp) W0 elt te) (hs : ∀ x, foldedSetIterable iter X.env x = pure x := by intro _; rfl) :
    DS X W (.Assign [.Name y py] (.ListComp elt [⟨tg, iter, ifs, 0⟩] scope pos) spos) (dSet i (dComp ti g tt te (own.map (·.2)))) :=
  ⟨PS.imp (ps_setLc hc hN hy hyl hsw hi.p ok (fun s H C cl fp => (hg s H C cl fp).p) (fun s H C cl fp => (ht s H C cl fp).p) (fun s H C cl fp => (he s H C cl fp).p) hs) fun D σ H ⟨σd, S, fr, Dd, ok, cl, h, k⟩ =>
    lc_lift (W := W) σ H _ ⟨σd, S, fr, _, ok, cl, h, fun v d H1 S1 ok1 r1 q => k.nx _ _ H1 S1 (ok1.set r1 i) q⟩⟩
end

/-! ### defs -/
def startD (N : List Str) (ds : List D) : Si := ds.map some ++ List.replicate (N.length - ds.length) none
theorem start_ok {K : PySem.W.Frag} {H : Hp} {S : Sd} {fr : List (V × D)} {N : List Str} {ds : List D} {vs : List V} (R : RelS K H S) (F : FrOk K H S fr) (r : RpL K H S ds vs) : Ok K H S fr (startD N ds) (L2.start N vs) := by
  have hl := rpL_len r
  refine ⟨R, F, by unfold startD L2.start; simp [hl], fun i d e => ?_⟩
  unfold startD at e
  unfold L2.start
  rcases Nat.lt_or_ge i ds.length with z | z
  · rw [List.getElem?_append_left (by simpa using z), List.getElem?_map] at e
    cases q : ds[i]? with
    | none => rw [q] at e; cases e
    | some d' =>
      rw [q] at e
      cases e
      obtain ⟨v, h1, h2⟩ := rpL_get r q
      exact ⟨v, by rw [List.getElem?_append_left (by simpa [← hl] using z), List.getElem?_map, h1]; rfl, h2⟩
  · rw [List.getElem?_append_right (by simpa using z), List.getElem?_replicate] at e
    split at e <;> cases e
/-- what a body is run in -/
abbrev bodyCx (P : Program) (w : World) (K : PySem.W.Frag) (mg : Str → Option Value) (base : Heap) (N : List Str) (qual : Str) (st : Stmt) (f : Addr) (cdv : Value) (A : Around) (outer : List Env) (s : Shared) (H : Hp) (E : XK) : Cx :=
  cxOf (L2N.CX P w) P w K mg base N qual (defScope st) f cdv A outer s H E
abbrev wiOf (E : XK) (Ed : XKD) : Wi := ⟨fun cls d _ H => E cls d H, fun x _ S => Ed x S⟩
theorem takesB {P : Program} {w : World} {K : PySem.W.Frag} {mg : Str → Option Value} {base : Heap} {N : List Str} {qual : Str} {st : Stmt} {f : Addr} {cdv : Value} {A : Around} {outer : List Env} {s : Shared} {H : Hp} {E : XK} {Ed : XKD} :
    L2N.Takes (bodyCx P w K mg base N qual st f cdv A outer s H E) (wiOf E Ed).V := L2N.takes_of rfl rfl rfl rfl
theorem passB {P : Program} {w : World} {K : PySem.W.Frag} {mg : Str → Option Value} {base : Heap} {N : List Str} {qual : Str} {st : Stmt} {f : Addr} {cdv : Value} {A : Around} {outer : List Env} {s : Shared} {H : Hp} {E : XK} :
    PassesOwn (model P w) (bodyCx P w K mg base N qual st f cdv A outer s H E).A (bodyCx P w K mg base N qual st f cdv A outer s H E).env (bodyCx P w K mg base N qual st f cdv A outer s H E).xe :=
  passes_of (X := bodyCx P w K mg base N qual st f cdv A outer s H E) rfl
section
variable {P : Program} {w : World} {K : PySem.W.Frag} {mg : Str → Option Value} {base : Heap}
/-- THE RULE for a def -/
theorem okD {x qual : Str} {st : Stmt} {f : Addr} {fd : FuncData} {N ps : List Str} {k : Nat} {sp : SpD} {t : XKD → TSD} (F : Fun K x qual st f fd) (Sc : FnScope N ps (defScope st)) (len : ∀ ds S Q E, sp ds S Q E → ds.length = ps.length)
    (hb : ∀ (cdv : Value) (A : Around) (outer : List Env) (s : Shared) (H : Hp) (E : XK) (Ed : XKD), Hx.RoomG k (A.deeper (envOfC qual (defScope st) s.heap.objs.size f cdv)) → DB (bodyCx P w K mg base N qual st f cdv A outer s H E) (wiOf E Ed) (defBody st) (t Ed))
    (hp : ∀ ds S Q Ed, sp ds S Q Ed → t Ed { nx := fun _ S' => Q .non S', rt := Q } (startD N ds) S) : Hx.FnG P w K mg base (L2N.CX P w) (k + 1) f fd ps (upF K sp) := by
  refine Hx.fnG_of F Sc (fun vs H Q E h => ?_) (fun cdv _ A outer s H vs Q E hr h => ?_)
  · obtain ⟨ds, S, fr, Qd, Ed, R, f, r, h, _⟩ := h
    rw [← rpL_len r]
    exact len ds S Qd Ed h
  · obtain ⟨ds, S, fr, Qd, Ed, R, f, r, h, hq, hx⟩ := h
    refine ⟨_, (hb cdv A outer s H E Ed hr).p, startD N ds, S, fr, { nx := fun _ S' => Qd .non S', rt := Qd }, start_ok R f r, fun σd σ H' S' cls od y o rx q => hx cls od y H' S' o.rel o.fr rx q, hp ds S Qd Ed h, ?_⟩
    exact ⟨fun σd σ H' S' o q => hq .non .non H' S' o.rel o.fr rfl q, fun v d σd σ H' S' o rv q => hq v d H' S' o.rel o.fr rv q, fun _ _ _ _ _ q => q.elim, fun _ _ _ _ _ q => q.elim⟩
end
/-- law's promise -/
def spLawD : SpD := fun ds S Q _ => ∃ ns : List Int, ds = [.lst (ns.map D.int)] ∧ ns.length ≤ 63 ∧ (∀ S', Q (.bl true) S')
theorem law_start {K : PySem.W.Frag} {H : Hp} {a : Addr} {ns : List Int} (h : SqL K H a (ns.map V.int)) (hl : ns.length ≤ 63) : upF K spLawD [.ref a] H (fun v _ => v = .bl true) fun _ _ _ => False := by
  refine ⟨[.lst (ns.map D.int)], fun _ => none, [], fun d _ => d = .bl true, fun _ _ => False, fun a o e => (by cases e), fun p hp => (by cases hp), ?_, ⟨ns, rfl, hl, fun _ => rfl⟩, fun v d H' S' _ _ r e => ?_, fun _ _ _ _ _ _ _ _ q => q⟩
  · refine rpL_cons ⟨a, ns.map V.int, rfl, ?_, rpL_of_ints⟩ rpL_nil
    rcases h with h | h
    · exact .inl ⟨h, rfl⟩
    · exact .inr h
  · subst e
    exact r
theorem CX_no {P : Program} {w : World} {outer : List Env} {H : Hp} {s : Shared} {e : Value} {s' : Shared} (h : L2N.CX P w outer H s (fun _ _ _ => False) e s') : False := by
  obtain ⟨_, _, _, _, _, _, _, _, _, _, _, _, z⟩ := h
  exact z.elim
end Dv

/-! Readings by value, 6: more of the built-ins. -/
namespace PyProof.Rows
open PySem
section
variable {prog : Program} {w : World} {A : Around} {E : Value → Shared → Prop} {s : Shared}
end
end PyProof.Rows

namespace HT
open PySem PyProof.Rows
section
variable {prog : Program} {w : World} {A : Around} {E : Value → Shared → Prop} {s : Shared}
theorem sliceApplied_rev {sl : Addr} {vl vu vk : Value} {n : Nat} {Q : Int × Int × Nat → Shared → Prop} (hs : s.heap.IsSliceOf sl vl vu vk) (pl : IsPart vl none) (pu : IsPart vu none) (pk : IsPart vk (some (-1)))
    (h : Q ((n : Int) - 1, -1, n) s) : wpAny (model prog w) A (Builtin.Slice.sliceApplied (.ref sl) (pure (n : Int))) Q E s := by
  obtain ⟨os, hos, hcs, hds⟩ := id hs
  unfold Builtin.Slice.sliceApplied Builtin.Slice.sliceFields
  refine wpAny_bind (wpAny_bind (wpAny_field hos hds (x := vl) rfl (wpAny_bind (wpAny_field hos hds (x := vu) rfl (wpAny_bind (wpAny_field hos hds (x := vk) rfl (wpAny_pure ?_)))))))
  refine wpAny_bind (slicePart_ pk ?_)
  show wpAny _ _ (if ((-1 : Int) == 0) = true then _ else _) _ _ s
  rw [if_neg (by decide)]
  refine wpAny_bind (slicePart_ pl (wpAny_bind (slicePart_ pu (wpAny_bind (wpAny_pure ?_)))))
  show wpAny _ _ (pure ((n : Int) - 1, (-1 : Int), Builtin.Slice.slicePlaces ((n : Int) - 1) (-1) (-1))) _ _ s
  have e : Builtin.Slice.slicePlaces ((n : Int) - 1) (-1) (-1) = n := by
    unfold Builtin.Slice.slicePlaces
    rw [if_neg (by decide)]
    by_cases h0 : (n : Int) - 1 > -1
    · rw [if_pos h0]
      have e1 : (- -1 : Int) = 1 := by decide
      rw [e1, Int.ediv_one]
      omega
    · rw [if_neg h0]
      show 0 = n
      omega
  rw [e]
  exact wpAny_pure h
theorem fm_congr {α β : Type} {f g : α → Option β} : ∀ {l : List α}, (∀ x ∈ l, f x = g x) → l.filterMap f = l.filterMap g
  | [], _ => rfl
  | x :: l, h => by
    rw [List.filterMap_cons, List.filterMap_cons, h x List.mem_cons_self, fm_congr fun y hy => h y (List.mem_cons_of_mem _ hy)]
theorem pick_rev (xs : Array Value) : ((List.range xs.size).filterMap fun (m : Nat) => xs[((xs.size : Int) - 1 + (m : Int) * -1).toNat]?).toArray = xs.toList.reverse.toArray := by
  have e : ((List.range xs.size).filterMap fun (m : Nat) => xs[((xs.size : Int) - 1 + (m : Int) * -1).toNat]?) = ((List.range xs.size).map fun k => xs.size - 1 - k).filterMap (xs[·]?) := by
    rw [List.filterMap_map]
    refine fm_congr fun m hm => ?_
    have h := List.mem_range.mp hm
    have e2 : ((xs.size : Int) - 1 + (m : Int) * -1).toNat = xs.size - 1 - m := by omega
    show xs[((xs.size : Int) - 1 + (m : Int) * -1).toNat]? = xs[xs.size - 1 - m]?
    rw [e2]
  rw [e, PySem.W.krv_range, List.filterMap_reverse, PySem.W.krv_all]
theorem getItem_tuple_rev {t sl : Addr} {items : Array Value} {vl vu vk : Value} {Q : Value → Shared → Prop} (ht : IsTup s.heap t items) (hs : s.heap.IsSliceOf sl vl vu vk) (pl : IsPart vl none) (pu : IsPart vu none) (pk : IsPart vk (some (-1)))
    (h : Q (.ref s.heap.objs.size) { s with heap := s.heap.push { cls := .type "tuple", data := .seq items.toList.reverse.toArray } })
    (hsz : items.size ≤ sizeLine) : wpAny (model prog w) A (getItem (.ref t) (.ref sl)) Q E s := by
  have htake : sizeOk (.seq items.toList.reverse.toArray) := by
    show items.toList.reverse.toArray.size ≤ sizeLine
    rw [List.size_toArray, List.length_reverse, Array.length_toList]
    exact hsz
  obtain ⟨os, hos, hcs, hds⟩ := id hs
  have hTs : s.TypeIs (.ref sl) "slice" := ⟨os, hos, hcs⟩
  unfold getItem
  try with_reducible refine wpAny_holding ?_
  first | refine wpAny_bind (wpAny_pure ?_) | skip
  refine wpAny_bind (wpAny_sequenceKey ht.typeIs (by decide) ?_)
  refine wpAny_bind (wpAny_callSpecial?_slot (name := Str.ofString "__getitem__") ht.typeIs PyProof.Rows.slot_tuple_getitem
    (wpAny_call_entry PyProof.Rows.slot_tuple_getitem ht.typeIs entry_tuple_getitem ?_ (args_tuple_getitem _ _)))
  show wpAny _ _ (Builtin.Tuple.tupleItemsOf (.ref t) >>= _) _ _ s
  refine wpAny_bind (tupleItemsOf_ ht ?_)
  refine wpAny_bind (wpAny_typeOf hTs ?_)
  rw [if_pos (by decide)]
  refine wpAny_bind (sliceApplied_rev hs pl pu pk ?_)
  have hno : ¬ ((((items.size : Int) - 1) == 0 && (-1 : Int) == 1 && items.size == items.size) = true) := by
    intro q
    rw [Bool.and_eq_true, Bool.and_eq_true] at q
    exact absurd q.1.2 (by decide)
  show wpAny _ _ (if (((items.size : Int) - 1) == 0 && (-1 : Int) == 1 && items.size == items.size) = true then _ else _) _ _ s
  rw [if_neg hno, pick_rev]
  first
    | exact wpAny_bind (m := Builtin.Tuple.tupleExact _) (wpAny_newObj_type (wpAny_pure ⟨_, rfl, wpAny_pure h⟩) htake)
    | exact wpAny_bind (m := Builtin.Tuple.tupleExact _) (wpAny_newObj_type (wpAny_bind (wpAny_pure (wpAny_pure ⟨_, rfl, wpAny_pure h⟩))) htake)
    | exact wpAny_bind (wpAny_bind (m := Builtin.Tuple.tupleExact _) (wpAny_newObj_type (wpAny_pure (wpAny_pure ⟨_, rfl, wpAny_pure h⟩)) htake))
    | exact wpAny_bind (wpAny_bind (m := Builtin.Tuple.tupleExact _) (wpAny_newObj_type (wpAny_pure ⟨_, rfl, wpAny_pure h⟩) htake))
end
end HT

namespace Dv
open PySem L2 PyProof.Rows
section
variable {X : Cx}
/-! ### a text times an int -/
def repS (x : Str) (n : Nat) : Str := ⟨(List.replicate n x.cps).foldl (· ++ ·) #[]⟩
def rRepS : R2 := fun x y H Q => ∃ z k, x = .str z ∧ y = .int k ∧ 0 ≤ k ∧ (z.length : Int) * k ≤ 16777216 ∧ k ≤ 16777216 ∧ Q (.str (repS z k.toNat)) H
theorem fold_rep (x : Array Nat) : ∀ (n : Nat) (acc : Array Nat), ((List.replicate n x).foldl (· ++ ·) acc).toList = acc.toList ++ (List.replicate n x.toList).flatten
  | 0, acc => by simp
  | n + 1, acc => by
    rw [List.replicate_succ, List.foldl_cons, fold_rep x n (acc ++ x)]
    simp [List.replicate_succ]
theorem repS_list (x : Str) (n : Nat) : (repS x n).cps.toList = (List.replicate n x.cps.toList).flatten := by
  unfold repS
  rw [fold_rep]
  rfl
theorem str_ext {x y : Str} (h : x.cps.toList = y.cps.toList) : x = y := by
  cases x; cases y
  congr 1
  exact Array.toList_inj.mp h
theorem op_mulS : OpR X (binaryOp .Mult) rRepS := by
  intro pins s σ H x y v u Q I rx ry h
  obtain ⟨z, k, rfl, rfl, h0, hz, hk, q⟩ := h
  obtain ⟨t, rfl⟩ := rx
  obtain ⟨t', rfl⟩ := ry
  refine PySem.P.mul_str ?_ ?_ ?_ ?_
  · have h1 : ¬ k < -(2 ^ 63 : Int) := by omega
    have h2 : ¬ k ≥ 2 ^ 63 := by omega
    rw [decide_eq_false h1, decide_eq_false h2]; rfl
  · intro h1 h2 h3
    have p1 : (0 : Int) < k := by omega
    have e2 : ((2 ^ 63 - 1 : Int) / k + 1) * k > 2 ^ 63 - 1 := by
      have := Int.lt_ediv_add_one_mul_self (2 ^ 63 - 1 : Int) p1
      omega
    have e3 : (2 ^ 63 - 1 : Int) / k + 1 ≤ z.length := by omega
    have e4 : ((2 ^ 63 - 1 : Int) / k + 1) * k ≤ z.length * k := Int.mul_le_mul_of_nonneg_right e3 (by omega)
    omega
  · intro h1 h2
    have e : ((z.length * k.toNat : Nat) : Int) = z.length * k := by
      rw [Int.natCast_mul, Int.toNat_of_nonneg h0]
    refine decide_eq_false ?_
    rw [sl_eq]
    omega
  · by_cases h1 : k < 1
    · rw [if_pos h1]
      have e : k = 0 := by omega
      subst e
      exact ⟨by decide, ⟨.str (repS z 0), H, I.tok _, ⟨_, rfl⟩, q⟩⟩
    · rw [if_neg h1]
      by_cases h2 : (k == 1 || z.length == 0) = true
      · rw [if_pos h2]
        have e : repS z k.toNat = z := by
          refine str_ext ?_
          rw [repS_list]
          rcases Bool.or_eq_true_iff.mp h2 with e | e
          · have e1 : k = 1 := eq_of_beq e
            subst e1
            simp
          · have e1 : z.length = 0 := eq_of_beq e
            have e2 : z.cps.toList = [] := List.length_eq_zero_iff.mp (by simpa [Str.length] using e1)
            rw [e2]
            simp
        rw [e] at q
        exact ⟨.str z, H, I, ⟨_, rfl⟩, q⟩
      · rw [if_neg h2]
        have hl : (repS z k.toNat).length ≤ sizeLine := by
          have e : (repS z k.toNat).length = k.toNat * z.length := by
            have := congrArg List.length (repS_list z k.toNat)
            simpa [Str.length] using this
          have e2 : ((k.toNat * z.length : Nat) : Int) = k * z.length := by
            rw [Int.natCast_mul, Int.toNat_of_nonneg h0]
          have e3 : k * (z.length : Int) = z.length * k := Int.mul_comm _ _
          rw [e, sl_eq]
          omega
        exact ⟨hl, ⟨.str (repS z k.toNat), H, I.tok _, ⟨_, rfl⟩, q⟩⟩
def rdMul : RD2
  | .int i, .int j, S, Q => i.natAbs.log2 + j.natAbs.log2 < 1000000 ∧ Q (.int (i * j)) S
  | .str z, .int k, S, Q => (0 ≤ k ∧ (z.length : Int) * k ≤ 16777216 ∧ k ≤ 16777216) ∧ Q (.str (repS z k.toNat)) S
  | _, _, _, _ => False
end

/-! ### xs[::-1] -/
section
variable {X : Cx} {W : Wi} {e : Expr} {te : TED} {pos : Pos}
def revS (z : Str) : Str := ⟨z.cps.toList.reverse.toArray⟩
def tRevZ (K : PySem.W.Frag) (te : TE) : TE := fun σ H Q => te σ H fun x H1 => (∃ a xs, x = .ref a ∧ ((SqL K H1 a xs ∧ ∀ p, H1 p = none → Q (.ref p) (upd H1 p (.lst xs.reverse))) ∨ (SqT K H1 a xs ∧ ∀ p, H1 p = none → Q (.ref p) (upd H1 p (.tup xs.reverse))))) ∨ ∃ z, x = .str z ∧ z.length ≤ sizeLine ∧ Q (.str (revS z)) H1
theorem revS_picked (z : Str) : ((Builtin.Str.strSliceIndices none none (-1) z.length).filterMap (z.cps[·]?)).toArray = (revS z).cps := by
  rw [PyProof.Rows.picked_rev, PyProof.Rows.filterMap_get, List.map_map]
  · unfold revS
    refine congrArg _ (List.ext_getElem (by simp [Str.length]) fun i h1 h2 => ?_)
    have h3 : i < z.cps.size := by simpa [Str.length] using h1
    rw [List.getElem_map, List.getElem_range, List.getElem_reverse]
    have h4 : z.cps.size - 1 - i < z.cps.size := by omega
    show z.cps.getD (z.cps.size - 1 - i) 0 = z.cps.toList[z.cps.toList.length - 1 - i]'(by simpa using h4)
    simp [Array.getD, h4]
  · intro i hi
    obtain ⟨k, hk, rfl⟩ := List.mem_map.mp hi
    have hk' : k < z.length := List.mem_range.mp hk
    show z.length - 1 - k < z.length
    omega
theorem pe_revA {te : TE} {k : Nat} {p1 p2 p3 : Pos} (he : PE X e te) : PE X (.Subscript e (.Slice none none (some (.UnaryOp .USub (.Constant (.int 1) k p1) p2)) p3) pos) (tRevZ X.K te) := by
  refine ⟨fun pins s σ H Q I h => ?_⟩
  refine Subscript_ (thn (he.run pins s σ H _ I h) fun v s1 ⟨x, H1, I1, r1, q1⟩ => ?_)
  have hst : PO X (some (.UnaryOp .USub (.Constant (.int 1) k p1) p2)) (tPart (tUn (rU fun i => .int (-i)) (tC (.int 1)))) := po_some (pe_un un_neg pe_int)
  refine wpAny_Slice (thn (po_none.run pins s1 σ H1 (fun o H2 => o = none ∧ H2 = H1) I1 ⟨rfl, rfl⟩) fun vl s2 ⟨l, H2, I2, pl, el, e2⟩ => ?_)
  subst el e2
  refine thn (po_none.run pins s2 σ H2 (fun o H3 => o = none ∧ H3 = H2) I2 ⟨rfl, rfl⟩) fun vu s3 ⟨u, H3, I3, pu, eu, e3⟩ => ?_
  subst eu e3
  refine thn (hst.run pins s3 σ H3 (fun o H4 => o = some (-1) ∧ H4 = H3) I3 ⟨1, rfl, -1, rfl, rfl, rfl⟩) fun vs s4 ⟨o, H4, I4, ps, eo, e4⟩ => ?_
  subst eo e4
  have I5 : Inv X pins σ H4 { s4 with heap := s4.heap.push { cls := .type "slice", data := .fields #[vl, vu, vs] } } := I4.kept (t' := s4.toks) fun b ob q => Heap.get?_push_of_some _ q
  rcases q1 with ⟨a, xs, ex, q⟩ | ⟨z, ex, hz, q⟩
  rotate_left
  · subst ex
    obtain ⟨t, rfl⟩ := r1
    obtain ⟨l, e0, e1⟩ := IsPart.raw pl
    obtain ⟨u, e00, e2⟩ := IsPart.raw pu
    obtain ⟨w, e000, e3⟩ := IsPart.raw ps
    subst e0 e00 e000
    have e1' : l = none := by cases l <;> first | rfl | exact nomatch e1
    have e2' : u = none := by cases u <;> first | rfl | exact nomatch e2
    subst e1' e2'
    obtain ⟨w1, w2, rfl⟩ : ∃ w1 w2, w = some (w1, w2) := by
      cases w with
      | none => exact nomatch e3
      | some w => exact ⟨w.1, w.2, rfl⟩
    have e3' : w1 = -1 := by injection e3
    subst e3'
    show wpAny (model X.prog X.w) X.A (subscriptTail e (.Slice none none (some (.UnaryOp .USub (.Constant (.int 1) k p1) p2)) p3) (.str z t) (.ref s4.heap.objs.size)) (EP X pins σ Q) X.xe { s4 with heap := s4.heap.push { cls := .type "slice", data := .fields #[_, _, _] } }
    refine tail_any (ops := [.str z t, .ref s4.heap.objs.size]) (typeIs_str _ z t) (PySem.F.slot_str_getitem.lookup) ?_ (by with_unfolding_all rfl)
    refine wpAny_getItem_str_slice (l := none) (u := none) (st := some (-1, w2)) ⟨_, Heap.get?_push_size _ rfl, rfl, rfl⟩ rfl ?_
    show Made.post (Made.str ⟨((Builtin.Str.strSliceIndices none none (-1) z.length).filterMap (z.cps[·]?)).toArray⟩) (EP X pins σ Q) _
    have e5 : (⟨((Builtin.Str.strSliceIndices none none (-1) z.length).filterMap (z.cps[·]?)).toArray⟩ : Str) = revS z := congrArg Str.mk (revS_picked z)
    rw [e5]
    exact ⟨by show (revS z).cps.size ≤ _; unfold revS; simpa [Str.length] using hz, .str _, H4, I5.tok _, ⟨_, rfl⟩, q⟩
  subst ex
  cases r1
  show wpAny (model X.prog X.w) X.A (subscriptTail e (.Slice none none (some (.UnaryOp .USub (.Constant (.int 1) k p1) p2)) p3) (.ref a) (.ref s4.heap.objs.size)) (EP X pins σ Q) X.xe { s4 with heap := s4.heap.push { cls := .type "slice", data := .fields #[vl, vu, vs] } }
  rcases q with ⟨hx, q⟩ | ⟨hx, q⟩
  · obtain ⟨its, r, ht, hz⟩ := I5.list hx
    have hlen := r.length
    refine tail_any (ops := [.ref a, .ref s4.heap.objs.size]) ht.isList.typeIs (PySem.slot_list_getitem.lookup) ?_ (by with_unfolding_all rfl)
    refine wpAny_getItem_list_slice ht.isList (Heap.IsSliceOf.new _ vl vu vs) pl pu ps (by decide) ?_ (by rw [List.size_toArray]; omega)
    rw [PySem.W.krv_pick]
    refine ⟨.ref _, _, I5.laid (t' := s4.toks) (o := .lst xs.reverse) (fun b ob q => Heap.get?_push_of_some _ q) (Nat.le_refl _) ?_, rfl, q _ (I5.hok.fresh (Nat.le_refl _))⟩
    exact ⟨by rw [List.length_reverse]; exact hz, _, 0, r.reverse, Heap.get?_push_size _ rfl⟩
  · obtain ⟨its, r, ht, hz⟩ := I5.tuple hx
    have hlen := r.length
    refine tail_any (ops := [.ref a, .ref s4.heap.objs.size]) ht.typeIs (PyProof.Rows.slot_tuple_getitem.lookup) ?_ (by with_unfolding_all rfl)
    refine HT.getItem_tuple_rev ht (Heap.IsSliceOf.new _ vl vu vs) pl pu ps ?_ (by rw [List.size_toArray]; omega)
    refine ⟨.ref _, _, I5.laid (t' := s4.toks) (o := .tup xs.reverse) (fun b ob q => Heap.get?_push_of_some _ q) (Nat.le_refl _) ?_, rfl, q _ (I5.hok.fresh (Nat.le_refl _))⟩
    exact ⟨by rw [List.length_reverse]; exact hz, its.reverse, r.reverse, _, Heap.get?_push_size _ rfl, rfl, 0, rfl⟩
def dRev (te : TED) : TED := fun σ S Q => te σ S fun x S1 => match x with
  | .tup ds => Q (.tup ds.reverse) S1
  | .lst ds => Q (.lst ds.reverse) S1
  | .str z => z.length ≤ 16777216 ∧ Q (.str (revS z)) S1
  | .obj a => match S1 a with
    | some (.lst ds) => Q (.lst ds.reverse) S1
    | _ => False
  | _ => False
theorem de_rev {k : Nat} {p1 p2 p3 : Pos} (he : DE X W e te) : DE X W (.Subscript e (.Slice none none (some (.UnaryOp .USub (.Constant (.int 1) k p1) p2)) p3) pos) (dRev te) :=
  ⟨PE.imp (pe_revA he.p) fun σ H Q ⟨σd, S, fr, Qd, ok, cl, h, k⟩ => ⟨σd, S, fr, _, ok, cl, h, fun x dx H1 S1 ok1 r1 q => by
    cases dx with
    | tup ds =>
      obtain ⟨a, vs, e1, q1, r2⟩ := r1
      exact .inl ⟨a, vs, e1, .inr ⟨q1, fun p hp => k _ (.tup ds.reverse) _ S1 (ok1.new hp) (rp_tupNew ok1.rel hp (rpL_rev r2)) q⟩⟩
    | lst ds =>
      obtain ⟨a, vs, e1, q1, r2⟩ := rp_list ok1.rel r1
      exact .inl ⟨a, vs, e1, .inl ⟨q1, fun p hp => k _ (.lst ds.reverse) _ S1 (ok1.new hp) (rp_lstNew ok1.rel hp (rpL_rev r2)) q⟩⟩
    | str z => exact .inr ⟨z, r1, sz_le q.1, k _ (.str _) H1 S1 ok1 rfl q.2⟩
    | obj a =>
      have q' : (match S1 a with | some (.lst ds) => Qd (.lst ds.reverse) S1 | _ => False) := q
      cases e : S1 a with
      | none => rw [e] at q'; exact q'.elim
      | some o =>
        rw [e] at q'
        cases o with
        | lst ds =>
          obtain ⟨vs, h1, r2⟩ := rp_obj ok1.rel e
          exact .inl ⟨a, vs, r1, .inl ⟨.inl (.inl h1), fun p hp => k _ (.lst ds.reverse) _ S1 (ok1.new hp) (rp_lstNew ok1.rel hp (rpL_rev r2)) q'⟩⟩
        | _ => exact q'.elim
    | _ => exact (show False from q).elim⟩⟩

/-! ### for over a list, a tuple, a text -/
def iAny (K : PySem.W.Frag) (tl : TE) : TI := fun σ H R => tl σ H fun x H1 => (∃ a, x = .ref a ∧ (∃ xs, SqL K H1 a xs) ∧ R (Itl K a) H1) ∨ (∃ a, x = .ref a ∧ (∃ xs, SqT K H1 a xs) ∧ R (Itt K a) H1) ∨ (∃ z, x = .str z ∧ R (Its z) H1)
theorem pi_any {tg : Expr} {tl : TE} (hl : PE X e tl) : PI X tg e (iAny X.K tl) := by
  refine ⟨fun pins s σ H R I h => ?_⟩
  refine thn (hl.run pins s σ H _ I h) fun v s1 ⟨x, H1, I1, r1, q1⟩ => ?_
  rcases q1 with ⟨a, ex, ⟨xs, hq⟩, q⟩ | ⟨a, ex, ⟨xs, hq⟩, q⟩ | ⟨z, ex, q⟩
  · subst ex
    cases r1
    obtain ⟨its, rv, p, hz⟩ := I1.list hq
    refine wpAny_pyIter_list p.isList ?_
    refine ⟨s1.heap.objs.size, [s1.heap.objs.size], _, _, H1, rfl, I1.kept (t' := s1.toks) fun b o e => Heap.get?_push_of_some _ e, turn_list a _, ⟨_, Heap.get?_push_size _ rfl, rfl, rfl⟩, fun b hb => ?_, q⟩
    have e : b = s1.heap.objs.size := by simpa using hb
    subst e
    exact I1.fpOk (Nat.le_refl _) (I1.hok.fresh (Nat.le_refl _))
  · subst ex
    cases r1
    obtain ⟨its, rv, p, hz⟩ := I1.tuple hq
    refine wpAny_pyIter_tuple (show s1.heap.IsTuple a its.toArray from p) ?_
    refine ⟨s1.heap.objs.size, [s1.heap.objs.size], _, _, H1, rfl, I1.kept (t' := s1.toks) fun b o e => Heap.get?_push_of_some _ e, turn_tuple a _, ⟨_, Heap.get?_push_size _ rfl, rfl, rfl⟩, fun b hb => ?_, q⟩
    have e : b = s1.heap.objs.size := by simpa using hb
    subst e
    exact I1.fpOk (Nat.le_refl _) (I1.hok.fresh (Nat.le_refl _))
  · subst ex
    obtain ⟨t, rfl⟩ := r1
    cases ha : z.cps.all (· < 128)
    · exact wpAny_pyIter_wide ha (pi_one (tk := s1.toks) I1 _ (turn_str _ z t "str_iterator" (.inr rfl)) ⟨_, Heap.get?_push_size _ rfl, rfl, rfl⟩ q)
    · exact wpAny_pyIter_ascii ha (pi_one (tk := s1.toks) I1 _ (turn_str _ z t "str_ascii_iterator" (.inl rfl)) ⟨_, Heap.get?_push_size _ rfl, rfl, rfl⟩ q)
def sgD (z : Str) : List D := z.cps.toList.map fun c => D.str ⟨#[c]⟩
theorem itd_str {K : PySem.W.Frag} {z : Str} {fr : List (V × D)} : ItD K (Its z) (sgD z) fr where
  go := fun i d e H S σd σ ok => by
    unfold sgD at e
    rw [List.getElem?_map] at e
    cases q : z.cps.toList[i]? with
    | none => rw [q] at e; cases e
    | some c =>
      rw [q] at e
      cases e
      have q2 : z.cps[i]? = some c := by simpa using q
      refine ⟨(Array.getElem?_eq_some_iff.mp q2).1, fun x H' y => ?_⟩
      obtain ⟨e2, c', e3, y⟩ := y
      subst e2
      rw [q2] at e3
      cases e3
      subst y
      exact ⟨ok, rfl⟩
  stop := fun H S σd σ ok => by
    show z.cps.size ≤ (sgD z).length
    unfold sgD
    simp
def dItr (te : TED) : TID := fun σ S R => te σ S fun x S1 => match x with
  | .lst ds => R ds S1
  | .tup ds => R ds S1
  | .str z => R (sgD z) S1
  | _ => False
theorem di_any {tg : Expr} (hl : DE X W e te) : DI X W tg e (dItr te) := ⟨PI.imp (pi_any hl.p) fun σ H R ⟨σd, S, fr, Rd, ok, cl, h, k⟩ => ⟨σd, S, fr, _, ok, cl, h, fun x dx H1 S1 ok1 r1 q => by
  cases dx with
  | lst ds =>
    obtain ⟨a, vs, e, q1, r2⟩ := rp_list ok1.rel r1
    subst e
    exact .inl ⟨a, rfl, ⟨vs, q1⟩, k _ ds H1 S1 [(.ref a, .lst ds)] (ok1.cons r1) itd_list q⟩
  | tup ds =>
    obtain ⟨a, vs, e, q1, r2⟩ := id r1
    subst e
    exact .inr (.inl ⟨a, rfl, ⟨vs, q1⟩, k _ ds H1 S1 [(.ref a, .tup ds)] (ok1.cons r1) itd_tup q⟩)
  | str z => exact .inr (.inr ⟨z, r1, k _ (sgD z) H1 S1 [] ok1 itd_str q⟩)
  | _ => exact (show False from q).elim⟩⟩

/-! ### a, b, c = x, y, z -/
def dPar3 (i j l : Nat) (ta : TAD) : TSD := fun D σ S => ta σ S fun vs S1 => match vs with
  | [v, w, u] => D.nx (((σ.set i (some v)).set j (some w)).set l (some u)) S1
  | _ => False
end
end Dv

/-! Readings by value, x: the rows by which a reading is run. -/
namespace Dv
open PySem L2 PyProof.Rows
theorem isi_non_int  : isiD (.non) "int" = some false := by
  show kitB "NoneType" "int" = some false
  decide +kernel
theorem isi_non_bool  : isiD (.non) "bool" = some false := by
  show kitB "NoneType" "bool" = some false
  decide +kernel
theorem isi_non_str  : isiD (.non) "str" = some false := by
  show kitB "NoneType" "str" = some false
  decide +kernel
theorem isi_non_tuple  : isiD (.non) "tuple" = some false := by
  show kitB "NoneType" "tuple" = some false
  decide +kernel
theorem isi_non_list  : isiD (.non) "list" = some false := by
  show kitB "NoneType" "list" = some false
  decide +kernel
theorem isi_bl_int (b : Bool) : isiD (.bl b) "int" = some true := by
  show kitB "bool" "int" = some true
  decide +kernel
theorem isi_bl_bool (b : Bool) : isiD (.bl b) "bool" = some true := by
  show kitB "bool" "bool" = some true
  decide +kernel
theorem isi_bl_str (b : Bool) : isiD (.bl b) "str" = some false := by
  show kitB "bool" "str" = some false
  decide +kernel
theorem isi_bl_tuple (b : Bool) : isiD (.bl b) "tuple" = some false := by
  show kitB "bool" "tuple" = some false
  decide +kernel
theorem isi_bl_list (b : Bool) : isiD (.bl b) "list" = some false := by
  show kitB "bool" "list" = some false
  decide +kernel
theorem isi_int_int (i : Int) : isiD (.int i) "int" = some true := by
  show kitB "int" "int" = some true
  decide +kernel
theorem isi_int_bool (i : Int) : isiD (.int i) "bool" = some false := by
  show kitB "int" "bool" = some false
  decide +kernel
theorem isi_int_str (i : Int) : isiD (.int i) "str" = some false := by
  show kitB "int" "str" = some false
  decide +kernel
theorem isi_int_tuple (i : Int) : isiD (.int i) "tuple" = some false := by
  show kitB "int" "tuple" = some false
  decide +kernel
theorem isi_int_list (i : Int) : isiD (.int i) "list" = some false := by
  show kitB "int" "list" = some false
  decide +kernel
theorem isi_str_int (x : Str) : isiD (.str x) "int" = some false := by
  show kitB "str" "int" = some false
  decide +kernel
theorem isi_str_bool (x : Str) : isiD (.str x) "bool" = some false := by
  show kitB "str" "bool" = some false
  decide +kernel
theorem isi_str_str (x : Str) : isiD (.str x) "str" = some true := by
  show kitB "str" "str" = some true
  decide +kernel
theorem isi_str_tuple (x : Str) : isiD (.str x) "tuple" = some false := by
  show kitB "str" "tuple" = some false
  decide +kernel
theorem isi_str_list (x : Str) : isiD (.str x) "list" = some false := by
  show kitB "str" "list" = some false
  decide +kernel
theorem isi_tup_int (xs : List D) : isiD (.tup xs) "int" = some false := by
  show kitB "tuple" "int" = some false
  decide +kernel
theorem isi_tup_bool (xs : List D) : isiD (.tup xs) "bool" = some false := by
  show kitB "tuple" "bool" = some false
  decide +kernel
theorem isi_tup_str (xs : List D) : isiD (.tup xs) "str" = some false := by
  show kitB "tuple" "str" = some false
  decide +kernel
theorem isi_tup_tuple (xs : List D) : isiD (.tup xs) "tuple" = some true := by
  show kitB "tuple" "tuple" = some true
  decide +kernel
theorem isi_tup_list (xs : List D) : isiD (.tup xs) "list" = some false := by
  show kitB "tuple" "list" = some false
  decide +kernel
theorem isi_lst_int (xs : List D) : isiD (.lst xs) "int" = some false := by
  show kitB "list" "int" = some false
  decide +kernel
theorem isi_lst_bool (xs : List D) : isiD (.lst xs) "bool" = some false := by
  show kitB "list" "bool" = some false
  decide +kernel
theorem isi_lst_str (xs : List D) : isiD (.lst xs) "str" = some false := by
  show kitB "list" "str" = some false
  decide +kernel
theorem isi_lst_tuple (xs : List D) : isiD (.lst xs) "tuple" = some false := by
  show kitB "list" "tuple" = some false
  decide +kernel
theorem isi_lst_list (xs : List D) : isiD (.lst xs) "list" = some true := by
  show kitB "list" "list" = some true
  decide +kernel
section
variable {S : Sd} {Q : DK} {R : List D → Sd → Prop} {σ : Si}
theorem x_var0 {d : D} {r : Si} : dVar 0 (some d :: r) S Q = Q d S := rfl
theorem x_varS {o : Option D} {r : Si} {i : Nat} : dVar (i + 1) (o :: r) S Q = dVar i r S Q := rfl
theorem ite_tt {P R : Prop} : (if true = true then P else R) = P := if_pos rfl
theorem ite_ff {P R : Prop} : (if false = true then P else R) = R := if_neg Bool.false_ne_true
theorem x_len_tup {ds : List D} : rdLen [.tup ds] S Q = Q (.int ds.length) S := rfl
theorem x_len_lst {ds : List D} : rdLen [.lst ds] S Q = Q (.int ds.length) S := rfl
theorem x_len_str {z : Str} : rdLen [.str z] S Q = (z.length ≤ 16777216 ∧ Q (.int z.length) S) := rfl
theorem x_isi {d : D} {n : String} : rdIsi [d, .ty n] S Q = match isiD d n with | some b => Q (.bl b) S | none => False := rfl
theorem x_ixt {ds : List D} {i : Int} : rdIx (.tup ds) (.int i) S Q = ixQ S Q (atI ds i) := rfl
theorem x_ixl {ds : List D} {i : Int} : rdIx (.lst ds) (.int i) S Q = ixQ S Q (atI ds i) := rfl
theorem x_ixo {a : Addr} {ds : List D} {i : Int} (h : S a = some (.lst ds)) : rdIx (.obj a) (.int i) S Q = ixQ S Q (atI ds i) := by
  show (match S a with | some (.lst ds) => ixQ S Q (atI ds i) | _ => False) = _
  rw [h]
theorem x_set {a : Addr} {ds : List D} {i : Int} {j : Nat} {v : D} {Q : Sd → Prop} (h : S a = some (.lst ds)) (hj : ixN ds.length i = some j) : setQ S (.int i) v Q (.obj a) = Q (upS S a (.lst (ds.set j v))) := by
  show (match S a, (D.int i) with | some (.lst ds), .int i => (match ixN ds.length i with | some j => Q (upS S a (.lst (ds.set j v))) | none => False) | _, _ => False) = _
  rw [h]
  dsimp only
  rw [hj]
end
theorem ixN_nat {n : Nat} {j : Nat} (h : j < n) : ixN n (j : Int) = some j := by
  unfold ixN
  rw [if_pos (Int.natCast_nonneg j), if_pos (by omega)]
  simp
theorem atI_lt {ds : List D} {i : Int} (h0 : 0 ≤ i) (h1 : i < ds.length) : atI ds i = ds[i.toNat]? := by
  unfold atI ixN
  rw [if_pos h0, if_pos h1]
  rfl
theorem atI_some {ds : List D} {i : Int} (h0 : 0 ≤ i) (h1 : i < ds.length) : ∃ d, atI ds i = some d ∧ d ∈ ds := by
  rw [atI_lt h0 h1]
  have h2 : i.toNat < ds.length := by omega
  exact ⟨ds[i.toNat], List.getElem?_eq_getElem h2, List.getElem_mem h2⟩

section
variable {S : Sd} {Q : DK} {i j : Int} {k l : Bool} {x y : Str} {xs ys : List D}
theorem x_add_ii : rdAdd (.int i) (.int j) S Q = Q (.int (i + j)) S := rfl
theorem x_add_ib : rdAdd (.int i) (.bl k) S Q = Q (.int (i + b2i k)) S := rfl
theorem x_add_ss : rdAdd (.str x) (.str y) S Q = (x.length + y.length ≤ 16777216 ∧ Q (.str (x ++ y)) S) := rfl
theorem x_add_tt : rdAdd (.tup xs) (.tup ys) S Q = (xs.length + ys.length ≤ 16777216 ∧ Q (.tup (xs ++ ys)) S) := rfl
theorem x_add_ll : rdAdd (.lst xs) (.lst ys) S Q = (xs.length + ys.length ≤ 16777216 ∧ Q (.lst (xs ++ ys)) S) := rfl
theorem x_sub : rdSub (.int i) (.int j) S Q = Q (.int (i - j)) S := rfl
theorem x_mul : rdMul (.int i) (.int j) S Q = (i.natAbs.log2 + j.natAbs.log2 < 1000000 ∧ Q (.int (i * j)) S) := rfl
theorem x_mul_s : rdMul (.str x) (.int j) S Q = ((0 ≤ j ∧ (x.length : Int) * j ≤ 16777216 ∧ j ≤ 16777216) ∧ Q (.str (repS x j.toNat)) S) := rfl
theorem x_fdiv : rdFdiv (.int i) (.int j) S Q = ((j ≠ 0 ∧ j.natAbs.log2 < 9000) ∧ Q (.int (i.fdiv j)) S) := rfl
theorem x_mod : rdMod (.int i) (.int j) S Q = (j ≠ 0 ∧ Q (.int (i.fmod j)) S) := rfl
theorem x_pow : rdPow (.int i) (.int j) S Q = ((0 ≤ j ∧ ((i.natAbs.log2 : Int) + 1) * j ≤ 134217728) ∧ Q (.int (i ^ j.toNat)) S) := rfl
theorem x_neg : rdNeg (.int i) S Q = Q (.int (-i)) S := rfl
theorem x_lt : rdLt (.int i) (.int j) S Q = Q (.bl (decide (i < j))) S := rfl
theorem x_le : rdLe (.int i) (.int j) S Q = Q (.bl (decide (i ≤ j))) S := rfl
theorem x_gt : rdGt (.int i) (.int j) S Q = Q (.bl (decide (j < i))) S := rfl
theorem x_ge : rdGe (.int i) (.int j) S Q = Q (.bl (decide (j ≤ i))) S := rfl
theorem x_eq_ii : rdEq (.int i) (.int j) S Q = Q (.bl (decide (i = j))) S := rfl
theorem x_eq_ss : rdEq (.str x) (.str y) S Q = Q (.bl (decide (x = y))) S := rfl
theorem x_eq_bb : rdEq (.bl k) (.bl l) S Q = Q (.bl (decide (k = l))) S := rfl
theorem x_ne_ii : rdNe (.int i) (.int j) S Q = Q (.bl (!decide (i = j))) S := rfl
theorem x_ne_ss : rdNe (.str x) (.str y) S Q = Q (.bl (!decide (x = y))) S := rfl
theorem x_ne_bb : rdNe (.bl k) (.bl l) S Q = Q (.bl (!decide (k = l))) S := rfl
theorem x_abs : rdAbs [.int i] S Q = Q (.int (if i < 0 then -i else i)) S := rfl
theorem x_max2 : rdMax2 [.int i, .int j] S Q = Q (.int (if j > i then j else i)) S := rfl
theorem x_min2 : rdMin2 [.int i, .int j] S Q = Q (.int (if j < i then j else i)) S := rfl
theorem x_int_i : rdInt [.int i] S Q = Q (.int i) S := rfl
theorem x_int_b : rdInt [.bl k] S Q = Q (.int (if k then 1 else 0)) S := rfl
theorem x_sl_t {lo hi : Option Int} : rdSl (.tup xs) lo hi S Q = Q (.tup (cutD xs lo hi)) S := rfl
theorem x_sl_l {lo hi : Option Int} : rdSl (.lst xs) lo hi S Q = Q (.lst (cutD xs lo hi)) S := rfl
theorem x_sl_s {lo hi : Option Int} : rdSl (.str x) lo hi S Q = (x.length ≤ 16777216 ∧ Q (.str (cutS x lo hi)) S) := rfl
theorem x_ixs : rdIx (.str x) (.int i) S Q = (x.length ≤ 16777216 ∧ ixS S Q (atI x.cps.toList i)) := rfl
theorem x_allb {bs : List Bool} (e : xs = bs.map D.bl) (h : Q (.bl (bs.all id)) S) : rdAll [.lst xs] S Q := ⟨bs, by rw [e]; rfl, h⟩
end
theorem atI_0 {α : Type} {a : α} {r : List α} : atI (a :: r) 0 = some a := atI_nat (j := 0) rfl
theorem atI_1 {α : Type} {a b : α} {r : List α} : atI (a :: b :: r) 1 = some b := atI_nat (j := 1) rfl
theorem atI_2 {α : Type} {a b c : α} {r : List α} : atI (a :: b :: c :: r) 2 = some c := atI_nat (j := 2) rfl
theorem atI_3 {α : Type} {a b c d : α} {r : List α} : atI (a :: b :: c :: d :: r) 3 = some d := atI_nat (j := 3) rfl
theorem x_ixQ {S : Sd} {Q : DK} {d : D} : ixQ S Q (some d) = Q d S := rfl
theorem x_ixS {S : Sd} {Q : DK} {c : Nat} : ixS S Q (some c) = Q (.str ⟨#[c]⟩) S := rfl
theorem log2_lt {a : Int} {n : Nat} (h : a.natAbs < 2 ^ n) (h0 : 0 < n) : a.natAbs.log2 < n := PySem.Flt.log2_lt_of h0 h
/-! ### joints, loops -/
theorem seq_cut {t v : TSD} {E : EndsD} {σ : Si} {S : Sd} (Mid : Si → Sd → Prop) (h1 : ∀ N : Si → Sd → Prop, (∀ σ' S', Mid σ' S' → N σ' S') → t { E with nx := N } σ S) (h2 : ∀ σ' S', Mid σ' S' → v E σ' S') : dSeq t v E σ S := h1 (v E) h2
section
variable {g : TGD} {tb : TSD} {E : EndsD} {xs : List D}
theorem loop_pre (I : List D → Si → Sd → Prop) (hs : ∀ (p : List D) (x : D) (r : List D) (σ : Si) (S : Sd) (N : Si → Sd → Prop), xs = p ++ x :: r → I p σ S → (∀ σ' S', I (p ++ [x]) σ' S' → N σ' S') → g x σ S fun σ2 S2 => tb { E with nx := N, ct := N, bk := E.nx } σ2 S2)
    (hd : ∀ σ S, I xs σ S → E.nx σ S) : ∀ (r p : List D) (σ : Si) (S : Sd), xs = p ++ r → I p σ S → dLoop g tb E r σ S
  | [], p, σ, S, e, h => by
    rw [List.append_nil] at e
    rw [← e] at h
    exact hd σ S h
  | x :: r, p, σ, S, e, h => hs p x r σ S _ e h fun σ' S' h' => loop_pre I hs hd r (p ++ [x]) σ' S' (by rw [e]; simp) h'
theorem loop_all (I : List D → Si → Sd → Prop) {σ : Si} {S : Sd} (h0 : I [] σ S) (hs : ∀ (p : List D) (x : D) (r : List D) (σ : Si) (S : Sd) (N : Si → Sd → Prop), xs = p ++ x :: r → I p σ S → (∀ σ' S', I (p ++ [x]) σ' S' → N σ' S') → g x σ S fun σ2 S2 => tb { E with nx := N, ct := N, bk := E.nx } σ2 S2)
    (hd : ∀ σ S, I xs σ S → E.nx σ S) : dLoop g tb E xs σ S := loop_pre I hs hd xs [] σ S rfl h0
theorem rgD_len (lo : Int) (n : Nat) : (rgD lo n).length = n := by unfold rgD; rw [List.length_map, List.length_range]
theorem rgD_at {lo : Int} {n : Nat} {p r : List D} {x : D} (e : rgD lo n = p ++ x :: r) : x = .int (lo + p.length) ∧ p.length < n := by
  have h1 : (rgD lo n)[p.length]? = some x := by rw [e]; simp
  unfold rgD at h1
  rw [List.getElem?_map] at h1
  cases q : (List.range n)[p.length]? with
  | none => rw [q] at h1; cases h1
  | some j =>
    rw [q] at h1
    obtain ⟨h2, h3⟩ := List.getElem?_eq_some_iff.mp q
    rw [List.getElem_range] at h3
    subst h3
    exact ⟨(Option.some.inj h1).symm, by simpa using h2⟩
theorem loop_rng {lo : Int} {n : Nat} (I : Nat → Si → Sd → Prop) {σ : Si} {S : Sd} (h0 : I 0 σ S) (hs : ∀ (i : Nat) (σ : Si) (S : Sd) (N : Si → Sd → Prop), i < n → I i σ S → (∀ σ' S', I (i + 1) σ' S' → N σ' S') → g (.int (lo + i)) σ S fun σ2 S2 => tb { E with nx := N, ct := N, bk := E.nx } σ2 S2)
    (hd : ∀ σ S, I n σ S → E.nx σ S) : dLoop g tb E (rgD lo n) σ S :=
  loop_all (fun p σ S => I p.length σ S) h0 (fun p x r σ S N e h k => by
    obtain ⟨rfl, h1⟩ := rgD_at e
    exact hs p.length σ S N h1 h fun σ' S' h' => k σ' S' (by rw [List.length_append]; exact h')) fun σ S h => hd σ S (by rw [rgD_len] at h; exact h)
end
/-! ### comprehensions without a trace -/
theorem lcL_pure {te : TED} {p : Addr} {σw : Si} {i : Nat} {S : Sd} (f : D → D) : ∀ (xs acc : List D) (Q : List D → Sd → Prop), (∀ x ∈ xs, ∀ S' (Q' : DK), Q' (f x) S' → te (σw.set i (some x)) S' Q') → acc.length + xs.length ≤ 16777216 →
    Q (acc ++ xs.map f) (upS S p (.lst (acc ++ xs.map f))) → dLcL (dName i) dYes te p σw xs acc (upS S p (.lst acc)) Q
  | [], acc, Q, _, _, q => by
    rw [List.map_nil, List.append_nil] at q
    exact q
  | x :: r, acc, Q, h, hl, q => by
    rw [List.length_cons] at hl
    show (if true = true then te (σw.set i (some x)) (upS S p (.lst acc)) fun y S4 => S4 p = some (.lst acc) ∧ acc.length < 16777216 ∧ dLcL (dName i) dYes te p σw r (acc ++ [y]) (upS S4 p (.lst (acc ++ [y]))) Q else dLcL (dName i) dYes te p σw r acc (upS S p (.lst acc)) Q)
    rw [if_pos rfl]
    refine h x List.mem_cons_self _ _ ⟨upS_same, by omega, ?_⟩
    rw [upS_upS]
    refine lcL_pure f r (acc ++ [f x]) Q (fun y hy => h y (List.mem_cons_of_mem _ hy)) (by rw [List.length_append, List.length_singleton]; omega) ?_
    rw [List.append_assoc]
    exact q
theorem comp_pure {ti : TID} {te : TED} {i : Nat} {vs : List Nat} {σ : Si} {S : Sd} {Q : DK} (f : D → D) (xs : List D) (S1 : Sd) (hti : ∀ R : List D → Sd → Prop, R xs S1 → ti σ S R) (h : ∀ x ∈ xs, ∀ S' (Q' : DK), Q' (f x) S' → te ((wipeD σ vs).set i (some x)) S' Q') (hl : xs.length ≤ 16777216)
    (q : Q (.lst (xs.map f)) S1) : dComp ti (dName i) dYes te vs σ S Q := hti _ fun p hp => by
  refine lcL_pure f xs [] _ h (by simpa using hl) ⟨upS_same, ?_⟩
  rw [del_upS hp]
  exact q
end Dv

/-! Readings by value, y: texts, is, draws in a comprehension, loops with a measure. -/
namespace Dv
open PySem L2 PyProof.Rows
section
variable {X : Cx} {W : Wi}
/-! ### is -/
def rdIs : RD2 := fun x y S Q => match y with
  | .non => rdIsN x .non S Q
  | .bl b => (match x with | .bl a => Q (.bl (decide (a = b))) S | _ => False)
  | _ => False
def rdIsNot : RD2 := fun x y S Q => match y with
  | .non => rdNotN x .non S Q
  | .bl b => (match x with | .bl a => Q (.bl (!decide (a = b))) S | _ => False)
  | _ => False
theorem od_isNot : OpD X (compareOp .IsNot) rdIsNot := by
  obtain ⟨r, h, l⟩ := od_notN (X := X)
  refine ⟨_, h.or op_notBl, fun H S fr σd σ x y dx dy Qv Qd ok rx ry q k => ?_⟩
  cases dy with
  | non => exact .inl (l H S fr σd σ x y dx .non Qv Qd ok rx ry q k)
  | bl b =>
    cases dx with
    | bl a =>
      refine .inr ⟨a, b, rx, ry, k _ (.bl _) H S ok rfl q⟩
    | _ => exact (show False from q).elim
  | _ => exact (show False from q).elim
/-! ### one sign in a text -/
def rdInS : RD2 := fun x y S Q => match x, y with
  | .str a, .str z => ∃ c, a = ⟨#[c]⟩ ∧ Q (.bl (decide (c ∈ z.cps.toList))) S
  | _, _ => False
theorem od_inS : OpD X (compareOp .In) rdInS := ⟨_, op_in_sign, fun H S fr σd σ x y dx dy Qv Qd ok rx ry q k => by
  cases dx with
  | str a => cases dy with
    | str z =>
      obtain ⟨c, rfl, q2⟩ := (show ∃ c, a = ⟨#[c]⟩ ∧ _ from q)
      exact ⟨c, z, rx, ry, k _ (.bl _) H S ok rfl q2⟩
    | _ => exact (show False from q).elim
  | _ => exact (show False from q).elim⟩
/-! ### methods of texts -/
def rdJoin : RDM := fun o vs S Q => match o, vs with
  | .str a, [d] => ∃ ys : List Str, itemsD S d = some (ys.map D.str) ∧ (ys.map (·.length)).sum + ys.length * a.length ≤ 16777216 ∧ Q (.str (Txt.join a ys)) S
  | _, _ => False
theorem join_lift : LiftM X.K (fun x xs H Q => ∃ a p, ∃ ys : List Str, x = .str a ∧ xs = [.ref p] ∧ (SqL X.K H p (ys.map V.str) ∨ SqT X.K H p (ys.map V.str)) ∧
    (ys.map (·.length)).sum + ys.length * a.length ≤ 16777216 ∧ Q (.str (Txt.join a ys)) H) rdJoin := fun H S fr σd σ x dx xs ds Qv Qd ok rx rs h k => by
  match dx, ds, h with
  | .str a, [d], h =>
    obtain ⟨ys, e, hl, q⟩ := (show ∃ ys : List Str, itemsD S d = some (ys.map D.str) ∧ _ from h)
    obtain ⟨v, rfl, r1⟩ := rpL1 rs
    obtain ⟨p, vs, rfl, hq, r2⟩ := rp_items ok.rel r1 e
    cases rpL_strs r2
    exact ⟨a, p, ys, rx, rfl, hq, hl, k _ (.str _) H S ok rfl q⟩
def rdCount : RDM := fun o vs S Q => match o, vs with
  | .str a, [.str b] => Q (.int (Txt.count a b)) S
  | _, _ => False
theorem de_join {o : Expr} {to : TED} {es : List Expr} {e : Expr} {t : TAD} {apos cpos : Pos} (ho : DE X W o to) (ha : DA X W (e :: es) t) (hbase : attributeBase o "join" X.env (eval o X.env) = eval o X.env := by rfl)
    (hfew : ((backTo cpos (starEach (e :: es) X.env)).all (fun x => !x.1) && (backToKw cpos (keywordEach [] X.env)).all (fun x => x.1.isSome)
      && decide ((e :: es).length + ([] : List Keyword).length + (if ([] : List Keyword).isEmpty then 0 else 1) < 30)) = true := by rfl)
    (hline : (apos.endLine == cpos.line) = true := by rfl) (hs : starEach (e :: es) X.env = (false, eval e X.env) :: starEach es X.env := by rfl) (hplain : (backTo cpos (starEach es X.env)).any (·.1) = false := by rfl) :
    DE X W (.Call (.Attribute o "join" apos) (e :: es) [] cpos) (dBM "str" rdJoin to t) :=
  de_bm PySem.F.plainAttrs_str PySem.F.slot_str_join PySem.F.type_str_join mt_join join_lift ho ha hbase hfew hline hs hplain
/-! ### list(text), tuple(text) -/
theorem vals_signs {z : Str} {us : List Value} (h : ItemsOf (SignAt z) us.toArray z.cps.size) : Vals (z.cps.toList.map fun c => V.str ⟨#[c]⟩) us := by
  obtain ⟨h1, h2⟩ := h
  refine vals_of_at (by simpa using h1.symm) fun j x u e1 e2 => ?_
  obtain ⟨c, t, e3, rfl⟩ := h2 j u (by simpa using e2)
  rw [List.getElem?_map] at e1
  have e4 : z.cps.toList[j]? = some c := by simpa using e3
  rw [e4] at e1
  cases e1
  exact ⟨t, rfl⟩
def rTupS : List V → Hp → VK → Prop := fun xs H Q => ∃ z, xs = [.str z] ∧ z.length ≤ 16777216 ∧ ∀ p, H p = none → Q (.ref p) (upd H p (.tup (z.cps.toList.map fun c => V.str ⟨#[c]⟩)))
theorem call_tupS (hc : X.calm = true) : CallR X (.type "tuple") rTupS := by
  intro pins s σ H xs us Q I r h
  obtain ⟨z, rfl, hz, q⟩ := h
  obtain ⟨u, rfl, rx⟩ := vals1 r
  obtain ⟨t, rfl⟩ := (show ∃ t, u = .str z t from rx)
  have hz' : z.cps.size ≤ sizeLine := sz_le hz
  refine call_tuple_str (I.ok.hd hc) z t (fun h' tk acc hk hi => ?_) hz'
  have I2 : Inv X pins σ H { s with heap := h', toks := tk } := I.kept hk
  refine ⟨.ref h'.objs.size, upd H h'.objs.size (.tup (z.cps.toList.map fun c => V.str ⟨#[c]⟩)), I2.laid (t' := tk) (fun c o e => Heap.get?_push_of_some _ e) (Nat.le_refl _) (show ObjOk X.prog X.w _ _ _ (.tup _) from ⟨?_, acc.toList, vals_signs (by simpa using hi), ?_⟩), rfl, q _ (I2.hok.fresh (Nat.le_refl _))⟩
  · rw [List.length_map, Array.length_toList]; exact hz'
  · rw [Array.toArray_toList]; exact IsTup.new _ _
theorem rpL_signs {K : PySem.W.Frag} {H : Hp} {S : Sd} {z : Str} : RpL K H S (sgD z) (z.cps.toList.map fun c => V.str ⟨#[c]⟩) := by
  unfold sgD
  induction z.cps.toList with
  | nil => exact rfl
  | cons n r ih => exact ⟨_, _, rfl, rfl, ih⟩
def rdListA : RDC := fun ds S Q => match ds with
  | [.str z] => z.length ≤ 16777216 ∧ Q (.lst (sgD z)) S
  | _ => rdListC ds S Q
def rdTupA : RDC := fun ds S Q => match ds with
  | [.str z] => z.length ≤ 16777216 ∧ Q (.tup (sgD z)) S
  | _ => rdTupC ds S Q
theorem one_str {ds : List D} : (∃ z, ds = [.str z]) ∨ ((∀ S Q, rdListA ds S Q → rdListC ds S Q) ∧ ∀ S Q, rdTupA ds S Q → rdTupC ds S Q) := by
  match ds with
  | [] => exact .inr ⟨fun _ _ h => h, fun _ _ h => h⟩
  | d :: e :: r => cases d <;> exact .inr ⟨fun _ _ h => h, fun _ _ h => h⟩
  | [d] => cases d with
    | str z => exact .inl ⟨z, rfl⟩
    | _ => exact .inr ⟨fun _ _ h => h, fun _ _ h => h⟩
theorem cd_tupA (hc : X.calm = true) : CallD X (.type "tuple") rdTupA := by
  obtain ⟨r, h, l⟩ := cd_tuple (X := X)
  refine ⟨_, h.or (call_tupS hc), fun H S fr σd σ xs ds Qv Qd ok r0 q k => ?_⟩
  rcases one_str (ds := ds) with ⟨z, rfl⟩ | ⟨h1, h2⟩
  · obtain ⟨v, rfl, r1⟩ := rpL1 r0
    have e : v = .str z := r1
    subst e
    obtain ⟨q1, q2⟩ := (show z.length ≤ 16777216 ∧ Qd (.tup (sgD z)) S from q)
    exact .inr ⟨z, rfl, q1, fun p hp => k _ (.tup _) _ S (ok.new hp) (rp_tupNew ok.rel hp rpL_signs) q2⟩
  · exact .inl (l H S fr σd σ xs ds Qv Qd ok r0 (h2 _ _ q) k)
end
/-! ### rows -/
section
variable {S : Sd} {Q : DK} {x y z : Str} {k l : Bool} {ds : List D} {d : D}
theorem x_is_bb : rdIs (.bl k) (.bl l) S Q = Q (.bl (decide (k = l))) S := rfl
theorem x_isNot_bb : rdIsNot (.bl k) (.bl l) S Q = Q (.bl (!decide (k = l))) S := rfl
theorem x_is_n : rdIs d .non S Q = rdIsN d .non S Q := rfl
theorem x_isNot_n : rdIsNot d .non S Q = rdNotN d .non S Q := rfl
theorem x_inS {c : Nat} : rdInS (.str ⟨#[c]⟩) (.str z) S Q = Q (.bl (decide (c ∈ z.cps.toList))) S := by
  refine propext ⟨fun ⟨c', e, q⟩ => ?_, fun q => ⟨c, rfl, q⟩⟩
  injection e with e
  have e2 : c = c' := by simpa using e
  rw [e2]; exact q
theorem x_listA_s : rdListA [.str z] S Q = (z.length ≤ 16777216 ∧ Q (.lst (sgD z)) S) := rfl
theorem x_listA_t : rdListA [.tup ds] S Q = Q (.lst ds) S := rfl
theorem x_listA_l : rdListA [.lst ds] S Q = Q (.lst ds) S := rfl
theorem x_tupA_s : rdTupA [.str z] S Q = (z.length ≤ 16777216 ∧ Q (.tup (sgD z)) S) := rfl
theorem x_tupA_t : rdTupA [.tup ds] S Q = Q (.tup ds) S := rfl
theorem x_tupA_l : rdTupA [.lst ds] S Q = Q (.tup ds) S := rfl
theorem x_count : rdCount (.str x) [.str y] S Q = Q (.int (Txt.count x y)) S := rfl
theorem x_len_strL : z.length = z.cps.toList.length := by show z.cps.size = _; simp
end
/-- joined by nothing -/
theorem join_e (ys : List Str) : (Txt.join "" ys).cps.toList = (ys.map fun y => y.cps.toList).flatten := by
  rw [TL.join_eq]
  induction ys with
  | nil => rfl
  | cons y r ih =>
    cases r with
    | nil => show y.cps.toList = _; simp
    | cons z r =>
      show (y ++ ("" : Str) ++ Str.join "" (z :: r)).cps.toList = _
      have e : ∀ a b : Str, (a ++ b).cps.toList = a.cps.toList ++ b.cps.toList := fun a b => by
        show (a.cps ++ b.cps).toList = _
        simp
      rw [e, e, ih]
      have e0 : ("" : Str).cps.toList = [] := by decide +kernel
      rw [e0, List.append_nil]
      rfl
theorem x_join {S : Sd} {Q : DK} {d : D} {a : Str} (ys : List Str) (e : itemsD S d = some (ys.map D.str)) (h : (ys.map (·.length)).sum + ys.length * a.length ≤ 16777216) (q : Q (.str (Txt.join a ys)) S) : rdJoin (.str a) [d] S Q := ⟨ys, e, h, q⟩
/-- a text of signs -/
def ofL (l : List Nat) : Str := ⟨l.toArray⟩
theorem ofL_cps (l : List Nat) : (ofL l).cps.toList = l := rfl
theorem ofL_len (l : List Nat) : (ofL l).length = l.length := by show l.toArray.size = _; simp
theorem ofL_app (a b : List Nat) : ofL a ++ ofL b = ofL (a ++ b) := str_ext (by show (a.toArray ++ b.toArray).toList = _; simp [ofL])
theorem ofL_inj {a b : List Nat} : ofL a = ofL b ↔ a = b := ⟨fun h => by have := congrArg (fun z : Str => z.cps.toList) h; simpa [ofL] using this, fun h => by rw [h]⟩
theorem join_ones (l : List Nat) : Txt.join "" (l.map fun c => (⟨#[c]⟩ : Str)) = ofL l := str_ext (by
  rw [join_e, List.map_map]
  show ((l.map fun c => [c]).flatten) = l
  induction l with
  | nil => rfl
  | cons c r ih => rw [List.map_cons, List.flatten_cons, ih]; rfl)
/-! ### comprehensions that draw -/
theorem lcL_inv {te : TED} {p : Addr} {σw : Si} {i : Nat} {xs : List D} {Q : List D → Sd → Prop} (J : List D → Sd → Prop)
    (hs : ∀ (pre : List D) (x : D) (r acc : List D) (S : Sd) (Q' : DK), xs = pre ++ x :: r → acc.length = pre.length → J acc S → S p = some (.lst acc) → (∀ y S', S' p = some (.lst acc) → J (acc ++ [y]) (upS S' p (.lst (acc ++ [y]))) → Q' y S') → te (σw.set i (some x)) S Q')
    (hl : xs.length ≤ 16777216) (hd : ∀ acc S, acc.length = xs.length → J acc S → S p = some (.lst acc) → Q acc S) : ∀ (r pre acc : List D) (S : Sd), xs = pre ++ r → acc.length = pre.length → J acc S → S p = some (.lst acc) → dLcL (dName i) dYes te p σw r acc S Q
  | [], pre, acc, S, e, hn, j, hp => hd acc S (by rw [e, List.append_nil]; exact hn) j hp
  | x :: r, pre, acc, S, e, hn, j, hp => by
    show (if true = true then te (σw.set i (some x)) S fun y S4 => S4 p = some (.lst acc) ∧ acc.length < 16777216 ∧ dLcL (dName i) dYes te p σw r (acc ++ [y]) (upS S4 p (.lst (acc ++ [y]))) Q else dLcL (dName i) dYes te p σw r acc S Q)
    rw [if_pos rfl]
    refine hs pre x r acc S _ e hn j hp fun y S' h1 h2 => ⟨h1, ?_, ?_⟩
    · have := congrArg List.length e
      rw [List.length_append, List.length_cons] at this
      omega
    · exact lcL_inv J hs hl hd r (pre ++ [x]) (acc ++ [y]) _ (by rw [e]; simp) (by rw [List.length_append, List.length_append, hn]; rfl) h2 upS_same
theorem comp_inv {ti : TID} {te : TED} {i : Nat} {vs : List Nat} {σ : Si} {S : Sd} {Q : DK} (xs : List D) (S1 : Sd) (J : Addr → List D → Sd → Prop) (hti : ∀ R : List D → Sd → Prop, R xs S1 → ti σ S R) (h0 : ∀ p, S1 p = none → J p [] (upS S1 p (.lst [])))
    (hs : ∀ (p : Addr) (pre : List D) (x : D) (r acc : List D) (S : Sd) (Q' : DK), S1 p = none → xs = pre ++ x :: r → acc.length = pre.length → J p acc S → S p = some (.lst acc) → (∀ y S', S' p = some (.lst acc) → J p (acc ++ [y]) (upS S' p (.lst (acc ++ [y]))) → Q' y S') → te ((wipeD σ vs).set i (some x)) S Q')
    (hl : xs.length ≤ 16777216) (hd : ∀ p acc S, S1 p = none → acc.length = xs.length → J p acc S → S p = some (.lst acc) → Q (.lst acc) (del S p)) : dComp ti (dName i) dYes te vs σ S Q := hti _ fun p hp =>
  lcL_inv (J p) (fun pre x r acc S Q' => hs p pre x r acc S Q' hp) hl (fun acc S hn j e => ⟨e, hd p acc S hp hn j e⟩) xs [] [] _ rfl rfl (h0 p hp) upS_same
/-! ### while -/
end Dv

/-! Readings by value, u: statements that are never reached, +=, a written dict read by a text. -/
namespace Dv
open PySem L2 PyProof.Rows
section
variable {X : Cx} {W : Wi} {pos : Pos}
/-! ### a written dict read by a text -/
end
end Dv

/-! Readings by value: own errors raised, caught, asked. -/
namespace Dv
open PySem L2 PyProof.Rows Hx
/-! ### the module's own classes of errors -/
def ownBase : List (Str × List Str) := [("NoNumber", ["ArithmeticError"]), ("NoForm", ["ArithmeticError"]), ("OverNought", ["ZeroDivisionError", "ArithmeticError"]), ("TooMany", ["OverflowError", "ArithmeticError"]), ("NoKin", ["TypeError"]), ("NoPlace", ["IndexError", "LookupError"]), ("NoName", ["KeyError", "LookupError"]),
  ("NoTurn", ["LookupError"]), ("NoRow", ["RuntimeError"]), ("NoStair", ["ValueError"]), ("NoRing", ["ValueError"]), ("NoWord", ["ValueError"]), ("NoStep", ["ValueError"]), ("Uneven", ["ValueError"]), ("NoWay", ["ValueError"]), ("NoTable", ["ValueError"]), ("NoTriple", ["ValueError"])]
def ownCls : List Str := ownBase.map (·.1)
def bltCls : List Str := ["ArithmeticError", "ZeroDivisionError", "OverflowError", "TypeError", "IndexError", "KeyError", "LookupError", "RuntimeError", "ValueError"]
def excIs (n c : Str) : Bool := n == c || match ownBase.lookup n with
  | some bs => bs.contains c
  | none => false
def clsV (K : PySem.W.Frag) (x : Str) : Value := match PySem.W.nsIn K mainGlobals x with
  | some (some v) => v
  | _ => (bootBuiltins x).getD .none
/-- what is known of an own class of errors that is raised -/
structure WhF (K : PySem.W.Frag) (n : Str) (D : Addr) : Prop where
  at_ : PySem.W.nsIn K mainGlobals n = some (some (.ref D))
  exc : ExcC K D
  kit : ∀ c ∈ ownCls ++ bltCls, PySem.W.kitOne K (.ref D) (clsV K c) = some (excIs n c)
  exm : ∀ c ∈ ownCls, PySem.W.exmOne K (.ref D) (clsV K c) = some (excIs n c)
def excCB (K : PySem.W.Frag) (D : Addr) : Bool := decide (PySem.W.findIn K (.ref D) "__getattribute__" = some (some (.builtin "BaseException.__getattribute__"))) && (decide (PySem.W.findIn K (.ref D) "__getattr__" = some none) && (decide (PySem.W.subIn K (.ref D) (.type "BaseException") = some true) && (PySem.W.hasDictIn K D &&
  (decide (PySem.W.findIn K (.ref D) "__class__" = some (some (.builtin "object.__class__"))) && (decide (PySem.W.specialIn K (.builtin "object.__class__") "__get__" = some (some (.builtin "getset_descriptor.__get__"))) && (decide (PySem.W.takesIn K (.builtin "object.__class__") = some true) && decide (PySem.W.mroIn K D (.type "object") = some true)))))))
theorem and_b {a b : Bool} (h : (a && b) = true) : a = true ∧ b = true := Bool.and_eq_true_iff.mp h
theorem excCB_ok {K : PySem.W.Frag} {D : Addr} (h : excCB K D = true) : ExcC K D := by
  obtain ⟨h1, h⟩ := and_b h
  obtain ⟨h2, h⟩ := and_b h
  obtain ⟨h3, h⟩ := and_b h
  obtain ⟨h4, h⟩ := and_b h
  obtain ⟨h5, h⟩ := and_b h
  obtain ⟨h6, h⟩ := and_b h
  obtain ⟨h7, h8⟩ := and_b h
  exact ⟨of_decide_eq_true h1, of_decide_eq_true h2, of_decide_eq_true h3, h4, of_decide_eq_true h5, of_decide_eq_true h6, of_decide_eq_true h7, of_decide_eq_true h8⟩
def whB (K : PySem.W.Frag) (rs : List Str) : Bool := rs.all fun n => match PySem.W.nsIn K mainGlobals n with
  | some (some (.ref D)) => excCB K D && (((ownCls ++ bltCls).all fun c => decide (PySem.W.kitOne K (.ref D) (clsV K c) = some (excIs n c))) && ownCls.all fun c => decide (PySem.W.exmOne K (.ref D) (clsV K c) = some (excIs n c)))
  | _ => false
theorem whB_ok {K : PySem.W.Frag} {rs : List Str} (h : whB K rs = true) {n : Str} (hn : n ∈ rs) : ∃ D, WhF K n D := by
  have h1 := List.all_eq_true.mp h n hn
  split at h1
  · rename_i D e
    obtain ⟨a, b⟩ := and_b h1
    obtain ⟨b, c⟩ := and_b b
    exact ⟨D, e, excCB_ok a, fun c' hc => of_decide_eq_true (List.all_eq_true.mp b c' hc), fun c' hc => of_decide_eq_true (List.all_eq_true.mp c c' hc)⟩
  · cases h1
/-- the own classes stand as globals -/
def glB (K : PySem.W.Frag) : Bool := ownCls.all fun c => match PySem.W.nsIn K mainGlobals c with
  | some (some (.ref _)) => true
  | _ => false
theorem glB_ok {K : PySem.W.Frag} (h : glB K = true) {c : Str} (hc : c ∈ ownCls) : ∃ D, PySem.W.nsIn K mainGlobals c = some (some (.ref D)) ∧ clsV K c = .ref D := by
  have h1 := List.all_eq_true.mp h c hc
  unfold clsV
  split at h1
  · rename_i D e
    rw [e]
    exact ⟨D, rfl, rfl⟩
  · cases h1
/-- a simple own class: raised with a text -/
structure RsF (K : PySem.W.Frag) (n : Str) (bm : List Value) (newId : String) (C : Addr) : Prop where
  at_ : PySem.W.nsIn K mainGlobals n = some (some (.ref C))
  exc : PySem.W.excIn K C bm newId = true
  kp : PySem.W.keepIn K (.ref C) = true
  sub : PySem.W.subIn K (.ref C) (.type "BaseException") = some true
  ty : PySem.W.typeIn K (.ref C) = some (.type "type")
def rsB (K : PySem.W.Frag) (n : Str) (bm : List Value) (newId : String) : Bool := match PySem.W.nsIn K mainGlobals n with
  | some (some (.ref C)) => PySem.W.excIn K C bm newId && (PySem.W.keepIn K (.ref C) && (decide (PySem.W.subIn K (.ref C) (.type "BaseException") = some true) && decide (PySem.W.typeIn K (.ref C) = some (.type "type"))))
  | _ => false
theorem rsB_ok {K : PySem.W.Frag} {n : Str} {bm : List Value} {newId : String} (h : rsB K n bm newId = true) : ∃ C, RsF K n bm newId C := by
  unfold rsB at h
  split at h
  · rename_i C e
    obtain ⟨a, h⟩ := and_b h
    obtain ⟨b, h⟩ := and_b h
    obtain ⟨c, d⟩ := and_b h
    exact ⟨C, e, a, b, of_decide_eq_true c, of_decide_eq_true d⟩
  · cases h
/-! ### raise -/
section
variable {X : Cx} {W : Wi} {pos : Pos}
def dRaise (WD : WXD) (x : Xd) : TSD := fun _ σ S => WD x σ S
theorem ds_raiseC {n m : Str} {j : Nat} {p p2 pos' : Pos} {bm : List Value} {B newId initId : String} {C : Addr} (hc : X.calm = true) (tk : L2N.Takes X W.V) (F : ExcBaseFacts B newId initId bm) (R : RsF X.K n bm newId C) (gC : X.mg n = some (.ref C)) (hg : Gl X n) (hdb : (n == ("__debug__" : Str)) = false := by decide) :
    DS X W (.Raise (some (.Call (.Name n p) [.Constant (.str m) j p2] [] pos)) none pos') (dRaise W.D ⟨n, [], []⟩) :=
  ⟨PS.imp (L2N.ps_raise hc tk (L2N.pmk_own F R.exc gC R.kp (raises_own R.sub R.ty) hg hdb)) fun D σ H ⟨σd, S, fr, Dd, ok, cl, h, k⟩ => cl σd σ H S (.ref C) none _ ok ⟨R.at_, fun _ => rfl, fun _ z => nomatch z⟩ h⟩
end
/-! ### except suites -/
/-- what a suite knows of the exception that it holds -/
structure SuF (K : PySem.W.Frag) (oe : Obj) (od : Option Addr) (n : Str) : Prop where
  cls : ∃ D, WhF K n D ∧ oe.cls = .ref D
  dct : oe.dict = od
  dat : ∃ vs : Array Value, oe.data = .fields vs ∧ vs[2]? = some .none
structure DCl where
  cs : List Str
  n : Option Nat
  ts : Addr → Option Addr → Xd → TSD
def goneD (n : Option Nat) (D : EndsD) : EndsD := match n with
  | none => D
  | some i => { nx := fun σ S => D.nx (σ.set i none) S, rt := D.rt, bk := fun σ S => D.bk (σ.set i none) S, ct := fun σ S => D.ct (σ.set i none) S }
def bindD (n : Option Nat) (a : Addr) (od : Option Addr) (x : Xd) (σ : Si) : Si := match n with
  | none => σ
  | some i => σ.set i (some (.exc a od x.ns x.xs))
/-- what the clauses wish of an exception; rs: the own classes that may come -/
def wDCl (rs : List Str) (Wout : WXD) (D : EndsD) : List DCl → WXD
  | [] => Wout
  | c :: r => fun x σ S => x.cls ∈ rs ∧ if c.cs.any (excIs x.cls) = true then ∀ a od, S a = none → c.ts a od x (goneD c.n D) (bindD c.n a od x σ) S else wDCl rs Wout D r x σ S
def dTry (rs : List Str) (tb : WXD → TSD) (l : List DCl) (WD : WXD) : TSD := fun D σ S => tb (wDCl rs WD D l) D σ S
section
variable {X : Cx} {W : Wi} {pos : Pos}
def nmOf (X : Cx) (n : Option Nat) (m : Option (Str × Nat)) : Prop := m.map (·.2) = n ∧ NmOk X m
inductive DHds (X : Cx) : List ExceptHandler → List DCl → Prop
  | nil : DHds X [] []
  | cons {c : DCl} {m : Option (Str × Nat)} {e : Expr} {b₀ : Stmt} {suite : List Stmt} {pos : Pos} {hds : List ExceptHandler} {l : List DCl} (hn : nmOf X c.n m) (ht : Tst X e (c.cs.map (clsV X.K))) (ho : ∀ z ∈ c.cs, z ∈ ownCls)
      (hsu : ∀ (a : Addr) (oe : Obj) (od : Option Addr) (x : Xd) (pn : List (Addr × Obj)), SuF X.K oe od x.cls → DB (X.suite a ((a, oe) :: pn)) W0 (b₀ :: suite) (c.ts a od x)) (r : DHds X hds l) :
      DHds X (.ExceptHandler (some e) (m.map (·.1)) (b₀ :: suite) pos :: hds) (c :: l)
theorem exm_any {K : PySem.W.Frag} {n : Str} {D : Addr} (w : WhF K n D) : ∀ cs : List Str, (∀ z ∈ cs, z ∈ ownCls) → PySem.W.exmAny K (.ref D) (cs.map (clsV K)) = some (cs.any (excIs n))
  | [], _ => rfl
  | c :: r, h => by
    show PySem.W.exmAny K (.ref D) (clsV K c :: r.map (clsV K)) = some (excIs n c || r.any (excIs n))
    unfold PySem.W.exmAny
    rw [w.exm c (h c (.head _)), exm_any w r fun z hz => h z (.tail _ hz)]
def liftTs (K : PySem.W.Frag) (ts : Addr → Option Addr → Xd → TSD) : Addr → Value → Option Addr → TS := fun a cls od D σ H => ∃ x, (∃ Dx, WhF K x.cls Dx ∧ cls = .ref Dx) ∧ upSt K W0 (ts a od x) D σ H
def liftCl (K : PySem.W.Frag) : DCl → Option (Str × Nat) → Hx.Cl := fun c m => ⟨c.cs.map (clsV K), m, liftTs K c.ts⟩
theorem hds_lift {hds : List ExceptHandler} {l : List DCl} (h : DHds X hds l) : ∃ l' : List Hx.Cl, Hds X hds l' ∧ ∀ (rs : List Str), (∀ n ∈ rs, ∃ D, WhF X.K n D) → ∀ (fr : List (V × D)) (Dd : EndsD) (D : Ends), EndOk X.K fr Dd D → Cl X.K W fr →
    Dv.Cl X.K ⟨wCls X.K W.V D l', wDCl rs W.D Dd l⟩ fr := by
  induction h with
  | nil => exact ⟨[], .nil, fun rs _ fr Dd D _ cl => cl⟩
  | @cons c m e b₀ suite pos hds l hn ht ho hsu r ih =>
    obtain ⟨l', h1, h2⟩ := ih
    refine ⟨liftCl X.K c m :: l', ?_, ?_⟩
    · refine Hds.cons (c := liftCl X.K c m) hn.2 ht (fun a oe cls d pn hz hd => ⟨fun pins s σ H D I ⟨x, ⟨Dx, hw, ec⟩, h⟩ => ?_⟩) h1
      obtain ⟨vs, hd⟩ := hd
      exact ((hsu a oe d x pn ⟨⟨Dx, hw, hz.1.trans ec⟩, hz.2.1, vs, hd, hz.2.2 vs hd⟩).p).run pins s σ H D I h
    · intro rs hrs fr Dd D eo cl σd σ H S cls od x ok rx h
      obtain ⟨hn1, h⟩ := h
      obtain ⟨Dx, hw⟩ := hrs _ hn1
      have ec : cls = .ref Dx := by
        have z := rx.1
        rw [hw.at_] at z
        exact (Option.some.inj (Option.some.inj z)).symm
      refine ⟨_, by rw [ec]; exact exm_any hw c.cs ho, fun hb a na => ?_, fun hb => ?_⟩
      · rw [if_pos hb] at h
        refine ⟨x, ⟨Dx, hw, ec⟩, bindD c.n a od x σd, S, fr, goneD c.n Dd, ?_, Cl.zero, h a od (ok.rel.free na), ?_⟩
        · have rexc : Rp X.K H S (.exc a od x.ns x.xs) (.ref a) := ⟨rfl, rx.2.1, rx.2.2⟩
          have e1 := hn.1
          cases m with
          | none =>
            have e2 : c.n = none := e1.symm
            show Ok X.K H S fr (bindD c.n a od x σd) (bindN none a σ)
            rw [e2]
            exact ok
          | some mi =>
            have e2 : c.n = some mi.2 := e1.symm
            show Ok X.K H S fr (bindD c.n a od x σd) (bindN (some mi) a σ)
            rw [e2]
            exact ok.set rexc mi.2
        · have e1 := hn.1
          cases m with
          | none =>
            have e2 : c.n = none := e1.symm
            show EndOk X.K fr (goneD c.n Dd) (goneN none D)
            rw [e2]
            exact eo
          | some mi =>
            have e2 : c.n = some mi.2 := e1.symm
            show EndOk X.K fr (goneD c.n Dd) (goneN (some mi) D)
            rw [e2]
            exact ⟨fun σd σ H S o q => eo.nx _ _ H S (o.gone mi.2 none) q, eo.rt, fun σd σ H S o q => eo.bk _ _ H S (o.gone mi.2 none) q, fun σd σ H S o q => eo.ct _ _ H S (o.gone mi.2 none) q⟩
      · rw [if_neg (by rw [hb]; exact Bool.false_ne_true)] at h
        exact h2 rs hrs fr Dd D eo cl σd σ H S cls od x ok rx h
theorem ds_try {body : List Stmt} {h₀ : ExceptHandler} {hds : List ExceptHandler} {l : List DCl} {rs : List Str} {tb : WXD → TSD} (hs : X.stack = X.env :: X.outer) (hf : X.env.frame = some X.env.locals) (tk : L2N.Takes X W.V) (hrs : ∀ n ∈ rs, ∃ D, WhF X.K n D)
    (hb : ∀ (W' : Wi) (pn : List (Addr × Obj)) (xe : Value → Shared → Prop), L2N.Takes (X.tr pn xe) W'.V → PassesOwn (model X.prog X.w) X.A X.env xe → DB (X.tr pn xe) W' body (tb W'.D)) (hh : DHds X (h₀ :: hds) l) :
    DS X W (.Try body (h₀ :: hds) [] [] pos) (dTry rs tb l W.D) := by
  obtain ⟨l', h1, h2⟩ := hds_lift (W := W) hh
  refine ⟨PS.imp (ps_tryN (tb := fun WV D σ H => ∃ WD, upSt X.K ⟨WV, WD⟩ (tb WD) D σ H) hs hf tk (fun WV pn xe tk' pass => ⟨fun pins s σ H D I ⟨WD, h⟩ => ?_⟩) h1) fun D σ H ⟨σd, S, fr, Dd, ok, cl, h, k⟩ => ?_⟩
  · exact ((hb ⟨WV, WD⟩ pn xe tk' pass).p).run pins s σ H D I h
  · exact ⟨_, σd, S, fr, Dd, ok, h2 rs hrs fr Dd D k cl, h, k⟩
end
end Dv

/-! Readings by value: a def that names an error's class; a refusal named. -/
namespace Dv
open PySem L2 PyProof.Rows Hx
section
variable {X : Cx} {W : Wi} {pos : Pos}
/-! ### while an exception is handled -/
structure DIH (X : Cx) (W : Wi) (tg iter : Expr) (t : TID) : Prop where
  p : L2H.PIH X tg iter (upI X.K W t)
theorem dih_list {tg l : Expr} {te : TED} (hl : DE X W l te) : DIH X W tg l (dIter te) :=
  ⟨⟨fun pins s σ H R I ⟨σd, S, fr, Rd, ok, cl, h, k⟩ => (pi_listH (tg := tg) hl.p).run pins s σ H R I ⟨σd, S, fr, _, ok, cl, h, fun x dx H1 S1 ok1 r1 q => by
    cases dx with
    | lst ds =>
      obtain ⟨a, vs, e, q1, r2⟩ := rp_list ok1.rel r1
      subst e
      exact ⟨a, rfl, ⟨vs, q1⟩, k _ ds H1 S1 [(.ref a, .lst ds)] (ok1.cons r1) itd_list q⟩
    | _ => exact (show False from q).elim⟩⟩⟩
theorem dg_tupH {vs : List Nat} {es : List Expr} {k : Nat} {t : TGsD} {n : Nat} (hc : L2H.HotC X) (h : DGs X W vs es t) (hn : (assignEach es X.env).length = n := by rfl) (hst : (assignEach es X.env).findIdx? (·.1) = none := by rfl) : DG X W vs (.Tuple es k pos) (dTupG n t) :=
  ⟨PG.imp (pg_tupH hc h.p hn hst) fun v σ H Q ⟨σd, S, fr, Qd, d, ok, cl, r, q, k⟩ => by
    cases d with
    | tup ds =>
      obtain ⟨a, vs, e, q1, r1⟩ := r
      exact ⟨a, vs, e, q1, (rpL_len r1).symm.trans q.1, σd, S, fr, Qd, ds, ok, cl, r1, q.2, k⟩
    | _ => exact (show False from q).elim⟩
theorem ds_setLcH (i : Nat) {y : Str} {py : Pos} {elt tg iter : Expr} {ifs : List Expr} {scope : Scope} {own : List (Str × Nat)} {spos : Pos} {ti : TID} {g : TGD} {tt : TTD} {te : TED} (hc : L2H.HotC X) (hN : X.N.Nodup) (hy : X.N[i]? = some y) (hyl : X.env.scope.names.lookup y = some .local)
    (hsw : swapsWith (.ListComp elt [⟨tg, iter, ifs, 0⟩] scope pos) (some (.Name y py)) spos.line X.env = pure true) (hi : DIH X W tg iter ti) (ok : BlkOk X.N X.env.scope scope own)
    (hg : ∀ (s : Shared) (H : Hp) (C : Addr) (cl : List (Str × Addr)) (fp : List Addr), DG (blkP X s H scope (compEnvC scope cl C X.env) fp) W0 (own.map (·.2)) tg g) (ht : ∀ (s : Shared) (H : Hp) (C : Addr) (cl : List (Str × Addr)) (fp : List Addr), DTs (blkP X s H scope (compEnvC scope cl C X.env) fp) W0 ifs tt)
    (he : ∀ (s : Shared) (H : Hp) (C : Addr) (cl : List (Str × Addr)) (fp : List Addr), DE (blkP X s H scope (compEnvC scope cl C X.env) fp) W0 elt te) (hs : ∀ x, foldedSetIterable iter X.env x = pure x := by intro _; rfl) :
    DS X W (.Assign [.Name y py] (.ListComp elt [⟨tg, iter, ifs, 0⟩] scope pos) spos) (dSet i (dComp ti g tt te (own.map (·.2)))) :=
  ⟨PS.imp (ps_setLcH hc hN hy hyl hsw hi.p ok (fun s H C cl fp => (hg s H C cl fp).p) (fun s H C cl fp => (ht s H C cl fp).p) (fun s H C cl fp => (he s H C cl fp).p) hs) fun D σ H ⟨σd, S, fr, Dd, ok, cl, h, k⟩ =>
    lc_lift (W := W) σ H _ ⟨σd, S, fr, _, ok, cl, h, fun v d H1 S1 ok1 r1 q => k.nx _ _ H1 S1 (ok1.set r1 i) q⟩⟩
/-- isinstance(e, c), e the exception that is handled -/
def dIsX (i : Nat) (a : Addr) (od : Option Addr) (b : Bool) : TED := fun σ S Q => (∃ ns xs, σ[i]? = some (some (.exc a od ns xs))) ∧ Q (.bl b) S
theorem de_isx {i : Nat} {a : Addr} {oe : Obj} {od : Option Addr} {n c e : Str} {p1 p2 p3 pos : Pos} {cv : V} (sf : SuF X.K oe od n) (hp : (a, oe) ∈ X.pn) (hgi : Gl X "isinstance") (hmi : X.mg "isinstance" = none) (hN : X.N[i]? = some e) (hv : Vis X.env.scope e) (hcv : PE X (.Name c p3) (tC cv)) (hcl : ClsV cv (clsV X.K c)) (hc : c ∈ ownCls ++ bltCls)
    (hd : (e == ("__debug__" : Str)) = false := by decide) (hcd : (e == ("__classdict__" : Str)) = false := by decide) : DE X W (.Call (.Name "isinstance" p1) [.Name e p2, .Name c p3] [] pos) (dIsX i a od (excIs n c)) := by
  obtain ⟨D, w, ec⟩ := sf.cls
  obtain ⟨vs, hd1, _⟩ := sf.dat
  refine ⟨PE.imp (pe_callB (call_isW w.exc hp ec ⟨vs, hd1⟩) hgi hmi (by decide +kernel) (pa_cons (pe_var (i := i) hN hv hd hcd) (pa_cons hcv pa_nil)) (by decide) (by decide)) fun σ H Q ⟨σd, S, fr, Qd, ok, cl, ⟨⟨ns, xs, e1⟩, q⟩, k⟩ => ?_⟩
  obtain ⟨v, e2, r⟩ := ok.si i _ e1
  obtain ⟨ev, h0, h1⟩ := r
  subst ev
  refine ⟨.ref a, e2, ⟨cv, clsV X.K c, excIs n c, rfl, hcl, ?_, w.kit c hc, k _ (.bl (excIs n c)) H S ok rfl q⟩⟩
  rw [sf.dct]
  cases od with
  | none => exact .inl rfl
  | some dx =>
    obtain ⟨fs, z, _⟩ := h1 dx rfl
    exact .inr ⟨dx, fs, rfl, z⟩
end
/-! ### a def that names an error's class -/
def TWh (K : PySem.W.Frag) (a : Addr) (od : Option Addr) (n : Str) (H : Hp) (Q : VK) : Prop := ∃ (S : Sd) (fr : List (V × D)) (Qd : Sd → Prop) (ns : List Str) (xs : List D), RelS K H S ∧ FrOk K H S fr ∧ Rp K H S (.exc a od ns xs) (.ref a) ∧ Qd S ∧ ∀ H' S', RelS K H' S' → FrOk K H' S' fr → Qd S' → Q (.str n) H'
def WhOk (P : Program) (w : World) (K : PySem.W.Frag) (mg : Str → Option Value) (base : Heap) (k : Nat) (f : Addr) (st : Stmt) (Ng : List Str) (x : Str) : Prop :=
  ∀ (a : Addr) (oe : Obj) (od : Option Addr) (n : Str), SuF K oe od n → n ∈ ownCls → ∀ (A : Around) (outer : List Env) (s : Shared) (H : Hp) (Q : VK) (cdv : Value), L2H.RoomH k (A.deeper (envOfC x (defScope st) s.heap.objs.size f cdv)) → A.handled = some (.ref a) → TWh K a od n H Q →
    ∃ t, PSs (L2H.cxH C8.CX0 P w K mg base Ng x (defScope st) f cdv A outer s H C8.E0 (a, oe)) (defBody st) t ∧ t { nx := fun _ H' => Q .non H', rt := Q } (L2.start Ng [.ref a]) H
section
variable {P : Program} {w : World} {K : PySem.W.Frag} {mg : Str → Option Value} {base : Heap}
theorem whOk {k : Nat} {f : Addr} {st : Stmt} {Ng : List Str} {x : Str} {t : Addr → Option Addr → Str → TSD}
    (hb : ∀ (a : Addr) (oe : Obj) (od : Option Addr) (n : Str), SuF K oe od n → ∀ (A : Around) (outer : List Env) (s : Shared) (H : Hp) (cdv : Value), L2H.RoomH k (A.deeper (envOfC x (defScope st) s.heap.objs.size f cdv)) → L2H.HotC (L2H.cxH C8.CX0 P w K mg base Ng x (defScope st) f cdv A outer s H C8.E0 (a, oe)) →
      DB (L2H.cxH C8.CX0 P w K mg base Ng x (defScope st) f cdv A outer s H C8.E0 (a, oe)) W0 (defBody st) (t a od n))
    (hp : ∀ (a : Addr) (od : Option Addr) (n : Str) (ns : List Str) (xs : List D) (S : Sd) (Q : DK), n ∈ ownCls → Q (.str n) S → t a od n { nx := fun _ S' => Q .non S', rt := Q } (startD Ng [.exc a od ns xs]) S) : WhOk P w K mg base k f st Ng x := by
  intro a oe od n sf hn A outer s H Q cdv hr hh ⟨S, fr, Qd, ns, xs, R, F, r, q, kq⟩
  obtain ⟨vs, d1, c1⟩ := sf.dat
  refine ⟨_, (hb a oe od n sf A outer s H cdv hr ⟨(a, oe), ⟨hh, vs, d1, c1⟩, .head _⟩).p, startD Ng [.exc a od ns xs], S, fr, { nx := fun _ _ => False, rt := fun d S' => d = .str n ∧ Qd S' }, start_ok R F (rpL_cons r rpL_nil), Cl.zero, ?_, ?_⟩
  · have z := hp a od n ns xs S (fun d S' => d = .str n ∧ Qd S') hn ⟨rfl, q⟩
    have e : (fun (_ : Si) (S' : Sd) => (D.non = D.str n ∧ Qd S')) = fun _ _ => False := by
      funext _ _
      exact propext ⟨fun z => (by cases z.1), fun z => z.elim⟩
    rw [e] at z
    exact z
  · refine ⟨fun _ _ _ _ _ z => z.elim, fun v d σd σ H' S' o rv ⟨ed, qd⟩ => ?_, fun _ _ _ _ _ z => z.elim, fun _ _ _ _ _ z => z.elim⟩
    subst ed
    have ev : v = .str n := rv
    subst ev
    exact kq H' S' o.rel o.fr qd
end
section
variable {X : Cx} {pos : Pos}
/-- f(e) in the suite -/
def dWhich (i : Nat) (a : Addr) (od : Option Addr) (n : Str) : TED := fun σ S Q => (∃ ns xs, σ[i]? = some (some (.exc a od ns xs))) ∧ n ∈ ownCls ∧ Q (.str n) S
theorem de_which {W : Wi} {a f : Addr} {oe : Obj} {od : Option Addr} {pn : List (Addr × Obj)} {n nm x pp : Str} {i k : Nat} {st : Stmt} {fd : FuncData} {Ng : List Str} {q1 q2 : Pos} (sf : SuF X.K oe od n) (hw : WhOk X.prog X.w X.K X.mg X.base k f st Ng x) (F : L2.Fun X.K x x st f fd) (Sc : FnScope Ng [pp] (defScope st)) (hb : Binds X.K fd [pp] []) (hr : L2H.RoomH (k + 1) X.A)
    (hg : Gl X x) (hm : X.mg x = some (.ref f)) (hN : X.N[i]? = some nm) (hn : Vis X.env.scope nm) (hdb : (x == ("__debug__" : Str)) = false := by decide) (hd : (nm == ("__debug__" : Str)) = false := by decide) (hcd : (nm == ("__classdict__" : Str)) = false := by decide) :
    DE (X.suite a ((a, oe) :: pn)) W (.Call (.Name x q1) [.Name nm q2] [] pos) (dWhich i a od n) := by
  by_cases hnn : n ∈ ownCls
  · refine ⟨PE.imp (pe_hot (TW := TWh X.K a od n) F Sc hb hr sf.dat hg hm hN hn (fun A outer s H Q cdv hr' hh h => hw a oe od n sf hnn A outer s H Q cdv hr' hh h) hdb hd hcd) fun σ H Q ⟨σd, S, fr, Qd, ok, cl, ⟨⟨ns, xs, e1⟩, _, q⟩, k⟩ => ?_⟩
    obtain ⟨v, e2, r⟩ := ok.si i _ e1
    have ev : v = .ref a := r.1
    subst ev
    exact ⟨e2, S, fr ++ prs σd σ, fun S' => Qd (.str n) S', ns, xs, ok.rel, ok.out, r, q, fun H' S' R' F' q' => k _ (.str n) H' S' (ok.back R' F') rfl q'⟩
  · exact ⟨⟨fun pins s σ H Q I ⟨_, _, _, _, _, _, ⟨_, z, _⟩, _⟩ => absurd z hnn⟩⟩
/-! ### a refusal, named -/
end
end Dv

/-! Readings by value: what the printed derivations lean on for errors and lambdas. -/
namespace Dv
open PySem L2 PyProof.Rows Hx
section
variable {X : Cx} {W : Wi} {pos : Pos}
theorem takes0N : L2N.Takes X W0.V := fun _ _ ⟨_, _, _, _, _, _, _, _, _, _, _, _, _, _, _, _, z⟩ => z.elim
theorem de_isxO {i : Nat} {a : Addr} {oe : Obj} {od : Option Addr} {n c e : Str} {p1 p2 p3 pos : Pos} (own : ∃ Dn, X.mg c = some (.ref Dn) ∧ clsV X.K c = .ref Dn) (hgc : Gl X c) (hc : c ∈ ownCls ++ bltCls) (sf : SuF X.K oe od n) (hp : (a, oe) ∈ X.pn) (hgi : Gl X "isinstance") (hmi : X.mg "isinstance" = none) (hN : X.N[i]? = some e) (hv : Vis X.env.scope e)
    (hdc : (c == ("__debug__" : Str)) = false := by decide) (hd : (e == ("__debug__" : Str)) = false := by decide) (hcd : (e == ("__classdict__" : Str)) = false := by decide) : DE X W (.Call (.Name "isinstance" p1) [.Name e p2, .Name c p3] [] pos) (dIsX i a od (excIs n c)) := by
  obtain ⟨Dn, h1, h2⟩ := own
  exact de_isx (cv := .ref Dn) sf hp hgi hmi hN hv (pe_glob hgc h1 rfl hdc) (by rw [h2]; exact .own Dn) hc hd hcd
theorem de_isxB {i : Nat} {a : Addr} {oe : Obj} {od : Option Addr} {n e : Str} {c : Str} {ty : String} {p1 p2 p3 pos : Pos} (hz : PySem.W.nsIn X.K mainGlobals c = some none) (hm : X.mg c = none) (hv0 : bootBuiltins c = some (.type ty)) (hgc : Gl X c) (hc : c ∈ ownCls ++ bltCls) (sf : SuF X.K oe od n) (hp : (a, oe) ∈ X.pn) (hgi : Gl X "isinstance") (hmi : X.mg "isinstance" = none) (hN : X.N[i]? = some e) (hv : Vis X.env.scope e)
    (hnn : c ≠ "__name__" := by decide) (hdc : (c == ("__debug__" : Str)) = false := by decide) (hd : (e == ("__debug__" : Str)) = false := by decide) (hcd : (e == ("__classdict__" : Str)) = false := by decide) : DE X W (.Call (.Name "isinstance" p1) [.Name e p2, .Name c p3] [] pos) (dIsX i a od (excIs n c)) := by
  have h2 : clsV X.K c = .type ty := by
    unfold clsV
    rw [hz]
    show (bootBuiltins c).getD .none = .type ty
    rw [hv0]
    rfl
  exact de_isx (cv := .ty ty) sf hp hgi hmi hN hv (pe_bltn hgc hm hv0 rfl hnn hdc) (by rw [h2]; exact .ty ty) hc hd hcd
theorem nmO {x : Str} (own : ∃ Dn, X.mg x = some (.ref Dn) ∧ clsV X.K x = .ref Dn) (hg : Gl X x) (hd : (x == ("__debug__" : Str)) = false := by decide) : Names X x (clsV X.K x) := by
  obtain ⟨Dn, h1, h2⟩ := own
  exact ⟨hg, hd, .inl (by rw [h2]; exact h1)⟩
end
section
variable {P : Program} {w : World} {K : PySem.W.Frag} {mg : Str → Option Value} {base : Heap}
end
theorem unitsH {k : Nat} {A : Around} (r : L2H.RoomH k A) : A.units + 64 < cLine := by have := r.un; omega
/-- one statement at a time: the rest stands still -/
theorem seq_step {t v : TSD} {E : EndsD} {σ : Si} {S : Sd} (h : ∀ r : TSD, r = v → dSeq t r E σ S) : dSeq t v E σ S := h v rfl
/-- one assignment, by instances alone: the kernel has nothing to unfold -/
theorem seq_set {i : Nat} {t : TED} {v : TSD} {E : EndsD} {σ : Si} {S : Sd} (h : t σ S fun x S1 => v E (σ.set i (some x)) S1) : dSeq (dSet i t) v E σ S := h
/-! ### divmod -/
def rdDivmod : RDC := fun ds S Q => match ds with
  | [.int i, .int j] => (0 < j ∧ j.natAbs.log2 < 9000) ∧ Q (.tup [.int (i / j), .int (i % j)]) S
  | _ => False
theorem x_divmod {i j : Int} {S : Sd} {Q : DK} : rdDivmod [.int i, .int j] S Q = ((0 < j ∧ j.natAbs.log2 < 9000) ∧ Q (.tup [.int (i / j), .int (i % j)]) S) := rfl
/-! ### law with tables -/
end Dv

/-! Readings by value: calls with keywords. -/
namespace Dv
open PySem L2 PyProof.Rows Hx
section
variable {X : Cx} {W : Wi} {k n m : Nat} {f : Addr} {fd : FuncData} {ps ks : List Str} {sp : SpD} {idx : List Nat} {dvs : List V} {dds : List D} {x : Str} {p pos kpos : Pos} {a e : Expr} {es : List Expr} {kws : List Keyword} {ta : TED} {t tk : TAD} {nm : Option Str}
/-- f(.., k = ..): what the places idx of all that is handed in hold, by the parameters -/
def dCallK (sp : SpD) (n m : Nat) (idx : List Nat) (dds : List D) (WD : WXD) (t tk : TAD) : TED := fun σ S Q => t σ S fun xs S1 => tk σ S1 fun zs S2 => (xs.length = n ∧ zs.length = m) ∧ sp (sel idx (xs ++ zs ++ dds)) S2 Q fun y S3 => WD y σ S3
end
/-! ### for x, y in zip(xs, ys) -/
def zipD (ds es : List D) : List D := (ds.zip es).map fun p => .tup [p.1, p.2]
def zipR (R : List D → Sd → Prop) (S : Sd) : List D → Prop
  | [.lst ds, .lst es] => R (zipD ds es) S
  | _ => False
def dZip (ta : TAD) : TID := fun σ S R => ta σ S fun xs S1 => zipR R S1 xs
/-! ### * of tuples too -/
def rdMulA : RD2
  | .int i, .int j, S, Q => i.natAbs.log2 + j.natAbs.log2 < 1000000 ∧ Q (.int (i * j)) S
  | .str z, .int k, S, Q => (0 ≤ k ∧ (z.length : Int) * k ≤ 16777216 ∧ k ≤ 16777216) ∧ Q (.str (repS z k.toNat)) S
  | .tup ds, .int k, S, Q => (ds ≠ [] ∧ 1 ≤ k ∧ k ≤ 1000 ∧ ds.length ≤ 1000) ∧ Q (.tup (List.replicate k.toNat ds).flatten) S
  | _, _, _, _ => False
theorem rpL_flat {K : PySem.W.Frag} {H : Hp} {S : Sd} {ds : List D} {vs : List V} (r : RpL K H S ds vs) : ∀ n : Nat, RpL K H S (List.replicate n ds).flatten (List.replicate n vs).flatten
  | 0 => rpL_nil
  | n + 1 => by
    rw [List.replicate_succ, List.replicate_succ, List.flatten_cons, List.flatten_cons]
    exact rpL_app r (rpL_flat r n)
theorem od_mulA {X : Cx} : OpD X (binaryOp .Mult) rdMulA := ⟨_, (op_mulW.or op_mulS).or (op_repT.or op_once), fun H S fr σd σ x y dx dy Qv Qd ok rx ry h k => by
  cases dx with
  | int i =>
    cases dy with
    | int j => exact .inl (.inl ⟨i, j, rx, ry, h.1, k _ (.int (i * j)) H S ok rfl h.2⟩)
    | _ => exact (show False from h).elim
  | str z =>
    cases dy with
    | int j => exact .inl (.inr ⟨z, j, rx, ry, h.1.1, h.1.2.1, h.1.2.2, k _ (.str (repS z j.toNat)) H S ok rfl h.2⟩)
    | _ => exact (show False from h).elim
  | tup ds =>
    cases dy with
    | int j =>
      obtain ⟨⟨h0, h1, h2, h3⟩, q⟩ := h
      obtain ⟨a, vs, rfl, q1, r⟩ := rx
      have hl := rpL_len r
      by_cases c : j = 1
      · subst c
        have e : (List.replicate (Int.toNat 1) ds).flatten = ds := by show (List.replicate 1 ds).flatten = ds; simp
        rw [e] at q
        exact .inr (.inr ⟨a, vs, rfl, ry, q1, k _ (.tup ds) H S ok ⟨a, vs, rfl, q1, r⟩ q⟩)
      · exact .inr (.inl ⟨a, j, vs, rfl, ry, q1, fun e => h0 (by rw [e] at hl; exact List.eq_nil_of_length_eq_zero hl), by omega, h2, by omega, fun p hp => k _ (.tup (List.replicate j.toNat ds).flatten) _ S (ok.new hp) (rp_tupNew ok.rel hp (rpL_flat r j.toNat)) q⟩)
    | _ => exact (show False from h).elim
  | _ => cases dy <;> exact (show False from h).elim⟩
section
variable {i j : Int} {x : Str} {ds : List D} {S : Sd} {Q : DK}
theorem x_mulA : rdMulA (.int i) (.int j) S Q = (i.natAbs.log2 + j.natAbs.log2 < 1000000 ∧ Q (.int (i * j)) S) := rfl
theorem x_mulA_s : rdMulA (.str x) (.int j) S Q = ((0 ≤ j ∧ (x.length : Int) * j ≤ 16777216 ∧ j ≤ 16777216) ∧ Q (.str (repS x j.toNat)) S) := rfl
theorem x_mulA_t : rdMulA (.tup ds) (.int j) S Q = ((ds ≠ [] ∧ 1 ≤ j ∧ j ≤ 1000 ∧ ds.length ≤ 1000) ∧ Q (.tup (List.replicate j.toNat ds).flatten) S) := rfl
end
theorem sel_n1 {a : D} : sel [0] ([] ++ [a]) = [a] := rfl
theorem sel_n2 {a b : D} : sel [0, 1] ([] ++ [a, b]) = [a, b] := rfl
theorem sel_x2 {a b : D} : sel [1, 0] ([] ++ [a, b]) = [b, a] := rfl
theorem sel_12 {a b : D} : sel [0, 1] ([a] ++ [b]) = [a, b] := rfl
end Dv

/-! Readings by value: max and min of a list, by a def's ints too. -/
namespace Dv
open PySem L2 PyProof.Rows Hx
/-- the place of the best of so many -/
def bestBy (up : Bool) (kf : Nat → Int) (n : Nat) : Nat := argBest (fun i j => if up then decide (kf i > kf j) else decide (kf i < kf j)) (n - 1)
def kfL (kf : Str → Int) (zs : List Str) (i : Nat) : Int := match zs[i]? with
  | some z => kf z
  | none => 0
def keyR (sp : SpD) (up : Bool) (S : Sd) (Q : DK) : D → Prop
  | .lst ds => ∃ (zs : List Str) (kf : Str → Int), ds = zs.map D.str ∧ 0 < zs.length ∧ (∀ z ∈ zs, ∀ Q' : DK, Q' (.int (kf z)) S → sp [.str z] S Q' fun _ _ => False) ∧ ∀ z, zs[bestBy up (kfL kf zs) zs.length]? = some z → Q (.str z) S
  | _ => False
def dKeyed (sp : SpD) (up : Bool) (t : TED) : TED := fun σ S Q => t σ S fun d S1 => keyR sp up S1 Q d
section
variable {X : Cx} {W : Wi} {k : Nat} {f : Addr} {fd : FuncData} {p fn : Str} {sp : SpD} {e : Expr} {t : TED} {p1 p2 p3 pos : Pos}
end
/-! ### a text within a text -/
def hasS (z a : Str) : Bool := !(Builtin.Str.occurrences z a 0 z.length 1).isEmpty
def rdInT : RD2 := fun x y S Q => match x, y with
  | .str a, .str z => Q (.bl (hasS z a)) S
  | _, _ => False
theorem x_inT {a z : Str} {S : Sd} {Q : DK} : rdInT (.str a) (.str z) S Q = Q (.bl (hasS z a)) S := rfl
/-! ### xs = [.. for ..], the list is kept for changes -/
section
variable {X : Cx} {W : Wi} {pos : Pos}
end
end Dv

/-! Readings by value: sum of tuples. -/
namespace Dv
open PySem L2 PyProof.Rows Hx
section
variable {K : PySem.W.Frag} {H H' : Hp} {S : Sd}
end
def sumR (S : Sd) (Q : DK) : List D → List D → Prop
  | [.lst ds], [.tup []] => ∃ dss : List (List D), ds = dss.map D.tup ∧ (∀ n, (dss.take n).flatten.length ≤ 1000) ∧ Q (.tup dss.flatten) S
  | _, _ => False
def dSumT (t tk : TAD) : TED := fun σ S Q => t σ S fun xs S1 => tk σ S1 fun zs S2 => sumR S2 Q xs zs
section
variable {X : Cx} {W : Wi} {e : Expr} {t tk : TAD} {kws : List Keyword} {p pos : Pos}
end
end Dv

/-! Readings by value: a written dict of lists, subscripted at once; extend. -/
namespace Dv
open PySem L2 PyProof.Rows Hx
section
variable {X : Cx} {W : Wi} {k1 k2 x y : Str} {a b c d : Int} {i j : Nat} {m1 m2 m3 m4 m5 m6 : Nat} {q1 q2 q3 q4 q5 q6 u1 u2 dpos np yp pos apos cpos : Pos}
end
end Dv

/-! Readings by value: repr of data, == of tracked lists. -/
namespace Dv
open PySem L2 PyProof.Rows Hx
/-- a tracked list stands for its items -/
def valD (S : Sd) (d : D) : D := match d with
  | .obj a => match S a with
    | some (.lst ds) => .lst ds
    | _ => d
  | d => d
mutual
/-- what can be shown: ints below 2 ^ 1920, texts of code points -/
def shOk : D → Bool
  | .non => true | .bl _ => true
  | .int i => decide (i.natAbs.log2 < 1920)
  | .str z => PyData.strOk z
  | .tup ds => shOkL ds
  | .lst ds => shOkL ds
  | _ => false
def shOkL : List D → Bool
  | [] => true
  | d :: ds => shOk d && shOkL ds
end
mutual
/-- a bound of how long the text is -/
def shL : D → Nat
  | .int _ => 1921
  | .str z => 10 * z.length + 2
  | .tup ds => shLL ds + 3
  | .lst ds => shLL ds + 2
  | _ => 5
def shLL : List D → Nat
  | [] => 0
  | d :: ds => shL d + 2 + shLL ds
end
mutual
theorem shOk_data : ∀ {d : D}, shOk d = true → isData d = true
  | .int _, _ => rfl
  | .non, _ => rfl
  | .bl _, _ => rfl
  | .str _, _ => rfl
  | .tup ds, h => shOkL_data (ds := ds) h
  | .lst ds, h => shOkL_data (ds := ds) h
  | .tupX _, h => absurd (show false = true from h) Bool.false_ne_true
  | .inst _ _ _, h => absurd (show false = true from h) Bool.false_ne_true
  | .obj _, h => absurd (show false = true from h) Bool.false_ne_true
  | .ty _, h => absurd (show false = true from h) Bool.false_ne_true
  | .exc _ _ _ _, h => absurd (show false = true from h) Bool.false_ne_true
theorem shOkL_data : ∀ {ds : List D}, shOkL ds = true → isDataL ds = true
  | [], _ => rfl
  | d :: ds, h => by
    have h' := Bool.and_eq_true_iff.mp (show (shOk d && shOkL ds) = true from h)
    show (isData d && isDataL ds) = true
    rw [shOk_data h'.1, shOkL_data h'.2]
    rfl
end
mutual
theorem shOk_show : ∀ {d : D}, shOk d = true → (pd d).showable = true
  | .int i, h => h
  | .non, _ => rfl
  | .bl _, _ => rfl
  | .str _, _ => rfl
  | .tup ds, h => shOkL_show (ds := ds) h
  | .lst ds, h => shOkL_show (ds := ds) h
  | .tupX _, h => absurd (show false = true from h) Bool.false_ne_true
  | .inst _ _ _, h => absurd (show false = true from h) Bool.false_ne_true
  | .obj _, h => absurd (show false = true from h) Bool.false_ne_true
  | .ty _, h => absurd (show false = true from h) Bool.false_ne_true
  | .exc _ _ _ _, h => absurd (show false = true from h) Bool.false_ne_true
theorem shOkL_show : ∀ {ds : List D}, shOkL ds = true → PyData.showableAll (pdL ds) = true
  | [], _ => rfl
  | d :: ds, h => by
    have h' := Bool.and_eq_true_iff.mp (show (shOk d && shOkL ds) = true from h)
    show ((pd d).showable && PyData.showableAll (pdL ds)) = true
    rw [shOk_show h'.1, shOkL_show h'.2]
    rfl
end
mutual
theorem pd_noDict : ∀ (d : D), (pd d).hasDict = false
  | .int _ => rfl
  | .non => rfl
  | .bl _ => rfl
  | .str _ => rfl
  | .tup ds => pdL_noDict ds
  | .lst ds => pdL_noDict ds
  | .tupX _ => rfl
  | .inst _ _ _ => rfl
  | .obj _ => rfl
  | .ty _ => rfl
  | .exc _ _ _ _ => rfl
  | .fn _ => rfl
theorem pdL_noDict : ∀ (ds : List D), PyData.hasDictAll (pdL ds) = false
  | [] => rfl
  | d :: ds => by
    show ((pd d).hasDict || PyData.hasDictAll (pdL ds)) = false
    rw [pd_noDict d, pdL_noDict ds]
    rfl
end
theorem join_len (ts : List Str) : (Str.join ", " ts).length ≤ piled ts := by
  cases ts with
  | nil => show 0 ≤ _; omega
  | cons t r => have := join_length_add (t :: r) (by simp); omega
theorem textFrom_piled : ∀ (ts : List Str) (k : Nat) (acc : Str), (textFrom k acc ts).length ≤ acc.length + piled ts
  | [], k, acc => by show acc.length ≤ acc.length + _; omega
  | t :: r, k, acc => by
    have ih := textFrom_piled r (k + 1) (acc ++ (if k > 0 then ", " else "" : String) ++ t)
    have e : (acc ++ (if k > 0 then ", " else "" : String) ++ t).length = acc.length + (if k > 0 then 2 else 0) + t.length := by
      rw [strLen_append, strLen_append]
      split <;> rfl
    rw [e] at ih
    rw [piled_cons]
    show (textFrom (k + 1) (acc ++ (if k > 0 then ", " else "" : String) ++ t) r).length ≤ _
    have h2 : (if k > 0 then 2 else 0) ≤ 2 := by split <;> omega
    omega
mutual
theorem shown_len : ∀ {d : D}, shOk d = true → (pd d).shown.length ≤ shL d
  | .int i, h => int_text_len_1921 (of_decide_eq_true h)
  | .non, _ => by show 4 ≤ 5; omega
  | .bl b, _ => by cases b <;> decide
  | .str z, h => PySem.StrLaws.reprText_len z fun c hc => by
    have h1 := Array.all_eq_true'.mp (show z.cps.all (· < 0x110000) = true from h) c (by simpa using hc)
    have h2 := of_decide_eq_true h1
    omega
  | .tup ds, h => by
    have ih := shownL_len (ds := ds) h
    show (tupleText (PyData.shownAll (pdL ds))).length ≤ shLL ds + 3
    unfold tupleText
    rw [strLen_append, strLen_append]
    have := join_len (PyData.shownAll (pdL ds))
    have e1 : (("(" : String) : Str).length = 1 := rfl
    have e2 : ((if (PyData.shownAll (pdL ds)).length == 1 then ",)" else ")" : String) : Str).length ≤ 2 := by split <;> decide
    omega
  | .lst ds, h => by
    have ih := shownL_len (ds := ds) h
    show (listText (PyData.shownAll (pdL ds))).length ≤ shLL ds + 2
    unfold listText
    rw [strLen_append]
    have := textFrom_piled (PyData.shownAll (pdL ds)) 0 ("[" : String)
    have e1 : (("[" : String) : Str).length = 1 := rfl
    have e2 : (("]" : String) : Str).length = 1 := rfl
    omega
  | .tupX _, h => absurd (show false = true from h) Bool.false_ne_true
  | .inst _ _ _, h => absurd (show false = true from h) Bool.false_ne_true
  | .obj _, h => absurd (show false = true from h) Bool.false_ne_true
  | .ty _, h => absurd (show false = true from h) Bool.false_ne_true
  | .exc _ _ _ _, h => absurd (show false = true from h) Bool.false_ne_true
theorem shownL_len : ∀ {ds : List D}, shOkL ds = true → piled (PyData.shownAll (pdL ds)) ≤ shLL ds
  | [], _ => Nat.le_refl _
  | d :: ds, h => by
    have h' := Bool.and_eq_true_iff.mp (show (shOk d && shOkL ds) = true from h)
    have h1 := shown_len h'.1
    have h2 := shownL_len h'.2
    show piled ((pd d).shown :: PyData.shownAll (pdL ds)) ≤ shL d + 2 + shLL ds
    rw [piled_cons]
    omega
end
theorem dp_val {K : PySem.W.Frag} {H : Hp} {S : Sd} {d : D} {v : V} (R : RelS K H S) (h : isData (valD S d) = true) (r : Rp K H S d v) : Dp K H v (pd (valD S d)) := by
  cases d with
  | obj a =>
    have e : v = .ref a := r
    subst e
    unfold valD at h ⊢
    dsimp only at h ⊢
    split at h
    · rename_i ds q
      obtain ⟨vs, q1, q2⟩ := rp_obj R q
      exact .lst (.inl (.inl q1)) (dp_ofL R ds vs h q2)
    · exact absurd (show false = true from h) Bool.false_ne_true
  | _ => exact dp_of R _ v h r
/-! ### repr -/
def rRepr (K : PySem.W.Frag) : List V → Hp → VK → Prop := fun xs H Q => ∃ v p, xs = [v] ∧ Dp K H v p ∧ p.showable = true ∧ p.hasDict = false ∧ p.depth ≤ 60 ∧ p.shown.length ≤ sizeLine ∧ Q (.str p.shown) H
theorem call_reprD {X : Cx} (hg : X.A.guards = some []) (hu : X.A.units + 64 < cLine) : CallR X (.builtin "repr") (rRepr X.K) := by
  intro pins s σ H xs us Q I r ⟨v, p, e, hd, hs, hn, hp, hz, q⟩
  subst e
  obtain ⟨u, rfl, rv⟩ := vals1 r
  have big : ∀ {a : Addr}, v = .ref a → wpAny (model X.prog X.w) X.A (call (.builtin "repr") [u]) (EP X pins σ Q) X.xe s := fun {a} e => by
    obtain ⟨as, rd⟩ := Dp.reads I p v u hd rv
    subst e
    obtain rfl : u = Value.ref a := rv
    exact PySem.repr_of_reads' rd hs (fun z => by rw [hn] at z; cases z) hg (by omega) (fun _ _ z => z) (fun h' t tk hk => ⟨.str _, H, I.kept hk, ⟨t, rfl⟩, q⟩) hz
  cases hd with
  | non =>
    obtain rfl : u = Value.none := rv
    exact PySem.P.repr_of_none ⟨.str _, H, I.tok _, ⟨_, rfl⟩, q⟩
  | bl b =>
    obtain rfl : u = Value.bool b := rv
    exact PySem.P.repr_of_bool ⟨.str _, H, I.tok _, ⟨_, rfl⟩, q⟩
  | int i =>
    obtain ⟨t, rfl⟩ := (show ∃ t, u = .int i t from rv)
    exact PySem.P.repr_of_int (of_decide_eq_true hs) ⟨.str _, H, I.tok _, ⟨_, rfl⟩, q⟩
  | str z =>
    obtain ⟨t, rfl⟩ := (show ∃ t, u = .str z t from rv)
    exact PySem.P.repr_of_str ⟨.str _, H, I.tok _, ⟨_, rfl⟩, q⟩ hz
  | lst _ _ => exact big rfl
  | tup _ _ => exact big rfl
/-- may be shown -/
def shD (d : D) : Prop := shOk d = true ∧ shL d ≤ 16777216 ∧ (pd d).depth ≤ 60
def shownD (d : D) : Str := (pd d).shown
def rdRepr : RDC := fun ds S Q => match ds with
  | [d] => shD (valD S d) ∧ Q (.str (shownD (valD S d))) S
  | _ => False
theorem cd_repr {X : Cx} (hg : X.A.guards = some []) (hu : X.A.units + 64 < cLine) : CallD X (.builtin "repr") rdRepr := ⟨_, call_reprD hg hu, fun H S fr σd σ xs ds Qv Qd ok r h k => by
  cases ds with
  | nil => exact h.elim
  | cons d t => cases t with
    | cons _ _ => exact h.elim
    | nil =>
      obtain ⟨v, rfl, r0⟩ := rpL1 r
      obtain ⟨⟨h1, h2, h3⟩, q⟩ := h
      exact ⟨v, _, rfl, dp_val ok.rel (shOk_data h1) r0, shOk_show h1, pd_noDict _, h3, by rw [sl_eq]; exact Nat.le_trans (shown_len h1) h2, k _ (.str _) H S ok rfl q⟩⟩
/-! ### == where a tracked list may stand -/
def eqV_ (x y : D) (S : Sd) (Q : DK) : Prop := (eqOk (valD S x) = true ∧ eqOk (valD S y) = true) ∧ Q (.bl (deq (valD S x) (valD S y))) S
def neV_ (x y : D) (S : Sd) (Q : DK) : Prop := (eqOk (valD S x) = true ∧ eqOk (valD S y) = true) ∧ Q (.bl (!deq (valD S x) (valD S y))) S
def rdEqO : RD2 := fun x y S Q => match x, y with
  | .obj a, y => eqV_ (.obj a) y S Q
  | x, .obj b => eqV_ x (.obj b) S Q
  | x, y => rdEq x y S Q
def rdNeO : RD2 := fun x y S Q => match x, y with
  | .obj a, y => neV_ (.obj a) y S Q
  | x, .obj b => neV_ x (.obj b) S Q
  | x, y => rdNe x y S Q
section
variable {S : Sd} {Q : DK}
theorem x_eqO_ss {x y : Str} : rdEqO (.str x) (.str y) S Q = Q (.bl (decide (x = y))) S := rfl
theorem x_neO_ss {x y : Str} : rdNeO (.str x) (.str y) S Q = Q (.bl (!decide (x = y))) S := rfl
end
/-! ### a list unpacked into names -/
def dTupL (n : Nat) (t : TGsD) : TGD := fun d σ S Q => match lstD S d with
  | some ds => ds.length = n ∧ t ds σ S Q
  | none => False
theorem x_tupL {n : Nat} {t : TGsD} {ds : List D} {σ : Si} {S : Sd} {Q : Si → Sd → Prop} : dTupL n t (.lst ds) σ S Q = (ds.length = n ∧ t ds σ S Q) := rfl
/-! ### a tracked list walked by a comprehension -/
section
variable {X : Cx} {W : Wi} {pos : Pos}
end
/-! ### isinstance, reverse of tracked lists -/
end Dv

/-! An own exception whose __init__ stores its arguments, over any built-in class of errors. -/
namespace Hx
open PySem PySem.Spec PyProof.Rows L2
/-- what the written part says of such a class; bm: its built-in class's mro -/
structure OexG (K : PySem.W.Frag) (C : Addr) (bm : List Value) (newId : String) : Prop where
  cls : ∃ nm q N bs sn sub ab col dd k0 k1 k2 k3 k5, K.lookup C = some (excClassObj nm q C N bs bm true sn sub ab col dd k0 k1 k2 k3 k5 newId)
  pass : ∀ self : Value, refuseLoop self "__setattr__" bm = pure ()
  top : bm.contains (.type "object") = true
  sa : PySem.W.findIn K (.ref C) "__setattr__" = some (some (.builtin "object.__setattr__"))
  exC : PySem.W.subIn K (.ref C) (.type "BaseException") = some true
  tyC : PySem.W.typeIn K (.ref C) = some (.type "type")
  kC : PySem.W.keepIn K (.ref C) = true
section
open Builtin Builtin.ObjectAttr PySem.Calls
variable {prog : Program} {w : World} {A : Around} {R : Result → Shared → Prop} {hp : Heap} {g : Array GenState} {d : Drawn} {t : Nat} {os : OsState} {K : PySem.W.Frag} {name : Str} {tk : Tok} {v : Value} {x C dx : Addr} {fv : Array Value} {cd : ClassData} {bm : List Value} {m0 : Str → Option Value} {nl : List Str}
theorem look_sub {o : Obj} {od : Option Obj} (X : K.In hp) (I : PySem.W.InstAt hp x o C od) (hcd : PySem.W.clsIn K C = some cd) (hm : cd.mro = .ref C :: bm) (top : bm.contains (.type "object") = true) : PySem.W.Looks (model prog w) hp (isInstance (.ref x) (.type "object")) true :=
  I.type.andThen (PySem.W.looks_mroIn X (by
    have e : cd.mro.contains (.type "object") = true := by rw [hm, List.contains_cons, top, Bool.or_true]
    unfold PySem.W.mroIn
    rw [hcd, Option.bind_some, if_neg (by rw [hm]; exact Bool.false_ne_true), e]))
/-- the first field: a dict is made -/
theorem put_first (X : K.In hp) (hx : hp.get? x = some { cls := .ref C, data := .fields fv }) (hcd : PySem.W.clsIn K C = some cd) (hm : cd.mro = .ref C :: bm) (pass : ∀ self : Value, refuseLoop self "__setattr__" bm = pure ()) (top : bm.contains (.type "object") = true) (hh : cd.hasDict = true) (free : PySem.W.findIn K (.ref C) name = some none)
    (fin : ∀ h' tk' dx, (∀ b o, b ≠ x → hp.get? b = some o → h'.get? b = some o) → hp.objs.size ≤ dx → dx ≠ x → h'.get? x = some { cls := .ref C, dict := some dx, data := .fields fv } → h'.Ns1 dx (fun y => if y = name then some v else none) → R (.ok (.ret .none)) ⟨h', g, d, tk', os⟩) :
    codeAny (model prog w) A (.call (.builtin "object.__setattr__") ⟨[.ref x, .str name tk, v], []⟩) R ⟨hp, g, d, t, os⟩ := by
  have SF := F.store_object
  have I : PySem.W.InstAt hp x { cls := .ref C, data := .fields fv } C none := ⟨hx, rfl, rfl, trivial⟩
  have apart : x ≠ hp.objs.size := Nat.ne_of_lt (Heap.lt_size hx)
  have seeC : PySem.W.Looks (model prog w) hp (classData C) cd := PySem.W.looks_clsIn X hcd
  have seeM : PySem.W.Looks (model prog w) hp (mroOf (.ref C)) cd.mro := seeC.andThen .now
  have seeT : PySem.W.Looks (model prog w) hp (storeTaker? none) none := .now
  refine codeAny_call_builtin SF.slot.plain SF.entry (@PySem.W.check_slot (model prog w) _ _ ⟨hp, g, d, t, os⟩ "object.__setattr__" "object" "__setattr__" (.ref x) [.str name tk, v] [] _ SF.kind SF.split (look_sub X I hcd hm top) (SF.args (.ref x) (.str name tk) v) ?_)
  rw [PySem.W.osa_eq, refuse_eq]
  refine wpAny_bind (wpAny_bind (I.type.at (wpAny_bind (seeM.at ?_))))
  rw [hm, refuseLoop_ref, pass]
  refine wpAny_pure (wpAny_bind (I.type.at (wpAny_bind ((PySem.W.looks_findIn X free).at (wpAny_bind (seeT.at (show wpAny _ _ (storeInOwnDict (.ref x) (.ref C) (.str name tk) name v false) _ _ _ from ?_)))))))
  cases cd
  dsimp only at hh
  subst hh
  unfold storeInOwnDict ownDictForStores
  repeat (first | with_reducible refine HandSPX.store_in_new ?_ ?_ | with_reducible refine wpAny_loadPart_at hx ?_ | with_reducible refine seeC.at ?_ | wp_step)
  · exact ⟨_, #[], _, (Heap.get?_update_ne _ _ _ _ apart.symm).trans (Heap.get?_push_at rfl rfl), rfl, fun e he => absurd he (by simp), fun _ => rfl⟩
  · intro h' tk' hn' hs
    refine fin h' tk' hp.objs.size (fun b o hb ho => ?_) (Nat.le_refl _) apart.symm ?_ hn'
    · exact (hs.2 b (Nat.ne_of_lt (Heap.lt_size ho))).trans ((Heap.get?_update_ne _ _ _ _ hb).trans (Heap.get?_push_of_some _ ho))
    · exact (hs.2 x apart).trans (Heap.get?_update_self _ (Heap.get?_push_of_some _ hx) rfl)
/-- a further field -/
theorem put_more (X : K.In hp) (hx : hp.get? x = some { cls := .ref C, dict := some dx, data := .fields fv }) (hns : hp.Ns1 dx m0) (hw : Within m0 nl) (hz : nl.length ≤ 1000) (hcd : PySem.W.clsIn K C = some cd) (hm : cd.mro = .ref C :: bm) (pass : ∀ self : Value, refuseLoop self "__setattr__" bm = pure ()) (top : bm.contains (.type "object") = true) (hh : cd.hasDict = true)
    (free : PySem.W.findIn K (.ref C) name = some none) (fin : ∀ h' tk', (∀ b o, b ≠ dx → hp.get? b = some o → h'.get? b = some o) → h'.Ns1 dx (fun y => if y = name then some v else m0 y) → R (.ok (.ret .none)) ⟨h', g, d, tk', os⟩) :
    codeAny (model prog w) A (.call (.builtin "object.__setattr__") ⟨[.ref x, .str name tk, v], []⟩) R ⟨hp, g, d, t, os⟩ := by
  have SF := F.store_object
  obtain ⟨oD, esD, epD, hoD, hdD, _⟩ := hns.count hw
  have I : PySem.W.InstAt hp x { cls := .ref C, dict := some dx, data := .fields fv } C (some oD) := ⟨hx, rfl, rfl, hoD⟩
  have seeC : PySem.W.Looks (model prog w) hp (classData C) cd := PySem.W.looks_clsIn X hcd
  have seeM : PySem.W.Looks (model prog w) hp (mroOf (.ref C)) cd.mro := seeC.andThen .now
  have seeT : PySem.W.Looks (model prog w) hp (storeTaker? none) none := .now
  refine codeAny_call_builtin SF.slot.plain SF.entry (@PySem.W.check_slot (model prog w) _ _ ⟨hp, g, d, t, os⟩ "object.__setattr__" "object" "__setattr__" (.ref x) [.str name tk, v] [] _ SF.kind SF.split (look_sub X I hcd hm top) (SF.args (.ref x) (.str name tk) v) ?_)
  rw [PySem.W.osa_eq, refuse_eq]
  refine wpAny_bind (wpAny_bind (I.type.at (wpAny_bind (seeM.at ?_))))
  rw [hm, refuseLoop_ref, pass]
  refine wpAny_pure (wpAny_bind (I.type.at (wpAny_bind ((PySem.W.looks_findIn X free).at (wpAny_bind (seeT.at (show wpAny _ _ (storeInOwnDict (.ref x) (.ref C) (.str name tk) name v false) _ _ _ from ?_)))))))
  cases cd
  dsimp only at hh
  subst hh
  unfold storeInOwnDict ownDictForStores
  repeat (first | with_reducible refine OEX.store_in_old hns hw hz ?_ | with_reducible refine wpAny_loadPart_at hx ?_ | with_reducible refine seeC.at ?_ | wp_step)
  exact fun h' tk' hn' hs => fin h' tk' (fun b o hb ho => (hs.2 b hb).trans ho) hn'
end
section
variable {X : Cx} {pins : List (Addr × Obj)} {σ : L2.St} {H : Hp} {s : Shared} {a C dx : Addr} {f : Str} {y : V} {u : Value} {fs : List (Str × V)} {Q : Unit → Shared → Prop} {E : Value → Shared → Prop} {A : Around} {bm : List Value} {newId : String}
theorem OexG.cd {K : PySem.W.Frag} (T : OexG K C bm newId) : ∃ cd, PySem.W.clsIn K C = some cd ∧ cd.mro = .ref C :: bm ∧ cd.hasDict = true := by
  obtain ⟨nm, q, N, bs, sn, sub, ab, col, dd, k0, k1, k2, k3, k5, hC⟩ := T.cls
  exact ⟨{ name := nm, bases := bs, mro := .ref C :: bm, ns := N, qualname := q, hasDict := true, slotNames := sn, subclasses := sub, abstract := ab, collection := col, hasDel := false }, by unfold PySem.W.clsIn; rw [hC] <;> rfl, rfl, rfl⟩
theorem set_first (T : OexG X.K C bm newId) (I : Inv X pins σ H s) (e : H a = some (exo a C none)) (free : PySem.W.findIn X.K (.ref C) f = some none) (ry : RelV y u)
    (fin : ∀ dx s', H dx = none → dx ≠ a → Inv X pins σ (upd (upd H dx (exd dx [(f, y)])) a (exo a C (some dx))) s' → Q () s') : wpAny (model X.prog X.w) A (setAttr (.ref a) f u) Q E s := by
  obtain ⟨cd, hcd, hm, hh⟩ := T.cd
  obtain ⟨t1, ho⟩ := exo_at I.hok e
  obtain ⟨hp, g, d, t, os⟩ := s
  refine PySem.W.set_plain I.kIn (ox := { cls := .ref C, dict := none, data := .fields #[.ref t1, .none, .none, .none, .bool false, .none] }) (od := none) ⟨ho, rfl, rfl, trivial⟩ T.sa ?_
  refine put_first I.kIn ho hcd hm T.pass T.top hh free fun h' tk' dx k dn dne hx hn => ?_
  have new : H dx = none := I.hok.fresh dn
  have old : ∀ {b : Addr} {o : Obj}, hp.get? b = some o → b ≠ dx := fun q => Nat.ne_of_lt (Nat.lt_of_lt_of_le (Heap.lt_size q) dn)
  have other : ∀ {b : Addr}, H b = none → b ≠ a := fun n z => by
    rw [z, e] at n
    cases n
  have still : ∀ {b : Addr} {o : HO}, H b = some o → b ≠ a → upd (upd H dx (exd dx [(f, y)])) a (exo a C (some dx)) b = some o := fun q h => by rw [upd_ne h, upd_ne (ne_of_none q new)]; exact q
  have un : Un X.fs [] H (upd (upd H dx (exd dx [(f, y)])) a (exo a C (some dx))) hp h' := {
    keep := fun b o q n _ _ => k b o (other n) q
    slot := fun b o q n _ _ => ⟨o.slots, k b o (other n) q⟩
    free := fun b o q n _ => by rw [upd_ne (other n), upd_ne (old q)]; exact n
    there := fun b o q _ => by
      by_cases hb : b = a
      · rw [hb]; exact ⟨_, hx⟩
      · exact ⟨o, k b o hb q⟩
    tups := fun b xs q => still q (at_ne e q exo_tup)
    frzs := fun b o v q => still q (at_ne e q exo_frz)
    tbls := fun b ps q => ⟨#[], by rw [still q (at_ne e q exo_tbl)]; simp⟩ }
  refine fin dx _ new dne (I.un (t' := tk') un fun b o q => ?_)
  by_cases hb : b = a
  · subst hb
    rw [upd_same] at q
    cases q
    exact exo_ok hx
  rw [upd_ne hb] at q
  by_cases hd : b = dx
  · subst hd
    rw [upd_same] at q
    cases q
    exact exd_ok hn (relO_put (fs := []) ry fun g => True.intro)
  rw [upd_ne hd] at q
  exact (I.hok b o q).stay (fun c v hc z => k c v (hc.elim (fun h => h ▸ hb) fun h => at_ne e h exo_own) z) (fun c hc => still hc (at_ne e hc exo_own)) fun c xs hc => still hc (at_ne e hc exo_tup)
theorem set_more (T : OexG X.K C bm newId) (I : Inv X pins σ H s) (e : H a = some (exo a C (some dx))) (ed : H dx = some (exd dx fs)) (hl : fs.length ≤ 900) (free : PySem.W.findIn X.K (.ref C) f = some none) (ry : RelV y u) (fin : ∀ s', Inv X pins σ (upd H dx (exd dx ((f, y) :: fs))) s' → Q () s') :
    wpAny (model X.prog X.w) A (setAttr (.ref a) f u) Q E s := by
  obtain ⟨cd, hcd, hm, hh⟩ := T.cd
  obtain ⟨t1, ho⟩ := exo_at I.hok e
  obtain ⟨mA, hns, rel⟩ := exd_at I.hok ed
  have hw := within_of rel
  obtain ⟨hp, g, d, t, os⟩ := s
  obtain ⟨oD, _, _, hoD, _, _⟩ := hns.count hw
  refine PySem.W.set_plain I.kIn (ox := { cls := .ref C, dict := some dx, data := .fields #[.ref t1, .none, .none, .none, .bool false, .none] }) (od := some oD) ⟨ho, rfl, rfl, hoD⟩ T.sa ?_
  refine put_more I.kIn ho hns hw (by rw [List.length_map]; omega) hcd hm T.pass T.top hh free fun h' tk' k hn => ?_
  obtain ⟨o, es, ep, ho', rest⟩ := id hn
  exact fin _ (I.write (t' := tk') (x := dx) (e := dx) (o := exd dx ((f, y) :: fs)) (by rw [ed]; exact True.intro) (.inl rfl) k ⟨o, ho'⟩ (exd_ok hn (relO_put ry rel)))
end
/-- self.f = e -/
def tPut (K : PySem.W.Frag) (bm : List Value) (newId : String) (f : Str) (to te : TE) : TS := fun D σ H => te σ H fun y H1 => to σ H1 fun x H2 => ∃ a C : Addr, x = .ref a ∧ OexG K C bm newId ∧ PySem.W.findIn K (.ref C) f = some none ∧
  ((H2 a = some (exo a C none) ∧ ∀ dx, H2 dx = none → dx ≠ a → D.nx σ (upd (upd H2 dx (exd dx [(f, y)])) a (exo a C (some dx)))) ∨ ∃ (dx : Addr) (fs : List (Str × V)), H2 a = some (exo a C (some dx)) ∧ H2 dx = some (exd dx fs) ∧ fs.length ≤ 900 ∧ D.nx σ (upd H2 dx (exd dx ((f, y) :: fs))))
section
variable {X : Cx} {o e : Expr} {es : List Expr} {to te : TE} {ta : TA} {f : Str} {p p' p1 p2 pos : Pos} {bm : List Value} {newId : String}
theorem ps_put (ho : PE X o to) (he : PE X e te) (hs : swapsWith e (some (.Attribute o f p')) pos.line X.env = pure false := by rfl) : PS X (.Assign [.Attribute o f p'] e pos) (tPut X.K bm newId f to te) :=
  ⟨fun pins s σ H D I h => plainObj_wpAny_Assign_Attribute (thn (he.run pins s σ H _ I h) fun v s1 ⟨y, H1, I1, r1, q1⟩ => thn (ho.run pins s1 σ H1 _ I1 q1) fun u s2 ⟨x, H2, I2, r2, a, C, ex, T, free, q⟩ => by
    subst ex
    obtain rfl : u = Value.ref a := r2
    rcases q with ⟨ea, q⟩ | ⟨dx, fs, ea, ed, hl, q⟩
    · exact set_first T I2 ea free r1 fun dx s' n ne J => ⟨σ, _, J, q dx n ne⟩
    · exact set_more T I2 ea ed hl free r1 fun s' J => ⟨σ, _, J, q⟩) hs⟩
/-- C(e, ..), its fields ready -/
def tMkG (C : Addr) (sp : Sp) (ta : TA) : L2.St → Hp → XK → Prop := fun σ H Q => ta σ H fun vs H1 => vs.length ≤ 1000 ∧ ∀ a, H1 a = none → sp (.ref a :: vs) (upd H1 a (exo a C none))
  (fun v H2 => v = .non ∧ ∃ (d : Addr) (fs : List (Str × V)), H2 a = some (exo a C (some d)) ∧ H2 d = some (exd d fs) ∧ H1 d = none ∧ Q (.ref C) (some d) (upd (L2.del H2 a) d (.xd fs))) (fun _ _ _ => False)
theorem noGuard {args : Args} : (Code.builtin "type.__call__" args).guards = [] := if_neg (by show ¬ (guardIds.contains "type.__call__" = true); decide)
theorem ctx_none {C : Addr} {d : Option Addr} {t0 : Addr} : L2N.Zn (.ref C) d ({ cls := .ref C, dict := d, data := .fields #[.ref t0, .none, .none, .none, .bool false, .none] } : Obj) := ⟨rfl, rfl, fun vs e => by cases e; rfl⟩
theorem pmk_G {B initId : String} {x : Str} {C fI : Addr} {k : Nat} {fd : FuncData} {ps : List Str} {sp : Sp} (FB : ExcBaseFacts B newId initId bm) (T : OexG X.K C bm newId) (iC : PySem.W.findIn X.K (.ref C) "__init__" = some (some (.ref fI))) (tI : PySem.W.typeIn X.K (.ref fI) = some (.type "function"))
    (F1 : FnG X.prog X.w X.K X.mg X.base (L2N.CX X.prog X.w) k fI fd ps sp) (hr : RoomG (k + 1) X.A) (hb : Binds X.K fd ps []) (hg : Gl X x) (hm : X.mg x = some (.ref C)) (ha : PA X (e :: es) ta)
    (hdb : (x == ("__debug__" : Str)) = false := by decide) (he : starEach (e :: es) X.env = (false, eval e X.env) :: starEach es X.env := by rfl) (hpl : (backTo pos (starEach es X.env)).any (·.1) = false := by rfl) :
    L2N.PMk X (.Call (.Name x p) (e :: es) [] pos) (tMkG C sp ta) := by
  intro pins s σ H Q I h
  obtain ⟨nm, q, N, bs, sn, sub, ab, col, dd, k0, k1, k2, k3, k5, hC⟩ := T.cls
  refine wpAny_Call_Name_kw (ld_glob I hg hm (PySem.W.callWith_K (h₀ := X.base) I.ok.mod.kin T.kC (thn (ha.run pos pins s σ H _ I h) fun us s1 ⟨vs, H1, I1, r1, hz, q1⟩ => ⟨I1.kIn, show wpAny _ _ (call (.ref C) us) _ _ _ from ?_⟩) he hpl) hdb)
  obtain ⟨hp, g, dr, tk, os⟩ := s1
  have above : hp.objs.size ≤ hp.objs.size + 1 := Nat.le_succ _
  have q2 := q1 (hp.objs.size + 1) (I1.hok.fresh above)
  have kept : ∀ b o, hp.get? b = some o → ((hp.push (PySem.W.kdv_tup us)).push (PySem.HandSPX.excO C hp.objs.size)).get? b = some o := fun b o z => Heap.get?_push_of_some _ (Heap.get?_push_of_some _ z)
  have I2 : Inv X pins σ (upd H1 (hp.objs.size + 1) (exo (hp.objs.size + 1) C none)) ⟨(hp.push (PySem.W.kdv_tup us)).push (PySem.HandSPX.excO C hp.objs.size), g, dr, tk, os⟩ :=
    I1.laid (t' := tk) (a := hp.objs.size + 1) (o := exo (hp.objs.size + 1) C none) (h' := (hp.push (PySem.W.kdv_tup us)).push (PySem.HandSPX.excO C hp.objs.size)) kept above (exo_ok (by heap_get))
  have r2 : Vals (V.ref (hp.objs.size + 1) :: vs) (Value.ref (hp.objs.size + 1) :: us) := .cons rfl r1
  have hl : (Value.ref (hp.objs.size + 1) :: us).length = ps.length := r2.length.symm.trans (F1.len _ _ _ _ q2)
  have few : us.length ≤ sizeLine := by rw [← Paired.length r1, sizeLine_eq]; omega
  have bind := hb _ (Value.ref (hp.objs.size + 1) :: us) I2.kIn (by rw [List.append_nil]; exact hl)
  rw [List.append_nil] at bind
  have room : RoomG k (X.A.under (.builtin "type.__call__" ⟨Value.ref C :: us, []⟩)) := ⟨hr.rm.make C us [], by
    unfold Around.under
    dsimp only
    rw [hr.gd, noGuard]
    rfl⟩
  refine wpAny_call (PySem.HandSPX.call_own FB (fun _ => rfl) (I1.kIn _ _ hC) (PySem.W.looks_findIn I1.kIn iC) (fun self => PySem.W.bind_fn I1.kIn self tI) few (codeAny_mono (F1.run _ X.stack _ _ ⟨Value.ref (hp.objs.size + 1) :: us, []⟩ _ _ _ (fun _ _ _ => False) room (I2.env0.make C us []) bind r2 q2) fun r s' got => ?_))
  match r, got with
  | .error er, got =>
    obtain ⟨_, _, _, _, _, _, _, _, _, _, _, _, z⟩ := (show L2N.CX X.prog X.w X.stack _ _ (fun _ _ _ => False) er s' from got)
    exact z.elim
  | .ok (.ret u), ⟨v, H2, os2, bare2, un2, hok2, rv, ev, d, fs, ea, ed, hd1, q3⟩ =>
    subst ev
    obtain ⟨h2, g2, d2, t2, os'⟩ := s'
    obtain ⟨t0, G, J, kG, ge, hoe, na⟩ := mk_end0 (d2 := d2) (t2 := t2) I1 above kept un2 hok2 os2 bare2 ea ed hd1
    exact ⟨rv, _, _, _, ⟨G, g2, d2, t2, os'⟩, _, .ref C, some d, rfl, J, kG, ge, hoe, ctx_none, rfl, rfl, na, rfl, bare2, raises_own T.exC T.tyC, q3⟩
end
/-! ### __init__ with one field, with two -/
def spI2 (C : Addr) (f g : Str) : Sp := fun vs H Q _ => ∃ (a : Addr) (v w : V), vs = [.ref a, v, w] ∧ H a = some (exo a C none) ∧ ∀ d, H d = none → d ≠ a → Q .non (upd (upd (upd H d (exd d [(f, v)])) a (exo a C (some d))) d (exd d [(g, w), (f, v)]))
section
variable {P : Program} {w : World} {K : PySem.W.Frag} {mg : Str → Option Value} {base : Heap} {x qual : Str} {st : Stmt} {fI C : Addr} {fd : FuncData} {bm : List Value} {newId : String} {s f g : Str} {p1 p2 p3 p4 q1 q2 q3 q4 : Pos}
theorem init2_ok (F : L2.Fun K x qual st fI fd) (Sc : FnScope [s, f, g] [s, f, g] (defScope st)) (T : OexG K C bm newId) (freeF : PySem.W.findIn K (.ref C) f = some none) (freeG : PySem.W.findIn K (.ref C) g = some none)
    (hb : defBody st = [.Assign [.Attribute (.Name s p1) f p2] (.Name f p3) p4, .Assign [.Attribute (.Name s q1) g q2] (.Name g q3) q4])
    (hs : ∀ env : Env, swapsWith (.Name f p3) (some (.Attribute (.Name s p1) f p2)) p4.line env = pure false := by intro _; rfl) (hs2 : ∀ env : Env, swapsWith (.Name g q3) (some (.Attribute (.Name s q1) g q2)) q4.line env = pure false := by intro _; rfl)
    (v1 : Vis (defScope st) s := by first | exact .inl rfl | exact .inr (.inl rfl)) (v2 : Vis (defScope st) f := by first | exact .inl rfl | exact .inr (.inl rfl)) (v3 : Vis (defScope st) g := by first | exact .inl rfl | exact .inr (.inl rfl)) (d1 : (s == ("__debug__" : Str)) = false := by decide) (c1 : (s == ("__classdict__" : Str)) = false := by decide)
    (d2 : (f == ("__debug__" : Str)) = false := by decide) (c2 : (f == ("__classdict__" : Str)) = false := by decide) (d3 : (g == ("__debug__" : Str)) = false := by decide) (c3 : (g == ("__classdict__" : Str)) = false := by decide) : FnG P w K mg base (L2N.CX P w) 1 fI fd [s, f, g] (spI2 C f g) := by
  refine fnG_of (k := 0) (N := [s, f, g]) F Sc (fun vs H Q E ⟨_, _, _, e, _⟩ => by rw [e]; rfl) fun cdv _ A outer sh H vs Q E hr ⟨a, v, w, e, ha, q⟩ => ?_
  subst e
  rw [hb]
  refine ⟨_, pss_cons (ps_put (bm := bm) (newId := newId) (pe_var (i := 0) rfl v1 d1 c1) (pe_var (i := 1) rfl v2 d2 c2) (hs _)) (pss_one (ps_put (bm := bm) (newId := newId) (pe_var (i := 0) rfl v1 d1 c1) (pe_var (i := 2) rfl v3 d3 c3) (hs2 _))), ?_⟩
  refine ⟨v, rfl, .ref a, rfl, a, C, rfl, T, freeF, .inl ⟨ha, fun d nd ne => ?_⟩⟩
  exact ⟨w, rfl, .ref a, rfl, a, C, rfl, T, freeG, .inr ⟨d, [(f, v)], upd_same, by rw [upd_ne ne, upd_same], by show 1 ≤ 900; decide, q d nd ne⟩⟩
end
end Hx

/-! Readings by value: own errors with fields raised, their fields read in a suite. -/
namespace Dv
open PySem L2 PyProof.Rows Hx
/-- such a class: its built-in class's mro bm, its fields fs, its __init__ at fI -/
structure FxF (K : PySem.W.Frag) (n : Str) (bm : List Value) (newId : String) (C fI : Addr) (fs : List Str) : Prop where
  at_ : PySem.W.nsIn K mainGlobals n = some (some (.ref C))
  ox : OexG K C bm newId
  free : ∀ f ∈ fs, PySem.W.findIn K (.ref C) f = some none
  ini : PySem.W.findIn K (.ref C) "__init__" = some (some (.ref fI))
  fn : PySem.W.typeIn K (.ref fI) = some (.type "function")
def oexB (K : PySem.W.Frag) (C : Addr) (bm : List Value) (newId : String) : Bool := match K.lookup C with
  | some ⟨.type "type", _, .cls cd, sl⟩ => (match cd.mro, sl.toList with
    | .ref C' :: bm', [_, _, _, _, some (.builtin n), _] => C' == C && (n == newId && (cd.hasDict && (!cd.hasDel && bm' == bm)))
    | _, _ => false)
  | _ => false
theorem oexB_ok {K : PySem.W.Frag} {C : Addr} {bm : List Value} {newId : String} (h : oexB K C bm newId = true) : ∃ nm q N bs sn sub ab col dd k0 k1 k2 k3 k5, K.lookup C = some (excClassObj nm q C N bs bm true sn sub ab col dd k0 k1 k2 k3 k5 newId) := by
  unfold oexB at h
  split at h
  · rename_i dd cd sl ho
    split at h
    · rename_i C' bm' k0 k1 k2 k3 n k5 hm hs
      simp only [Bool.and_eq_true, beq_iff_eq, Bool.not_eq_true'] at h
      obtain ⟨rfl, rfl, hdct, hdel, rfl⟩ := h
      obtain ⟨nm, bs, mro, ns, qn, hd, sn, sub, ab, col, del⟩ := cd
      dsimp only at hm hdel hdct
      subst hm hdel hdct
      have hsl : sl = #[k0, k1, k2, k3, some (.builtin n), k5] := by
        obtain ⟨l⟩ := sl
        simp only at hs
        rw [hs]
      subst hsl
      exact ⟨_, _, _, _, _, _, _, _, _, _, _, _, _, _, ho⟩
    · cases h
  · cases h
def fxB (K : PySem.W.Frag) (n : Str) (bm : List Value) (newId : String) (C fI : Addr) (fs : List Str) : Bool := decide (PySem.W.nsIn K mainGlobals n = some (some (.ref C))) && (oexB K C bm newId && (decide (PySem.W.findIn K (.ref C) "__setattr__" = some (some (.builtin "object.__setattr__"))) && (decide (PySem.W.subIn K (.ref C) (.type "BaseException") = some true) &&
  (decide (PySem.W.typeIn K (.ref C) = some (.type "type")) && (PySem.W.keepIn K (.ref C) && (fs.all (fun f => decide (PySem.W.findIn K (.ref C) f = some none)) && (decide (PySem.W.findIn K (.ref C) "__init__" = some (some (.ref fI))) && decide (PySem.W.typeIn K (.ref fI) = some (.type "function")))))))))
theorem fxB_ok {K : PySem.W.Frag} {n : Str} {bm : List Value} {newId : String} {C fI : Addr} {fs : List Str} (pass : ∀ self : Value, refuseLoop self "__setattr__" bm = pure ()) (top : bm.contains (.type "object") = true) (h : fxB K n bm newId C fI fs = true) : FxF K n bm newId C fI fs := by
  obtain ⟨h1, h⟩ := and_b h
  obtain ⟨h2, h⟩ := and_b h
  obtain ⟨h3, h⟩ := and_b h
  obtain ⟨h4, h⟩ := and_b h
  obtain ⟨h5, h⟩ := and_b h
  obtain ⟨h6, h⟩ := and_b h
  obtain ⟨h7, h⟩ := and_b h
  obtain ⟨h8, h9⟩ := and_b h
  exact ⟨of_decide_eq_true h1, ⟨oexB_ok h2, pass, top, of_decide_eq_true h3, of_decide_eq_true h4, of_decide_eq_true h5, h6⟩, fun f hf => of_decide_eq_true (List.all_eq_true.mp h7 f hf), of_decide_eq_true h8, of_decide_eq_true h9⟩
/-! ### raise C(e), raise C(e, e') -/
def dRaiseF2 (WD : WXD) (n f g : Str) (t : TAD) : TSD := fun _ σ S => t σ S fun ds S1 => match ds with
  | [a, b] => WD ⟨n, [g, f], [b, a]⟩ σ S1
  | _ => False
section
variable {X : Cx} {W : Wi} {pos pos' p : Pos} {n s f g : Str} {bm : List Value} {B newId initId : String} {C fI : Addr} {fs : List Str} {fd : FuncData} {e : Expr} {es : List Expr} {t : TAD}
theorem made_eq {H1 H2 : Hp} {a d : Addr} {v : List (Str × V)} (ha : H1 a = none) (hd : d ≠ a) (h : ∀ b, b ≠ a → b ≠ d → H2 b = H1 b) : upd (L2.del H2 a) d (.xd v) = upd H1 d (.xd v) := by
  funext b
  by_cases hb : b = d
  · rw [hb, upd_same, upd_same]
  · rw [upd_ne hb, upd_ne hb]
    by_cases hc : b = a
    · rw [hc, L2.del_same, ha]
    · rw [L2.del_ne hc, h b hc hb]
theorem ds_raiseF2 (hc : X.calm = true) (tk : L2N.Takes X W.V) (FB : ExcBaseFacts B newId initId bm) (Fx : FxF X.K n bm newId C fI fs) (F1 : FnG X.prog X.w X.K X.mg X.base (L2N.CX X.prog X.w) 1 fI fd [s, f, g] (spI2 C f g)) (hr : RoomG 2 X.A) (hb : Binds X.K fd [s, f, g] []) (gC : X.mg n = some (.ref C)) (hg : Gl X n) (ha : DA X W (e :: es) t)
    (hdb : (n == ("__debug__" : Str)) = false := by decide) (he : starEach (e :: es) X.env = (false, eval e X.env) :: starEach es X.env := by rfl) (hpl : (backTo pos (starEach es X.env)).any (·.1) = false := by rfl) :
    DS X W (.Raise (some (.Call (.Name n p) (e :: es) [] pos)) none pos') (dRaiseF2 W.D n f g t) :=
  ⟨PS.imp (L2N.ps_raise hc tk (pmk_G FB Fx.ox Fx.ini Fx.fn F1 hr hb hg gC ha.p hdb he hpl)) fun D σ H ⟨σd, S, fr, Dd, ok, cl, h, k⟩ => ⟨σd, S, fr, _, ok, cl, h, fun vs ds H1 S1 ok1 r1 q => by
    match ds, q with
    | [da, db], q =>
      obtain ⟨v, w, rfl, rv, rw'⟩ := rpL2 r1
      refine ⟨by show 2 ≤ 1000; decide, fun a na => ⟨a, v, w, rfl, upd_same, fun d nd ne => ⟨rfl, d, _, by rw [upd_ne (Ne.symm ne), upd_same], upd_same, by rw [upd_ne ne] at nd; exact nd, ?_⟩⟩⟩
      rw [upd_ne ne] at nd
      rw [made_eq na ne fun b hba hbd => by rw [upd_ne hbd, upd_ne hba, upd_ne hbd, upd_ne hba]]
      refine cl σd σ _ S1 (.ref C) (some d) ⟨n, [g, f], [db, da]⟩ (ok1.new nd) ⟨Fx.at_, (fun z => by cases z), fun dx ed => ?_⟩ q
      cases ed
      exact ⟨_, upd_same, ok1.rel.free nd, .inr ⟨rfl, rpL_step ok1.rel (step_new nd) [db, da] [w, v] (rpL_cons rw' (rpL_cons rv rpL_nil))⟩⟩⟩⟩
/-! ### e.f in a suite -/
def fldOf (ns : List Str) (xs : List D) (f : Str) : Option D := (ns.zip xs).lookup f
def dXf (i : Nat) (a : Addr) (od : Option Addr) (f : Str) : TED := fun σ S Q => ∃ ns xs d, σ[i]? = some (some (.exc a od ns xs)) ∧ ns ≠ [] ∧ fldOf ns xs f = some d ∧ Q d S
theorem rpL_lookup {K : PySem.W.Frag} {H : Hp} {S : Sd} : ∀ {xs : List D} {fs : List (Str × V)} {f : Str} {d : D}, RpL K H S xs (fs.map Prod.snd) → ((fs.map Prod.fst).zip xs).lookup f = some d → ∃ v, fs.lookup f = some v ∧ Rp K H S d v
  | [], fs, f, d, h, e => by simp at e
  | x :: xs, [], f, d, h, e => by simp at e
  | x :: xs, (g, v) :: fs, f, d, h, e => by
    obtain ⟨v', r, e1, h1, h2⟩ := h
    simp only [List.map_cons, List.cons.injEq] at e1
    obtain ⟨rfl, rfl⟩ := e1
    simp only [List.map_cons, List.zip_cons_cons, List.lookup_cons] at e
    rw [List.lookup_cons]
    cases c : f == g with
    | true =>
      rw [c] at e
      cases e
      exact ⟨v, rfl, h1⟩
    | false =>
      rw [c] at e
      exact rpL_lookup h2 e
theorem de_xf {i : Nat} {a : Addr} {oe : Obj} {od : Option Addr} {pn : List (Addr × Obj)} {nm m : Str} {q1 q2 : Pos} (Fx : FxF X.K m bm newId C fI fs) (sf : SuF X.K oe od m) (hf : f ∈ fs) (hN : X.N[i]? = some nm) (hn : Vis X.env.scope nm) (hd : (nm == ("__debug__" : Str)) = false := by decide) (hcd : (nm == ("__classdict__" : Str)) = false := by decide)
    (hb : attributeBase (.Name nm q1) f X.env (eval (.Name nm q1) X.env) = eval (.Name nm q1) X.env := by rfl) : DE (X.suite a ((a, oe) :: pn)) W (.Attribute (.Name nm q1) f q2) (dXf i a od f) := by
  obtain ⟨Dn, wf, ec⟩ := sf.cls
  obtain ⟨vs, d1, c1⟩ := sf.dat
  have eC : Dn = C := by
    have z := wf.at_
    rw [Fx.at_] at z
    cases z
    rfl
  subst eC
  have hx : XfC X.K Dn := ⟨wf.exc.hg, wf.exc.hk, wf.exc.hs, wf.exc.hd⟩
  refine ⟨PE.imp (pe_xf (cls := .ref Dn) (d := od) hx (Fx.free f hf) ⟨ec, sf.dct⟩ ⟨vs, d1⟩ (pe_var (X := X.suite a ((a, oe) :: pn)) (i := i) hN hn hd hcd) hb) fun σ H Q ⟨σd, S, fr, Qd, ok, cl, ⟨ns, xs, d, e1, hne, el, q⟩, k⟩ => ?_⟩
  obtain ⟨v, e2, r⟩ := ok.si i _ e1
  obtain ⟨ev, h0, h1⟩ := r
  subst ev
  cases od with
  | none => exact absurd (h0 rfl) hne
  | some dx =>
    obtain ⟨fl, z1, z2, z3⟩ := h1 dx rfl
    rcases z3 with z3 | ⟨z3, z4⟩
    · exact absurd z3 hne
    · unfold fldOf at el
      rw [← z3] at el
      obtain ⟨w, l1, l2⟩ := rpL_lookup z4 el
      exact ⟨.ref a, e2, rfl, rfl, dx, fl, w, rfl, z1, l1, k w d H S ok l2 q⟩
/-- a suite whose clause is of one class -/
theorem db_cls {b : List Stmt} {u : TSD} {m k : Str} {Y : Cx} (h : m = k → DB Y W b u) : DB Y W b fun D σ S => m = k ∧ u D σ S := by
  by_cases e : m = k
  · exact ⟨⟨fun pins s σ H D I ⟨σd, S, fr, Dd, ok, cl, ⟨_, h1⟩, kk⟩ => ((h e).p).run pins s σ H D I ⟨σd, S, fr, Dd, ok, cl, h1, kk⟩⟩⟩
  · exact ⟨⟨fun pins s σ H D I ⟨σd, S, fr, Dd, ok, cl, ⟨h1, _⟩, kk⟩ => absurd h1 e⟩⟩
end
theorem pass_LookupError (self : Value) : refuseLoop self "__setattr__" [.type "LookupError", .type "Exception", .type "BaseException", .type "object"] = pure () := by kernel_rfl
end Dv

/-! The place of a whole number in a tuple of whole numbers. -/
namespace Dv
open PySem L2 PyProof.Rows Hx
end Dv

/-! Instances of own classes by value: made, their fields, their methods. -/
namespace Dv
open PySem L2 PyProof.Rows Hx
/-- an own class with a plain __init__ -/
structure ClF (K : PySem.W.Frag) (n : Str) (C fI : Addr) : Prop where
  at_ : ClsAt K n C
  cls : Cls K C
  new : Mk K C fI
def clB (K : PySem.W.Frag) (n : Str) (C fI : Addr) : Bool := decide (PySem.W.nsIn K mainGlobals n = some (some (.ref C))) && (PySem.W.plainGet K C Str.empty && (PySem.W.hasDictIn K C && (PySem.W.plainOver K C && (decide (PySem.W.findIn K (.ref C) "__setattr__" = some (some (.builtin "object.__setattr__"))) &&
  (PySem.W.makesIn K C && (decide (PySem.W.findIn K (.ref C) "__init__" = some (some (.ref fI))) && (PySem.W.isFn K (.ref fI) && PySem.W.keepIn K (.ref C))))))))
theorem clB_ok {K : PySem.W.Frag} {n : Str} {C fI : Addr} (h : clB K n C fI = true) : ClF K n C fI := by
  unfold clB at h
  obtain ⟨a, h⟩ := and_b h
  obtain ⟨b, h⟩ := and_b h
  obtain ⟨c, h⟩ := and_b h
  obtain ⟨d, h⟩ := and_b h
  obtain ⟨e, h⟩ := and_b h
  obtain ⟨f, h⟩ := and_b h
  obtain ⟨g, h⟩ := and_b h
  obtain ⟨i, j⟩ := and_b h
  exact ⟨of_decide_eq_true (p := PySem.W.nsIn K mainGlobals n = some (some (.ref C))) a, ⟨b, c, d, of_decide_eq_true e⟩, ⟨f, of_decide_eq_true g, i, j⟩⟩
def noAttrB (K : PySem.W.Frag) (C : Addr) (fs : List Str) : Bool := fs.all fun f => decide (PySem.W.findIn K (.ref C) f = some none)
theorem noAttrB_ok {K : PySem.W.Frag} {C : Addr} {fs : List Str} (h : noAttrB K C fs = true) {f : Str} (hf : f ∈ fs) : NoAttr K C f := of_decide_eq_true (p := PySem.W.findIn K (.ref C) f = some none) (List.all_eq_true.mp h f hf)
def methB (K : PySem.W.Frag) (C : Addr) (m : Str) (f : Addr) : Bool := decide (PySem.W.findIn K (.ref C) m = some (some (.ref f))) && (PySem.W.isFn K (.ref f) && PySem.W.keepIn K (.ref f))
theorem methB_ok {K : PySem.W.Frag} {C : Addr} {m : Str} {f : Addr} (h : methB K C m f = true) : Meth K C m f := by
  unfold methB at h
  obtain ⟨a, h⟩ := and_b h
  obtain ⟨b, c⟩ := and_b h
  exact ⟨of_decide_eq_true a, b, c⟩
/-- C(..), then it is never stored into again -/
def dMake (n : Str) (sp : SpD) (dds : List D) (WD : WXD) (t : TAD) : TED := fun σ S Q => t σ S fun xs S1 => ∀ a, S1 a = none → sp (.obj a :: (xs ++ dds)) (upS S1 a (.ins n [] [])) (fun v S2 => v = .non ∧ ∃ ns ys, S2 a = some (.ins n ns ys) ∧ Q (.inst n ns ys) (del S2 a)) fun y S2 => WD y σ S2
/-- o.m(..) -/
def dMeth (n m : Str) (sp : SpD) (dds : List D) (WD : WXD) (to : TED) (t : TAD) : TED := fun σ S Q => to σ S fun o S1 => (∃ ns ys, o = .inst n ns ys ∧ m ∉ ns) ∧ t σ S1 fun xs S2 => sp (o :: (xs ++ dds)) S2 Q fun y S3 => WD y σ S3
/-- o.f, of what is stored into no more -/
def dFld (n f : Str) (to : TED) : TED := fun σ S Q => to σ S fun o S1 => ∃ ns ys d, o = .inst n ns ys ∧ fldOf ns ys f = some d ∧ Q d S1
/-- self.f = e, the first time -/
def dPut (n f : Str) (to tv : TED) : TSD := fun D σ S => tv σ S fun y S1 => to σ S1 fun o S2 => ∃ a ns ys, o = .obj a ∧ S2 a = some (.ins n ns ys) ∧ f ∉ ns ∧ ns.length < 1000 ∧ D.nx σ (upS S2 a (.ins n (ns ++ [f]) (ys ++ [y])))
theorem putF_new {f : Str} {v : V} : ∀ {fs : List (Str × V)}, f ∉ fs.map Prod.fst → putF f v fs = fs ++ [(f, v)]
  | [], _ => rfl
  | (g, x) :: r, h => by
    have h1 : g ≠ f := fun e => h (by rw [e]; simp)
    show (if g = f then (g, v) :: r else (g, x) :: putF f v r) = _
    rw [if_neg h1, putF_new fun z => h (List.mem_cons_of_mem _ z)]
    rfl
theorem lookup_not {f : Str} : ∀ {fs : List (Str × V)}, f ∉ fs.map Prod.fst → fs.lookup f = none
  | [], _ => rfl
  | (g, x) :: r, h => by
    have h1 : (f == g) = false := beq_false_of_ne fun e => h (by rw [e]; simp)
    rw [List.lookup_cons, h1]
    exact lookup_not fun z => h (List.mem_cons_of_mem _ z)
section
variable {X : Cx} {W : Wi} {k : Nat} {f C fI : Addr} {fd : FuncData} {ps : List Str} {sp : SpD} {ds : List Value} {dvs : List V} {dds : List D} {x n m g : Str} {p pos apos pos' : Pos} {o e : Expr} {es : List Expr} {to tv : TED} {t : TAD}
theorem step_made {H : Hp} {S : Sd} {x d : Addr} {u : HO} {w : HO} {o : SO} (hx : H x = none) (hd : H d = none) : Step H S (upd (upd H d w) x u) (upS S x o) := fun b z h1 h2 => by
  have b1 : b ≠ x := ne_of_none h1 hx
  have b2 : b ≠ d := ne_of_none h1 hd
  exact ⟨by rw [upd_ne b1, upd_ne b2]; exact h1, by rw [upS_ne b1]; exact h2⟩
theorem make_lift (c : ClsAt X.K n C) (hdd : ∀ H S, RpL X.K H S dds dvs) (σ : L2.St) (H : Hp) (Q : VK) (h : upE X.K W (dMake n sp dds W.D t) σ H Q) : tMakeS C (upF X.K sp) dvs (WE W.V) (upA X.K W t) σ H Q := by
  obtain ⟨σd, S, fr, Qd, ok, cl, h, k⟩ := h
  refine ⟨σd, S, fr, _, ok, cl, h, fun vs ds H1 S1 ok1 r1 h1 x dx hx hd hne => ?_⟩
  have st : Step H1 S1 (upd (upd H1 dx (.own x)) x (.ins C dx [])) (upS S1 x (.ins n [] [])) := step_made hx hd
  have sx : S1 x = none := ok1.rel.free hx
  have R2 : RelS X.K (upd (upd H1 dx (.own x)) x (.ins C dx [])) (upS S1 x (.ins n [] [])) := fun b w e => by
    by_cases hb : b = x
    · subst hb
      rw [upS_same] at e
      cases e
      exact ⟨C, dx, [], c, upd_same, rfl, rfl⟩
    · rw [upS_ne hb] at e
      exact soOk_step ok1.rel st (ok1.rel b w e) fun u hu => by rw [upd_ne hb, upd_ne (ne_of_none hu hd)]; exact hu
  have ok2 := ok1.step st R2
  refine ⟨.obj x :: (ds ++ dds), _, fr ++ prs σd σ, _, _, R2, ok2.out, rpL_cons rfl (rpL_app (rpL_step ok1.rel st _ _ r1) (hdd _ _)), h1 x sx, fun v d H3 S3 R3 f3 r3 q3 => ?_, fun cls od y H3 S3 R3 f3 ry q3 => ?_⟩
  · obtain ⟨e1, ns, ys, e2, q⟩ := q3
    subst e1
    refine ⟨r3, k (.ref x) _ H3 _ ((ok2.back R3 f3).step step_del (rel_del R3)) (rp_frozenI R3 e2) q⟩
  · exact cl σd σ H3 S3 cls od y (ok2.back R3 f3) ry q3
theorem de_make (Cf : ClF X.K n C fI) (F : FnG X.prog X.w X.K X.mg X.base (L2N.CX X.prog X.w) k fI fd ps (upF X.K sp)) (hr : RoomG (k + 1) X.A) (hg : Gl X n) (hm : X.mg n = some (.ref C)) (hb : Binds X.K fd ps ds) (hd : Vals dvs ds) (hdd : ∀ H S, RpL X.K H S dds dvs) (tk : L2N.Takes X W.V)
    (ha : DA X W (e :: es) t) (hdb : (n == ("__debug__" : Str)) = false := by decide) (he : starEach (e :: es) X.env = (false, eval e X.env) :: starEach es X.env := by rfl) (hpl : (backTo pos (starEach es X.env)).any (·.1) = false := by rfl) :
    DE X W (.Call (.Name n p) (e :: es) [] pos) (dMake n sp dds W.D t) :=
  ⟨PE.imp (pe_makeG Cf.new F hr hg hm hb hd (fun σ => L2N.passAt tk σ) ha.p hdb he hpl) (make_lift Cf.at_ hdd)⟩
theorem meth_lift (c : ClsAt X.K n C) (hdd : ∀ H S, RpL X.K H S dds dvs) (σ : L2.St) (H : Hp) (Q : VK) (h : upE X.K W (dMeth n m sp dds W.D to t) σ H Q) : tMethS C m (upF X.K sp) dvs (WE W.V) (upE X.K W to) (upA X.K W t) σ H Q := by
  obtain ⟨σd, S, fr, Qd, ok, cl, h, k⟩ := h
  refine ⟨σd, S, fr, _, ok, cl, h, fun x dx H1 S1 ok1 r1 ⟨⟨ns, ys, eo, hm⟩, h1⟩ => ?_⟩
  subst eo
  obtain ⟨C', a, d', fs, c', rfl, ha, sa, en, r⟩ := r1
  obtain rfl := c'.one c
  have r1 : Rp X.K H1 S1 (.inst n ns ys) (.ref a) := ⟨C', a, d', fs, c', rfl, ha, sa, en, r⟩
  refine ⟨a, d', fs, rfl, ha, lookup_not (by rw [en]; exact hm), σd, S1, (.ref a, .inst n ns ys) :: fr, _, ok1.cons r1, cl.tail, h1, fun vs ds H2 S2 ok2 r2 h2 => ?_⟩
  refine ⟨.inst n ns ys :: (ds ++ dds), S2, fr ++ prs σd σ, Qd, _, ok2.tail.rel, ok2.tail.out, rpL_cons ok2.head (rpL_app r2 (hdd H2 S2)), h2, fun v d H3 S3 R3 f3 r3 q3 => ?_, fun cls od y H3 S3 R3 f3 ry q3 => ?_⟩
  · exact k v d H3 S3 (ok2.tail.back R3 f3) r3 q3
  · exact cl σd σ H3 S3 cls od y (ok2.tail.back R3 f3) ry q3
theorem de_meth {pl : Sem Bool} (Cf : ClF X.K n C fI) (hM : Meth X.K C m f) (ho : DE X W o to) (F : FnG X.prog X.w X.K X.mg X.base (L2N.CX X.prog X.w) k f fd ps (upF X.K sp)) (hr : RoomG k X.A) (hb : Binds X.K fd ps ds) (hd : Vals dvs ds) (hdd : ∀ H S, RpL X.K H S dds dvs) (tk : L2N.Takes X W.V)
    (ha : DA X W (e :: es) t) (hst : starEach (e :: es) X.env = (false, eval e X.env) :: starEach es X.env := by rfl) (hpl : (backTo pos (starEach es X.env)).any (·.1) = false := by rfl)
    (ht : eval (.Call (.Attribute o m apos) (e :: es) [] pos) X.env = (do
      let ov ← eval o X.env
      standAt apos.atName
      let (f, first) ← holding [ov] (getMethod ov m pl)
      callWith pos f first (backTo pos (starEach (e :: es) X.env)) (backToKw pos (keywordEach [] X.env))) := by rfl) :
    DE X W (.Call (.Attribute o m apos) (e :: es) [] pos) (dMeth n m sp dds W.D to t) :=
  ⟨PE.imp (pe_methG (pl := pl) ho.p Cf.cls hM F hr hb hd (fun σ => L2N.passAt tk σ) ha.p hst hpl ht) (meth_lift Cf.at_ hdd)⟩
theorem de_meth0 {pl : Sem Bool} (Cf : ClF X.K n C fI) (hM : Meth X.K C m f) (ho : DE X W o to) (F : FnG X.prog X.w X.K X.mg X.base (L2N.CX X.prog X.w) k f fd ps (upF X.K sp)) (hr : RoomG k X.A) (hb : Binds X.K fd ps ds) (hd : Vals dvs ds) (hdd : ∀ H S, RpL X.K H S dds dvs) (tk : L2N.Takes X W.V)
    (ht : eval (.Call (.Attribute o m apos) [] [] pos) X.env = (do
      let ov ← eval o X.env
      standAt apos.atName
      let (f, first) ← holding [ov] (getMethod ov m pl)
      callWith pos f first (backTo pos (starEach [] X.env)) (backToKw pos (keywordEach [] X.env))) := by rfl) :
    DE X W (.Call (.Attribute o m apos) [] [] pos) (dMeth n m sp dds W.D to dNil) :=
  ⟨PE.imp (pe_methG0 (pl := pl) ho.p Cf.cls hM F hr hb hd (fun σ => L2N.passAt tk σ) ht) fun σ H Q h => by
    obtain ⟨σd, S, fr, Qd, ok, cl, h, k⟩ := meth_lift (t := dNil) Cf.at_ hdd σ H Q h
    refine ⟨σd, S, fr, _, ok, cl, h, fun x dx H1 S1 ok1 r1 q => ?_⟩
    obtain ⟨a, d', fs, e1, e2, e3, σd', S', fr', Qd', ok', cl', h', k'⟩ := k x dx H1 S1 ok1 r1 q
    exact ⟨a, d', fs, e1, e2, e3, k' [] [] H1 S' ok' rfl h'⟩⟩
theorem de_fld (Cf : ClF X.K n C fI) (hn : NoAttr X.K C g) (ho : DE X W o to) (hb : attributeBase o g X.env (eval o X.env) = eval o X.env := by rfl) : DE X W (.Attribute o g pos) (dFld n g to) :=
  ⟨PE.imp (pe_fld ho.p hb) fun σ H Q ⟨σd, S, fr, Qd, ok, cl, h, k⟩ => ⟨σd, S, fr, _, ok, cl, h, fun x dx H1 S1 ok1 r1 ⟨ns, ys, d, eo, el, q⟩ => by
    subst eo
    obtain ⟨C', a, d', fs, c', rfl, ha, sa, en, r⟩ := r1
    obtain rfl := c'.one Cf.at_
    subst en
    obtain ⟨v, e1, e2⟩ := rpL_lookup r el
    exact ⟨a, C', d', fs, v, rfl, ha, Cf.cls, hn, e1, k v d H1 S1 ok1 e2 q⟩⟩⟩
theorem ds_put (Cf : ClF X.K n C fI) (hn : NoAttr X.K C g) (ho : DE X W o to) (hv : DE X W e tv) (hs : swapsWith e (some (.Attribute o g pos')) pos.line X.env = pure false) : DS X W (.Assign [.Attribute o g pos'] e pos) (dPut n g to tv) :=
  ⟨PS.imp (ps_fld ho.p hv.p hs) fun D σ H ⟨σd, S, fr, Dd, ok, cl, h, k⟩ => ⟨σd, S, fr, _, ok, cl, h, fun y dy H1 S1 ok1 ry h1 => ⟨σd, S1, (y, dy) :: fr, _, ok1.cons ry, cl.tail, h1, fun x dx H2 S2 ok2 rx ⟨a, ns, ys, eo, es, hg, hl, q⟩ => by
    subst eo
    cases (show x = .ref a from rx)
    obtain ⟨C', dd, fs, c', ha, en, r⟩ := ok2.rel a _ es
    obtain rfl := c'.one Cf.at_
    have lf : fs.length = ns.length := by rw [← en, List.length_map]
    have st : Step H2 S2 (upd H2 a (.ins C' dd (fs ++ [(g, y)]))) (upS S2 a (.ins n (ns ++ [g]) (ys ++ [dy]))) := step_set es
    refine ⟨a, C', dd, fs, rfl, ha, Cf.cls, hn, by omega, ?_⟩
    rw [putF_new (by rw [en]; exact hg)]
    refine k.nx σd σ _ _ (ok2.tail.step st (rel_set ok2.rel es ⟨C', dd, _, c', upd_same, by rw [List.map_append, en]; rfl, ?_⟩)) q
    rw [List.map_append]
    exact rpL_step ok2.rel st _ _ (rpL_app r (rpL_cons ok2.head rpL_nil))⟩⟩⟩
end
end Dv

/-! A list times a whole number; whether data stands in a list of data. -/
namespace Dv
open PySem L2 PyProof.Rows Hx
open AutoSeq1 (wpAny_loadPart')
def rdMulL : RD2 := fun x y S Q => match x, y with
  | .lst ds, .int k => (0 ≤ k ∧ k < 2 ^ 62 ∧ ds.length * k.toNat ≤ 16777216) ∧ Q (.lst (List.replicate k.toNat ds).flatten) S
  | _, _ => False
theorem x_mulL {ds : List D} {k : Int} {S : Sd} {Q : DK} : rdMulL (.lst ds) (.int k) S Q = ((0 ≤ k ∧ k < 2 ^ 62 ∧ ds.length * k.toNat ≤ 16777216) ∧ Q (.lst (List.replicate k.toNat ds).flatten) S) := rfl
/-! ### data in a list of data -/
end Dv

/-! Readings by value: defs with defaults; len of an instance. -/
namespace Dv
open PySem L2 PyProof.Rows Hx
section
variable {P : Program} {w : World} {K : PySem.W.Frag} {mg : Str → Option Value} {base : Heap}
/-- THE RULE for a def with defaults -/
theorem okDv {x qual : Str} {st : Stmt} {f T : Addr} {its : Array Value} {fd : FuncData} {N ps : List Str} {k : Nat} {sp : SpD} {t : XKD → TSD} (F : FunV K x qual st f fd T its) (Sc : FnScope N ps (defScope st)) (len : ∀ ds S Q E, sp ds S Q E → ds.length = ps.length)
    (hb : ∀ (cdv : Value) (A : Around) (outer : List Env) (s : Shared) (H : Hp) (E : XK) (Ed : XKD), Hx.RoomG k (A.deeper (envOfC qual (defScope st) s.heap.objs.size f cdv)) → DB (bodyCx P w K mg base N qual st f cdv A outer s H E) (wiOf E Ed) (defBody st) (t Ed))
    (hp : ∀ ds S Q Ed, sp ds S Q Ed → t Ed { nx := fun _ S' => Q .non S', rt := Q } (startD N ds) S) : Hx.FnG P w K mg base (L2N.CX P w) (k + 1) f fd ps (upF K sp) := by
  refine Hx.fnG_ofV F Sc (fun vs H Q E h => ?_) (fun cdv _ A outer s H vs Q E hr h => ?_)
  · obtain ⟨ds, S, fr, Qd, Ed, R, f, r, h, _⟩ := h
    rw [← rpL_len r]
    exact len ds S Qd Ed h
  · obtain ⟨ds, S, fr, Qd, Ed, R, f, r, h, hq, hx⟩ := h
    refine ⟨_, (hb cdv A outer s H E Ed hr).p, startD N ds, S, fr, { nx := fun _ S' => Qd .non S', rt := Qd }, start_ok R f r, fun σd σ H' S' cls od y o rx q => hx cls od y H' S' o.rel o.fr rx q, hp ds S Qd Ed h, ?_⟩
    exact ⟨fun σd σ H' S' o q => hq .non .non H' S' o.rel o.fr rfl q, fun v d σd σ H' S' o rv q => hq v d H' S' o.rel o.fr rv q, fun _ _ _ _ _ q => q.elim, fun _ _ _ _ _ q => q.elim⟩
end
end Dv
namespace Dv
open PySem L2 PyProof.Rows Hx
end Dv

/-! A tuple told at run time of which it is known that it has no dict: its method index. -/
namespace Dv
open PySem L2 PyProof.Rows Hx
def rdTupX : RDC := fun ds S Q => match ds with
  | [.lst ys] => Q (.tupX ys) S
  | _ => False
theorem x_tupX {ys : List D} {S : Sd} {Q : DK} : rdTupX [.lst ys] S Q = Q (.tupX ys) S := rfl
/-- the same as any tuple -/
def dPlain (t : TED) : TED := fun σ S Q => t σ S fun d S1 => match d with
  | .tupX ds => Q (.tup ds) S1
  | _ => False
section
variable {X : Cx} {W : Wi} {o e : Expr} {es : List Expr} {to : TED} {t : TAD} {apos cpos : Pos}
end
end Dv

/-! Readings by value: defs called while an exception is handled. -/
namespace Dv
open PySem PySem.Spec L2 PyProof.Rows Hx
/-- what is promised there: nothing is refused -/
def spZ (sp : SpD) : SpD := fun ds S Q _ => sp ds S Q fun _ _ => False
section
variable {P : Program} {w : World} {K : PySem.W.Frag} {mg : Str → Option Value} {base : Heap}
theorem okDH {x qual : Str} {st : Stmt} {f : Addr} {fd : FuncData} {N ps : List Str} {k : Nat} {sp : SpD} {t : XKD → TSD} (F : L2.Fun K x qual st f fd) (Sc : FnScope N ps (defScope st)) (len : ∀ ds S Q E, sp ds S Q E → ds.length = ps.length)
    (hb : ∀ (cdv : Value) (A : Around) (outer : List Env) (s : Shared) (H : Hp) (p : Addr × Obj), L2H.RoomH k (A.deeper (envOfC qual (defScope st) s.heap.objs.size f cdv)) → L2H.HotC (L2H.cxH C8.CX0 P w K mg base N qual (defScope st) f cdv A outer s H C8.E0 p) →
      DB (L2H.cxH C8.CX0 P w K mg base N qual (defScope st) f cdv A outer s H C8.E0 p) W0 (defBody st) (t fun _ _ => False))
    (hp : ∀ ds S Q Ed, sp ds S Q Ed → t Ed { nx := fun _ S' => Q .non S', rt := Q } (startD N ds) S) : L2H.FnH P w K mg base C8.CX0 (k + 1) f fd ps (upF K (spZ sp)) := by
  have hl : ∀ vs H Q E, upF K (spZ sp) vs H Q E → vs.length = ps.length := fun vs H Q E h => by
    obtain ⟨ds, S, fr, Qd, Ed, R, f, r, h, _⟩ := h
    rw [← rpL_len r]
    exact len ds S Qd _ h
  refine ⟨hl, fun A outer s H args us vs Q E p hr hot hpin e0 bind r h => ?_⟩
  obtain ⟨oc, od, kV, doc, pm, an, cdv, ct, osl, rfl, lk, code⟩ := F.ex
  have hn := hl _ _ _ _ h
  obtain ⟨ds, S, fr, Qd, Ed, R, f0, r0, h0, hq, hx⟩ := h
  have KX : K.In s.heap := e0.mod.kin.keeps fun b o e => (e0.bs b o e).1
  have known : ∀ y ∈ ps.zip us, (defScope st).names.lookup y.1 = some .local ∨ ((defScope st).names.lookup y.1 = some .cell ∧ ((cellsFrom (s.heap.objs.size + 1) (defScope st).names []).lookup y.1).isSome = true) := fun y hy =>
    (Sc.par y.1 (List.of_mem_zip (a := y.1) (b := y.2) hy).1).imp id fun q => ⟨q, PySem.W.cellsFrom_some _ _ _ (.inl q)⟩
  refine codeAny_call_function hr.depth (KX _ _ lk) rfl Sc.co Sc.gen rfl (PySem.W.codeRec_of KX code) (bind _ _ _ _ (wpAny_newFunctionEnv_cells Sc.kind known fun env he s1 y => ?_))
  subst he
  have I := L2H.inv_startH (CX := C8.CX0) (w := w) (P := P) (K := K) (mg := mg) (base := base) (cd := cdv) (A := A) (outer := outer) (H := H) (E := C8.E0) Sc hpin e0 hn r y
  have lim : s.heap.NoLimit := e0.mod.nolimit.keeps fun b o e => (e0.bs b o e).1
  have body := (hb cdv A outer s H p (hr.deeper _) ⟨p, hot, .head _⟩).p
  refine ⟨lim.keeps y.toInCall.keep, codeAny_func (wpAny_mono (body.run [] s1 _ H { nx := fun _ H' => Q .non H', rt := Q } I ⟨startD N ds, S, fr, { nx := fun _ S' => Qd .non S', rt := Qd }, start_ok R f0 r0, fun _ _ _ _ _ _ _ _ _ z => z.elim, hp ds S Qd _ h0, ?_⟩) (fun fl s' z => ?_) fun e s' z => z)⟩
  · exact ⟨fun σd σ H' S' o q => hq .non .non H' S' o.rel o.fr rfl q, fun v d σd σ H' S' o rv q => hq v d H' S' o.rel o.fr rv q, fun _ _ _ _ _ q => q.elim, fun _ _ _ _ _ q => q.elim⟩
  · match fl, z with
    | .ret u, ⟨v, σ', H', J, rv, q⟩ => exact ⟨v, H', J.os, J.bare, J.base, J.hok, rv, q⟩
    | .next, ⟨σ', H', J, q⟩ => exact ⟨.non, H', J.os, J.bare, J.base, J.hok, rfl, q⟩
    | .brk, ⟨_, _, _, q⟩ => exact q.elim
    | .cont, ⟨_, _, _, q⟩ => exact q.elim
end
section
variable {X : Cx} {k : Nat} {f : Addr} {fd : FuncData} {ps : List Str} {sp : SpD} {x : Str} {p pos : Pos} {e : Expr} {es : List Expr} {t : TAD}
theorem callH_lift (σ : L2.St) (H : Hp) (Q : VK) (h : upE X.K W0 (dCall sp [] (fun _ _ _ => False) t) σ H Q) : L2.tCallS (upF X.K (spZ sp)) (fun _ => C8.E0) (upA X.K W0 t) σ H Q := by
  obtain ⟨σd, S, fr, Qd, ok, cl, h, k⟩ := h
  refine ⟨σd, S, fr, _, ok, cl, h, fun vs ds H1 S1 ok1 r1 h1 => ?_⟩
  rw [List.append_nil] at h1
  exact ⟨ds, S1, fr ++ prs σd σ, Qd, fun _ _ => False, ok1.rel, ok1.out, r1, h1, fun v d H2 S2 R2 f2 r2 q2 => k v d H2 S2 (ok1.back R2 f2) r2 q2, fun _ _ _ _ _ _ _ _ z => z.elim⟩
theorem de_callH (F : L2H.FnH X.prog X.w X.K X.mg X.base C8.CX0 k f fd ps (upF X.K (spZ sp))) (hr : L2H.RoomH k X.A) (hc : L2H.HotC X) (hg : Gl X x) (hm : X.mg x = some (.ref f)) (hk : PySem.W.keepIn X.K (.ref f) = true) (hb : Binds X.K fd ps [])
    (ha : DA X W0 (e :: es) t) (hdb : (x == ("__debug__" : Str)) = false := by decide) (he : starEach (e :: es) X.env = (false, eval e X.env) :: starEach es X.env := by rfl)
    (hpl : (backTo pos (starEach es X.env)).any (·.1) = false := by rfl) : DE X W0 (.Call (.Name x p) (e :: es) [] pos) (dCall sp [] (fun _ _ _ => False) t) :=
  ⟨PE.imp (L2H.pe_callH (E := fun _ => C8.E0) F hr hc hg hm hk hb (fun σ _ _ _ _ _ _ z => z.elim) ha.p hdb he hpl) callH_lift⟩
/-- in a suite -/
theorem hot_suite {a : Addr} {oe : Obj} {od : Option Addr} {n : Str} {pn : List (Addr × Obj)} (sf : SuF X.K oe od n) : L2H.HotC (X.suite a ((a, oe) :: pn)) :=
  let ⟨vs, h1, h2⟩ := sf.dat
  ⟨(a, oe), ⟨rfl, vs, h1, h2⟩, .head _⟩
theorem room_suite {a : Addr} {pn : List (Addr × Obj)} (h : RoomG k X.A) : L2H.RoomH k (X.suite a pn).A := ⟨h.rm.dp, h.rm.un⟩
end
end Dv

/-! Readings by value: sep.join(reversed(xs)). -/
namespace Dv
open PySem PySem.Spec L2 PyProof.Rows Hx
section
variable {X : Cx} {W : Wi}
end
end Dv
namespace Dv
open PySem PySem.Spec L2 PyProof.Rows Hx
end Dv

/-! Readings by value: data in a tuple of data. -/
namespace Dv
open PySem PySem.Spec L2 PyProof.Rows Hx
section
variable {X : Cx}
/-! ### steps by instances alone -/
end
end Dv

/-! Readings by value: a written dict whose keys are tuples of whole numbers. -/
namespace Dv
open PySem PySem.Spec L2 PyProof.Rows Hx
abbrev TkE := List Int × Addr × Value
section
variable {X : Cx}
end
/-! ### by value -/
/-- the dict's entries as data -/
inductive TkV (K : PySem.W.Frag) : List TkE → List (List Int × D) → Prop
  | nil : TkV K [] []
  | cons {k : List Int} {b : Addr} {u : Value} {d : D} {v : V} {xs : List TkE} {tab : List (List Int × D)} : RelV v u → (∀ H S, Rp K H S d v) → TkV K xs tab → TkV K ((k, b, u) :: xs) ((k, d) :: tab)
def tkAt (tab : List (List Int × D)) (ks : List Int) : Option D := (tab.find? fun t => decide (t.1 = ks)).map (·.2)
theorem TkV.at {K : PySem.W.Frag} {ks : List Int} : ∀ {xs : List TkE} {tab : List (List Int × D)}, TkV K xs tab →
    (atKey xs ks).isSome = (tkAt tab ks).isSome ∧ ∀ d, tkAt tab ks = some d → ∃ b u v, atKey xs ks = some (b, u) ∧ RelV v u ∧ ∀ H S, Rp K H S d v
  | _, _, .nil => ⟨rfl, fun d h => by simp [tkAt] at h⟩
  | _, _, .cons (k := k) (b := b) (u := u) (d := d') (v := v) (xs := xs) (tab := tab) r p t => by
    by_cases c : k = ks
    · have e1 : atKey ((k, b, u) :: xs) ks = some (b, u) := by simp [atKey, c]
      have e2 : tkAt ((k, d') :: tab) ks = some d' := by simp [tkAt, c]
      rw [e1, e2]
      exact ⟨rfl, fun d h => by cases h; exact ⟨b, u, v, rfl, r, p⟩⟩
    · have e1 : atKey ((k, b, u) :: xs) ks = atKey xs ks := by simp [atKey, c]
      have e2 : tkAt ((k, d') :: tab) ks = tkAt tab ks := by simp [tkAt, c]
      rw [e1, e2]
      exact t.at
section
variable {X : Cx} {W : Wi} {pos : Pos}
end
end Dv

/-! Readings by value: a written dict of two tuples of whole numbers, asked at once; min of four ints; min with default. -/
namespace Dv
open PySem L2 PyProof.Rows Hx
/-! ### {"k1": (..), "k2": (..)}[x], {"k1": (..), "k2": (..)}.get(x), x a slot -/
section
variable {K : PySem.W.Frag} {W : Wi} {k1 k2 : Str} {ns ms : List Int} {i : Nat}
end
section
variable {X : Cx} {W : Wi} {k1 k2 x : Str} {ns ms : List Int} {i : Nat} {m1 m2 : Nat} {e1 e2 : Expr} {q1 q2 dpos np pos apos : Pos}
end
/-! ### min of four ints, min with default -/
section
variable {X : Cx} {W : Wi} {e : Expr} {t : TED} {d : Int} {j : Nat} {p1 p2 p3 pos : Pos}
end
end Dv

/-! Readings by value: a lambda handed to a def that calls it within a try with one clause; the suite and what stands behind are told by values. -/
namespace Dv
open PySem L2 PyProof.Rows Hx
section
variable {X : Cx} {pos : Pos}
/-- what is wished where the error leaves the lambda -/
def EG (K : PySem.W.Frag) (c : Str) (u : Addr → Option Addr → TSD) (Q : VK) : XK := fun cls od H' => ∃ Dn, cls = .ref Dn ∧ WhF K c Dn ∧ ∃ (S : Sd) (fr : List (V × D)) (Qd : DK) (ns : List Str) (xs : List D), RelS K H' S ∧ FrOk K H' S fr ∧ (∀ a, Rp K H' S (.exc a od ns xs) (.ref a)) ∧
  (∀ a, u a od { nx := fun _ _ => False, rt := Qd } [none, some (.exc a od ns xs)] S) ∧ ∀ w d H2 S2, RelS K H2 S2 → FrOk K H2 S2 fr → Rp K H2 S2 d w → Qd d S2 → Q w H2
/-- what is wished behind -/
def NG (K : PySem.W.Frag) (v : TSD) (Q : VK) (H' : Hp) : Prop := ∃ (S : Sd) (fr : List (V × D)) (Qd : DK), RelS K H' S ∧ FrOk K H' S fr ∧ v { nx := fun _ _ => False, rt := Qd } [none, none] S ∧ ∀ w d H2 S2, RelS K H2 S2 → FrOk K H2 S2 fr → Rp K H2 S2 d w → Qd d S2 → Q w H2
def TG (K : PySem.W.Frag) (c : Str) (u : Addr → Option Addr → TSD) (v : TSD) : (XK → Hp → VK → Prop) → Hp → VK → Prop := fun tl H Q => tl (EG K c u Q) H fun _ H' => NG K v Q H'
/-- g(lambda: body), g such a def -/
def dHT (P : Addr) (q c : Str) (u : Addr → Option Addr → TSD) (v : TSD) (te : XKD → TED) : TED := fun σ S Q => S P = some (.tab q) ∧ te (fun x S' => x.cls = c ∧ ∀ a od, u a od { nx := fun _ _ => False, rt := Q } [none, some (.exc a od x.ns x.xs)] S') σ S fun _ S' => v { nx := fun _ _ => False, rt := Q } [none, none] S'
end
end Dv

/-! Readings by value: a key in a dict of the module; a text not in a text. -/
namespace Dv
open PySem L2 PyProof.Rows Hx
def dKin (ks : List Str) (ta : TED) : TED := fun σ S Q => ta σ S fun x S1 => match x with
  | .str z => Q (.bl (decide (z ∈ ks))) S1
  | _ => False
section
variable {X : Cx} {W : Wi} {pos : Pos}
end
/-! ### a text not in a text -/
def rdNotInT : RD2 := fun x y S Q => match x, y with
  | .str a, .str z => Q (.bl (!hasS z a)) S
  | _, _ => False
theorem x_notInT {a z : Str} {S : Sd} {Q : DK} : rdNotInT (.str a) (.str z) S Q = Q (.bl (!hasS z a)) S := rfl
end Dv

/-! Readings by value: sorted and min of a list of data; range downward. -/
namespace Dv
open PySem L2 PyProof.Rows Hx
/-- a is below b -/
def ltD (a b : D) : Bool := PySem.W.dataLt (pd a) (pd b)
/-- data of one make -/
def alikeL (ds : List D) : Bool := ds.all fun a => isData a && (ds.all fun b => PySem.W.alike (pd a) (pd b)) && decide ((pd a).depth ≤ 50) && (match a with | .tup (_ :: _) => true | .int _ => true | .str _ => true | _ => false)
theorem alike_at {ds : List D} (h : alikeL ds = true) {a : D} (ha : a ∈ ds) : isData a = true ∧ (∀ b ∈ ds, PySem.W.alike (pd a) (pd b) = true) ∧ (pd a).depth ≤ 50 ∧ pd a ≠ .none := by
  have h1 := List.all_eq_true.mp h a ha
  simp only [Bool.and_eq_true] at h1
  obtain ⟨⟨⟨h1, h2⟩, h3⟩, h4⟩ := h1
  refine ⟨h1, List.all_eq_true.mp h2, of_decide_eq_true h3, fun e => ?_⟩
  cases a with
  | tup xs => exact absurd e (by simp [pd])
  | int i => exact absurd e (by simp [pd])
  | str z => exact absurd e (by simp [pd])
  | _ => exact absurd h4 Bool.false_ne_true
theorem alike_all {ds : List D} (h : alikeL ds = true) : PySem.W.AllAlike (ds.map pd) := fun d hd d' hd' => by
  obtain ⟨a, ha, rfl⟩ := List.mem_map.mp hd
  obtain ⟨b, hb, rfl⟩ := List.mem_map.mp hd'
  exact (alike_at h ha).2.1 b hb
/-- the pairs of a value and its data -/
def prV (vs : List V) (ds : List D) : List (V × D) := vs.zip ds
theorem prV_fst {vs : List V} {ds : List D} (h : ds.length = vs.length) : (prV vs ds).map Prod.fst = vs := List.map_fst_zip (by omega)
theorem prV_snd {vs : List V} {ds : List D} (h : ds.length = vs.length) : (prV vs ds).map Prod.snd = ds := List.map_snd_zip (by omega)
theorem prV_rp {K : PySem.W.Frag} {H : Hp} {S : Sd} : ∀ {ds : List D} {vs : List V}, RpL K H S ds vs → ∀ c ∈ prV vs ds, Rp K H S c.2 c.1
  | [], vs, h, c, hc => by
    have e : vs = [] := h
    subst e
    cases hc
  | d :: ds, vs, h, c, hc => by
    obtain ⟨v, r, rfl, h1, h2⟩ := h
    rcases List.mem_cons.mp (show c ∈ (v, d) :: prV r ds from hc) with rfl | hc
    · exact h1
    · exact prV_rp h2 c hc
def rdMinD : RDC := fun xs S Q => match xs with
  | [d] => ∃ ds, lstD S d = some ds ∧ alikeL ds = true ∧ 0 < ds.length ∧ ∀ x, ds[argBest (fun i j => ltD (ds.getD i .non) (ds.getD j .non)) (ds.length - 1)]? = some x → Q x S
  | _ => False
theorem getD_pd (ds : List D) (i : Nat) : (ds.map pd).getD i .none = pd (ds.getD i .non) := by
  rw [List.getD_eq_getElem?_getD, List.getD_eq_getElem?_getD, List.getElem?_map]
  cases ds[i]? with
  | none => rfl
  | some d => rfl
theorem depthAll_le {ds : List D} (h : ∀ a ∈ ds, (pd a).depth ≤ 50) : PyData.depthAll (ds.map pd) ≤ 50 := by
  induction ds with
  | nil => exact Nat.zero_le _
  | cons d ds ih =>
    show max (pd d).depth (PyData.depthAll (ds.map pd)) ≤ 50
    have h1 := h d List.mem_cons_self
    have h2 := ih fun a ha => h a (List.mem_cons_of_mem _ ha)
    omega
/-! ### range(a, b, -1) -/
end Dv

/-! Tuples made by +, a slice or *, of which it is known that they have no dict. -/
namespace Hx
open PySem PySem.Spec PyProof.Rows L2
section
variable {X : Cx}
end
end Hx
namespace Dv
open PySem L2 PyProof.Rows Hx
section
variable {X : Cx} {W : Wi} {o e : Expr} {es : List Expr} {to : TED} {t : TAD} {apos cpos : Pos}
end
end Dv
namespace Dv
open PySem L2 PyProof.Rows Hx
end Dv

/-! Methods of an instance that is still stored into. -/
namespace Dv
open PySem L2 PyProof.Rows Hx
section
variable {X : Cx} {W : Wi} {k : Nat} {f C fI : Addr} {fd : FuncData} {ps : List Str} {sp : SpD} {ds : List Value} {dvs : List V} {dds : List D} {x n m g : Str} {p pos apos pos' : Pos} {o e : Expr} {es : List Expr} {to tv : TED} {t : TAD}
end
end Dv

/-! Texts with fields; repr of instances by a __repr__ of their own. -/
namespace Hx
open PySem PySem.Spec PyProof.Rows L2
/-! ### repr of an instance -/
end Hx
namespace Dv
open PySem L2 PyProof.Rows Hx
section
variable {X : Cx} {W : Wi} {e : Expr} {te : TED} {pos : Pos}
end
end Dv

/-! Own classes called by names. -/
namespace Hx
open PySem PySem.Spec PyProof.Rows L2
section
variable {X : Cx} {CX : CXT} {k n : Nat} {f C : Addr} {fd : FuncData} {ps ks : List Str} {sp : Sp} {idx : List Nat} {dvs : List V} {E : L2.St → XK} {x : Str} {p pos : Pos} {e : Expr} {es : List Expr} {kws : List Keyword} {t tk : TA}
end
end Hx
namespace Dv
open PySem L2 PyProof.Rows Hx
section
variable {X : Cx} {W : Wi} {k np : Nat} {f C fI : Addr} {fd : FuncData} {ps ks : List Str} {sp : SpD} {idx : List Nat} {dvs : List V} {dds : List D} {n : Str} {p pos : Pos} {e : Expr} {es : List Expr} {kws : List Keyword} {t tk : TAD}
end
end Dv

/-! min of a range by a bound method whose answers are data. -/
namespace Hx
open PySem PySem.Spec PyProof.Rows L2
/-- what stays while the best is sought: J j b k: of the first j things the one at b is the least so far, its key is k -/
structure MinRun (prog : Program) (w : World) (A : Around) (q T : Addr) (wr : List Addr) (G : Array GenState → Array GenState → Prop) (n : Nat) (P : Nat → Value → Prop) (St : Nat → Shared → Prop) (J0 : Shared → Prop) (J : Nat → Nat → Value → Shared → Prop) : Prop where
  keep0 : ∀ s s', J0 s → Moved (T :: wr) G s s' → J0 s'
  keep : ∀ j b k s s', J j b k s → Moved (T :: wr) G s s' → J j b k s'
  first : ∀ v (s : Shared) (o : Obj) (Q : Value → Shared → Prop) (E : Value → Shared → Prop), P 0 v → J0 s → St 1 s → s.heap.get? T = some o → (∀ k s', J 1 0 k s' → St 1 s' → s'.heap.get? T = some o → Q k s') → wpAny (model prog w) A (call (.ref q) [v]) Q E s
  turn : ∀ j b kb v (s : Shared) (o : Obj) (Q : Value → Shared → Prop) (E : Value → Shared → Prop), 1 ≤ j → j < n → P j v → J j b kb s → St (j + 1) s → s.heap.get? T = some o →
    (∀ k s', St (j + 1) s' → s'.heap.get? T = some o → (∀ (Q2 : Value → Shared → Prop) (E2 : Value → Shared → Prop), (J (j + 1) j k s' → Q2 (.bool true) s') → (J (j + 1) b kb s' → Q2 (.bool false) s') → wpAny (model prog w) A (richCompare .Lt k kb) Q2 E2 s') → Q k s') → wpAny (model prog w) A (call (.ref q) [v]) Q E s
section
variable {prog : Program} {w : World} {A : Around} {R : Result → Shared → Prop} {I q T : Addr} {fp wr : List Addr} {G : Array GenState → Array GenState → Prop} {n : Nat} {P : Nat → Value → Prop} {St : Nat → Shared → Prop} {J0 : Shared → Prop} {J : Nat → Nat → Value → Shared → Prop}
theorem min2_on (W : WalksS prog w A.in1 I fp wr G n P St) (hT : T ∉ fp) (M : MinRun prog w A.in1 q T wr G n P St J0 J) (kw : List (Str × Value)) : ∀ (m j b : Nat) (s : Shared) (best key : Value) (c : Nat), n - j = m → 1 ≤ j → j ≤ n → J j b key s → St j s → P b best →
    s.heap.get? T = some { cls := .type "list", dict := none, data := .seq #[best, key] c, slots := #[] } → (∀ v b k s', P b v → J n b k s' → R (.ok (.ret v)) s') → codeAny (model prog w) A (.builtin "min.loop" ⟨[.ref I, .ref q, .ref T], kw⟩) R s := by
  have apart : T ∉ wr := fun h => hT (W.sub T h)
  have within : ∀ b ∈ wr, b ∈ T :: wr := fun b hb => List.mem_cons_of_mem T hb
  have named : (toString "min" ++ toString ".loop" : String) = "min.loop" := by decide
  have other : ∀ {b : Addr}, b ∉ T :: wr → T ≠ b := fun hb h => hb (by rw [h]; exact List.mem_cons_self)
  intro m
  induction m with
  | zero =>
    intro j b s best key c hm j1 jn jj st hb eT fin
    obtain rfl : j = n := by omega
    refine codeAny_builtin F.entry_min_loop ?_
    rw [Around.under_plainId F.plain_min_loop ⟨[.ref I, .ref q, .ref T], kw⟩]
    refine wpAny_bind (m := seqItems? (.ref T)) (wpAny_seqItems eT rfl ?_)
    refine wpAny_bind (m := tryCatch (pyNext (.ref I)) _) (wpAny_tryCatch (W.done s _ _ st fun s1 mv => ?_))
    refine wpAny_bind (m := updateSeq T (fun _ => #[])) (wpAny_updateSeq (mv.heap T _ apart eT) rfl (wpAny_bind (wpAny_letGo (wpAny_pure ?_))))
    exact fin best b key _ hb (M.keep _ _ _ _ _ jj ((mv.mono within).then_heap (tk := s1.toks) (Nat.le_refl _) fun b o hb e => (Heap.get?_update_other _ _ (other hb)).trans e))
  | succ m ih =>
    intro j b s best key c hm j1 jn jj st hb eT fin
    have less : j < n := by omega
    refine codeAny_builtin F.entry_min_loop ?_
    rw [Around.under_plainId F.plain_min_loop ⟨[.ref I, .ref q, .ref T], kw⟩]
    refine wpAny_bind (m := seqItems? (.ref T)) (wpAny_seqItems eT rfl ?_)
    refine wpAny_bind (m := tryCatch (pyNext (.ref I)) _) (wpAny_tryCatch (W.item j s _ _ less st fun v s1 hv st1 mv => ?_))
    have eT1 := mv.heap T _ apart eT
    have jj1 := M.keep _ _ _ _ _ jj (mv.mono within)
    refine wpAny_bind (m := tryCatch (holding [v] (call (.ref q) [v])) _) (wpAny_tryCatch (wpAny_holding (M.turn j b key v s1 _ _ _ j1 less hv jj1 st1 eT1 fun kx s2 st2 eT2 cmp => ?_)))
    refine wpAny_bind (m := tryCatch (holding [v, kx] (richCompare .Lt kx key >>= _)) _) (wpAny_tryCatch (wpAny_holding (wpAny_bind (cmp _ _ (fun j2 => ?_) fun j2 => ?_))))
    · refine wpAny_bind (wpAny_holding (wpAny_truthy_bool (wpAny_bind (wpAny_letGo (wpAny_pure ?_)))))
      simp only [if_true]
      refine wpAny_bind (m := updateSeq T (fun _ => #[v, kx])) (wpAny_updateSeq eT2 rfl (wpAny_bind (wpAny_letGo ?_)))
      rw [named]
      have mv2 : Moved (T :: wr) G s2 { s2 with heap := s2.heap.update T (Obj.mapSeq fun _ => #[v, kx]), toks := s2.toks } := (Moved.refl W.grefl).then_heap (tk := s2.toks) (Nat.le_refl _) fun b o hb e => (Heap.get?_update_other _ _ (other hb)).trans e
      exact wpAny_pure ⟨plainId_quiet F.plain_min_loop _, ih (j + 1) j _ v kx _ (by omega) (by omega) less (M.keep _ _ _ _ _ j2 mv2) (W.frame _ s2 _ s2.toks st2 (Nat.le_refl _) fun b hbf o e => (Heap.get?_update_other _ _ (fun h : T = b => hT (by rw [h]; exact hbf))).trans e) hv (Heap.get?_update_self _ eT2 rfl) fin⟩
    · refine wpAny_bind (wpAny_holding (wpAny_truthy_bool (wpAny_bind (wpAny_letGo (wpAny_pure ?_)))))
      simp only [Bool.false_eq_true, if_false]
      refine wpAny_bind (wpAny_letGo ?_)
      rw [named]
      exact wpAny_pure ⟨plainId_quiet F.plain_min_loop _, ih (j + 1) b _ best key c (by omega) (by omega) less j2 st2 hb eT2 fin⟩
theorem min2_first (W : WalksS prog w A.in1 I fp wr G n P St) (hT : T ∉ fp) (M : MinRun prog w A.in1 q T wr G n P St J0 J) (kw : List (Str × Value)) (hn : 0 < n) {s : Shared} {c : Nat} (j0 : J0 s) (st : St 0 s)
    (eT : s.heap.get? T = some { cls := .type "list", dict := none, data := .seq #[] c, slots := #[] }) (fin : ∀ v b k s', P b v → J n b k s' → R (.ok (.ret v)) s') : codeAny (model prog w) A (.builtin "min.loop" ⟨[.ref I, .ref q, .ref T], kw⟩) R s := by
  have apart : T ∉ wr := fun h => hT (W.sub T h)
  have within : ∀ b ∈ wr, b ∈ T :: wr := fun b hb => List.mem_cons_of_mem T hb
  have named : (toString "min" ++ toString ".loop" : String) = "min.loop" := by decide
  have other : ∀ {b : Addr}, b ∉ T :: wr → T ≠ b := fun hb h => hb (by rw [h]; exact List.mem_cons_self)
  refine codeAny_builtin F.entry_min_loop ?_
  rw [Around.under_plainId F.plain_min_loop ⟨[.ref I, .ref q, .ref T], kw⟩]
  refine wpAny_bind (m := seqItems? (.ref T)) (wpAny_seqItems eT rfl ?_)
  refine wpAny_bind (m := tryCatch (pyNext (.ref I)) _) (wpAny_tryCatch (W.item 0 s _ _ hn st fun v s1 hv st1 mv => ?_))
  have eT1 := mv.heap T _ apart eT
  have j1 := M.keep0 _ _ j0 (mv.mono within)
  refine wpAny_bind (m := tryCatch (holding [v] (call (.ref q) [v])) _) (wpAny_tryCatch (wpAny_holding (M.first v s1 _ _ _ hv j1 st1 eT1 fun kx s2 j2 st2 eT2 => ?_)))
  refine wpAny_bind (m := updateSeq T (fun _ => #[v, kx])) (wpAny_updateSeq eT2 rfl ?_)
  rw [named]
  have mv2 : Moved (T :: wr) G s2 { s2 with heap := s2.heap.update T (Obj.mapSeq fun _ => #[v, kx]), toks := s2.toks } := (Moved.refl W.grefl).then_heap (tk := s2.toks) (Nat.le_refl _) fun b o hb e => (Heap.get?_update_other _ _ (other hb)).trans e
  exact wpAny_pure ⟨plainId_quiet F.plain_min_loop _, min2_on W hT M kw _ 1 0 _ v kx _ rfl (Nat.le_refl _) hn (M.keep _ _ _ _ _ j2 mv2) (W.frame _ s2 _ s2.toks st2 (Nat.le_refl _) fun b hbf o e => (Heap.get?_update_other _ _ (fun h : T = b => hT (by rw [h]; exact hbf))).trans e) hv (Heap.get?_update_self _ eT2 rfl) fin⟩
theorem call_min2 {E : Value → Shared → Prop} {s : Shared} {x : Value} {Q : Value → Shared → Prop}
    (h : wpAny (model prog w) A.in1 (pyIter x) (fun it s2 => ∃ I fp wr G n P St J0 J, it = .ref I ∧ WalksS prog w A.in1 I fp wr G n P St ∧ St 0 s2 ∧ (∀ b ∈ fp, b < s2.heap.objs.size) ∧ 0 < n ∧ MinRun prog w A.in1 q s2.heap.objs.size wr G n P St J0 J ∧ J0 s2 ∧ ∀ v b k s', P b v → J n b k s' → Q v s') E s) :
    wpAny (model prog w) A (call (.builtin "min") [x] [(Str.ofString "key", .ref q)]) Q E s := by
  have named : (toString "min" ++ toString ".loop" : String) = "min.loop" := by decide
  refine PyProof.Rows.kmk_tree F.kind_min F.plain_min F.entry_min (PyProof.Rows.kmk_min_key x (.ref q)) ?_
  refine wpAny_bind (m := Builtin.Builtins.bindParams "min" ["key", "default"] 0 ⟨[], [(Str.ofString "key", .ref q)]⟩) (wpAny_of_eq (show Builtin.Builtins.bindParams "min" ["key", "default"] 0 ⟨[], [(Str.ofString "key", .ref q)]⟩ = pure [some (.ref q), none] from rfl) (wpAny_bind (wpAny_pure ?_)))
  refine wpAny_bind (wpAny_mono h (fun it s2 got => ?_) fun _ _ e => e)
  obtain ⟨I, fp, wr, G, n, P, Z, J0, J, e, W, st, hfp, hn, M, j0, fin⟩ := got
  subst e
  refine wpAny_bind (wpAny_newObj_type ?_)
  rw [named]
  have hT : s2.heap.objs.size ∉ fp := fun hm => Nat.lt_irrefl _ (hfp _ hm)
  have mv : Moved (s2.heap.objs.size :: wr) G s2 { s2 with heap := s2.heap.push { cls := .type "list", data := .seq #[] 0 }, toks := s2.toks } := (Moved.refl W.grefl).then_heap (tk := s2.toks) (Nat.le_refl _) fun b o _ e => Heap.get?_push_of_some _ e
  exact wpAny_pure ⟨plainId_quiet F.plain_min_loop _, min2_first W hT M _ hn (M.keep0 _ _ j0 mv) (W.frame 0 s2 (s2.heap.push { cls := .type "list", data := .seq #[] 0 }) s2.toks st (Nat.le_refl _) fun b _ o e => Heap.get?_push_of_some _ e) (Heap.get?_push_size _ rfl) fin⟩
end
section
variable {X : Cx} {k : Nat} {f C : Addr} {fd : FuncData} {p1 p2 m : Str} {sp : Sp} {pins : List (Addr × Obj)} {σ : L2.St}
/-- what stays: the bound method, the walk's two objects, what is wished of the heap -/
structure JM (X : Cx) (pins : List (Addr × Obj)) (σ : L2.St) (T I b f a : Addr) (H : Hp) (s : Shared) : Prop where
  inv : Inv X pins σ H s
  ft : FpOk X pins H T
  fi : FpOk X pins H I
  fb : FpOk X pins H b
  at_ : s.heap.get? b = some (PySem.W.methodObj (.ref f) (.ref a))
theorem JM.keep {T I b f a : Addr} {H : Hp} {s s' : Shared} (h : JM X pins σ T I b f a H s) (hT : b ≠ T) (hI : b ≠ I) (mv : Moved [T, I] (fun a b => b = a) s s') : JM X pins σ T I b f a H s' := by
  obtain ⟨h1, g1, d1, t1, o1⟩ := s
  obtain ⟨h2, g2, d2, t2, o2⟩ := s'
  have e1 : g2 = g1 := mv.gens
  have e2 : d2 = d1 := mv.drawn
  have e3 : o2 = o1 := mv.os
  subst e1 e2 e3
  refine ⟨h.inv.turnedL (t' := t2) (ch := [T, I]) (fun c o hc e => mv.heap c o hc e) (fun c hc => ?_), h.ft, h.fi, h.fb, mv.heap b _ (by simp [hT, hI]) h.at_⟩
  simp only [List.mem_cons, List.not_mem_nil, or_false] at hc
  rcases hc with rfl | rfl
  · exact h.ft
  · exact h.fi
/-- one answer of the bound method -/
theorem JM.call {T I b a : Addr} {H : Hp} {s : Shared} {v : Value} {x : V} {R : V → Hp → Prop} (h : JM X pins σ T I b f a H s) (F : FnG X.prog X.w X.K X.mg X.base (L2N.CX X.prog X.w) k f fd [p1, p2] sp) (hr : RoomG (k + 1) X.A) (hb : Binds X.K fd [p1, p2] [])
    (rx : RelV x v) (hs : sp [.ref a, x] H R fun _ _ _ => False) {oT oI : Obj} (eT : s.heap.get? T = some oT) (eI : s.heap.get? I = some oI) {Q : Value → Shared → Prop} {E : Value → Shared → Prop}
    (hq : ∀ u y H' s', RelV y u → R y H' → JM X pins σ T I b f a H' s' → s'.heap.get? T = some oT → s'.heap.get? I = some oI → Q u s') : wpAny (model X.prog X.w) X.A.in1 (call (.ref b) [v]) Q E s := by
  have J := h.inv
  refine wpAny_call (PySem.W.method_call h.at_ (codeAny_mono (F.run X.A.in1 X.stack s H ⟨[.ref a, v], []⟩ [.ref a, v] [.ref a, x] R (fun _ _ _ => False) hr.in1 J.env0.in1 (hb s [.ref a, v] J.kIn rfl) (.cons rfl (.cons rx .nil)) hs) fun out s' got => ?_))
  match out, got with
  | .error e, got =>
    obtain ⟨_, _, _, _, _, _, _, _, _, _, _, _, z⟩ := (show L2N.CX X.prog X.w X.stack H s (fun _ _ _ => False) e s' from got)
    exact z.elim
  | .ok (.ret u), ⟨y, H', os, bare, un, hok, ry, q⟩ =>
    have J' := J.call' os un hok bare (ch := []) (fun b z => absurd z (by simp))
    have far : ∀ {c : Addr}, FpOk X pins H c → c ∉ frs X.stack := fun {c} hf hc' => by
      rcases List.mem_cons.mp (J.stkSub c hc') with e | e
      · exact hf.2.1 e
      · exact hf.2.2.1 e
    have stay : ∀ {c : Addr} {o : Obj}, FpOk X pins H c → s.heap.get? c = some o → s'.heap.get? c = some o ∧ FpOk X pins H' c := fun {c o} hf e =>
      ⟨un.keep c o e hf.1 (far hf) (by simp), ⟨un.free c o e hf.1 (by simp), hf.2⟩⟩
    exact hq u y H' s' ry q ⟨J', (stay h.ft eT).2, (stay h.fi eI).2, (stay h.fb h.at_).2, (stay h.fb h.at_).1⟩ (stay h.ft eT).1 (stay h.fi eI).1
/-- min(range(e), key=x.m), x a local that stands for an instance -/
def tMinB (K : PySem.W.Frag) (C : Addr) (m : Str) (sp : Sp) (i : Nat) (ta : TE) : TE := fun σ H Q => ta σ H fun x H1 => ∃ (n : Nat) (a dx : Addr) (fs : List (Str × V)) (Jp : Nat → Nat → V → Hp → Prop), x = .int n ∧ 0 < n ∧ n < 1000000 ∧ σ[i]? = some (some (.ref a)) ∧ H1 a = some (.ins C dx fs) ∧ fs.lookup m = none ∧
  sp [.ref a, .int (0 : Nat)] H1 (fun k H2 => Jp 1 0 k H2) (fun _ _ _ => False) ∧
  (∀ j b kb H2, 1 ≤ j → j < n → Jp j b kb H2 → sp [.ref a, .int (j : Nat)] H2 (fun k H3 => ∃ p q, Dp K H3 k p ∧ Dp K H3 kb q ∧ PySem.W.alike p q = true ∧ p ≠ .none ∧ p.depth ≤ 50 ∧ (PySem.W.dataLt p q = true → Jp (j + 1) j k H3) ∧ (PySem.W.dataLt p q = false → Jp (j + 1) b kb H3)) (fun _ _ _ => False)) ∧
  ∀ (b : Nat) kb H2, Jp n b kb H2 → Q (.int b) H2
/-- x.m as a value; the object is told by the heap -/
theorem bound_raw {b : Bool} {H : Hp} {s : Shared} {a dx g : Addr} {fs : List (Str × V)} {A : Around} {E : Value → Shared → Prop} {Q : Value → Shared → Prop} (I : Inv X pins σ H s) (e : H a = some (.ins C dx fs)) (c : Cls X.K C) (k : BMeth X.K C m g) (l : fs.lookup m = none)
    (h : ∀ p s', FpOk X pins H p → Inv X pins σ H s' → s'.heap.get? p = some (PySem.W.methodObj (.ref g) (.ref a)) → p < s'.heap.objs.size → Q (.ref p) s') : wpAny (model X.prog X.w) A (getAttr (.ref a) m b) Q E s := by
  obtain ⟨mA, O, r, _, _, _⟩ := ins_get I.hok e
  have hn : mA m = none := RelO.none_of (by rw [← l]; exact r m)
  obtain ⟨od, J, hl⟩ := O.look
  refine PySem.W.get_bind I.kIn J (PySem.W.plainGet_of (c.get m)).1 (PySem.W.findObj_fn c.hd k.mt.at_ k.gf k.tk k.cp (show PySem.W.lookIn m od = some none by rw [hl, hn])) (PySem.W.plainGet_of (c.get m)).2 ?_
  refine wpAny_call (PySem.W.fn_get (s := { s with toks := s.toks + 1 }) I.kIn (beq_iff_eq.mp k.mt.fn) (PySem.W.handed_on rfl ?_))
  refine h s.heap.objs.size _ (I.fpOk (Nat.le_refl _) (I.hok.fresh (Nat.le_refl _))) (I.kept (t' := s.toks + 1) fun b u z => Heap.get?_push_of_some _ z) (Heap.get?_push_size s.heap rfl) ?_
  show s.heap.objs.size < (s.heap.push _).objs.size
  rw [Heap.size_push]
  exact Nat.lt_succ_self _
/-- the bound method is taken, the range is walked -/
theorem minB_tail {x : Str} {i n : Nat} {q4 q5 q6 q7 : Pos} {H2 : Hp} {s3 : Shared} {Q : VK} {r a dx : Addr} {fs : List (Str × V)} {t1 t2 t3 : Tok} {Jp : Nat → Nat → V → Hp → Prop} (hc : X.calm = true) (hu : X.A.units + 64 < cLine) (c : Cls X.K C) (km : BMeth X.K C m f)
    (F : FnG X.prog X.w X.K X.mg X.base (L2N.CX X.prog X.w) k f fd [p1, p2] sp) (hr : RoomG (k + 1) X.A) (hb : Binds X.K fd [p1, p2] []) (hN : X.N[i]? = some x) (hv : Vis X.env.scope x) (hd : (x == ("__debug__" : Str)) = false) (hcd : (x == ("__classdict__" : Str)) = false)
    (hba : attributeBase (.Name x q4) m X.env (eval (.Name x q4) X.env) = eval (.Name x q4) X.env) (I3 : Inv X pins σ H2 s3) (fr : FpOk X pins H2 r) (hrng : IsRange s3.heap r 0 n 1 t1 t2 t3) (n0 : 0 < n) (n1 : n < 1000000) (hσ : σ[i]? = some (some (.ref a))) (ea : H2 a = some (.ins C dx fs)) (lk : fs.lookup m = none)
    (start : sp [.ref a, .int (0 : Nat)] H2 (fun k H3 => Jp 1 0 k H3) (fun _ _ _ => False))
    (step : ∀ j b kb H3, 1 ≤ j → j < n → Jp j b kb H3 → sp [.ref a, .int (j : Nat)] H3 (fun k H4 => ∃ p q, Dp X.K H4 k p ∧ Dp X.K H4 kb q ∧ PySem.W.alike p q = true ∧ p ≠ .none ∧ p.depth ≤ 50 ∧ (PySem.W.dataLt p q = true → Jp (j + 1) j k H4) ∧ (PySem.W.dataLt p q = false → Jp (j + 1) b kb H4)) (fun _ _ _ => False))
    (fin : ∀ (b : Nat) kb H3, Jp n b kb H3 → Q (.int b) H3) :
    wpAny (model X.prog X.w) X.A (evalAll ((backToKw q7 (keywordEach [⟨some "key", .Attribute (.Name x q4) m q5, q6⟩] X.env)).map (·.2))) (fun kvs s5 => wpAny (model X.prog X.w) X.A (call (.builtin "min") [.ref r] (((backToKw q7 (keywordEach [⟨some "key", .Attribute (.Name x q4) m q5, q6⟩] X.env)).filterMap (·.1)).zip kvs)) (EP X pins σ Q) X.xe s5) X.xe s3 := by
  show wpAny _ _ (evalAll [do let v ← eval (.Attribute (.Name x q4) m q5) X.env; standAt q7; pure v]) _ _ s3
  have Ip : Inv X ((r, ({ cls := .type "range", dict := none, data := .fields #[.int 0 t1, .int n t2, .int 1 t3], slots := #[] } : Obj)) :: pins) σ H2 s3 := I3.pins_of fun p hp => by
    rcases List.mem_cons.mp hp with rfl | hp
    · exact ⟨hrng, fr.1, fr.2.1, fr.2.2.1, fun v => by simp⟩
    · exact I3.pin p (List.mem_append_right _ hp)
  refine wpAny_evalAll_cons (wpAny_bind (attr_of hba (thn ((pe_var (i := i) (pos := q4) hN hv hd hcd).run _ s3 σ H2 (fun y H4 => y = .ref a ∧ H4 = H2) Ip ⟨_, hσ, rfl, rfl⟩) fun u s4 got => ?_)))
  obtain ⟨y, H4, I4, ry, ey, eH⟩ := got
  subst ey eH
  obtain rfl : u = Value.ref a := ry
  refine bound_raw I4 ea c km lk fun p s5 fp I5 eb lp => wpAny_bind (wpAny_standAt (wpAny_pure (wpAny_evalAll_nil ?_)))
  show wpAny _ _ (call (.builtin "min") [.ref r] [(Str.ofString "key", .ref p)]) _ _ s5
  have er := (I5.pin (r, _) (List.mem_append_right _ List.mem_cons_self)).1
  have I6 : Inv X pins σ H4 s5 := I5.pins_of fun z hz => I5.pin z (List.mem_append_right _ (List.mem_cons_of_mem _ hz))
  have fb : FpOk X pins H4 p := ⟨fp.1, fp.2.1, fp.2.2.1, fp.2.2.2.1, fp.2.2.2.2.1, fun z hz => fp.2.2.2.2.2 z (by
    rcases List.mem_append.mp hz with h | h
    · exact List.mem_append_left _ h
    · exact List.mem_append_right _ (List.mem_cons_of_mem _ h))⟩
  refine call_min2 (wpAny_pyIter_range er (small_one (by decide) (by decide) (by omega) (by omega)) ?_)
  have kk : ∀ b o, s5.heap.get? b = some o → (s5.heap.push { cls := .type "range_iterator", data := .fields #[rawInt 0, rawInt (Builtin.Range.rangeSize 0 n 1), rawInt 1] }).get? b = some o := fun b o e => Heap.get?_push_of_some _ e
  have hsz : (s5.heap.push { cls := .type "range_iterator", data := .fields #[rawInt 0, rawInt (Builtin.Range.rangeSize 0 n 1), rawInt 1] }).objs.size = s5.heap.objs.size + 1 := Heap.size_push ..
  have I7 : Inv X pins σ H4 { s5 with heap := s5.heap.push { cls := .type "range_iterator", data := .fields #[rawInt 0, rawInt (Builtin.Range.rangeSize 0 n 1), rawInt 1] } } := I6.kept (t' := s5.toks) kk
  have nI : H4 s5.heap.objs.size = none := I6.hok.fresh (Nat.le_refl _)
  have fI : FpOk X pins H4 s5.heap.objs.size := I6.fpOk (Nat.le_refl _) nI
  have nT : H4 (s5.heap.objs.size + 1) = none := I6.hok.fresh (Nat.le_succ _)
  have fT : FpOk X pins H4 (s5.heap.objs.size + 1) := I6.fpOk (Nat.le_succ _) nT
  have pI : p ≠ s5.heap.objs.size := Nat.ne_of_lt lp
  have pT : p ≠ s5.heap.objs.size + 1 := Nat.ne_of_lt (Nat.lt_succ_of_lt lp)
  have e0 : Builtin.Range.rangeSize 0 (n : Int) 1 = n := by rw [rangeSize_one, if_pos (by omega)]; omega
  refine ⟨s5.heap.objs.size, _, _, _, n, _, _, fun s => JM X pins σ (s5.heap.objs.size + 1) s5.heap.objs.size p f a H4 s, fun j b k s => ∃ H5 kb, RelV kb k ∧ Jp j b kb H5 ∧ JM X pins σ (s5.heap.objs.size + 1) s5.heap.objs.size p f a H5 s, rfl, (Walks.range (prog := X.prog) (w := X.w) (A := X.A.in1) (I6.ok.hd hc) s5.heap.objs.size 0 1 n).toS, ?_, fun b hb => ?_, n0, ?_, ⟨I7, fT, fI, fb, kk _ _ eb⟩, fun v b k s6 hp got => ?_⟩
  · show IsRangeIter _ _ (0 + ((0 : Nat) : Int) * 1) ((n : Int) - ((0 : Nat) : Int)) 1
    rw [show (0 + ((0 : Nat) : Int) * 1) = 0 by simp, show ((n : Int) - ((0 : Nat) : Int)) = n by simp, e0]
    exact Heap.get?_push_size _ rfl
  · simp only [List.mem_cons, List.not_mem_nil, or_false] at hb
    subst hb
    show s5.heap.objs.size < (s5.heap.push _).objs.size
    rw [hsz]
    exact Nat.lt_succ_self _
  · show MinRun X.prog X.w X.A.in1 p (s5.heap.push _).objs.size _ _ n _ _ _ _
    rw [hsz]
    refine ⟨fun s s' h mv => h.keep pT pI mv, fun j b k s s' ⟨H5, kb, h1, h2, h3⟩ mv => ⟨H5, kb, h1, h2, h3.keep pT pI mv⟩, fun v s o Q E hv h st eT hq => ?_, fun j b kb v s o Q E j1 jn hv ⟨H5, kv, rk, hj, h⟩ st eT hq => ?_⟩
    · obtain ⟨t, rfl⟩ := hv
      refine h.call F hr hb (x := .int (0 : Nat)) ⟨t, by simp⟩ start eT st fun u y H5 s6 ry hy h6 e6 e7 => hq u s6 ⟨H5, y, ry, hy, h6⟩ e7 e6
    · obtain ⟨t, rfl⟩ := hv
      refine h.call F hr hb (x := .int (j : Nat)) ⟨t, by simp⟩ (step j b kv H5 j1 jn hj) eT st fun u y H6 s6 ry ⟨d, d', hd1, hd2, ha, hne, hdp, hlt, hge⟩ h6 e6 e7 => hq u s6 e7 e6 fun Q2 E2 g1 g2 => ?_
      obtain ⟨as, r1⟩ := Dp.reads h6.inv d y u hd1 ry
      obtain ⟨bs, r2⟩ := Dp.reads h6.inv d' kv kb hd2 rk
      refine PySem.W.rcLt_alike d d' X.A.in1 s6 u kb _ _ r1 r2 ha hne ?_ X.prog X.w E2 Q2 ?_
      · have := Nat.min_le_left d.depth d'.depth
        show X.A.units + 1 + min d.depth d'.depth < cLine
        omega
      · cases e : PySem.W.dataLt d d' with
        | true => exact g1 ⟨H6, y, ry, hlt e, h6⟩
        | false => exact g2 ⟨H6, kv, rk, hge e, h6⟩
  · obtain ⟨t, rfl⟩ := hp
    obtain ⟨H5, kb, _, hj, h⟩ := got
    exact ⟨.int b, H5, h.inv, ⟨t, by simp⟩, fin b kb H5 hj⟩
theorem pe_minB {x : Str} {i : Nat} {e : Expr} {ta : TE} {q1 q2 q3 q4 q5 q6 q7 : Pos} (hc : X.calm = true) (hu : X.A.units + 64 < cLine) (c : Cls X.K C) (km : BMeth X.K C m f) (F : FnG X.prog X.w X.K X.mg X.base (L2N.CX X.prog X.w) k f fd [p1, p2] sp) (hr : RoomG (k + 1) X.A) (hb : Binds X.K fd [p1, p2] [])
    (hgm : Gl X "min") (hmm : X.mg "min" = none) (hvm : bootBuiltins "min" = some (.builtin "min")) (hgr : Gl X "range") (hmr : X.mg "range" = none) (hN : X.N[i]? = some x) (hv : Vis X.env.scope x) (ha : PE X e ta) (hd : (x == ("__debug__" : Str)) = false := by decide) (hcd : (x == ("__classdict__" : Str)) = false := by decide)
    (na : starEach [e] X.env = (false, eval e X.env) :: starEach [] X.env := by rfl) (nr : starEach [Expr.Call (.Name "range" q2) [e] [] q3] X.env = (false, eval (.Call (.Name "range" q2) [e] [] q3) X.env) :: starEach [] X.env := by rfl)
    (he : backTo q7 (starEach [Expr.Call (.Name "range" q2) [e] [] q3] X.env) = (false, eval (.Call (.Name "range" q2) [e] [] q3) X.env) :: backTo q7 (starEach [] X.env) := by rfl) (hpl : (backTo q7 (starEach [Expr.Call (.Name "range" q2) [e] [] q3] X.env)).any (·.1) = false := by rfl)
    (hba : attributeBase (.Name x q4) m X.env (eval (.Name x q4) X.env) = eval (.Name x q4) X.env := by rfl) :
    PE X (.Call (.Name "min" q1) [.Call (.Name "range" q2) [e] [] q3] [⟨some "key", .Attribute (.Name x q4) m q5, q6⟩] q7) (tMinB X.K C m sp i ta) := by
  refine ⟨fun pins s σ H Q I h => wpAny_Call_Name_kw (ld_blt I hgm hmm hvm (PyProof.Rows.callWith_kw ?_ he hpl rfl rfl) (by decide) (by decide))⟩
  refine args_cons ?_ nr
  refine Call_ (ld_blt I hgr hmr boot_range (PyProof.Rows.callWith_type1 (one_arg ha I h (fun v s2 y H2 I2 r2 q => ?_) na) na))
  obtain ⟨n, a, dx, fs, Jp, rfl, n0, n1, hσ, ea, lk, start, step, fin⟩ := q
  obtain ⟨tn, rfl⟩ := r2
  refine call_range_1 (args_nil ?_)
  exact minB_tail hc hu c km F hr hb hN hv hd hcd hba (I2.kept fun b u z => Heap.get?_push_of_some _ z) (I2.fpOk (Nat.le_refl _) (I2.hok.fresh (Nat.le_refl _))) (IsRange.new s2.heap 0 n 1 s2.toks tn (s2.toks + 1)) n0 n1 hσ ea lk start step fin
end
end Hx

/-! Readings by value: min of a range by a bound method. -/
namespace Dv
open PySem L2 PyProof.Rows Hx
/-- the least of the first n things, the first one of these -/
def bestD (ks : Nat → D) (n : Nat) : Nat := argBest (fun i j => ltD (ks i) (ks j)) (n - 1)
def keyOk (d : D) : Bool := isData d && decide ((pd d).depth ≤ 50) && (match d with | .tup _ => true | .int _ => true | .str _ => true | _ => false)
theorem keyOk_ne {d : D} (h : keyOk d = true) : pd d ≠ .none := fun e => by
  unfold keyOk at h
  cases d with
  | tup xs => exact absurd e (by simp [pd])
  | int i => exact absurd e (by simp [pd])
  | str z => exact absurd e (by simp [pd])
  | _ => simp at h
/-- min(range(e), key=x.m), x a local -/
def dMinB (c m : Str) (sp : SpD) (i : Nat) (te : TED) : TED := fun σ S Q => te σ S fun d S1 => ∃ (n : Nat) (o : D) (ks : Nat → D), d = .int n ∧ 0 < n ∧ n < 1000000 ∧ σ[i]? = some (some o) ∧ (∃ ns ys, o = .inst c ns ys ∧ m ∉ ns) ∧ (∀ j, j < n → ∀ Q' : DK, Q' (ks j) S1 → sp [o, .int j] S1 Q' fun _ _ => False) ∧
  (∀ j, j < n → keyOk (ks j) = true) ∧ (∀ j l, j < n → l < n → PySem.W.alike (pd (ks j)) (pd (ks l)) = true) ∧ Q (.int (bestD ks n)) S1
section
variable {X : Cx} {W : Wi} {k i : Nat} {f C fI : Addr} {fd : FuncData} {p1 p2 x c m : Str} {sp : SpD} {e : Expr} {te : TED}
theorem bestD_lt {ks : Nat → D} {n : Nat} (h : 0 < n) : bestD ks n < n := by
  have go : ∀ j, argBest (fun i j => ltD (ks i) (ks j)) j ≤ j := fun j => by
    induction j with
    | zero => exact Nat.le_refl _
    | succ j ih =>
      show (if ltD (ks (j + 1)) (ks (argBest _ j)) = true then j + 1 else argBest _ j) ≤ j + 1
      split <;> omega
  have := go (n - 1)
  unfold bestD
  omega
theorem bestD_step {ks : Nat → D} {j : Nat} (h : 1 ≤ j) : bestD ks (j + 1) = if ltD (ks j) (ks (bestD ks j)) = true then j else bestD ks j := by
  obtain ⟨l, rfl⟩ : ∃ l, j = l + 1 := ⟨j - 1, by omega⟩
  rfl
theorem minB_lift (cl : ClsAt X.K c C) (σ : L2.St) (H : Hp) (Q : VK) (h : upE X.K W (dMinB c m sp i te) σ H Q) : tMinB X.K C m (upF X.K sp) i (upE X.K W te) σ H Q := by
  obtain ⟨s0, S, fr, Qd, ok, cw, h, kq⟩ := h
  refine ⟨s0, S, fr, _, ok, cw, h, fun v d H1 S1 ok1 r1 ⟨n, o, ks, ed, n0, n1, ho, ⟨ns, ys, eo, hm⟩, hsp, hk, hal, q⟩ => ?_⟩
  subst ed eo
  obtain rfl : v = .int n := r1
  obtain ⟨w, hw, rw'⟩ := ok1.si i _ ho
  obtain ⟨C', a, d', fs, c', rfl, ha, sa, en, r⟩ := rw'
  obtain rfl := c'.one cl
  have hd : ∀ {j : Nat}, j < n → isData (ks j) = true := fun {j} hj => by
    have := hk j hj
    unfold keyOk at this
    simp only [Bool.and_eq_true] at this
    exact this.1.1
  have hdp : ∀ {j : Nat}, j < n → (pd (ks j)).depth ≤ 50 := fun {j} hj => by
    have := hk j hj
    unfold keyOk at this
    simp only [Bool.and_eq_true, decide_eq_true_eq] at this
    exact this.1.2
  have args : ∀ {H2 : Hp} {fr2 : List (V × D)} (j : Nat), Ok X.K H2 S1 fr2 s0 σ → RpL X.K H2 S1 [.inst c ns ys, .int (j : Nat)] [.ref a, .int (j : Nat)] := fun {H2 fr2} j ok2 => by
    obtain ⟨w2, hw2, rw2⟩ := ok2.si i _ ho
    rw [hw] at hw2
    injection hw2 with hw2
    injection hw2 with hw2
    subst hw2
    exact rpL_cons rw2 (rpL_cons rfl rpL_nil)
  refine ⟨n, a, d', fs, fun j b kb H2 => 1 ≤ j ∧ b = bestD ks j ∧ Ok X.K H2 S1 ((kb, ks b) :: fr) s0 σ, rfl, n0, n1, hw, ha, lookup_not (by rw [en]; exact hm), ?_, fun j b kb H2 j1 jn ⟨_, eb, ok2⟩ => ?_, fun b kb H2 ⟨_, eb, ok2⟩ => ?_⟩
  · refine ⟨[.inst c ns ys, .int (0 : Nat)], S1, fr ++ prs s0 σ, fun d S' => d = ks 0 ∧ S' = S1, fun _ _ => False, ok1.rel, ok1.out, args 0 ok1, hsp 0 n0 _ ⟨rfl, rfl⟩, fun u d H2 S2 R2 f2 r5 q5 => ?_, fun _ _ _ _ _ _ _ _ z => z.elim⟩
    obtain ⟨e5, e6⟩ := q5
    subst e5 e6
    exact ⟨Nat.le_refl _, rfl, (ok1.back R2 f2).cons r5⟩
  · refine ⟨[.inst c ns ys, .int (j : Nat)], S1, ((kb, ks b) :: fr) ++ prs s0 σ, fun d S' => d = ks j ∧ S' = S1, fun _ _ => False, ok2.rel, ok2.out, args j ok2, hsp j jn _ ⟨rfl, rfl⟩, fun u d H3 S3 R3 f3 r5 q5 => ?_, fun _ _ _ _ _ _ _ _ z => z.elim⟩
    obtain ⟨e5, e6⟩ := q5
    subst e5 e6
    have ok3 := ok2.back R3 f3
    have bn : b < n := by
      have := bestD_lt (ks := ks) (n := j) (by omega)
      omega
    have st := bestD_step (ks := ks) j1
    refine ⟨pd (ks j), pd (ks b), dp_of R3 _ _ (hd jn) r5, dp_of R3 _ _ (hd bn) ok3.head, hal j b jn bn, keyOk_ne (hk j jn), hdp jn, fun hlt => ⟨by omega, ?_, ok3.tail.cons r5⟩, fun hge => ⟨by omega, ?_, ok3⟩⟩
    · rw [st, ← eb, if_pos (show ltD (ks j) (ks b) = true from hlt)]
    · rw [st, ← eb, if_neg (show ¬ ltD (ks j) (ks b) = true by show ¬ PySem.W.dataLt (pd (ks j)) (pd (ks b)) = true; rw [hge]; decide)]
  · subst eb
    exact kq _ (.int (bestD ks n)) H2 S1 ok2.tail rfl q
theorem de_minB {q1 q2 q3 q4 q5 q6 q7 : Pos} (hc : X.calm = true) (hu : X.A.units + 64 < cLine) (Cf : ClF X.K c C fI) (km : BMeth X.K C m f) (F : FnG X.prog X.w X.K X.mg X.base (L2N.CX X.prog X.w) k f fd [p1, p2] (upF X.K sp)) (hr : RoomG (k + 1) X.A) (hb : L2.Binds X.K fd [p1, p2] [])
    (hgm : Gl X "min") (hmm : X.mg "min" = none) (hvm : bootBuiltins "min" = some (.builtin "min")) (hgr : Gl X "range") (hmr : X.mg "range" = none) (hN : X.N[i]? = some x) (hv : Vis X.env.scope x) (he : DE X W e te) (hd : (x == ("__debug__" : Str)) = false := by decide) (hcd : (x == ("__classdict__" : Str)) = false := by decide)
    (na : starEach [e] X.env = (false, eval e X.env) :: starEach [] X.env := by rfl) (nr : starEach [Expr.Call (.Name "range" q2) [e] [] q3] X.env = (false, eval (.Call (.Name "range" q2) [e] [] q3) X.env) :: starEach [] X.env := by rfl)
    (hs : backTo q7 (starEach [Expr.Call (.Name "range" q2) [e] [] q3] X.env) = (false, eval (.Call (.Name "range" q2) [e] [] q3) X.env) :: backTo q7 (starEach [] X.env) := by rfl) (hpl : (backTo q7 (starEach [Expr.Call (.Name "range" q2) [e] [] q3] X.env)).any (·.1) = false := by rfl)
    (hba : attributeBase (.Name x q4) m X.env (eval (.Name x q4) X.env) = eval (.Name x q4) X.env := by rfl) :
    DE X W (.Call (.Name "min" q1) [.Call (.Name "range" q2) [e] [] q3] [⟨some "key", .Attribute (.Name x q4) m q5, q6⟩] q7) (dMinB c m sp i te) :=
  ⟨PE.imp (pe_minB hc hu Cf.cls km F hr hb hgm hmm hvm hgr hmr hN hv he.p hd hcd na nr hs hpl hba) (minB_lift Cf.at_)⟩
end
/-- a method that can be taken as a value -/
def bmB (K : PySem.W.Frag) (C : Addr) (m : Str) (f : Addr) : Bool := methB K C m f && (decide (PySem.W.specialIn K (.ref f) "__get__" = some (some (.builtin "function.__get__"))) && (decide (PySem.W.takesIn K (.ref f) = some false) && (!PySem.W.copiedNames.contains m && PySem.W.fnIn K f)))
theorem bmB_ok {K : PySem.W.Frag} {C : Addr} {m : Str} {f : Addr} (h : bmB K C m f = true) : BMeth K C m f := by
  unfold bmB at h
  obtain ⟨a, h⟩ := and_b h
  obtain ⟨b, h⟩ := and_b h
  obtain ⟨c, h⟩ := and_b h
  obtain ⟨d, e⟩ := and_b h
  exact ⟨methB_ok a, of_decide_eq_true (p := PySem.W.specialIn K (.ref f) "__get__" = some (some (.builtin "function.__get__"))) b, of_decide_eq_true (p := PySem.W.takesIn K (.ref f) = some false) c, by simpa using d, e⟩
end Dv

/-! "1" + e.replace(..).replace(..) and int(text, 2). -/
namespace Hx
open PySem PySem.Spec PyProof.Rows L2
section
variable {X : Cx}
end
section
open PySem.NumText PySem.Calls
end
section
open PySem.StrLaws
end
end Hx

/-! Readings by value: "1" + text.replace(..).replace(..), int(text, 2). -/
namespace Dv
open PySem PySem.Spec L2 PyProof.Rows Hx
section
variable {X : Cx} {W : Wi}
end
end Dv

/-! zip of two tuples of one length, strict=True. -/
namespace Hx
open PySem PySem.Spec PyProof.Rows L2 RZ
section
variable {prog : Program} {w : World} {A : Around} {E : Value → Shared → Prop} {s : Shared}
end
section
variable {prog : Program} {w : World} {A : Around} {E : Value → Shared → Prop} {s : Shared}
end
end Hx

/-! Readings by value: a local name that holds a def of the module; zip(.., .., strict=True) of two tuples; x.bit_length(). -/
namespace Dv
open PySem PySem.Spec L2 PyProof.Rows Hx
section
variable {X : Cx} {W : Wi} {k i : Nat} {x : Str} {p pos : Pos} {e : Expr} {es : List Expr} {t : TAD} {cs : List (Str × SpD)}
/-! ### zip, strict -/
/-! ### bit_length -/
/-! ### list(x), stored into later -/
end
end Dv

/-! Readings by value: the truth of an instance whose class has neither __bool__ nor __len__. -/
namespace Dv
open PySem PySem.Spec L2 PyProof.Rows Hx
section
variable {X : Cx} {W : Wi} {a : Expr} {ta : TE} {C fI : Addr} {n : Str}
end
/-! ### a tracked list that is changed no more: from here on a plain one -/
end Dv

/-! How often a truth stands in a list of truths. -/
namespace Dv
open PySem PySem.Spec L2 PyProof.Rows Hx
section
variable {X : Cx} {W : Wi} {o e : Expr} {es : List Expr} {to : TED} {t : TAD} {apos cpos : Pos}
end
end Dv

/-! == and != of an instance whose class has an __eq__ of its own and no __ne__. -/
namespace Hx
open PySem PySem.Spec PyProof.Rows L2
open Builtin
section
variable {prog : Program} {w : World} {A : Around} {E : Value → Shared → Prop} {s : Shared} {K : PySem.W.Frag} {x C f : Addr} {ox : Obj} {od : Option Obj} {b tb : Value}
end
end Hx

/-! ==, != and str of instances by value. -/
namespace Hx
open PySem PySem.Spec PyProof.Rows L2
end Hx
namespace Dv
open PySem L2 PyProof.Rows Hx
section
variable {X : Cx} {k : Nat} {n : Str} {ps : List Str} {C f fI : Addr} {fd : FuncData} {sp : SpD}
end
end Dv

/-! for i, x in enumerate(xs); isinstance by a class of the text. -/
namespace Dv
open PySem L2 PyProof.Rows Hx
/-! ### isinstance by a class of the text -/
end Dv

/-! str(whole number), str(text). -/
namespace Dv
open PySem L2 PyProof.Rows Hx
def rdStr : RDC := fun ds S Q => match ds with
  | [.int i] => i.natAbs.log2 < 1920 ∧ Q (.str (toString i)) S
  | [.str z] => Q (.str z) S
  | _ => False
theorem x_str_i {i : Int} {S : Sd} {Q : DK} : rdStr [.int i] S Q = (i.natAbs.log2 < 1920 ∧ Q (.str (toString i)) S) := rfl
theorem x_str_s {z : Str} {S : Sd} {Q : DK} : rdStr [.str z] S Q = Q (.str z) S := rfl
end Dv

/-! data == an instance: the data's own == declines, then the instance's __eq__ is asked. -/
namespace Hx
open PySem PySem.Spec PySem.SeqAt PyProof.Rows L2
open AutoSeq1 (wpAny_loadPart')
open Builtin
section
variable {prog : Program} {w : World} {A : Around} {E : Value → Shared → Prop} {s : Shared} {K : PySem.W.Frag} {y C f : Addr} {oy : Obj} {od : Option Obj} {a : Value} {Ta ida : String}
end
end Hx
namespace Dv
open PySem L2 PyProof.Rows Hx
section
variable {X : Cx} {k : Nat} {n : Str} {ps : List Str} {C f fI : Addr} {fd : FuncData} {sp : SpD}
end
end Dv

/-! an instance in [None, an instance]: by the class's own __eq__. -/
namespace Hx
open PySem PySem.Spec PySem.SeqAt PyProof.Rows L2
open AutoSeq1 (wpAny_loadPart')
open MeetsSeq MeetsSeq2 MeetsSeq3 SeqRoads2
open Builtin
section
variable {prog : Program} {w : World} {A : Around} {R : Result → Shared → Prop}
end
section
variable {X : Cx} {CX : CXT} {k : Nat} {C f : Addr} {fd : FuncData} {ps : List Str} {sp : Sp}
end
end Hx
namespace Dv
open PySem L2 PyProof.Rows Hx
end Dv

/-! "text" + x.replace(a, b). -/
namespace Dv
open PySem PySem.Spec L2 PyProof.Rows Hx
end Dv

/-! bool(x), x an instance whose class has a __len__ of its own and no __bool__. -/
namespace Hx
open PySem PySem.Spec PyProof.Rows L2
open Builtin
section
variable {prog : Program} {w : World} {A : Around} {E : Value → Shared → Prop} {s : Shared} {K : PySem.W.Frag} {a C f : Addr} {ox : Obj} {od : Option Obj}
end
end Hx

/-! Readings by value: bool of an instance by its own __len__; the place of data in a list of data. -/
namespace Dv
open PySem PySem.Spec L2 PyProof.Rows Hx
end Dv

/-! t[::-1] of a tuple, what is made being known whole. -/
namespace Dv
open PySem PySem.Spec PyProof.Rows L2 Hx
section
variable {X : Cx} {W : Wi} {e : Expr} {te : TED} {pos : Pos}
end
end Dv

/-! list(range(e)) by value; an expression that is never asked. -/
namespace Dv
open PySem PySem.Spec PyProof.Rows L2 Hx
section
variable {X : Cx} {W : Wi} {a e : Expr} {ta : TED}
end
end Dv

/-! A try whose body raises nothing. -/
namespace Hx
open PySem PySem.Spec PyProof.Rows L2
variable {X : Cx}
end Hx
namespace Dv
open PySem PySem.Spec PyProof.Rows L2 Hx
variable {X : Cx} {W : Wi} {pos : Pos}
end Dv

/-! An instance that is made and stored into again; a field that is stored anew; an instance handed out for good. -/
namespace Dv
open PySem PySem.Spec L2 PyProof.Rows Hx
section
variable {X : Cx} {W : Wi} {k : Nat} {f C fI : Addr} {fd : FuncData} {ps : List Str} {sp : SpD} {ds : List Value} {dvs : List V} {dds : List D} {x n m g : Str} {p pos apos pos' : Pos} {o e : Expr} {es : List Expr} {to tv : TED} {t : TAD}
end
end Dv

/-! A method without arguments, called while an exception is handled. -/
namespace Dv
open PySem PySem.Spec L2 PyProof.Rows Hx
section
variable {X : Cx} {k : Nat} {f C fI : Addr} {fd : FuncData} {ps : List Str} {sp : SpD} {n m : Str} {pos apos : Pos} {o : Expr} {to : TED} {ta : TE}
end
end Dv

namespace Hx
open PySem PySem.Spec PyProof.Rows L2 HotX
section
variable {prog : Program} {w : World} {A : Around} {E : Value → Shared → Prop} {s : Shared}
end
section
variable {X : Cx} {pos : Pos}
end
end Hx
namespace Dv
open PySem PySem.Spec L2 PyProof.Rows Hx
end Dv

/-! str of a tuple; a dict of two written keys asked with a default; ==, != and isinstance of instances of other classes; an instance in a list of two. -/
namespace Hx
open PySem PySem.Spec PyProof.Rows L2
end Hx
namespace Dv
open PySem PySem.Spec L2 PyProof.Rows Hx
section
variable {K : PySem.W.Frag} {W : Wi} {z1 z2 : Str} {i : Nat}
end
section
variable {X : Cx} {W : Wi} {z1 z2 x : Str} {i : Nat} {m1 m2 m3 m4 : Nat} {q1 q2 q3 q4 q5 q6 dpos np np2 sp2 pos apos : Pos}
end
/-! ### instances of other classes -/
section
variable {X : Cx} {k : Nat} {n : Str} {ms ps : List Str} {C f fI : Addr} {fd : FuncData} {sp : SpD}
end
end Dv

/-! an instance in a list of two instances: by the class's own __eq__. -/
namespace Hx
open PySem PySem.Spec PySem.SeqAt PyProof.Rows L2
open AutoSeq1 (wpAny_loadPart')
open MeetsSeq MeetsSeq2 MeetsSeq3 SeqRoads2
open Builtin
section
variable {prog : Program} {w : World} {A : Around} {R : Result → Shared → Prop}
end
section
variable {X : Cx} {CX : CXT} {k : Nat} {C f : Addr} {fd : FuncData} {ps : List Str} {sp : Sp}
end
end Hx
namespace Dv
open PySem L2 PyProof.Rows Hx
end Dv

/-! xs[-2::-1] of a tuple: all but the last one, from behind. -/
namespace HT
open PySem PyProof.Rows
section
variable {prog : Program} {w : World} {A : Around} {E : Value → Shared → Prop} {s : Shared}
end
end HT
namespace Dv
open PySem PySem.Spec L2 PyProof.Rows Hx HT
section
variable {X : Cx} {W : Wi} {e : Expr} {te : TED} {pos : Pos}
/-- xs[-2::-1] -/
def dBk (te : TED) : TED := fun σ S Q => te σ S fun x S1 => match x with
  | .tup ds => Q (.tup ds.dropLast.reverse) S1
  | _ => False
end
end Dv

/-! while an exception is handled: a comprehension within an expression, range in it, min of a list of data. -/
namespace Hx
open PySem PySem.Spec PyProof.Rows L2 HotX
section
variable {prog : Program} {w : World} {A : Around} {E : Value → Shared → Prop} {s : Shared}
theorem hot_in1 {x1 : Addr} {h : Heap} (hot : HotAt A x1 h) : HotAt A.in1 x1 h := hot
theorem hot_keep {x1 : Addr} {h h' : Heap} (hot : HotAt A x1 h) (k : ∀ o, h.get? x1 = some o → h'.get? x1 = some o) : HotAt A x1 h' :=
  let ⟨hh, o1, v1, g1, d1, c1⟩ := hot
  ⟨hh, o1, v1, k _ g1, d1, c1⟩
/-- a list's walk -/
theorem walks_listHot (I ax x1 : Addr) (hne : ax ≠ I) (items : Array Value) :
    Walks prog w A I [I, ax, x1] [I] items.size (fun i v => items[i]? = some v) (fun i h => h.IsListIter I ax i ∧ h.IsList ax items ∧ HotAt A x1 h) where
  sub := fun b hb => by rw [List.mem_singleton.mp hb]; simp
  frame := fun _ _ _ st hk => ⟨st.1.at fun o e => hk I (by simp) o e, st.2.1.at fun o e => hk ax (by simp) o e, hot_keep st.2.2 fun o e => hk x1 (by simp) o e⟩
  item := fun i s Q E hi st hQ => by
    have ne : I ≠ x1 := let ⟨o, ho, _, hd⟩ := st.1; hot_ne st.2.2 ho hd
    refine wpAny_pyNext_list_item st.1 st.2.1 (x := items[i]) (by simp [hi]) fun h' hit' hs' => ?_
    exact hQ _ h' s.toks (by simp [hi]) ⟨hit', st.2.1.extBut hs'.extBut hne, hot_keep st.2.2 fun o e => hs'.extBut x1 o (Ne.symm ne) e⟩ fun b o hb e => hs'.extBut b o (fun h => hb (by simp [h])) e
  done := fun s Q E st hQ => list_end_hot st.2.2 st.1 st.2.1 (by simp) fun h' he' => hQ h' s.toks fun b o hb e => he' b o (fun h => hb (by simp [h])) e
  self := fun _ _ _ _ st hQ => wpAny_pyIter_listiter st.1 hQ
theorem iter_listH {l x1 : Addr} {vs : Array Value} {Q : Value → Shared → Prop} (hot : HotAt A x1 s.heap) (hl : s.heap.IsList l vs)
    (h : ∀ s₂ : Shared, s₂ = { s with heap := s.heap.push { cls := .type "list_iterator", data := .fields #[.ref l, .int 0 0] } } →
      WalksS prog w A s.heap.objs.size [s.heap.objs.size, l, x1] [s.heap.objs.size] (fun a b => b = a) vs.size (fun i v => vs[i]? = some v) (fun i s' => s'.heap.IsListIter s.heap.objs.size l i ∧ s'.heap.IsList l vs ∧ HotAt A x1 s'.heap) →
      (s₂.heap.IsListIter s.heap.objs.size l 0 ∧ s₂.heap.IsList l vs ∧ HotAt A x1 s₂.heap) → (∀ b ∈ [s.heap.objs.size, l, x1], b < s₂.heap.objs.size) → (∀ b o, s.heap.get? b = some o → b ∉ [s.heap.objs.size]) → (∀ b o, s.heap.get? b = some o → s₂.heap.get? b = some o) → Q (.ref s.heap.objs.size) s₂) :
    wpAny (model prog w) A (pyIter (.ref l)) Q E s := by
  have l1 : l < s.heap.objs.size := by obtain ⟨_, e, _⟩ := hl; exact Heap.lt_size e
  have l2 : x1 < s.heap.objs.size := by obtain ⟨_, o1, v1, g1, _⟩ := hot; exact Heap.lt_size g1
  refine wpAny_pyIter_list hl (h _ rfl (walks_listHot (A := A) _ l x1 (Nat.ne_of_lt l1) vs).toS ⟨⟨_, Heap.get?_push_size _ rfl, rfl, rfl⟩, hl.push _, hot_keep hot fun o e => Heap.get?_push_of_some _ e⟩ (fun b hb => ?_) (fun b o e hb => ?_) fun b o e => Heap.get?_push_of_some _ e)
  · show b < (s.heap.push _).objs.size
    rw [Heap.size_push]
    simp only [List.mem_cons, List.not_mem_nil, or_false] at hb
    rcases hb with e | e | e <;> rw [e]
    · exact Nat.lt_succ_self _
    · exact Nat.lt_succ_of_lt l1
    · exact Nat.lt_succ_of_lt l2
  · rw [List.mem_singleton.mp hb] at e
    exact absurd (Heap.lt_size e) (Nat.lt_irrefl _)
end
section
variable {X : Cx}
theorem cr_minDH (hc : L2H.HotC X) (hu : X.A.units + 64 < cLine) : CallR X (.builtin "min") (rMinD X.K) := by
  intro pins s σ H vs us Q J r1 ⟨l, bs, e1, hs, hd, hal, hn, hdep, q⟩
  subst e1
  rw [Vals.ref1 r1]
  obtain ⟨its, rv, pl, _⟩ := J.list hs
  have hl : its.toArray.size = bs.length := by rw [List.size_toArray, ← rv.length, List.length_map]
  have hra : ∀ {bs : List (V × PyData)} {its : List Value}, PySem.W.EachIs (fun v (b : V × PyData) => ∃ as, Reads s.heap v b.2 as) its bs → ∃ as, ReadsAll s.heap its (bs.map Prod.snd) as := fun h => PySem.W.each_readsAll Prod.snd h
  obtain ⟨as, hr⟩ := hra (each_reads J (each_vals rv) hd)
  obtain ⟨x1, hot⟩ := hc.at J
  refine call_min_walkH (iter_listH (A := X.A.in1) (hot_in1 hot) pl.isList fun s₂ e W st hfp hw hk => ?_)
  refine ⟨_, _, _, _, _, _, _, s.heap, _, rfl, W, st, hfp, by omega, hw, hk, PySem.W.cmpIn_lt (A := X.A.in1) (vs := its.toArray) hr hal (by show X.A.units + 1 + _ < _; omega), fun v s' hP m => ?_⟩
  obtain ⟨h', tk, rfl, hk'⟩ := PySem.W.moved_old e rfl m
  rw [hl] at hP
  obtain ⟨x, hx, rx⟩ := vals_at rv hP
  exact ⟨x, H, J.kept hk', rx, q x hx⟩
end
section
variable {X : Cx} {pins : List (Addr × Obj)} {σ : L2.St} {H : Hp} {s : Shared}
/-- [elt for target in iter if ..] within an expression, an exception being handled -/
theorem pe_lcH {elt tg iter : Expr} {ifs : List Expr} {scope : Scope} {own : List (Str × Nat)} {pos : Pos} {wi : TI} {g : TG} {tt : TT} {te : TE} (hc : L2H.HotC X) (hN : X.N.Nodup) (hi : L2H.PIH X tg iter wi) (ok : BlkOk X.N X.env.scope scope own)
    (hg : ∀ (s : Shared) (H : Hp) (C : Addr) (cl : List (Str × Addr)) (fp : List Addr), PG (blkP X s H scope (compEnvC scope cl C X.env) fp) tg g) (ht : ∀ (s : Shared) (H : Hp) (C : Addr) (cl : List (Str × Addr)) (fp : List Addr), PTs (blkP X s H scope (compEnvC scope cl C X.env) fp) ifs tt)
    (he : ∀ (s : Shared) (H : Hp) (C : Addr) (cl : List (Str × Addr)) (fp : List Addr), PE (blkP X s H scope (compEnvC scope cl C X.env) fp) elt te) (hs : ∀ x, foldedSetIterable iter X.env x = pure x := by intro _; rfl) :
    PE X (.ListComp elt [⟨tg, iter, ifs, 0⟩] scope pos) (tLc wi g tt te (own.map (·.2))) := by
  refine ⟨fun pins s σ H Q I h => ?_⟩
  rw [eval_ListComp]
  have hfree : ∀ z ∈ scope.names, z.2 = .free → ∃ c, X.env.cells.lookup z.1 = some c := fun z hz e => I.ok.has _ ((ok.free z hz e).imp id id)
  refine wpAny_comprehension_free (use := none) (Q := EP X pins σ Q) rfl hs (closure_ok hfree) ok.kind (fun z hz e => by rw [ok.uniq z hz, e])
    (thn (hi.run pins s σ H _ I h) fun _ s1 hx => thn hx fun itv s2 ⟨it, fp, tn, J, H2, e, I2, T, st2, f2, q⟩ => ?_)
  subst e
  refine wpAny_newObj_type (newEnv_comp ?_) (Nat.zero_le _)
  obtain ⟨L, hL⟩ : ∃ L, L = s2.heap.objs.size := ⟨_, rfl⟩
  obtain ⟨s3, h3⟩ : ∃ s3 : Shared, s3 = { s2 with heap := s2.heap.push { cls := .type "list", data := .seq ([] : List Value).toArray } } := ⟨_, rfl⟩
  have old : ∀ b o, s2.heap.get? b = some o → s3.heap.get? b = some o := fun b o e => by rw [h3]; exact Heap.get?_push_of_some _ e
  obtain ⟨W, ⟨m0, w0⟩, turn⟩ := q L (I2.hok.fresh (Nat.le_of_eq hL.symm))
  obtain ⟨H3, eH3⟩ : ∃ H3, H3 = upd H2 L (.lst []) := ⟨_, rfl⟩
  have I3 : Inv X pins σ H3 s3 := by
    rw [h3, eH3]
    exact I2.laid (t' := s2.toks) (fun b o e => Heap.get?_push_of_some _ e) (Nat.le_of_eq hL.symm) ⟨Nat.zero_le _, [], 0, .nil, by rw [hL]; exact Heap.get?_push_size _ rfl⟩
  have f3 : ∀ b ∈ fp, FpOk X pins H3 b ∧ b < s3.heap.objs.size := fun b hb => by
    obtain ⟨o, e, _⟩ := T.obj _ _ st2 b hb
    refine ⟨⟨?_, (f2 b hb).2⟩, Heap.lt_size (old b o e)⟩
    rw [eH3, upd_ne (by rw [hL]; exact Nat.ne_of_lt (Heap.lt_size e))]
    exact (f2 b hb).1
  have st3 := T.keep _ _ _ st2 fun b _ => old b
  have I4 := blkP_start I3 ok hN f3
  rw [← h3, ← hL]
  obtain ⟨C, hC⟩ : ∃ C, C = s3.heap.objs.size := ⟨_, rfl⟩
  rw [← hC] at I4 ⊢
  obtain ⟨cl, hcl⟩ : ∃ cl, cl = cellsFrom (C + 1) scope.names (cloFrom X.env.cells scope.names []) := ⟨_, rfl⟩
  rw [← hcl] at I4 ⊢
  have pg := hg s3 H3 C cl fp
  have pt := ht s3 H3 C cl fp
  have pe := he s3 H3 C cl fp
  have hot : L2H.HotC (blkP X s3 H3 scope (compEnvC scope cl C X.env) fp) := hc
  generalize hs4 : ({ s3 with heap := pushCells (s3.heap.push { cls := .type "dict", data := .dict #[] }) scope.names } : Shared) = s4 at I4 ⊢
  have st4 : tn 0 s4.heap := T.keep _ _ _ st3 fun b _ o e => by rw [← hs4]; exact pushCells_keeps _ _ _ _ (Heap.get?_push_of_some _ e)
  have stat : ∀ {σ' : L2.St} {H' : Hp} {s' : Shared}, Inv (blkP X s3 H3 scope (compEnvC scope cl C X.env) fp) [] σ' H' s' → (∀ b ∈ fp, H' b = none) → ∀ b ∈ fp, FpOk (blkP X s3 H3 scope (compEnvC scope cl C X.env) fp) [] H' b := fun I' hn b hb =>
    ⟨hn b hb, (I'.ok.exf b hb).1, I'.ok.exfs b hb, .inl hb, fun x c e => (I'.ok.exf b hb).2 x c e, fun p hp => (f3 b hb).1.2.2.2.2.2 p (List.mem_append_left _ (by simpa using hp))⟩
  have loop : codeAny (model X.prog X.w) X.A (.compLoop (.ListComp elt [⟨tg, iter, ifs, 0⟩] scope pos) 0 (.ref it) (.ref L) (compEnvC scope cl C X.env))
      (compPost (model X.prog X.w) X.A X.xe none (EP X pins σ Q) (.ref L) C) s4 := by
    refine compLoop_any (fun n s' => ∃ j H', Inv (blkP X s3 H3 scope (compEnvC scope cl C X.env) fp) [] (wipe σ (own.map (·.2))) H' s' ∧ tn j s'.heap ∧ (∀ b ∈ fp, H' b = none) ∧ W j n H') ?_ m0 ⟨0, H3, I4, st4, fun b hb => (f3 b hb).1.1, by rw [eH3]; exact w0⟩
    rintro n s5 ⟨j, H5, I5, st5, n5, w5⟩
    rcases turn j n H5 w5 with ⟨stop, qq⟩ | ⟨go, Nx, hNx, step⟩
    · refine thnF (T.done (blkP X s3 H3 scope (compEnvC scope cl C X.env) fp) rfl rfl rfl hot j [] s5 _ H5 _ I5 (stat I5 n5) st5 stop) fun r s6 ⟨hr, I6⟩ => ?_
      subst hr
      have I7 : Inv X pins σ H5 s6 := I3.call' (ch := fp) I6.os I6.base I6.hok I6.bare fun b hb => let f := (f3 b hb).1.2; ⟨f.2.2.1, f.1, f.2.2.2.1, f.2.2.2.2⟩
      obtain ⟨m, hn, _⟩ := I6.loc
      have hn : s6.heap.Ns C m := hn
      have fC := I3.fpOk (b := C) (H' := H5) (Nat.le_of_eq hC.symm) I6.free
      exact ⟨m, hn, fun h9 sb9 => ⟨.ref L, H5, I7.turned (t' := s6.toks) (fun b o hb e => (sb9.2 b hb).trans e) fC.1 fC.2.1 fC.2.2.2.1 fC.2.2.2.2.1 fC.2.2.2.2.2, rfl, qq⟩⟩
    · refine thnF (T.item (blkP X s3 H3 scope (compEnvC scope cl C X.env) fp) rfl rfl rfl hot j [] s5 _ H5 _ I5 (stat I5 n5) st5 go) fun r s6 ⟨u, hr, h6⟩ => ?_
      subst hr
      refine thnF h6 fun _ s7 ⟨x, H7, I7, r7, y7, st7, n7⟩ => ?_
      refine thnF (pg.run _ s7 _ H7 x u _ (I7.pinned (stat I7 n7) (T.obj _ _ st7)) r7 (step x H7 y7)) fun _ s8 ⟨σ8, H8, I8, hw8, q8⟩ => thnF (pt.run _ s8 σ8 H8 _ I8 q8) fun b s9 ⟨H9, I9, q9⟩ => ?_
      have fin : ∀ {s' : Shared} {H' : Hp}, Inv (blkP X s3 H3 scope (compEnvC scope cl C X.env) fp) ([] ++ pinsAt fp s7.heap) σ8 H' s' → Nx H' →
          ∃ m, m < n ∧ ∃ j H', Inv (blkP X s3 H3 scope (compEnvC scope cl C X.env) fp) [] (wipe σ (own.map (·.2))) H' s' ∧ tn j s'.heap ∧ (∀ b ∈ fp, H' b = none) ∧ W j m H' := fun {s' H'} I' nx => by
        obtain ⟨m', hm, w'⟩ := hNx H' nx
        have pin' : ∀ b ∈ fp, ∀ o, s7.heap.get? b = some o → s'.heap.get? b = some o ∧ H' b = none := fun b hb o e => (I'.pin (b, o) (List.mem_append_right _ (List.mem_append_right _ (mem_pinsAt hb e)))).imp id fun z => z.1
        refine ⟨m', hm, j + 1, H', (I'.unpinned (pins := [])).weak (by rw [← hw8, wipe_length]) (fun l v e => (wipe_some (by rw [hw8]; exact e)).1), T.keep _ _ _ st7 fun b hb o e => (pin' b hb o e).1, fun b hb => ?_, w'⟩
        obtain ⟨o, e, _⟩ := T.obj _ _ st7 b hb
        exact (pin' b hb o e).2
      cases b with
      | false =>
        rw [if_neg Bool.false_ne_true] at q9 ⊢
        exact fin I9 q9
      | true =>
        rw [if_pos rfl] at q9 ⊢
        refine thnF (pe.run _ s9 σ8 H9 _ I9 q9) fun z s10 ⟨yv, H10, I10, r10, acc, hD, hz, nx⟩ => ?_
        exact app_ok (X := blkP X s3 H3 scope (compEnvC scope cl C X.env) fp) I10 hD hz r10 fun s11 I11 => fin I11 nx
  exact codeAny_compStart_list loop (T.self X.A 0 _ _ _ st4 loop)
end
end Hx
namespace Dv
open PySem PySem.Spec L2 PyProof.Rows Hx
theorem cd_minDH {X : Cx} (hc : L2H.HotC X) (hu : X.A.units + 64 < cLine) : CallD X (.builtin "min") rdMinD := ⟨_, cr_minDH hc hu, fun H S fr σd σ xs ds Qv Qd ok r h k => by
  cases ds with
  | nil => exact h.elim
  | cons d t => cases t with
    | cons _ _ => exact h.elim
    | nil =>
      obtain ⟨v, rfl, r0⟩ := rpL1 r
      obtain ⟨es, e, hal, hn, q⟩ := h
      obtain ⟨a, vs, rfl, q1, r1⟩ := rp_lstD ok.rel r0 e
      have hl := rpL_len r1
      have hp := prV_rp r1
      have ef := prV_fst hl
      have es' := prV_snd hl
      generalize hcs : prV vs es = cs at *
      have mem : ∀ c ∈ cs, c.2 ∈ es := fun c hc => by rw [← es']; exact List.mem_map_of_mem hc
      have e1 : (cs.map fun c => (c.1, pd c.2)).map Prod.fst = vs := by rw [List.map_map]; exact ef
      have e2 : (cs.map fun c => (c.1, pd c.2)).map Prod.snd = es.map pd := by rw [List.map_map, ← es', List.map_map]; rfl
      have el : (cs.map fun c => (c.1, pd c.2)).length = es.length := by
        have := congrArg List.length es'
        rw [List.length_map] at this ⊢
        exact this
      have hAA : PySem.W.AlikeAll (es.map pd) := ⟨fun x hx y hy => alike_all hal x hx y hy, fun x hx => by
        obtain ⟨a, ha, rfl⟩ := List.mem_map.mp hx
        exact (alike_at hal ha).2.2.2⟩
      refine ⟨a, cs.map fun c => (c.1, pd c.2), rfl, by rw [e1]; exact q1, fun b hb => ?_, by rw [e2]; exact hAA, by rw [el]; exact hn, by rw [e2]; exact depthAll_le fun a ha => (alike_at hal ha).2.2.1, fun x hx => ?_⟩
      · obtain ⟨c, hc, rfl⟩ := List.mem_map.mp hb
        exact dp_of ok.rel c.2 c.1 (alike_at hal (mem c hc)).1 (hp c hc)
      · rw [e1, e2, el] at hx
        have eb : argBest (fun i j => PySem.W.dataLt ((es.map pd).getD i .none) ((es.map pd).getD j .none)) (es.length - 1) = argBest (fun i j => ltD (es.getD i .non) (es.getD j .non)) (es.length - 1) := by
          congr 1
          funext i j
          rw [getD_pd, getD_pd]
          rfl
        rw [eb] at hx
        obtain ⟨y, hy⟩ : ∃ y, es[argBest (fun i j => ltD (es.getD i .non) (es.getD j .non)) (es.length - 1)]? = some y := by
          obtain ⟨hlt, _⟩ := List.getElem?_eq_some_iff.mp hx
          exact ⟨_, List.getElem?_eq_getElem (by omega)⟩
        obtain ⟨v, hv, rv⟩ := rpL_get r1 hy
        rw [hv] at hx
        cases hx
        exact k _ y H S ok rv (q y hy)⟩

section
variable {X : Cx} {W : Wi} {pos : Pos}
theorem dih_rng1 {a tg : Expr} {ta : TAD} {p pos : Pos} (hg : Gl X "range") (hm : X.mg "range" = none) (ha : DA X W [a] ta) (hs : starEach [a] X.env = [(false, eval a X.env)] := by rfl) : DIH X W tg (.Call (.Name "range" p) [a] [] pos) (dRng1 ta) :=
  ⟨⟨fun pins s σ H R I ⟨σd, S, fr, Rd, ok, cl, h, k⟩ => (L2H.pi_range1H (tg := tg) hg hm ha.p hs).run pins s σ H R I ⟨σd, S, fr, _, ok, cl, h, fun vs ds H1 S1 ok1 r1 q => by
    cases ds with
    | nil => exact (show False from q).elim
    | cons d r => cases r with
      | cons _ _ => cases d <;> exact (show False from q).elim
      | nil => cases d with
        | int j =>
          obtain ⟨v, rfl, r2⟩ := rpL1 r1
          have e : v = .int j := r2
          subst e
          exact ⟨j, rfl, q.1.1, q.1.2, k _ _ H1 S1 [] ok1 itd_rng q.2⟩
        | _ => exact (show False from q).elim⟩⟩⟩
theorem de_lcH {elt tg iter : Expr} {ifs : List Expr} {scope : Scope} {own : List (Str × Nat)} {ti : TID} {g : TGD} {tt : TTD} {te : TED} (hc : L2H.HotC X) (hN : X.N.Nodup) (hi : DIH X W tg iter ti) (ok : BlkOk X.N X.env.scope scope own)
    (hg : ∀ (s : Shared) (H : Hp) (C : Addr) (cl : List (Str × Addr)) (fp : List Addr), DG (blkP X s H scope (compEnvC scope cl C X.env) fp) W0 (own.map (·.2)) tg g) (ht : ∀ (s : Shared) (H : Hp) (C : Addr) (cl : List (Str × Addr)) (fp : List Addr), DTs (blkP X s H scope (compEnvC scope cl C X.env) fp) W0 ifs tt)
    (he : ∀ (s : Shared) (H : Hp) (C : Addr) (cl : List (Str × Addr)) (fp : List Addr), DE (blkP X s H scope (compEnvC scope cl C X.env) fp) W0 elt te) (hs : ∀ x, foldedSetIterable iter X.env x = pure x := by intro _; rfl) :
    DE X W (.ListComp elt [⟨tg, iter, ifs, 0⟩] scope pos) (dComp ti g tt te (own.map (·.2))) :=
  ⟨PE.imp (pe_lcH hc hN hi.p ok (fun s H C cl fp => (hg s H C cl fp).p) (fun s H C cl fp => (ht s H C cl fp).p) (fun s H C cl fp => (he s H C cl fp).p) hs) fun σ H Q h => lc_lift σ H Q h⟩
end
end Dv

/-! Readings by value, z: urns, draws, small data, words. -/
namespace Dv
open PySem L2 PyProof.Rows
theorem mulOk {a b : Int} (m n : Nat) (ha : a.natAbs < 2 ^ m) (hb : b.natAbs < 2 ^ n) (h0 : 0 < m) (h1 : 0 < n) (h : m + n ≤ 1000000) : a.natAbs.log2 + b.natAbs.log2 < 1000000 := by
  have x := log2_lt ha h0
  have y := log2_lt hb h1
  omega
theorem powOk {a : Int} (m : Nat) (j : Int) (ha : a.natAbs < 2 ^ m) (h0 : 0 < m) (hj : 0 ≤ j) (h : (m : Int) * j ≤ 134217728) : 0 ≤ j ∧ ((a.natAbs.log2 : Int) + 1) * j ≤ 134217728 := by
  have x := log2_lt ha h0
  refine ⟨hj, Int.le_trans (Int.mul_le_mul_of_nonneg_right ?_ hj) h⟩
  omega
theorem fmod_in {a b : Int} (h : 0 < b) : 0 ≤ a.fmod b ∧ a.fmod b < b := by
  rw [Int.fmod_eq_emod_of_nonneg a (Int.le_of_lt h)]
  exact ⟨Int.emod_nonneg a (by omega), Int.emod_lt_of_pos a h⟩
theorem abs_lt_of {a : Int} {n : Nat} (h0 : 0 ≤ a) (h1 : a < 2 ^ n) : a.natAbs < 2 ^ n := by
  have e : ((2 ^ n : Nat) : Int) = 2 ^ n := by simp
  omega
def primes : List D := [.int 2147483647, .int 2147483629, .int 2147483587, .int 2147483579, .int 2147483563, .int 2147483549, .int 2147483543]
theorem primes_at {k : Int} (h0 : 0 ≤ k) (h1 : k < 7) : ∃ p, atI primes k = some (.int p) ∧ 2147483543 ≤ p ∧ p < 2147483648 := by
  have c : k = 0 ∨ k = 1 ∨ k = 2 ∨ k = 3 ∨ k = 4 ∨ k = 5 ∨ k = 6 := by omega
  rcases c with rfl | rfl | rfl | rfl | rfl | rfl | rfl
  · exact ⟨2147483647, atI_nat (j := 0) rfl, by decide, by decide⟩
  · exact ⟨2147483629, atI_nat (j := 1) rfl, by decide, by decide⟩
  · exact ⟨2147483587, atI_nat (j := 2) rfl, by decide, by decide⟩
  · exact ⟨2147483579, atI_nat (j := 3) rfl, by decide, by decide⟩
  · exact ⟨2147483563, atI_nat (j := 4) rfl, by decide, by decide⟩
  · exact ⟨2147483549, atI_nat (j := 5) rfl, by decide, by decide⟩
  · exact ⟨2147483543, atI_nat (j := 6) rfl, by decide, by decide⟩
theorem ixN_0 {n : Nat} (h : 0 < n) : ixN n 0 = some 0 := ixN_nat h
theorem ixN_2 {n : Nat} (h : 2 < n) : ixN n 2 = some 2 := ixN_nat h
/-! ### small data -/
def isWh : D → Bool
  | .int _ => true
  | _ => false
mutual
/-- ints below 2 ^ n, texts of at most 100000 signs -/
def sm (n : Nat) : D → Bool
  | .int i => decide (i.natAbs < 2 ^ n)
  | .str z => decide (z.length ≤ 100000)
  | .non => true | .bl _ => true
  | .tup ds => smL n ds
  | .lst ds => smL n ds
  | _ => false
def smL (n : Nat) : List D → Bool
  | [] => true
  | d :: ds => sm n d && smL n ds
end
theorem smL_iff {n : Nat} : ∀ {ds : List D}, smL n ds = true ↔ ∀ d ∈ ds, sm n d = true
  | [] => by simp [smL]
  | d :: ds => by
    have ih := smL_iff (n := n) (ds := ds)
    simp only [smL, Bool.and_eq_true, List.mem_cons, ih]
    constructor
    · rintro ⟨h1, h2⟩ x (rfl | hx)
      · exact h1
      · exact h2 x hx
    · intro h
      exact ⟨h d (.inl rfl), fun x hx => h x (.inr hx)⟩
mutual
theorem sm_data {n : Nat} : ∀ {d : D}, sm n d = true → isData d = true
  | .int _, _ => rfl
  | .non, _ => rfl
  | .bl _, _ => rfl
  | .str _, _ => rfl
  | .tup ds, h => smL_data (ds := ds) h
  | .lst ds, h => smL_data (ds := ds) h
  | .tupX _, h => absurd (show false = true from h) Bool.false_ne_true
  | .inst _ _ _, h => absurd (show false = true from h) Bool.false_ne_true
  | .obj _, h => absurd (show false = true from h) Bool.false_ne_true
  | .ty _, h => absurd (show false = true from h) Bool.false_ne_true
theorem smL_data {n : Nat} : ∀ {ds : List D}, smL n ds = true → isDataL ds = true
  | [], _ => rfl
  | d :: ds, h => by
    have h' := Bool.and_eq_true_iff.mp (show (sm n d && smL n ds) = true from h)
    show (isData d && isDataL ds) = true
    rw [sm_data h'.1, smL_data h'.2]
    rfl
end
theorem sm_int {n : Nat} {i : Int} : sm n (.int i) = true ↔ i.natAbs < 2 ^ n := by simp [sm]
theorem sm_str {n : Nat} {z : Str} : sm n (.str z) = true ↔ z.length ≤ 100000 := by simp [sm]
theorem smT {n : Nat} {ds : List D} : sm n (.tup ds) = true ↔ ∀ d ∈ ds, sm n d = true := smL_iff
/-! ### urns -/
def Urn (S : Sd) (u : Addr) (B : Int) : Prop := ∃ g c n, S u = some (.lst [.int g, .int c, .int n]) ∧ 0 ≤ g ∧ 0 ≤ c ∧ c < 2 ^ 70 ∧ 0 ≤ n ∧ n ≤ B
def Oth (S S' : Sd) (u : Addr) : Prop := ∀ a, a ≠ u → S' a = S a
theorem Oth.trans {S S1 S2 : Sd} {u : Addr} (h : Oth S S1 u) (k : Oth S1 S2 u) : Oth S S2 u := fun a ha => (k a ha).trans (h a ha)
theorem Oth.refl {S : Sd} {u : Addr} : Oth S S u := fun _ _ => rfl
theorem Urn.mono {S : Sd} {u : Addr} {B B' : Int} (h : Urn S u B) (hb : B ≤ B') : Urn S u B' := by
  obtain ⟨g, c, n, e, g0, c0, c1, n0, n1⟩ := h
  exact ⟨g, c, n, e, g0, c0, c1, n0, Int.le_trans n1 hb⟩
theorem Urn.oth {S S' : Sd} {p u : Addr} {B : Int} (h : Urn S u B) (ho : ∀ a, a ≠ p → S' a = S a) (hne : u ≠ p) : Urn S' u B := by
  obtain ⟨g, c, n, e, k⟩ := h
  exact ⟨g, c, n, (ho u hne).trans e, k⟩
theorem Urn.ne {S : Sd} {p u : Addr} {B : Int} (h : Urn S u B) (hp : S p = none) : u ≠ p := fun e => by
  obtain ⟨g, c, n, e2, _⟩ := h
  rw [e, hp] at e2
  cases e2
theorem Urn.up {S : Sd} {p u : Addr} {B : Int} {o : SO} (h : Urn S u B) (hne : u ≠ p) : Urn (upS S p o) u B := h.oth (fun a ha => upS_ne ha) hne
theorem Urn.del {S : Sd} {p u : Addr} {B : Int} (h : Urn S u B) (hne : u ≠ p) : Urn (del S p) u B := h.oth (fun a ha => del_ne ha) hne
theorem Oth.del {S S' : Sd} {p u : Addr} (h : ∀ a, a ≠ u → a ≠ p → S' a = S a) (hp : S p = none) : Oth S (del S' p) u := fun a ha => by
  by_cases e : a = p
  · rw [e, del_same, hp]
  · rw [del_ne e, h a ha e]
/-! ### parts -/
theorem cutD_mem {xs : List D} {lo hi : Option Int} {d : D} (h : d ∈ cutD xs lo hi) : d ∈ xs := List.mem_of_mem_drop (List.mem_of_mem_take h)
theorem cutD_len {xs : List D} {lo hi : Option Int} : (cutD xs lo hi).length ≤ xs.length := by
  unfold cutD
  rw [List.length_take, List.length_drop]
  omega
theorem app_toList (x y : Str) : (x ++ y).cps.toList = x.cps.toList ++ y.cps.toList := by
  show (x.cps ++ y.cps).toList = _
  simp
theorem app_len2 (x y : Str) : (x ++ y).length = x.length + y.length := by
  show (x.cps ++ y.cps).size = x.cps.size + y.cps.size
  simp
theorem sIx_lo {n : Nat} {i : Int} (h0 : 0 ≤ i) (h1 : i ≤ n) (b : Nat) : HT.sIx n b (some i) = i.toNat := by
  obtain ⟨k, rfl⟩ := Int.eq_ofNat_of_zero_le h0
  rw [HT.sIx_nat]
  show min k n = k
  omega
theorem cutS_take {l : List Nat} {i : Int} (h0 : 0 ≤ i) (h1 : i ≤ l.length) : cutS (ofL l) none (some i) = ofL (l.take i.toNat) := by
  refine str_ext ?_
  show (((ofL l).cps.toList.drop (HT.sIx (ofL l).length 0 none)).take (HT.sIx (ofL l).length (ofL l).length (some i) - HT.sIx (ofL l).length 0 none)) = _
  rw [ofL_len, sIx_lo h0 h1]
  show (l.drop 0).take (i.toNat - 0) = _
  rfl
theorem cutS_drop {l : List Nat} {i : Int} (h0 : 0 ≤ i) (h1 : i ≤ l.length) : cutS (ofL l) (some i) none = ofL (l.drop i.toNat) := by
  refine str_ext ?_
  show (((ofL l).cps.toList.drop (HT.sIx (ofL l).length 0 (some i))).take (HT.sIx (ofL l).length (ofL l).length none - HT.sIx (ofL l).length 0 (some i))) = _
  rw [ofL_len, sIx_lo h0 h1]
  show (l.drop i.toNat).take (l.length - i.toNat) = _
  rw [List.take_of_length_le (by rw [List.length_drop]; omega)]
  rfl
theorem cutS_mid {l : List Nat} {i j : Int} (h0 : 0 ≤ i) (h1 : i ≤ l.length) (h2 : 0 ≤ j) (h3 : j ≤ l.length) : cutS (ofL l) (some i) (some j) = ofL ((l.drop i.toNat).take (j.toNat - i.toNat)) := by
  refine str_ext ?_
  show (((ofL l).cps.toList.drop (HT.sIx (ofL l).length 0 (some i))).take (HT.sIx (ofL l).length (ofL l).length (some j) - HT.sIx (ofL l).length 0 (some i))) = _
  rw [ofL_len, sIx_lo h0 h1, sIx_lo h2 h3]
  rfl
theorem revS_of {l : List Nat} : revS (ofL l) = ofL l.reverse := rfl
/-! ### words: a is 97, b is 98 -/
def isAB (l : List Nat) : Bool := l.all fun c => decide (c = 97 ∨ c = 98)
theorem isAB_iff {l : List Nat} : isAB l = true ↔ ∀ c ∈ l, c = 97 ∨ c = 98 := by simp [isAB]
/-- the even word of b signs b among n -/
def evF (b n : Nat) : List Nat := (List.range n).map fun k => if (k + 1) * b / n = k * b / n then 97 else 98
theorem evF_len (b n : Nat) : (evF b n).length = n := by unfold evF; rw [List.length_map, List.length_range]
theorem evF_ab (b n : Nat) : isAB (evF b n) = true := isAB_iff.mpr fun c hc => by
  unfold evF at hc
  obtain ⟨k, _, rfl⟩ := List.mem_map.mp hc
  split
  · exact .inl rfl
  · exact .inr rfl
/-- the next step of a floor -/
theorem floor_step {b n k : Nat} (hb : b ≤ n) (hn : 0 < n) : (k + 1) * b / n = (if k * b % n + b < n then k * b / n else k * b / n + 1) ∧ (k + 1) * b % n = (if k * b % n + b < n then k * b % n + b else k * b % n + b - n) := by
  rw [Nat.succ_mul]
  generalize k * b = w
  have h1 := Nat.div_add_mod w n
  have h2 := Nat.mod_lt w hn
  generalize w / n = q at h1 ⊢
  generalize w % n = r at h1 h2 ⊢
  subst h1
  rw [Nat.add_assoc]
  split
  · rename_i h
    rw [Nat.mul_add_div hn, Nat.mul_add_mod, Nat.div_eq_of_lt h, Nat.mod_eq_of_lt h]
    exact ⟨rfl, rfl⟩
  · rename_i h
    have e2 : n * q + (r + b) = n * (q + 1) + (r + b - n) := by rw [Nat.mul_succ]; omega
    rw [e2, Nat.mul_add_div hn, Nat.mul_add_mod, Nat.div_eq_of_lt (by omega), Nat.mod_eq_of_lt (by omega)]
    exact ⟨rfl, rfl⟩
/-! ### of the functions that many laws share -/
def isWordD : D → Bool
  | .str z => decide (1 ≤ z.length ∧ z.length ≤ 60) && isAB z.cps.toList
  | _ => false
/-- a text's signs, held against a and b -/
def abD : D → D
  | .str z => .bl (isAB z.cps.toList)
  | _ => .non
theorem ab_cps : (Str.ofString "ab").cps.toList = [97, 98] := by decide +kernel
theorem abD_comp {i : Nat} {te : TED} {vs : List Nat} {σ : Si} {S : Sd} {Q : DK} {z : Str} (hte : ∀ c S' (Q' : DK), Q' (.bl (decide (c ∈ [97, 98]))) S' → te ((wipeD σ vs).set i (some (.str ⟨#[c]⟩))) S' Q') (hl : z.length ≤ 100000)
    (ti : TID) (hti : ∀ R : List D → Sd → Prop, R (sgD z) S → ti σ S R) (q : Q (.bl (isAB z.cps.toList)) S) : dComp ti (dName i) dYes te vs σ S fun x S1 => rdAll [x] S1 Q := by
  refine comp_pure abD (sgD z) S hti (fun x hx S' Q' q' => ?_) (by unfold sgD; rw [List.length_map]; show z.cps.toList.length ≤ _; rw [← x_len_strL]; omega) ?_
  · obtain ⟨c, _, rfl⟩ := List.mem_map.mp hx
    refine hte c S' Q' ?_
    have e : abD (.str ⟨#[c]⟩) = .bl (decide (c ∈ [97, 98])) := by
      show D.bl (isAB [c]) = _
      simp [isAB]
    rw [← e]; exact q'
  · refine x_allb (bs := z.cps.toList.map fun c => isAB [c]) ?_ ?_
    · unfold sgD
      rw [List.map_map, List.map_map]
      rfl
    · have e : (z.cps.toList.map fun c => isAB [c]).all id = isAB z.cps.toList := by
        rw [List.all_map]
        unfold isAB
        congr 1
        funext c
        simp
      rw [e]; exact q
theorem sum_ones {α : Type} (f : α → Str) (h : ∀ a, (f a).length = 1) (l : List α) : ((l.map f).map (·.length)).sum = l.length := by
  induction l with
  | nil => rfl
  | cons a r ih => rw [List.map_cons, List.map_cons, List.sum_cons, ih, h, List.length_cons]; omega
/-- the first letters of an even word -/
def evP (b n i : Nat) : List Nat := (List.range i).map fun k => if (k + 1) * b / n = k * b / n then 97 else 98
theorem evP_len (b n i : Nat) : (evP b n i).length = i := by unfold evP; rw [List.length_map, List.length_range]
theorem evP_succ (b n i : Nat) : evP b n (i + 1) = evP b n i ++ [if (i + 1) * b / n = i * b / n then 97 else 98] := by
  unfold evP
  rw [List.range_succ, List.map_append]
  rfl
theorem ab_cpsL : (Str.ofString "ab").cps.toList = [97, 98] := by decide +kernel
theorem at_nat {ns : List Nat} {k : Int} (h0 : 0 ≤ k) (h1 : k < ns.length) : ∃ n : Nat, atI (ns.map fun (n : Nat) => D.int n) k = some (.int (n : Int)) ∧ n ∈ ns := by
  obtain ⟨d, ed, hd⟩ := atI_some (ds := ns.map fun (n : Nat) => D.int n) h0 (by simpa using h1)
  obtain ⟨n, hn, rfl⟩ := List.mem_map.mp hd
  exact ⟨n, ed, hn⟩
theorem ba_cps : (Str.ofString "ba").cps.toList = [98, 97] := by decide +kernel
theorem isAB_app {a b : List Nat} (ha : isAB a = true) (hb : isAB b = true) : isAB (a ++ b) = true := isAB_iff.mpr fun c hc => (List.mem_append.mp hc).elim (isAB_iff.mp ha c) (isAB_iff.mp hb c)
theorem isAB_take {a : List Nat} (n : Nat) (ha : isAB a = true) : isAB (a.take n) = true := isAB_iff.mpr fun c hc => isAB_iff.mp ha c (List.mem_of_mem_take hc)
theorem isAB_drop {a : List Nat} (n : Nat) (ha : isAB a = true) : isAB (a.drop n) = true := isAB_iff.mpr fun c hc => isAB_iff.mp ha c (List.mem_of_mem_drop hc)
def rotL (l : List Nat) (i : Nat) : List Nat := l.drop i ++ l.take i
theorem rotL_len {l : List Nat} {i : Nat} : (rotL l i).length = l.length := by
  unfold rotL
  rw [List.length_append, List.length_drop, List.length_take]
  omega
/-! ### tables -/
structure M2 where
  p : Int
  q : Int
  r : Int
  s : Int
  deriving DecidableEq
/-- sizes -/
def SzM (m : M2) (n : Nat) : Prop := m.p.natAbs < 2 ^ n ∧ m.q.natAbs < 2 ^ n ∧ m.r.natAbs < 2 ^ n ∧ m.s.natAbs < 2 ^ n
theorem SzM.mono {m : M2} {n k : Nat} (h : SzM m n) (hk : n ≤ k) : SzM m k := by
  have := Nat.pow_le_pow_right (n := 2) (by decide) hk
  exact ⟨Nat.lt_of_lt_of_le h.1 this, Nat.lt_of_lt_of_le h.2.1 this, Nat.lt_of_lt_of_le h.2.2.1 this, Nat.lt_of_lt_of_le h.2.2.2 this⟩
/-! ### == of data with itself -/
/-- may be held against others, so many deep -/
def okD_ (k : Nat) (d : D) : Bool := isData d && ((pd d).canLay0 && decide ((pd d).depth ≤ k))
theorem okD_eqOk {k : Nat} {d : D} (h : okD_ k d = true) (hk : k ≤ 64) : eqOk d = true := by
  have h1 := Bool.and_eq_true_iff.mp h
  have h2 := Bool.and_eq_true_iff.mp h1.2
  have h3 := of_decide_eq_true h2.2
  show (isData d && ((pd d).canLay0 && decide ((pd d).depth ≤ 64))) = true
  rw [h1.1, h2.1, decide_eq_true (Nat.le_trans h3 hk)]
  rfl
theorem okD_list {k : Nat} : ∀ {ds : List D}, (∀ d ∈ ds, okD_ k d = true) → isDataL ds = true ∧ PyData.canLayAll0 (pdL ds) = true ∧ PyData.depthAll (pdL ds) ≤ k
  | [], _ => ⟨rfl, rfl, Nat.zero_le _⟩
  | d :: ds, h => by
    obtain ⟨i1, i2, i3⟩ := okD_list (ds := ds) fun x hx => h x (List.mem_cons_of_mem _ hx)
    have h1 := Bool.and_eq_true_iff.mp (h d (.head _))
    have h2 := Bool.and_eq_true_iff.mp h1.2
    have h3 := of_decide_eq_true h2.2
    refine ⟨?_, ?_, ?_⟩
    · show (isData d && isDataL ds) = true
      rw [h1.1, i1]; rfl
    · show ((pd d).canLay0 && PyData.canLayAll0 (pdL ds)) = true
      rw [h2.1, i2]; rfl
    · show max (pd d).depth (PyData.depthAll (pdL ds)) ≤ k
      omega
theorem okD_tup {k : Nat} {ds : List D} (h : ∀ d ∈ ds, okD_ k d = true) : okD_ (k + 1) (.tup ds) = true := by
  obtain ⟨h1, h2, h3⟩ := okD_list h
  show (isDataL ds && (PyData.canLayAll0 (pdL ds) && decide (PyData.depthAll (pdL ds) + 1 ≤ k + 1))) = true
  rw [h1, h2, decide_eq_true (by omega)]
  rfl
theorem okD_int {k : Nat} {i : Int} : okD_ k (.int i) = true := by
  show (true && (true && decide (0 ≤ k))) = true
  rw [decide_eq_true (Nat.zero_le _)]; rfl
theorem okD_str {k : Nat} {z : Str} (h : PyData.strOk z = true) : okD_ k (.str z) = true := by
  show (true && (PyData.strOk z && decide (0 ≤ k))) = true
  rw [h, decide_eq_true (Nat.zero_le _)]; rfl
theorem strOk_of {l : List Nat} (h : ∀ c ∈ l, c < 1114112) : PyData.strOk (ofL l) = true := by
  show l.toArray.all (· < 0x110000) = true
  rw [Array.all_eq_true']
  intro c hc
  exact decide_eq_true (h c (by simpa using hc))
theorem strOk_ab {l : List Nat} (h : isAB l = true) : PyData.strOk (ofL l) = true := strOk_of fun c hc => by
  have := isAB_iff.mp h c hc
  omega
theorem okD_word {k : Nat} {l : List Nat} (h : isAB l = true) : okD_ k (.str (ofL l)) = true := okD_str (strOk_ab h)
theorem okD_ints (ns : List Int) : okD_ 1 (.tup (ns.map D.int)) = true := okD_tup fun d hd => by
  obtain ⟨n, _, rfl⟩ := List.mem_map.mp hd
  exact okD_int
theorem okD_intsL (ns : List Int) : okD_ 1 (.lst (ns.map D.int)) = true := okD_ints ns
end Dv

namespace K14
open PySem L2 Dv Hx
abbrev wd (Ed : XKD) : WXD := fun x _ S => Ed x S
abbrev wd0 : WXD := fun _ _ _ => False
abbrev k_LETTERS : D := .str "ab"
abbrev k_MOST_LETTERS : D := .int 60
abbrev k_MOST_NUMBER : D := .int 999999
abbrev k_MOST_RING : D := .int 40
def ringD (L : List Int) : D := .tup (L.map D.int)
structure RowI (L : List Int) : Prop where
  el : ∀ a ∈ L, 1 ≤ a ∧ a ≤ 999999
  l0 : 1 ≤ L.length
  l1 : L.length ≤ 40
def rotI (L : List Int) (i : Nat) : List Int := L.drop i ++ L.take i
theorem RowI.rot {L : List Int} (R : RowI L) (i : Nat) : RowI (rotI L i) := by
  have hl : (rotI L i).length = L.length := by unfold rotI; rw [List.length_append, List.length_drop, List.length_take]; omega
  refine ⟨fun a h => R.el a ?_, by rw [hl]; exact R.l0, by rw [hl]; exact R.l1⟩
  rcases List.mem_append.mp h with h | h
  · exact List.mem_of_mem_drop h
  · exact List.mem_of_mem_take h
structure T4 where
  p : Int
  q : Int
  r : Int
  s : Int
def t4S (t : T4) (a : Int) : T4 := ⟨t.p * a + t.q, t.p, t.r * a + t.s, t.r⟩
structure T4I (t : T4) (n : Nat) : Prop where
  p0 : 0 ≤ t.p
  q0 : 0 ≤ t.q
  r0 : 0 ≤ t.r
  s0 : 0 ≤ t.s
  rs : 1 ≤ t.r + t.s
  p1 : t.p ≤ 2 ^ (20 * n)
  q1 : t.q ≤ 2 ^ (20 * n)
  r1 : t.r ≤ 2 ^ (20 * n)
  s1 : t.s ≤ 2 ^ (20 * n)
theorem t4_up {m x y a : Int} (hx : 0 ≤ x) (x1 : x ≤ m) (y1 : y ≤ m) (ha : 1 ≤ a ∧ a ≤ 999999) : x * a + y ≤ m * 1048576 ∧ x ≤ x * a := by
  have h1 : x * a ≤ x * 999999 := Int.mul_le_mul_of_nonneg_left ha.2 hx
  have h2 : x * 1 ≤ x * a := Int.mul_le_mul_of_nonneg_left ha.1 hx
  omega
theorem T4I.step {t : T4} {n : Nat} (I : T4I t n) {a : Int} (ha : 1 ≤ a ∧ a ≤ 999999) : T4I (t4S t a) (n + 1) := by
  have e : (2 : Int) ^ (20 * (n + 1)) = 2 ^ (20 * n) * 1048576 := by rw [Nat.mul_succ, Int.pow_add]; rfl
  obtain ⟨p0, q0, r0, s0, rs, p1, q1, r1, s1⟩ := I
  have hp := t4_up p0 p1 q1 ha
  have hr := t4_up r0 r1 s1 ha
  generalize (2 : Int) ^ (20 * n) = m at *
  refine ⟨?_, ?_, ?_, ?_, ?_, ?_, ?_, ?_, ?_⟩ <;> (try rw [e]) <;> show _ ≤ _ <;> unfold t4S <;> simp only <;> omega
def inD : D → Bool
  | .int a => decide (1 ≤ a ∧ a ≤ 999999)
  | _ => false
def isRingD : D → Bool
  | .tup xs => decide (1 ≤ xs.length ∧ xs.length ≤ 40) && xs.all inD
  | _ => false
theorem ring_is {L : List Int} (R : RowI L) : isRingD (ringD L) = true := by
  unfold isRingD ringD
  simp only [List.length_map, Bool.and_eq_true, decide_eq_true_eq, List.all_eq_true, List.mem_map]
  exact ⟨⟨R.l0, R.l1⟩, fun d ⟨a, ha, e⟩ => by rw [← e]; exact decide_eq_true (R.el a ha)⟩
theorem cutD_from {xs : List D} {i : Nat} (h : i ≤ xs.length) : cutD xs (some (i : Int)) none = xs.drop i := by
  unfold cutD
  rw [sIx_lo (by omega) (by omega)]
  show (xs.drop i).take (xs.length - i) = _
  rw [← List.length_drop, List.take_length]
theorem cutD_to {xs : List D} {i : Nat} (h : i ≤ xs.length) : cutD xs none (some (i : Int)) = xs.take i := by
  unfold cutD
  rw [sIx_lo (by omega) (by omega)]
  show (xs.drop 0).take (i - 0) = _
  rw [List.drop_zero, Nat.sub_zero]
/-! parts of rings: words, or rows of numbers -/
def lenD : D → Nat
  | .str z => z.length
  | .tup xs => xs.length
  | _ => 0
def rotD (d : D) (m : Nat) : D := match d with
  | .str z => .str (ofL (rotL z.cps.toList m))
  | .tup xs => .tup (xs.drop m ++ xs.take m)
  | d => d
inductive PartI : D → Prop
  | word (l : List Nat) (h : isAB l = true) (l0 : 1 ≤ l.length) (l1 : l.length ≤ 60) : PartI (.str (ofL l))
  | ring (L : List Int) (R : RowI L) : PartI (ringD L)
def partB (d : D) : Bool := isWordD d || isRingD d
theorem ofL_cps (l : List Nat) : (ofL l).cps.toList = l := by show l.toArray.toList = l; simp
theorem rotD_word (l : List Nat) (m : Nat) : rotD (.str (ofL l)) m = .str (ofL (rotL l m)) := by
  show D.str (ofL (rotL (ofL l).cps.toList m)) = _
  rw [ofL_cps]
theorem rotD_ring (L : List Int) (m : Nat) : rotD (ringD L) m = ringD (rotI L m) := by
  unfold ringD rotI rotD
  dsimp only
  rw [List.map_append, List.map_drop, List.map_take]
theorem lenD_word (l : List Nat) : lenD (.str (ofL l)) = l.length := ofL_len l
theorem lenD_ring (L : List Int) : lenD (ringD L) = L.length := List.length_map _
theorem PartI.len {d : D} (h : PartI d) : 1 ≤ lenD d ∧ lenD d ≤ 60 := by
  cases h with
  | word l h l0 l1 => rw [lenD_word]; exact ⟨l0, l1⟩
  | ring L R => rw [lenD_ring]; have := R.l0; have := R.l1; omega
theorem PartI.rot {d : D} (h : PartI d) (m : Nat) : PartI (rotD d m) := by
  cases h with
  | word l h l0 l1 =>
    rw [rotD_word]
    exact .word _ (isAB_app (isAB_drop _ h) (isAB_take _ h)) (by rw [rotL_len]; exact l0) (by rw [rotL_len]; exact l1)
  | ring L R => rw [rotD_ring]; exact .ring _ (R.rot m)
theorem rotI_len (L : List Int) (i : Nat) : (rotI L i).length = L.length := by unfold rotI; rw [List.length_append, List.length_drop, List.length_take]; omega
theorem isWord_of {l : List Nat} (h : isAB l = true) (l0 : 1 ≤ l.length) (l1 : l.length ≤ 60) : isWordD (.str (ofL l)) = true := by
  show (decide (1 ≤ (ofL l).length ∧ (ofL l).length ≤ 60) && isAB (ofL l).cps.toList) = true
  rw [ofL_len, ofL_cps, h, decide_eq_true ⟨l0, l1⟩]
  rfl
theorem PartI.ok {d : D} (h : PartI d) : partB d = true := by
  cases h with
  | word l h l0 l1 => unfold partB; rw [isWord_of h l0 l1]; rfl
  | ring L R => unfold partB; rw [ring_is R, Bool.or_true]
theorem row_sm {L : List Int} (R : RowI L) : ∀ d ∈ L.map D.int, sm 20 d = true := fun d hd => by
  obtain ⟨a, ha, rfl⟩ := List.mem_map.mp hd
  have := R.el a ha
  exact sm_int.mpr (abs_lt_of (by omega) (by omega))
theorem PartI.sm {d : D} (h : PartI d) : sm 20 d = true := by
  cases h with
  | word l h l0 l1 => exact sm_str.mpr (by rw [ofL_len]; omega)
  | ring L R => exact smT.mpr (row_sm R)
theorem PartI.eqOk {d : D} (h : PartI d) : eqOk d = true := by
  cases h with
  | word l h l0 l1 => exact okD_eqOk (okD_word (k := 0) h) (by decide)
  | ring L R => exact okD_eqOk (okD_ints L) (by decide)
theorem shOkL_all : ∀ {ds : List D}, (∀ d ∈ ds, shOk d = true) → shOkL ds = true
  | [], _ => rfl
  | d :: ds, h => by
    show (shOk d && shOkL ds) = true
    rw [h d (.head _), shOkL_all fun x hx => h x (.tail _ hx)]; rfl
theorem shLL_ints (L : List Int) : shLL (L.map D.int) = L.length * 1923 := by
  induction L with
  | nil => rfl
  | cons a L ih =>
    show 1921 + 2 + shLL (L.map D.int) = (L.length + 1) * 1923
    rw [ih, Nat.succ_mul]; omega
theorem depth_ints (L : List Int) : (pd (.tup (L.map D.int))).depth ≤ 60 := by
  have h := (okD_ints L)
  have h1 := Bool.and_eq_true_iff.mp h
  have h2 := Bool.and_eq_true_iff.mp h1.2
  have h3 := of_decide_eq_true h2.2
  omega
theorem PartI.sh {d : D} (h : PartI d) : shD d := by
  cases h with
  | word l h l0 l1 =>
    refine ⟨strOk_ab h, ?_, ?_⟩
    · show 10 * (ofL l).length + 2 ≤ _
      rw [ofL_len]; omega
    · have h := (okD_word (k := 0) h)
      have h1 := Bool.and_eq_true_iff.mp h
      have h2 := Bool.and_eq_true_iff.mp h1.2
      have h3 := of_decide_eq_true h2.2
      omega
  | ring L R =>
    refine ⟨shOkL_all fun d hd => ?_, ?_, depth_ints L⟩
    · obtain ⟨a, ha, rfl⟩ := List.mem_map.mp hd
      have := R.el a ha
      exact decide_eq_true (Nat.lt_trans (log2_lt (n := 20) (abs_lt_of (by omega) (by omega)) (by decide)) (by decide))
    · show shLL (L.map D.int) + 3 ≤ _
      have := R.l1
      rw [shLL_ints]; omega

def partL (l : List Nat) (s i : Nat) : List Nat := ((l ++ l).drop i).take s
def cntP (l : List Nat) (s i : Nat) : Int := ((partL l s i).count 98 : Nat)
def biP (up : Bool) (l : List Nat) (s : Nat) : Nat := bestBy up (cntP l s) l.length
def unev (l : List Nat) (s : Nat) : Prop := 1 < cntP l s (biP true l s) - cntP l s (biP false l s)
instance (l : List Nat) (s : Nat) : Decidable (unev l s) := by unfold unev; infer_instance
theorem argBest_le (bt : Nat → Nat → Bool) : ∀ n, argBest bt n ≤ n
  | 0 => Nat.le_refl _
  | n + 1 => by
    show (if bt (n + 1) (argBest bt n) then n + 1 else argBest bt n) ≤ n + 1
    have := argBest_le bt n
    split <;> omega
theorem argBest_congr {bt bt' : Nat → Nat → Bool} : ∀ n, (∀ i j, i ≤ n → j ≤ n → bt i j = bt' i j) → argBest bt n = argBest bt' n
  | 0, _ => rfl
  | n + 1, h => by
    have e := argBest_congr n fun i j hi hj => h i j (by omega) (by omega)
    show (if bt (n + 1) (argBest bt n) then n + 1 else argBest bt n) = (if bt' (n + 1) (argBest bt' n) then n + 1 else argBest bt' n)
    have := argBest_le bt' n
    rw [e, h (n + 1) (argBest bt' n) (by omega) (by omega)]
/-! ### texts told often -/
theorem fold_app (l : List Nat) : ∀ (n : Nat) (acc : Array Nat), (List.foldl (fun x1 x2 => x1 ++ x2) acc (List.replicate n l.toArray)).toList = acc.toList ++ (List.replicate n l).flatten
  | 0, acc => by simp
  | n + 1, acc => by rw [List.replicate_succ, List.foldl_cons, fold_app l n, List.replicate_succ]; simp
theorem repS_ofL (l : List Nat) (n : Nat) : repS (ofL l) n = ofL (List.replicate n l).flatten := str_ext (by
  have h := fold_app l n #[]
  show (repS (ofL l) n).cps.toList = _
  simp only [repS, ofL] at h ⊢
  simpa using h)
/-! ### the least of all turned ones (k12's consts: PartI, rotD, lenD) -/
def leastT (d : D) : Nat := bestD (fun j => rotD d j) (lenD d)
theorem leastT_lt {d : D} (h : PartI d) : leastT d < lenD d := bestD_lt (by have := h.len; omega)
theorem pdL_ints (L : List Int) : pdL (L.map D.int) = L.map PyData.int := by
  induction L with
  | nil => rfl
  | cons a L ih => show _ :: _ = _ :: _; rw [ih]; rfl
theorem alike_ints : ∀ (L M : List Int), PySem.W.alikeAll (L.map PyData.int) (M.map PyData.int) = true
  | [], _ => by simp [PySem.W.alikeAll]
  | _ :: _, [] => by simp [PySem.W.alikeAll]
  | a :: L, b :: M => by
    rw [List.map_cons, List.map_cons, PySem.W.alikeAll, alike_ints L M]
    simp [PySem.W.alike]
theorem PartI.key {d : D} (h : PartI d) : keyOk d = true := by
  cases h with
  | word l h l0 l1 =>
    have h := (okD_word (k := 0) h)
    have h1 := Bool.and_eq_true_iff.mp h
    have h2 := Bool.and_eq_true_iff.mp h1.2
    have h3 := of_decide_eq_true h2.2
    unfold keyOk
    rw [h1.1, decide_eq_true (by omega)]
    rfl
  | ring L R =>
    have h := (okD_ints L)
    have h1 := Bool.and_eq_true_iff.mp h
    have h2 := Bool.and_eq_true_iff.mp h1.2
    have h3 := of_decide_eq_true h2.2
    unfold keyOk ringD
    rw [h1.1, decide_eq_true (by omega)]
    rfl
theorem PartI.alike {d : D} (h : PartI d) (i j : Nat) : PySem.W.alike (pd (rotD d i)) (pd (rotD d j)) = true := by
  cases h with
  | word l h l0 l1 =>
    rw [rotD_word, rotD_word]
    show PySem.W.alike (.str _) (.str _) = true
    simp [PySem.W.alike]
  | ring L R =>
    rw [rotD_ring, rotD_ring]
    show PySem.W.alike (.tuple (pdL _)) (.tuple (pdL _)) = true
    rw [pdL_ints, pdL_ints, PySem.W.alike]
    exact alike_ints _ _
/-! ### comprehensions with a test, without a trace -/
theorem lcL_filter {tt : TTD} {te : TED} {p : Addr} {σw : Si} {i : Nat} {S : Sd} (f : D → D) (g : D → Bool) : ∀ (xs acc : List D) (Q : List D → Sd → Prop), (∀ x ∈ xs, ∀ S' (Q' : Bool → Sd → Prop), Q' (g x) S' → tt (σw.set i (some x)) S' Q') → (∀ x ∈ xs, g x = true → ∀ S' (Q' : DK), Q' (f x) S' → te (σw.set i (some x)) S' Q') → acc.length + xs.length ≤ 16777216 →
    Q (acc ++ (xs.filter g).map f) (upS S p (.lst (acc ++ (xs.filter g).map f))) → dLcL (dName i) tt te p σw xs acc (upS S p (.lst acc)) Q
  | [], acc, Q, _, _, _, q => by
    rw [List.filter_nil, List.map_nil, List.append_nil] at q
    exact q
  | x :: r, acc, Q, ht, he, hl, q => by
    rw [List.length_cons] at hl
    have ht' := fun y (hy : y ∈ r) => ht y (List.mem_cons_of_mem _ hy)
    have he' := fun y (hy : y ∈ r) => he y (List.mem_cons_of_mem _ hy)
    refine ht x List.mem_cons_self _ _ ?_
    cases c : g x with
    | true =>
      rw [List.filter_cons_of_pos c, List.map_cons] at q
      show (if true = true then te (σw.set i (some x)) (upS S p (.lst acc)) fun y S4 => S4 p = some (.lst acc) ∧ acc.length < 16777216 ∧ dLcL (dName i) tt te p σw r (acc ++ [y]) (upS S4 p (.lst (acc ++ [y]))) Q else dLcL (dName i) tt te p σw r acc (upS S p (.lst acc)) Q)
      rw [if_pos rfl]
      refine he x List.mem_cons_self c _ _ ⟨upS_same, by omega, ?_⟩
      rw [upS_upS]
      refine lcL_filter f g r (acc ++ [f x]) Q ht' he' (by rw [List.length_append, List.length_singleton]; omega) ?_
      rw [List.append_assoc]
      exact q
    | false =>
      rw [List.filter_cons_of_neg (by rw [c]; decide)] at q
      show (if false = true then te (σw.set i (some x)) (upS S p (.lst acc)) fun y S4 => S4 p = some (.lst acc) ∧ acc.length < 16777216 ∧ dLcL (dName i) tt te p σw r (acc ++ [y]) (upS S4 p (.lst (acc ++ [y]))) Q else dLcL (dName i) tt te p σw r acc (upS S p (.lst acc)) Q)
      rw [if_neg (by decide)]
      exact lcL_filter f g r acc Q ht' he' (by omega) q
theorem comp_filter {ti : TID} {tt : TTD} {te : TED} {i : Nat} {vs : List Nat} {σ : Si} {S : Sd} {Q : DK} (f : D → D) (g : D → Bool) (xs : List D) (S1 : Sd) (hti : ∀ R : List D → Sd → Prop, R xs S1 → ti σ S R)
    (ht : ∀ x ∈ xs, ∀ S' (Q' : Bool → Sd → Prop), Q' (g x) S' → tt ((wipeD σ vs).set i (some x)) S' Q') (he : ∀ x ∈ xs, g x = true → ∀ S' (Q' : DK), Q' (f x) S' → te ((wipeD σ vs).set i (some x)) S' Q') (hl : xs.length ≤ 16777216)
    (q : Q (.lst ((xs.filter g).map f)) S1) : dComp ti (dName i) tt te vs σ S Q := hti _ fun p hp => by
  refine lcL_filter f g xs [] _ ht he (by simpa using hl) ⟨upS_same, ?_⟩
  rw [del_upS hp]
  exact q
/-- a range filtered -/
theorem rg_filter (lo n : Nat) (h : Nat → Bool) (g : D → Bool) (e : ∀ i, i < n → g (.int ((lo : Int) + (i : Int))) = h (lo + i)) : (rgD (lo : Int) n).filter g = (((List.range n).map (lo + ·)).filter h).map fun (k : Nat) => D.int (k : Int) := by
  unfold rgD
  rw [List.filter_map, List.filter_map, List.map_map]
  have e1 : (List.range n).filter (g ∘ fun (i : Nat) => D.int ((lo : Int) + (i : Int))) = (List.range n).filter (h ∘ (lo + ·)) := List.filter_congr fun i hi => e i (List.mem_range.mp hi)
  rw [e1]
  exact List.map_congr_left fun i _ => by simp
/-! ### rows of numbers before one another -/
/-! ### texts of parts tell the parts -/
/-- up to the first sign that ends a number -/
theorem cut_sep : ∀ (a b : List Nat) (x y : Nat) (r q : List Nat), (∀ c ∈ a, c ≠ 41 ∧ c ≠ 44) → (∀ c ∈ b, c ≠ 41 ∧ c ≠ 44) → (x = 41 ∨ x = 44) → (y = 41 ∨ y = 44) → a ++ x :: r = b ++ y :: q → a = b ∧ x = y ∧ r = q
  | [], [], x, y, r, q, _, _, _, _, e => by
    injection e with e1 e2
    exact ⟨rfl, e1, e2⟩
  | [], d :: b, x, y, r, q, _, hb, hx, _, e => by
    injection e with e1 e2
    have := hb d List.mem_cons_self
    omega
  | c :: a, [], x, y, r, q, ha, _, _, hy, e => by
    injection e with e1 e2
    have := ha c List.mem_cons_self
    omega
  | c :: a, d :: b, x, y, r, q, ha, hb, hx, hy, e => by
    injection e with e1 e2
    obtain ⟨h1, h2, h3⟩ := cut_sep a b x y r q (fun z hz => ha z (List.mem_cons_of_mem _ hz)) (fun z hz => hb z (List.mem_cons_of_mem _ hz)) hx hy e2
    exact ⟨by rw [e1, h1], h2, h3⟩
/-- texts with ", " between and ")" behind -/
def joinP : List (List Nat) → List Nat
  | [] => [41]
  | [t] => t ++ [41]
  | t :: r => t ++ 44 :: 32 :: joinP r
def plainT (t : List Nat) : Prop := ∀ c ∈ t, c ≠ 41 ∧ c ≠ 44
theorem joinP_inj : ∀ (ts us : List (List Nat)), (∀ t ∈ ts, plainT t) → (∀ t ∈ us, plainT t) → ts ≠ [] → us ≠ [] → joinP ts = joinP us → ts = us
  | [], _, _, _, h, _, _ => absurd rfl h
  | _ :: _, [], _, _, _, h, _ => absurd rfl h
  | [t], [u], ht, hu, _, _, e => by
    obtain ⟨h1, _, _⟩ := cut_sep t u 41 41 [] [] (ht t List.mem_cons_self) (hu u List.mem_cons_self) (.inl rfl) (.inl rfl) e
    rw [h1]
  | [t], u :: v :: r, ht, hu, _, _, e => by
    obtain ⟨_, h2, _⟩ := cut_sep t u 41 44 [] (32 :: joinP (v :: r)) (ht t List.mem_cons_self) (hu u List.mem_cons_self) (.inl rfl) (.inr rfl) e
    exact absurd h2 (by decide)
  | t :: s :: q, [u], ht, hu, _, _, e => by
    obtain ⟨_, h2, _⟩ := cut_sep t u 44 41 (32 :: joinP (s :: q)) [] (ht t List.mem_cons_self) (hu u List.mem_cons_self) (.inr rfl) (.inl rfl) e
    exact absurd h2 (by decide)
  | t :: s :: q, u :: v :: r, ht, hu, _, _, e => by
    obtain ⟨h1, _, h3⟩ := cut_sep t u 44 44 (32 :: joinP (s :: q)) (32 :: joinP (v :: r)) (ht t List.mem_cons_self) (hu u List.mem_cons_self) (.inr rfl) (.inr rfl) e
    injection h3 with _ h4
    rw [h1, joinP_inj (s :: q) (v :: r) (fun z hz => ht z (List.mem_cons_of_mem _ hz)) (fun z hz => hu z (List.mem_cons_of_mem _ hz)) (by simp) (by simp) h4]
/-- a tuple's text, without its "(" -/
def tupP : List (List Nat) → List Nat
  | [t] => t ++ [44, 41]
  | ts => joinP ts
theorem tupP_inj (ts us : List (List Nat)) (ht : ∀ t ∈ ts, plainT t) (hu : ∀ t ∈ us, plainT t) (h0 : ts ≠ []) (h1 : us ≠ []) (e : tupP ts = tupP us) : ts = us := by
  match ts, us, ht, hu, h0, h1, e with
  | [], _, _, _, h, _, _ => exact absurd rfl h
  | _ :: _, [], _, _, _, h, _ => exact absurd rfl h
  | [t], [u], ht, hu, _, _, e =>
    obtain ⟨h1, _, _⟩ := cut_sep t u 44 44 [41] [41] (ht t List.mem_cons_self) (hu u List.mem_cons_self) (.inr rfl) (.inr rfl) e
    rw [h1]
  | [t], u :: v :: r, ht, hu, _, _, e =>
    obtain ⟨_, _, h3⟩ := cut_sep t u 44 44 [41] (32 :: joinP (v :: r)) (ht t List.mem_cons_self) (hu u List.mem_cons_self) (.inr rfl) (.inr rfl) e
    injection h3 with h4 _
    exact absurd h4 (by decide)
  | t :: s :: q, [u], ht, hu, _, _, e =>
    obtain ⟨_, _, h3⟩ := cut_sep t u 44 44 (32 :: joinP (s :: q)) [41] (ht t List.mem_cons_self) (hu u List.mem_cons_self) (.inr rfl) (.inr rfl) e
    injection h3 with h4 _
    exact absurd h4 (by decide)
  | t :: s :: q, u :: v :: r, ht, hu, _, _, e => exact joinP_inj _ _ ht hu (by simp) (by simp) e
def numL (a : Int) : List Nat := (toString a : Str).cps.toList
theorem num_plain (a : Int) : plainT (numL a) := fun c hc => ⟨fun e => (PyProof.Rows.intText_free_41 a).mp (e ▸ hc), fun e => (PyProof.Rows.intText_free_44 a).mp (e ▸ hc)⟩
theorem num_injW {a b : Int} (ha : 1 ≤ a ∧ a ≤ 999999) (hb : 1 ≤ b ∧ b ≤ 999999) (e : numL a = numL b) : a = b := by
  have e2 : (Str.ofString (toString a)) = Str.ofString (toString b) := str_ext e
  have h1 := PySem.W.KIN.num_reads (n := a) (by omega) (by omega)
  have h2 := PySem.W.KIN.num_reads (n := b) (by omega) (by omega)
  rw [e2] at h1
  exact Option.some.inj (h1.symm.trans h2)
theorem join_text : ∀ L : List Int, L ≠ [] → (Str.join ", " (L.map fun a => (toString a : Str))).cps.toList ++ [41] = joinP (L.map numL)
  | [], h => absurd rfl h
  | [a], _ => rfl
  | a :: b :: L, _ => by
    have ih := join_text (b :: L) (by simp)
    show ((toString a : Str) ++ ", " ++ Str.join ", " ((b :: L).map fun a => (toString a : Str))).cps.toList ++ [41] = numL a ++ 44 :: 32 :: joinP ((b :: L).map numL)
    rw [app_toList, app_toList, ← ih]
    have e : (", " : Str).cps.toList = [44, 32] := by decide +kernel
    rw [e]
    show numL a ++ [44, 32] ++ _ ++ [41] = _
    simp
theorem tup_text (L : List Int) (h : L ≠ []) : (tupleText (L.map fun a => (toString a : Str))).cps.toList = 40 :: tupP (L.map numL) := by
  unfold tupleText
  rw [app_toList, app_toList]
  have e1 : ("(" : Str).cps.toList = [40] := by decide +kernel
  have e2 : (Str.ofString ",)").cps.toList = [44, 41] := by decide +kernel
  have e3 : (Str.ofString ")").cps.toList = [41] := by decide +kernel
  rw [e1]
  match L, h with
  | [], h => exact absurd rfl h
  | [a], _ =>
    show [40] ++ numL a ++ (Str.ofString ",)").cps.toList = 40 :: (numL a ++ [44, 41])
    rw [e2]
    simp
  | a :: b :: L, _ =>
    have hj := join_text (a :: b :: L) (by simp)
    have e4 : ((List.map (fun a => (toString a : Str)) (a :: b :: L)).length == 1) = false := by simp
    rw [e4]
    show [40] ++ _ ++ (Str.ofString ")").cps.toList = 40 :: joinP ((a :: b :: L).map numL)
    rw [e3, ← hj]
    simp
theorem shown_ints : ∀ L : List Int, PyData.shownAll (pdL (L.map D.int)) = L.map fun a => (toString a : Str)
  | [] => rfl
  | a :: L => by
    show _ :: PyData.shownAll (pdL (L.map D.int)) = _
    rw [shown_ints L]
    rfl
theorem shown_ring (L : List Int) : shownD (ringD L) = tupleText (L.map fun a => (toString a : Str)) := by
  show tupleText (PyData.shownAll (pdL (L.map D.int))) = _
  rw [shown_ints]
theorem repr_word {l : List Nat} (h : isAB l = true) : ∃ q, (q = 39 ∨ q = 34) ∧ (reprText (ofL l)).cps.toList = q :: (l ++ [q]) := by
  unfold reprText
  have hq : reprQuote (ofL l) = 39 ∨ reprQuote (ofL l) = 34 := by
    unfold reprQuote
    split
    · exact .inr rfl
    · exact .inl rfl
  generalize reprQuote (ofL l) = q at hq
  refine ⟨q, hq, ?_⟩
  rw [Array.toList_push, ← Array.foldl_toList]
  have hl : ∀ (m : List Nat) (acc : Array Nat), (∀ c ∈ m, c = 97 ∨ c = 98) → (m.foldl (fun out c => out ++ (PySem.Builtin.Str.reprChar q c).toArray) acc).toList = acc.toList ++ m := fun m => by
    induction m with
    | nil => intro acc _; simp
    | cons c r ih =>
      intro acc hm
      have k : ∀ q ∈ [39, 34], ∀ c ∈ [97, 98], PySem.Builtin.Str.reprChar q c = [c] := by decide +kernel
      have e := k q (by simp; exact hq) c (by simp; exact hm c List.mem_cons_self)
      rw [List.foldl_cons, ih _ fun x hx => hm x (List.mem_cons_of_mem _ hx), e]
      simp
  show (List.foldl (fun out c => out ++ (PySem.Builtin.Str.reprChar q c).toArray) #[q] l).toList ++ [q] = _
  rw [hl _ _ (isAB_iff.mp h)]
  show [q] ++ l ++ [q] = _
  simp
/-- parts with one text are the same -/
theorem part_shown {x y : D} (hx : PartI x) (hy : PartI y) : shownD x = shownD y ↔ x = y := by
  refine ⟨fun e => ?_, fun e => by rw [e]⟩
  have e := congrArg (fun z : Str => z.cps.toList) e
  cases hx with
  | word l h l0 l1 =>
    obtain ⟨q, hq, e1⟩ := repr_word h
    replace e1 : (shownD (.str (ofL l))).cps.toList = q :: (l ++ [q]) := e1
    try dsimp only at e
    rw [e1] at e
    cases hy with
    | word m h' m0 m1 =>
      obtain ⟨p, hp, e2⟩ := repr_word h'
      replace e2 : (shownD (.str (ofL m))).cps.toList = p :: (m ++ [p]) := e2
      rw [e2] at e
      injection e with e3 e4
      rw [e3] at e4
      have := List.append_cancel_right e4
      rw [this]
    | ring M R =>
      have hM : M ≠ [] := fun z => by have := R.l0; rw [z] at this; exact absurd this (by decide)
      rw [shown_ring, tup_text M hM] at e
      injection e with e3 _
      omega
  | ring L R =>
    have hL : L ≠ [] := fun z => by have := R.l0; rw [z] at this; exact absurd this (by decide)
    try dsimp only at e
    rw [shown_ring, tup_text L hL] at e
    cases hy with
    | word m h' m0 m1 =>
      obtain ⟨p, hp, e2⟩ := repr_word h'
      replace e2 : (shownD (.str (ofL m))).cps.toList = p :: (m ++ [p]) := e2
      rw [e2] at e
      injection e with e3 _
      omega
    | ring M R' =>
      have hM : M ≠ [] := fun z => by have := R'.l0; rw [z] at this; exact absurd this (by decide)
      rw [shown_ring, tup_text M hM] at e
      injection e with _ e4
      have e5 := tupP_inj _ _ (fun t ht => by obtain ⟨a, _, rfl⟩ := List.mem_map.mp ht; exact num_plain a) (fun t ht => by obtain ⟨a, _, rfl⟩ := List.mem_map.mp ht; exact num_plain a) (by simpa using hL) (by simpa using hM) e4
      have inj : ∀ (L M : List Int), (∀ a ∈ L, 1 ≤ a ∧ a ≤ 999999) → (∀ a ∈ M, 1 ≤ a ∧ a ≤ 999999) → L.map numL = M.map numL → L = M := by
        intro L
        induction L with
        | nil => intro M _ _ e; cases M with | nil => rfl | cons _ _ => cases e
        | cons a L ih =>
          intro M hL hM e
          cases M with
          | nil => cases e
          | cons b M =>
            rw [List.map_cons, List.map_cons] at e
            injection e with e1 e2
            rw [num_injW (hL a List.mem_cons_self) (hM b List.mem_cons_self) e1, ih M (fun z hz => hL z (List.mem_cons_of_mem _ hz)) (fun z hz => hM z (List.mem_cons_of_mem _ hz)) e2]
      rw [inj L M R.el R'.el e5]
theorem deqL_ringE : ∀ {ns ms : List Int}, deqL (ns.map D.int) (ms.map D.int) = decide (ns = ms)
  | [], [] => by simp [deqL]
  | [], _ :: _ => by simp [deqL]
  | _ :: _, [] => by simp [deqL]
  | n :: ns, m :: ms => by
    show ((n == m) && deqL (ns.map D.int) (ms.map D.int)) = _
    rw [deqL_ringE, Bool.eq_iff_iff]
    simp
theorem map_int_inj : ∀ {L M : List Int}, L.map D.int = M.map D.int → L = M
  | [], [], _ => rfl
  | [], _ :: _, e => by cases e
  | _ :: _, [], e => by cases e
  | a :: L, b :: M, e => by
    rw [List.map_cons, List.map_cons] at e
    injection e with e1 e2
    injection e1 with e1
    rw [e1, map_int_inj e2]
theorem ringD_inj {L M : List Int} : ringD L = ringD M ↔ L = M := ⟨fun e => by unfold ringD at e; injection e with e; exact map_int_inj e, fun e => by rw [e]⟩
theorem part_deq {x y : D} (hx : PartI x) (hy : PartI y) : deq x y = true ↔ x = y := by
  cases hx with
  | word l h l0 l1 =>
    cases hy with
    | word m h' m0 m1 =>
      show ((ofL l == ofL m) = true) ↔ _
      rw [beq_iff_eq, ofL_inj]
      exact ⟨fun e => by rw [e], fun e => by injection e with e; exact ofL_inj.mp e⟩
    | ring M R => exact ⟨fun e => absurd (show false = true from e) (by decide), fun e => by cases e⟩
  | ring L R =>
    cases hy with
    | word m h' m0 m1 => exact ⟨fun e => absurd (show false = true from e) (by decide), fun e => by cases e⟩
    | ring M R' =>
      show deqL (L.map D.int) (M.map D.int) = true ↔ _
      rw [deqL_ringE, decide_eq_true_iff, ringD_inj]
theorem x_reprG {d : D} {S : Sd} {Q : DK} (h : shD d) (hv : valD S d = d) (q : Q (.str (shownD d)) S) : rdRepr [d] S Q := by
  show shD (valD S d) ∧ Q (.str (shownD (valD S d))) S
  rw [hv]
  exact ⟨h, q⟩
theorem PartI.valG {d : D} (h : PartI d) (S : Sd) : valD S d = d := by
  cases h with
  | word _ _ _ _ => rfl
  | ring _ _ => rfl
/-! the shortest part of a word, of a row -/
def toldL (P : List Nat) (m : Nat) : List Nat := (List.replicate m P).flatten
def szOk (l : List Nat) (s : Nat) : Bool := decide (l.length % s = 0) && decide (toldL (l.take s) (l.length / s) = l)
def shL (l : List Nat) : List Nat := match (List.range (l.length - 1)).find? fun i => szOk l (i + 1) with
  | some i => l.take (i + 1)
  | none => l
theorem shL_first {l : List Nat} {i : Nat} (h : i < l.length - 1) (hno : ∀ j, j < i → szOk l (j + 1) = false) (ho : szOk l (i + 1) = true) : shL l = l.take (i + 1) := by
  unfold shL
  have e : (List.range (l.length - 1)).find? (fun i => szOk l (i + 1)) = some i := by
    rw [List.find?_eq_some_iff_append]
    refine ⟨ho, List.range i, (List.range (l.length - 1 - (i + 1))).map (fun k => i + 1 + k), ?_, fun a ha => ?_⟩
    · conv => lhs; rw [show l.length - 1 = i + 1 + (l.length - 1 - (i + 1)) by omega, List.range_add, List.range_succ]
      simp
    · rw [hno a (List.mem_range.mp ha)]; rfl
  rw [e]
theorem shL_none {l : List Nat} (hno : ∀ j, j < l.length - 1 → szOk l (j + 1) = false) : shL l = l := by
  unfold shL
  have e : (List.range (l.length - 1)).find? (fun i => szOk l (i + 1)) = none := by
    rw [List.find?_eq_none]
    intro a ha h
    exact absurd (h.symm.trans (hno a (List.mem_range.mp ha))) (by decide)
  rw [e]
theorem sz_self {l : List Nat} (h : 1 ≤ l.length) : szOk l l.length = true := by
  unfold szOk toldL
  rw [Nat.mod_self, Nat.div_self h, List.take_length]
  simp
theorem shL_char {l : List Nat} (h : 1 ≤ l.length) : ∃ s, 1 ≤ s ∧ s ≤ l.length ∧ szOk l s = true ∧ (∀ r, 1 ≤ r → r < s → szOk l r = false) ∧ shL l = l.take s := by
  by_cases c : ∃ i, i < l.length - 1 ∧ szOk l (i + 1) = true
  · obtain ⟨i, h1, h2, h3⟩ : ∃ i, i < l.length - 1 ∧ szOk l (i + 1) = true ∧ ∀ j, j < i → szOk l (j + 1) = false := by
      obtain ⟨i, h1, h2⟩ := c
      induction i using Nat.strongRecOn with
      | _ i ih =>
        by_cases e : ∃ j, j < i ∧ szOk l (j + 1) = true
        · obtain ⟨j, j1, j2⟩ := e
          exact ih j j1 (by omega) j2
        · exact ⟨i, h1, h2, fun j hj => by
            cases z : szOk l (j + 1) with
            | true => exact absurd ⟨j, hj, z⟩ e
            | false => rfl⟩
    exact ⟨i + 1, by omega, by omega, h2, fun r r1 r2 => by
      have := h3 (r - 1) (by omega)
      rwa [show r - 1 + 1 = r by omega] at this, shL_first h1 h3 h2⟩
  · have hno : ∀ j, j < l.length - 1 → szOk l (j + 1) = false := fun j hj => by
      cases z : szOk l (j + 1) with
      | true => exact absurd ⟨j, hj, z⟩ c
      | false => rfl
    refine ⟨l.length, h, Nat.le_refl _, sz_self h, fun r r1 r2 => ?_, ?_⟩
    · have := hno (r - 1) (by omega)
      rwa [show r - 1 + 1 = r by omega] at this
    · rw [shL_none hno, List.take_length]
def told (P : List Int) (m : Nat) : List Int := (List.replicate m P).flatten
theorem told_D (L : List Int) (m : Nat) : (List.replicate m (L.map D.int)).flatten = (told L m).map D.int := by
  unfold told
  rw [List.map_flatten, List.map_replicate]
theorem cutD_ring (L : List Int) {s : Nat} (h : s ≤ L.length) : cutD (L.map D.int) none (some (s : Int)) = (L.take s).map D.int := by
  rw [cutD_to (by rw [List.length_map]; exact h), List.map_take]
def sizeOk (L : List Int) (s : Nat) : Bool := decide (L.length % s = 0) && decide (told (L.take s) (L.length / s) = L)
def shS (L : List Int) : List Int := match (List.range (L.length - 1)).find? fun i => sizeOk L (i + 1) with
  | some i => L.take (i + 1)
  | none => L
theorem shS_first {L : List Int} {i : Nat} (h : i < L.length - 1) (hno : ∀ j, j < i → sizeOk L (j + 1) = false) (ho : sizeOk L (i + 1) = true) : shS L = L.take (i + 1) := by
  unfold shS
  have e : (List.range (L.length - 1)).find? (fun i => sizeOk L (i + 1)) = some i := by
    rw [List.find?_eq_some_iff_append]
    refine ⟨ho, List.range i, (List.range (L.length - 1 - (i + 1))).map (fun k => i + 1 + k), ?_, fun a ha => ?_⟩
    · conv => lhs; rw [show L.length - 1 = i + 1 + (L.length - 1 - (i + 1)) by omega, List.range_add, List.range_succ]
      simp
    · rw [hno a (List.mem_range.mp ha)]; rfl
  rw [e]
theorem shS_none {L : List Int} (hno : ∀ j, j < L.length - 1 → sizeOk L (j + 1) = false) : shS L = L := by
  unfold shS
  have e : (List.range (L.length - 1)).find? (fun i => sizeOk L (i + 1)) = none := by
    rw [List.find?_eq_none]
    intro a ha h
    exact absurd (h.symm.trans (hno a (List.mem_range.mp ha))) (by decide)
  rw [e]
theorem told_one (L : List Int) : told L 1 = L := by unfold told; simp
theorem size_self {L : List Int} (h : 1 ≤ L.length) : sizeOk L L.length = true := by
  unfold sizeOk
  rw [Nat.mod_self, Nat.div_self h, List.take_length, told_one]
  simp
theorem shS_char {L : List Int} (h : 1 ≤ L.length) : ∃ s, 1 ≤ s ∧ s ≤ L.length ∧ sizeOk L s = true ∧ (∀ r, 1 ≤ r → r < s → sizeOk L r = false) ∧ shS L = L.take s := by
  by_cases c : ∃ i, i < L.length - 1 ∧ sizeOk L (i + 1) = true
  · obtain ⟨i, h1, h2, h3⟩ : ∃ i, i < L.length - 1 ∧ sizeOk L (i + 1) = true ∧ ∀ j, j < i → sizeOk L (j + 1) = false := by
      obtain ⟨i, h1, h2⟩ := c
      induction i using Nat.strongRecOn with
      | _ i ih =>
        by_cases e : ∃ j, j < i ∧ sizeOk L (j + 1) = true
        · obtain ⟨j, j1, j2⟩ := e
          exact ih j j1 (by omega) j2
        · exact ⟨i, h1, h2, fun j hj => by
            cases z : sizeOk L (j + 1) with
            | true => exact absurd ⟨j, hj, z⟩ e
            | false => rfl⟩
    exact ⟨i + 1, by omega, by omega, h2, fun r r1 r2 => by
      have := h3 (r - 1) (by omega)
      rwa [show r - 1 + 1 = r by omega] at this, shS_first h1 h3 h2⟩
  · have hno : ∀ j, j < L.length - 1 → sizeOk L (j + 1) = false := fun j hj => by
      cases z : sizeOk L (j + 1) with
      | true => exact absurd ⟨j, hj, z⟩ c
      | false => rfl
    refine ⟨L.length, h, Nat.le_refl _, size_self h, fun r r1 r2 => ?_, ?_⟩
    · have := hno (r - 1) (by omega)
      rwa [show r - 1 + 1 = r by omega] at this
    · rw [shS_none hno, List.take_length]
def toI : D → Int
  | .int a => a
  | _ => 0
theorem map_toI (L : List Int) : (L.map D.int).map toI = L := by
  rw [List.map_map]
  show L.map (fun a => a) = L
  exact List.map_id' L
/-- the shortest part -/
def shP : D → D
  | .str z => .str (ofL (shL z.cps.toList))
  | .tup xs => ringD (shS (xs.map toI))
  | d => d
theorem shP_word (l : List Nat) : shP (.str (ofL l)) = .str (ofL (shL l)) := by
  show D.str (ofL (shL (ofL l).cps.toList)) = _
  rw [ofL_cps]
theorem shP_ring (L : List Int) : shP (ringD L) = ringD (shS L) := by
  show ringD (shS ((L.map D.int).map toI)) = _
  rw [map_toI]
theorem RowI.take {L : List Int} (R : RowI L) {n : Nat} (h : 1 ≤ n) : RowI (L.take n) := by
  have := R.l0
  have := R.l1
  exact ⟨fun a ha => R.el a (List.mem_of_mem_take ha), by rw [List.length_take]; omega, by rw [List.length_take]; omega⟩
theorem PartI.shP {d : D} (h : PartI d) : PartI (shP d) := by
  cases h with
  | word l ab l0 l1 =>
    rw [shP_word]
    obtain ⟨s, s1, s2, _, _, e⟩ := shL_char l0
    rw [e]
    exact .word _ (isAB_take _ ab) (by rw [List.length_take]; omega) (by rw [List.length_take]; omega)
  | ring L R =>
    rw [shP_ring]
    obtain ⟨s, s1, s2, _, _, e⟩ := shS_char R.l0
    rw [e]
    exact .ring _ (R.take s1)
/-- root's answer -/
def rtA (d : D) : D := .tup [shP d, .int ((lenD d / lenD (shP d) : Nat) : Int)]
theorem rtA_sh {d : D} (h : PartI d) : shD (rtA d) := by
  have hn : lenD d / lenD (shP d) ≤ 60 := Nat.le_trans (Nat.div_le_self _ _) h.len.2
  have hp := h.shP
  have hi : decide (((lenD d / lenD (shP d) : Nat) : Int).natAbs.log2 < 1920) = true := by
    refine decide_eq_true (Nat.lt_trans (log2_lt (n := 6) ?_ (by decide)) (by decide))
    have e : (2 : Nat) ^ 6 = 64 := by decide
    rw [Int.natAbs_natCast, e]
    omega
  unfold rtA
  generalize lenD d / lenD (shP d) = n at *
  obtain ⟨k1, k2, k3⟩ := hp.sh
  have kb : Dv.shL (shP d) ≤ 100000 := by
    generalize shP d = p at *
    cases hp with
    | word l ab l0 l1 =>
      show 10 * (ofL l).length + 2 ≤ _
      rw [ofL_len]; omega
    | ring L R =>
      show shLL (L.map D.int) + 3 ≤ _
      rw [shLL_ints]
      have := R.l1
      omega
  have kd : (pd (shP d)).depth ≤ 59 := by
    generalize shP d = p at *
    cases hp with
    | word l ab l0 l1 => show 0 ≤ 59; decide
    | ring L R =>
      have h := (okD_ints L)
      have h1 := Bool.and_eq_true_iff.mp h
      have h2 := Bool.and_eq_true_iff.mp h1.2
      have h3 := of_decide_eq_true h2.2
      exact Nat.le_trans h3 (by decide)
  refine ⟨?_, ?_, ?_⟩
  · show (shOk (shP d) && (decide _ && true)) = true
    rw [k1, hi]; rfl
  · show Dv.shL (shP d) + 2 + (1921 + 2 + 0) + 3 ≤ _
    omega
  · show max (pd (shP d)).depth (max 0 0) + 1 ≤ 60
    omega
/-- the least turn by which parts are others -/
def frT (d e : D) : Option Nat := (List.range (lenD d)).find? fun k => deq (rotD d k) e
def trnD (d e : D) : D := match frT d e with
  | some k => .int (k : Int)
  | none => .non
def rtD (d : D) : D → D
  | .int i => rotD d i.toNat
  | e => e
theorem rots_map (d : D) (n : Nat) : (rgD 0 n).map (rtD d) = (List.range n).map fun j => rotD d j := by
  unfold rgD
  rw [List.map_map]
  refine List.map_congr_left fun j _ => ?_
  show rotD d ((0 : Int) + (j : Int)).toNat = _
  rw [Int.zero_add, Int.toNat_natCast]
theorem PartI.alikeOk {d : D} (h : PartI d) : isData d = true ∧ (pd d).depth ≤ 50 ∧ ((∃ x xs, d = .tup (x :: xs)) ∨ ∃ z, d = .str z) := by
  have k := h.key
  unfold keyOk at k
  have k1 := (Bool.and_eq_true_iff.mp k).1
  have k2 := Bool.and_eq_true_iff.mp k1
  refine ⟨k2.1, of_decide_eq_true k2.2, ?_⟩
  cases h with
  | word l h l0 l1 => exact .inr ⟨_, rfl⟩
  | ring L R =>
    have l0 := R.l0
    cases L with
    | nil => exact absurd l0 (by decide)
    | cons a L => exact .inl ⟨_, _, rfl⟩
def okP (d : D) (s : Nat) : Bool := match d with
  | .str z => szOk z.cps.toList s
  | .tup xs => sizeOk (xs.map toI) s
  | _ => false
theorem okP_word (l : List Nat) (s : Nat) : okP (.str (ofL l)) s = szOk l s := by
  show szOk (ofL l).cps.toList s = _
  rw [ofL_cps]
theorem okP_ring (L : List Int) (s : Nat) : okP (ringD L) s = sizeOk L s := by
  show sizeOk ((L.map D.int).map toI) s = _
  rw [map_toI]
theorem shP_char {d : D} (h : PartI d) : ∃ s, 1 ≤ s ∧ s ≤ lenD d ∧ okP d s = true ∧ (∀ r, 1 ≤ r → r < s → okP d r = false) ∧ lenD (shP d) = s ∧ ∀ (S : Sd) (Q : DK), Q (shP d) S → rdSl d none (some (s : Int)) S Q := by
  cases h with
  | word l ab l0 l1 =>
    obtain ⟨s, s1, s2, ok, no, e⟩ := shL_char l0
    refine ⟨s, s1, by rw [lenD_word]; exact s2, by rw [okP_word]; exact ok, fun r r1 r2 => by rw [okP_word]; exact no r r1 r2, ?_, fun S Q q => ?_⟩
    · rw [shP_word, lenD_word, e, List.length_take]; omega
    · rw [shP_word, e] at q
      refine ⟨by rw [ofL_len]; omega, ?_⟩
      rw [cutS_take (by omega) (by omega), Int.toNat_natCast]
      exact q
  | ring L R =>
    obtain ⟨s, s1, s2, ok, no, e⟩ := shS_char R.l0
    refine ⟨s, s1, by rw [lenD_ring]; exact s2, by rw [okP_ring]; exact ok, fun r r1 r2 => by rw [okP_ring]; exact no r r1 r2, ?_, fun S Q q => ?_⟩
    · rw [shP_ring, lenD_ring, e, List.length_take]; omega
    · rw [shP_ring, e] at q
      show Q (.tup (cutD (L.map D.int) none (some (s : Int)))) S
      rw [cutD_ring L s2]
      exact q
theorem first_filter {n s : Nat} {h : Nat → Bool} (s1 : 1 ≤ s) (s2 : s ≤ n) (ok : h s = true) (no : ∀ r, 1 ≤ r → r < s → h r = false) : ∃ rest, ((List.range n).map (1 + ·)).filter h = s :: rest := by
  obtain ⟨t, rfl⟩ : ∃ t, s = 1 + t := ⟨s - 1, by omega⟩
  obtain ⟨m, rfl⟩ : ∃ m, n = t + (m + 1) := ⟨n - t - 1, by omega⟩
  rw [List.range_add, List.map_append, List.filter_append]
  have e : ((List.range t).map (1 + ·)).filter h = [] := List.filter_eq_nil_iff.mpr fun k hk hh => by
    obtain ⟨j, hj, rfl⟩ := List.mem_map.mp hk
    have := List.mem_range.mp hj
    rw [no (1 + j) (by omega) (by omega)] at hh
    cases hh
  rw [e, List.nil_append, List.range_succ_eq_map, List.map_cons, List.map_cons, List.filter_cons_of_pos (by exact ok)]
  exact ⟨_, rfl⟩
theorem filter_find {α : Type} (p : α → Bool) : ∀ l : List α, (l.filter p = [] ∧ l.find? p = none) ∨ ∃ x rest, l.filter p = x :: rest ∧ l.find? p = some x
  | [] => .inl ⟨rfl, rfl⟩
  | a :: l => by
    cases c : p a with
    | true => exact .inr ⟨a, _, List.filter_cons_of_pos c, List.find?_cons_of_pos c⟩
    | false =>
      rw [List.filter_cons_of_neg (by rw [c]; decide), List.find?_cons_of_neg (by rw [c]; decide)]
      exact filter_find p l
theorem told_succ (P : List Int) (m : Nat) : told P (m + 1) = P ++ told P m := by unfold told; rw [List.replicate_succ, List.flatten_cons]
theorem told_len (P : List Int) : ∀ m, (told P m).length = m * P.length
  | 0 => by rw [Nat.zero_mul]; rfl
  | m + 1 => by rw [told_succ, List.length_append, told_len P m, Nat.succ_mul, Nat.add_comm]
theorem told_mem {P : List Int} {m : Nat} {x : Int} (h : x ∈ told P m) : x ∈ P := by
  unfold told at h
  obtain ⟨l, hl, hx⟩ := List.mem_flatten.mp h
  rw [(List.mem_replicate.mp hl).2] at hx
  exact hx


def sp_is_whole : SpD := fun ds S Q _ => ∃ d, ds = [d] ∧ isData d = true ∧ Q (.bl (isWh d)) S
theorem len_is_whole : ∀ ds S Q E, sp_is_whole ds S Q E → ds.length = 1 := fun _ _ _ _ ⟨_, e, _⟩ => by rw [e]; rfl

def winD (lo hi : Int) : D → Bool
  | .int a => decide (lo ≤ a ∧ a ≤ hi)
  | _ => false
def sp_is_within : SpD := fun ds S Q _ => ∃ (d : D) (lo hi : Int), ds = [d, .int lo, .int hi] ∧ isData d = true ∧ Q (.bl (winD lo hi d)) S
theorem len_is_within : ∀ ds S Q E, sp_is_within ds S Q E → ds.length = 3 := fun _ _ _ _ ⟨_, _, _, e, _⟩ => by rw [e]; rfl

def rowD (lo hi : Int) : D → Bool
  | .tup xs => decide (lo ≤ (xs.length : Int) ∧ (xs.length : Int) ≤ hi) && xs.all (winD 1 999999)
  | _ => false
def sp_is_row : SpD := fun ds S Q _ => ∃ (d : D) (lo hi : Int) (n : Nat), ds = [d, .int lo, .int hi] ∧ sm n d = true ∧ hi ≤ 1000000 ∧ Q (.bl (rowD lo hi d)) S
theorem len_is_row : ∀ ds S Q E, sp_is_row ds S Q E → ds.length = 3 := fun _ _ _ _ ⟨_, _, _, _, e, _⟩ => by rw [e]; rfl

def sp_is_number_ring : SpD := fun ds S Q _ => ∃ (d : D) (n : Nat), ds = [d] ∧ sm n d = true ∧ Q (.bl (isRingD d)) S
theorem len_is_number_ring : ∀ ds S Q E, sp_is_number_ring ds S Q E → ds.length = 1 := fun _ _ _ _ ⟨_, _, e, _⟩ => by rw [e]; rfl
theorem win_in : ∀ d : D, winD 1 999999 d = inD d := fun d => by cases d <;> rfl
theorem row_ring (d : D) : rowD 1 40 d = isRingD d := by
  cases d with
  | tup xs =>
    show (decide ((1 : Int) ≤ (xs.length : Int) ∧ (xs.length : Int) ≤ 40) && xs.all (winD 1 999999)) = (decide (1 ≤ xs.length ∧ xs.length ≤ 40) && xs.all inD)
    rw [show winD 1 999999 = inD from funext win_in]
    congr 1
    rw [decide_eq_decide]
    omega
  | _ => rfl

def sp_shortest_part : SpD := fun ds S Q _ => ∃ d : D, ds = [d] ∧ PartI d ∧ Q (shP d) S
theorem len_shortest_part : ∀ ds S Q E, sp_shortest_part ds S Q E → ds.length = 1 := fun _ _ _ _ ⟨_, e, _⟩ => by rw [e]; rfl
theorem nat_mod_div {n s : Nat} (s1 : 1 ≤ s) : (n : Int).fmod (s : Int) = ((n % s : Nat) : Int) ∧ (n : Int).fdiv (s : Int) = ((n / s : Nat) : Int) := by
  constructor
  · rw [Int.fmod_eq_emod_of_nonneg _ (by omega)]
    exact (Int.natCast_emod _ _).symm
  · rw [Int.fdiv_eq_ediv_of_nonneg _ (by omega)]
    exact (Int.natCast_ediv _ _).symm
theorem size_goL {l : List Nat} {s : Nat} (s1 : 1 ≤ s) (s2 : s ≤ l.length) (l1 : l.length ≤ 1000) :
    cutS (ofL l) none (some (s : Int)) = ofL (l.take s) ∧ (0 ≤ ((l.length / s : Nat) : Int) ∧ ((ofL (l.take s)).length : Int) * ((l.length / s : Nat) : Int) ≤ 16777216 ∧ ((l.length / s : Nat) : Int) ≤ 16777216) ∧
    (repS (ofL (l.take s)) ((l.length / s : Nat) : Int).toNat = ofL l ↔ toldL (l.take s) (l.length / s) = l) := by
  have hq2 : l.length / s ≤ l.length := Nat.div_le_self _ _
  have hq3 : l.length / s * s ≤ l.length := Nat.div_mul_le_self _ _
  generalize l.length / s = t at *
  refine ⟨by rw [cutS_take (by omega) (by omega), Int.toNat_natCast], ⟨by omega, ?_, by omega⟩, ?_⟩
  · have : ((s * t : Nat) : Int) ≤ 1000 := by rw [Nat.mul_comm]; omega
    rw [Int.natCast_mul] at this
    rw [ofL_len, List.length_take, Nat.min_eq_left s2]
    omega
  · rw [Int.toNat_natCast, repS_ofL]
    exact ofL_inj
theorem size_go {L : List Int} {s : Nat} {S : Sd} {Q : DK} (s1 : 1 ≤ s) (s2 : s ≤ L.length) (hd : L.length % s = 0) (l1 : L.length ≤ 1000) (q : Q (.bl (decide (told (L.take s) (L.length / s) = L))) S) :
    rdMulA (.tup (cutD (L.map D.int) none (some (s : Int)))) (.int (L.length / s : Nat)) S fun x S1 => rdEq x (ringD L) S1 Q := by
  have hq1 : 1 ≤ L.length / s := Nat.div_pos s2 (by omega)
  have hq2 : L.length / s ≤ L.length := Nat.div_le_self _ _
  rw [cutD_ring L s2]
  refine ⟨⟨fun e => ?_, by omega, by omega, by rw [List.length_map, List.length_take]; omega⟩, ?_⟩
  · have := congrArg List.length e
    rw [List.length_map, List.length_take, List.length_nil] at this
    omega
  rw [Int.toNat_natCast, told_D]
  refine ⟨⟨okD_eqOk (okD_ints _) (by decide), okD_eqOk (okD_ints _) (by decide)⟩, ?_⟩
  show Q (.bl (deqL ((told (L.take s) (L.length / s)).map D.int) (L.map D.int))) S
  rw [deqL_ringE]
  exact q

def sp_is_word : SpD := fun ds S Q _ => ∃ d n, ds = [d] ∧ sm n d = true ∧ Q (.bl (isWordD d)) S
theorem len_is_word : ∀ ds S Q E, sp_is_word ds S Q E → ds.length = 1 := fun _ _ _ _ ⟨_, _, e, _⟩ => by rw [e]; rfl

def sp_Ring___init__ : SpD := fun ds S Q E => ∃ (a : Addr) (d : D) (n : Nat), ds = [.obj a, d] ∧ sm n d = true ∧ S a = some (.ins "Ring" [] []) ∧ (partB d = true → Q .non (upS S a (.ins "Ring" ["held"] [d]))) ∧ (partB d = false → E ⟨"NoRing", [], []⟩ S)
theorem len_Ring___init__ : ∀ ds S Q E, sp_Ring___init__ ds S Q E → ds.length = 2 := fun _ _ _ _ ⟨_, _, _, e, _⟩ => by rw [e]; rfl

def sp_Ring_parts : SpD := fun ds S Q _ => ∃ d : D, ds = [.inst "Ring" ["held"] [d]] ∧ Q d S
theorem len_Ring_parts : ∀ ds S Q E, sp_Ring_parts ds S Q E → ds.length = 1 := fun _ _ _ _ ⟨_, e, _⟩ => by rw [e]; rfl

def sp_Ring_turned : SpD := fun ds S Q _ => ∃ (d : D) (k : Int), ds = [.inst "Ring" ["held"] [d], .int k] ∧ PartI d ∧ Q (rotD d (k.fmod (lenD d : Nat)).toNat) S
theorem len_Ring_turned : ∀ ds S Q E, sp_Ring_turned ds S Q E → ds.length = 2 := fun _ _ _ _ ⟨_, _, e, _⟩ => by rw [e]; rfl

def sp_Ring_least_turn : SpD := fun ds S Q _ => ∃ d : D, ds = [.inst "Ring" ["held"] [d]] ∧ PartI d ∧ Q (.int (leastT d)) S
theorem len_Ring_least_turn : ∀ ds S Q E, sp_Ring_least_turn ds S Q E → ds.length = 1 := fun _ _ _ _ ⟨_, e, _⟩ => by rw [e]; rfl

def sp_Ring_least : SpD := fun ds S Q _ => ∃ d : D, ds = [.inst "Ring" ["held"] [d]] ∧ PartI d ∧ Q (rotD d (leastT d)) S
theorem len_Ring_least : ∀ ds S Q E, sp_Ring_least ds S Q E → ds.length = 1 := fun _ _ _ _ ⟨_, e, _⟩ => by rw [e]; rfl

def sp_Ring_root : SpD := fun ds S Q _ => ∃ d : D, ds = [.inst "Ring" ["held"] [d]] ∧ PartI d ∧ Q (rtA d) S
theorem len_Ring_root : ∀ ds S Q E, sp_Ring_root ds S Q E → ds.length = 1 := fun _ _ _ _ ⟨_, e, _⟩ => by rw [e]; rfl

def sp_Ring_turn_to : SpD := fun ds S Q E => ∃ d e : D, ds = [.inst "Ring" ["held"] [d], .inst "Ring" ["held"] [e]] ∧ PartI d ∧ PartI e ∧ (∀ k, frT d e = some k → Q (.int (k : Int)) S) ∧ (frT d e = none → E ⟨"NoTurn", ["other", "one"], [rotD e (leastT e), rotD d (leastT d)]⟩ S)
theorem len_Ring_turn_to : ∀ ds S Q E, sp_Ring_turn_to ds S Q E → ds.length = 2 := fun _ _ _ _ ⟨_, _, e, _⟩ => by rw [e]; rfl

def sp_law_urn : SpD := fun ds S Q _ => ∃ (ns : List Int) (at_ : Int), ds = [.lst (ns.map D.int), .int at_] ∧ 0 ≤ at_ ∧ at_ < 100 ∧ ∀ u S', S u = none → Urn S' u 0 → Oth S S' u → Q (.obj u) S'
theorem len_law_urn : ∀ ds S Q E, sp_law_urn ds S Q E → ds.length = 2 := fun _ _ _ _ ⟨_, _, e, _⟩ => by rw [e]; rfl

def sp_law_draw : SpD := fun ds S Q _ => ∃ u w B, ds = [.obj u, .int w] ∧ Urn S u B ∧ B ≤ 2 ^ 100 ∧ 0 < w ∧ w < 2 ^ 1000 ∧ ∀ n S', 0 ≤ n → n < w → Urn S' u (B + 1) → Oth S S' u → Q (.int n) S'
theorem len_law_draw : ∀ ds S Q E, sp_law_draw ds S Q E → ds.length = 2 := fun _ _ _ _ ⟨_, _, _, e, _⟩ => by rw [e]; rfl

def sp_law_ring : SpD := fun ds S Q _ => ∃ (u : Addr) (B : Int), ds = [.obj u, .int 13] ∧ Urn S u B ∧ B ≤ 2 ^ 97 ∧ ∀ (L : List Int) S', RowI L → L.length ≤ 13 → Urn S' u (B + 100) → Oth S S' u → Q (ringD L) S'
theorem len_law_ring : ∀ ds S Q E, sp_law_ring ds S Q E → ds.length = 2 := fun _ _ _ _ ⟨_, _, e, _⟩ => by rw [e]; rfl

def sp_law_even_word : SpD := fun ds S Q _ => ∃ b a : Nat, ds = [.int b, .int a] ∧ b + a ≤ 1000000 ∧ Q (.str (ofL (evF b (b + a)))) S
theorem len_law_even_word : ∀ ds S Q E, sp_law_even_word ds S Q E → ds.length = 2 := fun _ _ _ _ ⟨_, _, e, _⟩ => by rw [e]; rfl

def sp_law_word : SpD := fun ds S Q _ => ∃ (u : Addr) (B : Int) (most : Nat), ds = [.obj u, .int most] ∧ Urn S u B ∧ B ≤ 2 ^ 97 ∧ 12 ≤ most ∧ most ≤ 1000 ∧ ∀ (l : List Nat) S', isAB l = true → 1 ≤ l.length → l.length ≤ most → Urn S' u (B + 2000) → Oth S S' u → Q (.str (ofL l)) S'
theorem len_law_word : ∀ ds S Q E, sp_law_word ds S Q E → ds.length = 2 := fun _ _ _ _ ⟨_, _, _, e, _⟩ => by rw [e]; rfl

def sp_law_turned : SpD := fun ds S Q _ => ∃ (d : D) (k : Int), ds = [d, .int k] ∧ PartI d ∧ Q (rotD d (k.fmod (lenD d : Nat)).toNat) S
theorem len_law_turned : ∀ ds S Q E, sp_law_turned ds S Q E → ds.length = 2 := fun _ _ _ _ ⟨_, _, e, _⟩ => by rw [e]; rfl

def sp_law_root : SpD := fun ds S Q _ => ∃ d : D, ds = [d] ∧ PartI d ∧ Q (rtA d) S
theorem len_law_root : ∀ ds S Q E, sp_law_root ds S Q E → ds.length = 1 := fun _ _ _ _ ⟨_, e, _⟩ => by rw [e]; rfl

def sp_law_turn : SpD := fun ds S Q _ => ∃ d e : D, ds = [d, e] ∧ PartI d ∧ PartI e ∧ Q (trnD d e) S
theorem len_law_turn : ∀ ds S Q E, sp_law_turn ds S Q E → ds.length = 2 := fun _ _ _ _ ⟨_, _, e, _⟩ => by rw [e]; rfl

def sp_law_least_row : SpD := fun ds S Q _ => ∃ d : D, ds = [d] ∧ PartI d ∧ Q (rotD d (leastT d)) S
theorem len_law_least_row : ∀ ds S Q E, sp_law_least_row ds S Q E → ds.length = 1 := fun _ _ _ _ ⟨_, e, _⟩ => by rw [e]; rfl

def sp_law_is_right : SpD := fun ds S Q _ => ∃ d e : D, ds = [.inst "Ring" ["held"] [d], d, e] ∧ PartI d ∧ PartI e ∧ Q (.bl true) S
theorem len_law_is_right : ∀ ds S Q E, sp_law_is_right ds S Q E → ds.length = 3 := fun _ _ _ _ ⟨_, _, e, _⟩ => by rw [e]; rfl

/-- parts that come again, the part, and how many there may be -/
inductive DrI : D → D → Int → Prop
  | word (l m : List Nat) (hl : isAB l = true) (hm : isAB m = true) (l0 : 1 ≤ l.length) (l1 : l.length ≤ 60) (m0 : 1 ≤ m.length) (m1 : m.length ≤ 20) : DrI (.str (ofL l)) (.str (ofL m)) 60
  | ring (L M : List Int) (RL : RowI L) (RM : RowI M) : DrI (ringD L) (ringD M) 40
def sp_law_drawn : SpD := fun ds S Q _ => ∃ (u : Addr) (B : Int), ds = [.obj u] ∧ Urn S u B ∧ B ≤ 2 ^ 96 ∧ ∀ (d p : D) (most : Int) S', DrI d p most → Urn S' u (B + 3000) → Oth S S' u → Q (.tup [d, p, .int most]) S'
theorem len_law_drawn : ∀ ds S Q E, sp_law_drawn ds S Q E → ds.length = 1 := fun _ _ _ _ ⟨_, _, e, _⟩ => by rw [e]; rfl

def sp_law_beside : SpD := fun ds S Q _ => ∃ (u : Addr) (B : Int) (d p : D) (most : Int), ds = [.obj u, d, p, .int most] ∧ DrI d p most ∧ Urn S u B ∧ B ≤ 2 ^ 96 ∧ ∀ (rs : List D) S', (∀ r ∈ rs, PartI r) → rs.length ≤ 7 → Urn S' u (B + 4) → Oth S S' u → Q (.lst rs) S'
theorem len_law_beside : ∀ ds S Q E, sp_law_beside ds S Q E → ds.length = 4 := fun _ _ _ _ ⟨_, _, _, _, _, e, _⟩ => by rw [e]; rfl

/-! readings, printed by gen.py -/
def rsX : List Str := ["NoRing", "NoTurn"]
abbrev N_is_whole : List Str := ["thing"]
def t_is_whole (Ed : XKD) : TSD :=
  (dRet (dAndV (dCB rdIsi (dCons (dVar 0) (dCons (dC (.ty "int")) dNil))) (dNotV (dCB rdIsi (dCons (dVar 0) (dCons (dC (.ty "bool")) dNil))))))
theorem st_is_whole (a0 : D) : startD N_is_whole [a0] = [some a0] := rfl
abbrev N_is_within : List Str := ["thing", "least", "most"]
def t_is_within (Ed : XKD) : TSD :=
  (dRet (dAndV (dCall sp_is_whole [] (wd Ed) (dCons (dVar 0) dNil)) (dChain rdLe rdLe (dVar 1) (dVar 0) (dVar 2))))
theorem st_is_within (a0 a1 a2 : D) : startD N_is_within [a0, a1, a2] = [some a0, some a1, some a2] := rfl
abbrev N_is_row : List Str := ["thing", "least", "most", "number"]
def t_is_row (Ed : XKD) : TSD :=
  (dSeq (dIfS (dOr (dNot (dTest (dCB rdIsi (dCons (dVar 0) (dCons (dC (.ty "tuple")) dNil))))) (dNot (dTest (dChain rdLe rdLe (dVar 1) (dCB rdLen (dCons (dVar 0) dNil)) (dVar 2))))) (dRet (dC (.bl false))) dNext)
  (dRet (dCB rdAll (dCons (dComp (dItr (dVar 0)) (dName 3) dYes (dCall sp_is_within [] wd0 (dCons (dVar 3) (dCons (dC (.int 1)) (dCons (dC k_MOST_NUMBER) dNil)))) [3]) dNil))))
theorem st_is_row (a0 a1 a2 : D) : startD N_is_row [a0, a1, a2] = [some a0, some a1, some a2, none] := rfl
abbrev N_is_number_ring : List Str := ["thing"]
def t_is_number_ring (Ed : XKD) : TSD :=
  (dRet (dCall sp_is_row [] (wd Ed) (dCons (dVar 0) (dCons (dC (.int 1)) (dCons (dC k_MOST_RING) dNil)))))
theorem st_is_number_ring (a0 : D) : startD N_is_number_ring [a0] = [some a0] := rfl
abbrev N_shortest_part : List Str := ["parts", "many", "size"]
def t_shortest_part (Ed : XKD) : TSD :=
  (dSeq (dSet 1 (dCB rdLen (dCons (dVar 0) dNil)))
  (dSeq (dFor (dRng2 (dCons (dC (.int 1)) (dCons (dVar 1) dNil))) (dName 2)
  (dIfS (dAnd (dTest (dOp rdEq (dOp rdMod (dVar 1) (dVar 2)) (dC (.int 0)))) (dTest (dOp rdEq (dOp rdMulA (dSl (dVar 0) dNoPart (dPart (dVar 2))) (dOp rdFdiv (dVar 1) (dVar 2))) (dVar 0)))) (dRet (dSl (dVar 0) dNoPart (dPart (dVar 2)))) dNext))
  (dRet (dVar 0))))
theorem st_shortest_part (a0 : D) : startD N_shortest_part [a0] = [some a0, none, none] := rfl
abbrev N_is_word : List Str := ["thing", "letter"]
def t_is_word (Ed : XKD) : TSD :=
  (dSeq (dIfS (dOr (dNot (dTest (dCB rdIsi (dCons (dVar 0) (dCons (dC (.ty "str")) dNil))))) (dNot (dTest (dChain rdLe rdLe (dC (.int 1)) (dCB rdLen (dCons (dVar 0) dNil)) (dC k_MOST_LETTERS))))) (dRet (dC (.bl false))) dNext)
  (dRet (dCB rdAll (dCons (dComp (dItr (dVar 0)) (dName 1) dYes (dOp rdInS (dVar 1) (dC k_LETTERS)) [1]) dNil))))
theorem st_is_word (a0 : D) : startD N_is_word [a0] = [some a0, none] := rfl
abbrev N_Ring___init__ : List Str := ["self", "parts"]
def t_Ring___init__ (Ed : XKD) : TSD :=
  (dSeq (dIfS (dAnd (dNot (dTest (dCall sp_is_word [] (wd Ed) (dCons (dVar 1) dNil)))) (dNot (dTest (dCall sp_is_number_ring [] (wd Ed) (dCons (dVar 1) dNil))))) (dRaise (wd Ed) ⟨"NoRing", [], []⟩) dNext)
  (dPut "Ring" "held" (dVar 0) (dVar 1)))
theorem st_Ring___init__ (a0 a1 : D) : startD N_Ring___init__ [a0, a1] = [some a0, some a1] := rfl
abbrev N_Ring_parts : List Str := ["self"]
def t_Ring_parts (Ed : XKD) : TSD :=
  (dRet (dFld "Ring" "held" (dVar 0)))
theorem st_Ring_parts (a0 : D) : startD N_Ring_parts [a0] = [some a0] := rfl
abbrev N_Ring_turned : List Str := ["self", "by", "at"]
def t_Ring_turned (Ed : XKD) : TSD :=
  (dSeq (dSet 2 (dOp rdMod (dVar 1) (dCB rdLen (dCons (dFld "Ring" "held" (dVar 0)) dNil))))
  (dRet (dOp rdAdd (dSl (dFld "Ring" "held" (dVar 0)) (dPart (dVar 2)) dNoPart) (dSl (dFld "Ring" "held" (dVar 0)) dNoPart (dPart (dVar 2))))))
theorem st_Ring_turned (a0 a1 : D) : startD N_Ring_turned [a0, a1] = [some a0, some a1, none] := rfl
abbrev N_Ring_least_turn : List Str := ["self"]
def t_Ring_least_turn (Ed : XKD) : TSD :=
  (dRet (dMinB "Ring" "turned" sp_Ring_turned 0 (dCB rdLen (dCons (dFld "Ring" "held" (dVar 0)) dNil))))
theorem st_Ring_least_turn (a0 : D) : startD N_Ring_least_turn [a0] = [some a0] := rfl
abbrev N_Ring_least : List Str := ["self"]
def t_Ring_least (Ed : XKD) : TSD :=
  (dRet (dMeth "Ring" "turned" sp_Ring_turned [] (wd Ed) (dVar 0) (dCons (dMeth "Ring" "least_turn" sp_Ring_least_turn [] (wd Ed) (dVar 0) dNil) dNil)))
theorem st_Ring_least (a0 : D) : startD N_Ring_least [a0] = [some a0] := rfl
abbrev N_Ring_root : List Str := ["self", "part"]
def t_Ring_root (Ed : XKD) : TSD :=
  (dSeq (dSet 1 (dCall sp_shortest_part [] (wd Ed) (dCons (dFld "Ring" "held" (dVar 0)) dNil)))
  (dRet (dTup (dCons (dVar 1) (dCons (dOp rdFdiv (dCB rdLen (dCons (dFld "Ring" "held" (dVar 0)) dNil)) (dCB rdLen (dCons (dVar 1) dNil))) dNil)))))
theorem st_Ring_root (a0 : D) : startD N_Ring_root [a0] = [some a0, none] := rfl
abbrev N_Ring_turn_to : List Str := ["self", "other", "by"]
def t_Ring_turn_to (Ed : XKD) : TSD :=
  (dSeq (dFor (dRng1 (dCons (dCB rdLen (dCons (dFld "Ring" "held" (dVar 0)) dNil)) dNil)) (dName 2)
  (dIfS (dTest (dOp rdEq (dMeth "Ring" "turned" sp_Ring_turned [] (wd Ed) (dVar 0) (dCons (dVar 2) dNil)) (dMeth "Ring" "parts" sp_Ring_parts [] (wd Ed) (dVar 1) dNil))) (dRet (dVar 2)) dNext))
  (dRaiseF2 (wd Ed) "NoTurn" "one" "other" (dCons (dMeth "Ring" "least" sp_Ring_least [] (wd Ed) (dVar 0) dNil) (dCons (dMeth "Ring" "least" sp_Ring_least [] (wd Ed) (dVar 1) dNil) dNil))))
theorem st_Ring_turn_to (a0 a1 : D) : startD N_Ring_turn_to [a0, a1] = [some a0, some a1, none] := rfl
abbrev N_law_urn : List Str := ["_law_script", "_law_at", "_law_cell", "_law_great"]
def t_law_urn (Ed : XKD) : TSD :=
  (dSeq (dSet 2 (dC (.int 0)))
  (dSeq (dIfS (dTest (dOp rdLt (dVar 1) (dCB rdLen (dCons (dVar 0) dNil)))) (dSet 2 (dOp rdIx (dVar 0) (dVar 1))) dNext)
  (dSeq (dSet 3 (dCB rdAbs (dCons (dVar 2) dNil)))
  (dSeq (dIfS (dTest (dOp rdLt (dVar 3) (dOp rdPow (dC (.int 10)) (dC (.int 18))))) (dSet 3 (dC (.int 0))) dNext)
  (dRet (dLstO (dCons (dVar 3) (dCons (dOp rdAdd (dOp rdAdd (dOp rdAdd (dOp rdMod (dVar 2) (dC (.int 1000000000000000003))) (dOp rdMulA (dOp rdMulA (dC (.int 97)) (dVar 1)) (dVar 1))) (dOp rdMulA (dC (.int 31)) (dVar 1))) (dC (.int 1))) (dCons (dC (.int 0)) dNil)))))))))
theorem st_law_urn (a0 a1 : D) : startD N_law_urn [a0, a1] = [some a0, some a1, none, none] := rfl
abbrev N_law_draw : List Str := ["_law_urn_here", "_law_wide", "_law_digit", "_law_primes", "_law_step", "_law_base", "_law_mixed"]
def t_law_draw (Ed : XKD) : TSD :=
  (dSeq (dIfS (dTest (dOp rdGt (dOp rdIx (dVar 0) (dC (.int 0))) (dC (.int 0)))) (dSeq (dSet 2 (dOp rdMod (dOp rdIx (dVar 0) (dC (.int 0))) (dVar 1)))
  (dSeq (dStore (dVar 0) (dC (.int 0)) (dOp rdFdiv (dOp rdIx (dVar 0) (dC (.int 0))) (dVar 1)))
  (dRet (dVar 2)))) dNext)
  (dSeq (dSet 3 (dTup (dCons (dC (.int 2147483647)) (dCons (dC (.int 2147483629)) (dCons (dC (.int 2147483587)) (dCons (dC (.int 2147483579)) (dCons (dC (.int 2147483563)) (dCons (dC (.int 2147483549)) (dCons (dC (.int 2147483543)) dNil)))))))))
  (dSeq (dStore (dVar 0) (dC (.int 2)) (dOp rdAdd (dOp rdIx (dVar 0) (dC (.int 2))) (dC (.int 1))))
  (dSeq (dSet 4 (dOp rdIx (dVar 0) (dC (.int 2))))
  (dSeq (dSet 5 (dOp rdAdd (dOp rdAdd (dOp rdMulA (dOp rdIx (dVar 0) (dC (.int 1))) (dOp rdAdd (dOp rdMulA (dC (.int 2)) (dVar 4)) (dC (.int 1)))) (dOp rdMulA (dOp rdMulA (dC (.int 6007)) (dVar 4)) (dVar 4))) (dC (.int 53))))
  (dSeq (dSet 6 (dOp rdMod (dOp rdPow (dVar 5) (dC (.int 3))) (dOp rdIx (dVar 3) (dOp rdMod (dVar 4) (dC (.int 7))))))
  (dRet (dOp rdMod (dOp rdFdiv (dOp rdMod (dOp rdMulA (dVar 6) (dOp rdAdd (dOp rdFdiv (dVar 6) (dC (.int 8191))) (dVar 4))) (dOp rdIx (dVar 3) (dOp rdMod (dOp rdAdd (dVar 4) (dC (.int 3))) (dC (.int 7))))) (dC (.int 16))) (dVar 1)))))))))
theorem st_law_draw (a0 a1 : D) : startD N_law_draw [a0, a1] = [some a0, some a1, none, none, none, none, none] := rfl
abbrev N_law_which : List Str := ["_law_e", "_law_some", "_law_names", "_law_right", "_law_name", "_law_ours", "_law_theirs"]
def t_law_which (a : Addr) (od : Option Addr) (xc : Str) : TSD :=
  (dSeq (dSet 1 (dLst (dCons (dTup (dCons (dC (.str "NoNumber")) (dCons (dIsX 0 a od (excIs xc "NoNumber")) (dCons (dIsX 0 a od (excIs xc "ArithmeticError")) dNil)))) (dCons (dTup (dCons (dC (.str "NoForm")) (dCons (dIsX 0 a od (excIs xc "NoForm")) (dCons (dIsX 0 a od (excIs xc "ArithmeticError")) dNil)))) (dCons (dTup (dCons (dC (.str "OverNought")) (dCons (dIsX 0 a od (excIs xc "OverNought")) (dCons (dIsX 0 a od (excIs xc "ZeroDivisionError")) dNil)))) (dCons (dTup (dCons (dC (.str "TooMany")) (dCons (dIsX 0 a od (excIs xc "TooMany")) (dCons (dIsX 0 a od (excIs xc "OverflowError")) dNil)))) (dCons (dTup (dCons (dC (.str "NoKin")) (dCons (dIsX 0 a od (excIs xc "NoKin")) (dCons (dIsX 0 a od (excIs xc "TypeError")) dNil)))) (dCons (dTup (dCons (dC (.str "NoPlace")) (dCons (dIsX 0 a od (excIs xc "NoPlace")) (dCons (dIsX 0 a od (excIs xc "IndexError")) dNil)))) (dCons (dTup (dCons (dC (.str "NoName")) (dCons (dIsX 0 a od (excIs xc "NoName")) (dCons (dIsX 0 a od (excIs xc "KeyError")) dNil)))) (dCons (dTup (dCons (dC (.str "NoTurn")) (dCons (dIsX 0 a od (excIs xc "NoTurn")) (dCons (dIsX 0 a od (excIs xc "LookupError")) dNil)))) (dCons (dTup (dCons (dC (.str "NoRow")) (dCons (dIsX 0 a od (excIs xc "NoRow")) (dCons (dIsX 0 a od (excIs xc "RuntimeError")) dNil)))) (dCons (dTup (dCons (dC (.str "NoStair")) (dCons (dIsX 0 a od (excIs xc "NoStair")) (dCons (dIsX 0 a od (excIs xc "ValueError")) dNil)))) (dCons (dTup (dCons (dC (.str "NoRing")) (dCons (dIsX 0 a od (excIs xc "NoRing")) (dCons (dIsX 0 a od (excIs xc "ValueError")) dNil)))) (dCons (dTup (dCons (dC (.str "NoWord")) (dCons (dIsX 0 a od (excIs xc "NoWord")) (dCons (dIsX 0 a od (excIs xc "ValueError")) dNil)))) (dCons (dTup (dCons (dC (.str "NoStep")) (dCons (dIsX 0 a od (excIs xc "NoStep")) (dCons (dIsX 0 a od (excIs xc "ValueError")) dNil)))) (dCons (dTup (dCons (dC (.str "Uneven")) (dCons (dIsX 0 a od (excIs xc "Uneven")) (dCons (dIsX 0 a od (excIs xc "ValueError")) dNil)))) (dCons (dTup (dCons (dC (.str "NoWay")) (dCons (dIsX 0 a od (excIs xc "NoWay")) (dCons (dIsX 0 a od (excIs xc "ValueError")) dNil)))) (dCons (dTup (dCons (dC (.str "NoTable")) (dCons (dIsX 0 a od (excIs xc "NoTable")) (dCons (dIsX 0 a od (excIs xc "ValueError")) dNil)))) (dCons (dTup (dCons (dC (.str "NoTriple")) (dCons (dIsX 0 a od (excIs xc "NoTriple")) (dCons (dIsX 0 a od (excIs xc "ValueError")) dNil)))) dNil)))))))))))))))))))
  (dSeq (dSet 2 (dComp (dIter (dVar 1)) (dTupG 3 (dGCons (dName 4) (dGCons (dName 5) (dGCons (dName 6) dGNil)))) (dTest (dVar 5)) (dVar 4) [4, 5, 6]))
  (dSeq (dSet 3 (dComp (dIter (dVar 1)) (dTupG 3 (dGCons (dName 4) (dGCons (dName 5) (dGCons (dName 6) dGNil)))) (dAnd (dTest (dVar 5)) (dTest (dVar 6))) (dVar 4) [4, 5, 6]))
  (dSeq (dIfS (dAnd (dTest (dOp rdEq (dCB rdLen (dCons (dVar 2) dNil)) (dC (.int 1)))) (dTest (dOp rdEq (dVar 3) (dVar 2)))) (dRet (dOp rdIx (dVar 2) (dC (.int 0)))) dNext)
  (dRet (dC (.str "several")))))))
theorem st_law_which (a0 : D) : startD N_law_which [a0] = [some a0, none, none, none, none, none, none] := rfl
abbrev N_law_ring : List Str := ["_law_urn_here", "_law_most", "_law_size", "_law_wide", "_law_k"]
def t_law_ring (Ed : XKD) : TSD :=
  (dSeq (dSet 2 (dOp rdIx (dLst (dCons (dC (.int 1)) (dCons (dC (.int 2)) (dCons (dC (.int 4)) (dCons (dC (.int 8)) (dCons (dC (.int 12)) (dCons (dC (.int 12)) (dCons (dC (.int 12)) (dCons (dVar 1) dNil))))))))) (dCall sp_law_draw [] (wd Ed) (dCons (dVar 0) (dCons (dC (.int 8)) dNil)))))
  (dSeq (dSet 3 (dOp rdIx (dLst (dCons (dC (.int 2)) (dCons (dC (.int 2)) (dCons (dC (.int 3)) (dCons (dC (.int 5)) (dCons (dC (.int 30)) (dCons (dC (.int 999999)) dNil))))))) (dCall sp_law_draw [] (wd Ed) (dCons (dVar 0) (dCons (dC (.int 6)) dNil)))))
  (dRet (dCB rdTupA (dCons (dComp (dRng1 (dCons (dOp rdAdd (dC (.int 1)) (dCall sp_law_draw [] (wd Ed) (dCons (dVar 0) (dCons (dVar 2) dNil)))) dNil)) (dName 4) dYes (dOp rdAdd (dC (.int 1)) (dCall sp_law_draw [] wd0 (dCons (dVar 0) (dCons (dVar 3) dNil)))) [4]) dNil)))))
theorem st_law_ring (a0 a1 : D) : startD N_law_ring [a0, a1] = [some a0, some a1, none, none, none] := rfl
abbrev N_law_even_word : List Str := ["_law_bs", "_law_others", "_law_found", "_law_rest", "_law_k"]
def t_law_even_word (Ed : XKD) : TSD :=
  (dSeq (dSet 2 (dC (.str "")))
  (dSeq (dSet 3 (dC (.int 0)))
  (dSeq (dFor (dRng1 (dCons (dOp rdAdd (dVar 0) (dVar 1)) dNil)) (dName 4)
  (dSeq (dSet 3 (dOp rdAdd (dVar 3) (dVar 0)))
  (dSeq (dSet 2 (dOp rdAdd (dVar 2) (dOp rdIx (dC (.str "ab")) (dCB rdInt (dCons (dOp rdGe (dVar 3) (dOp rdAdd (dVar 0) (dVar 1))) dNil)))))
  (dIfS (dTest (dOp rdGe (dVar 3) (dOp rdAdd (dVar 0) (dVar 1)))) (dSet 3 (dOp rdSub (dOp rdSub (dVar 3) (dVar 0)) (dVar 1))) dNext))))
  (dRet (dVar 2)))))
theorem st_law_even_word (a0 a1 : D) : startD N_law_even_word [a0, a1] = [some a0, some a1, none, none, none] := rfl
abbrev N_law_word : List Str := ["_law_urn_here", "_law_most", "_law_size", "_law_together", "_law_wide", "_law_any_word", "_law_way", "_law_bs", "_law_even", "_law_at", "_law_spot", "_law_k"]
def t_law_word (Ed : XKD) : TSD :=
  (dSeq (dSet 2 (dOp rdIx (dLst (dCons (dC (.int 3)) (dCons (dC (.int 6)) (dCons (dC (.int 12)) (dCons (dVar 1) dNil))))) (dCall sp_law_draw [] (wd Ed) (dCons (dVar 0) (dCons (dC (.int 4)) dNil)))))
  (dSeq (dSet 3 (dOp rdAdd (dC (.int 1)) (dCall sp_law_draw [] (wd Ed) (dCons (dVar 0) (dCons (dVar 2) dNil)))))
  (dSeq (dSet 4 (dOp rdIx (dLst (dCons (dC (.int 2)) (dCons (dC (.int 2)) (dCons (dC (.int 5)) dNil)))) (dCall sp_law_draw [] (wd Ed) (dCons (dVar 0) (dCons (dC (.int 3)) dNil)))))
  (dSeq (dSet 5 (dBM "str" rdJoin (dC (.str "")) (dCons (dComp (dRng1 (dCons (dVar 3) dNil)) (dName 11) dYes (dOp rdIx (dC (.str "ba")) (dCB rdInt (dCons (dOp rdGt (dCall sp_law_draw [] wd0 (dCons (dVar 0) (dCons (dVar 4) dNil))) (dC (.int 0))) dNil))) [11]) dNil)))
  (dSeq (dSet 6 (dCall sp_law_draw [] (wd Ed) (dCons (dVar 0) (dCons (dC (.int 4)) dNil))))
  (dSeq (dIfS (dTest (dOp rdLt (dVar 6) (dC (.int 2)))) (dRet (dVar 5)) dNext)
  (dSeq (dSet 7 (dCall sp_law_draw [] (wd Ed) (dCons (dVar 0) (dCons (dOp rdAdd (dVar 3) (dC (.int 1))) dNil))))
  (dSeq (dSet 8 (dCall sp_law_even_word [] (wd Ed) (dCons (dVar 7) (dCons (dOp rdSub (dVar 3) (dVar 7)) dNil))))
  (dSeq (dSet 9 (dCall sp_law_draw [] (wd Ed) (dCons (dVar 0) (dCons (dVar 3) dNil))))
  (dSeq (dSet 8 (dOp rdAdd (dSl (dVar 8) (dPart (dVar 9)) dNoPart) (dSl (dVar 8) dNoPart (dPart (dVar 9)))))
  (dSeq (dIfS (dTest (dOp rdEq (dVar 6) (dC (.int 2)))) (dRet (dVar 8)) dNext)
  (dSeq (dSet 10 (dCall sp_law_draw [] (wd Ed) (dCons (dVar 0) (dCons (dVar 3) dNil))))
  (dRet (dOp rdAdd (dOp rdAdd (dSl (dVar 8) dNoPart (dPart (dVar 10))) (dOp rdIx (dVar 5) (dVar 10))) (dSl (dVar 8) (dPart (dOp rdAdd (dVar 10) (dC (.int 1)))) dNoPart)))))))))))))))
theorem st_law_word (a0 a1 : D) : startD N_law_word [a0, a1] = [some a0, some a1, none, none, none, none, none, none, none, none, none, none] := rfl
abbrev N_law_turned : List Str := ["_law_parts", "_law_step", "_law_at"]
def t_law_turned (Ed : XKD) : TSD :=
  (dSeq (dSet 2 (dOp rdMod (dVar 1) (dCB rdLen (dCons (dVar 0) dNil))))
  (dRet (dOp rdAdd (dSl (dVar 0) (dPart (dVar 2)) dNoPart) (dSl (dVar 0) dNoPart (dPart (dVar 2))))))
theorem st_law_turned (a0 a1 : D) : startD N_law_turned [a0, a1] = [some a0, some a1, none] := rfl
abbrev N_law_root : List Str := ["_law_parts", "_law_many", "_law_sizes", "_law_size"]
def t_law_root (Ed : XKD) : TSD :=
  (dSeq (dSet 1 (dCB rdLen (dCons (dVar 0) dNil)))
  (dSeq (dSet 2 (dComp (dRng2 (dCons (dC (.int 1)) (dCons (dOp rdAdd (dVar 1) (dC (.int 1))) dNil))) (dName 3) (dAnd (dTest (dOp rdEq (dOp rdMod (dVar 1) (dVar 3)) (dC (.int 0)))) (dTest (dOp rdEq (dOp rdMulA (dSl (dVar 0) dNoPart (dPart (dVar 3))) (dOp rdFdiv (dVar 1) (dVar 3))) (dVar 0)))) (dVar 3) [3]))
  (dRet (dTup (dCons (dSl (dVar 0) dNoPart (dPart (dOp rdIx (dVar 2) (dC (.int 0))))) (dCons (dOp rdFdiv (dVar 1) (dOp rdIx (dVar 2) (dC (.int 0)))) dNil))))))
theorem st_law_root (a0 : D) : startD N_law_root [a0] = [some a0, none, none, none] := rfl
abbrev N_law_turn : List Str := ["_law_parts", "_law_others", "_law_some", "_law_k"]
def t_law_turn (Ed : XKD) : TSD :=
  (dSeq (dSet 2 (dComp (dRng1 (dCons (dCB rdLen (dCons (dVar 0) dNil)) dNil)) (dName 3) (dTest (dOp rdEq (dCB rdRepr (dCons (dCall sp_law_turned [] wd0 (dCons (dVar 0) (dCons (dVar 3) dNil))) dNil)) (dCB rdRepr (dCons (dVar 1) dNil)))) (dVar 3) [3]))
  (dRet (dIf (dTest (dOp rdNe (dVar 2) (dLst dNil))) (dOp rdIx (dVar 2) (dC (.int 0))) (dC .non))))
theorem st_law_turn (a0 a1 : D) : startD N_law_turn [a0, a1] = [some a0, some a1, none, none] := rfl
abbrev N_law_least_row : List Str := ["_law_parts", "_law_k"]
def t_law_least_row (Ed : XKD) : TSD :=
  (dRet (dCB rdMinD (dCons (dComp (dRng1 (dCons (dCB rdLen (dCons (dVar 0) dNil)) dNil)) (dName 1) dYes (dCall sp_law_turned [] wd0 (dCons (dVar 0) (dCons (dVar 1) dNil))) [1]) dNil)))
theorem st_law_least_row (a0 : D) : startD N_law_least_row [a0] = [some a0, none] := rfl
abbrev N_law_is_right : List Str := ["_law_ring_here", "_law_parts", "_law_others", "_law_due", "_law_told", "_law_e"]
def t_law_is_right (Ed : XKD) : TSD :=
  (dSeq (dSet 3 (dCall sp_law_turn [] (wd Ed) (dCons (dVar 1) (dCons (dVar 2) dNil))))
  (dSeq (dTry rsX (fun Wd => (dSet 4 (dMeth "Ring" "turn_to" sp_Ring_turn_to [] Wd (dVar 0) (dCons (dMake "Ring" sp_Ring___init__ [] Wd (dCons (dVar 2) dNil)) dNil)))) [⟨["NoTurn"], some 5, fun a od x => (fun D σ S => x.cls = "NoTurn" ∧ (dSeq (dIfS (dOr (dTest (dOp rdIsNot (dVar 3) (dC .non))) (dTest (dOp rdNe (dWhich 5 a od x.cls) (dC (.str "NoTurn"))))) (dRet (dC (.bl false))) dNext)
  (dRet (dAndV (dOp rdEq (dCB rdRepr (dCons (dXf 5 a od "one") dNil)) (dCB rdRepr (dCons (dCall sp_law_least_row [] wd0 (dCons (dVar 1) dNil)) dNil))) (dOp rdEq (dCB rdRepr (dCons (dXf 5 a od "other") dNil)) (dCB rdRepr (dCons (dCall sp_law_least_row [] wd0 (dCons (dVar 2) dNil)) dNil)))))) D σ S)⟩] (wd Ed))
  (dRet (dAndV (dOp rdIsNot (dVar 3) (dC .non)) (dOp rdEq (dCB rdRepr (dCons (dVar 4) dNil)) (dCB rdRepr (dCons (dVar 3) dNil)))))))
theorem st_law_is_right (a0 a1 a2 : D) : startD N_law_is_right [a0, a1, a2] = [some a0, some a1, some a2, none, none, none] := rfl
abbrev N_law_drawn : List Str := ["_law_urn_here", "_law_most", "_law_part", "_law_times"]
def t_law_drawn (Ed : XKD) : TSD :=
  (dSeq (dSet 1 (dOp rdIx (dLst (dCons (dC (.int 40)) (dCons (dC (.int 60)) dNil))) (dCall sp_law_draw [] (wd Ed) (dCons (dVar 0) (dCons (dC (.int 2)) dNil)))))
  (dSeq (dSet 2 (dIf (dTest (dOp rdEq (dVar 1) (dC (.int 60)))) (dCall sp_law_word [] (wd Ed) (dCons (dVar 0) (dCons (dC (.int 20)) dNil))) (dCall sp_law_ring [] (wd Ed) (dCons (dVar 0) (dCons (dC (.int 13)) dNil)))))
  (dSeq (dSet 3 (dOp rdAdd (dC (.int 1)) (dCall sp_law_draw [] (wd Ed) (dCons (dVar 0) (dCons (dOp rdFdiv (dVar 1) (dCB rdLen (dCons (dVar 2) dNil))) dNil)))))
  (dRet (dTup (dCons (dOp rdMulA (dVar 2) (dVar 3)) (dCons (dVar 2) (dCons (dVar 1) dNil))))))))
theorem st_law_drawn (a0 : D) : startD N_law_drawn [a0] = [some a0, none, none, none] := rfl
abbrev N_law_beside : List Str := ["_law_urn_here", "_law_parts", "_law_part", "_law_most", "_law_at", "_law_turned_here", "_law_bent", "_law_some", "_law_row"]
def t_law_beside (Ed : XKD) : TSD :=
  (dSeq (dSet 4 (dCall sp_law_draw [] (wd Ed) (dCons (dVar 0) (dCons (dCB rdLen (dCons (dVar 1) dNil)) dNil))))
  (dSeq (dSet 5 (dCall sp_law_turned [] (wd Ed) (dCons (dVar 1) (dCons (dCall sp_law_draw [] (wd Ed) (dCons (dVar 0) (dCons (dCB rdLen (dCons (dVar 1) dNil)) dNil))) dNil))))
  (dSeq (dSet 6 (dOp rdAdd (dOp rdAdd (dSl (dVar 5) dNoPart (dPart (dVar 4))) (dSl (dVar 1) (dPart (dVar 4)) (dPart (dOp rdAdd (dVar 4) (dC (.int 1)))))) (dSl (dVar 5) (dPart (dOp rdAdd (dVar 4) (dC (.int 1)))) dNoPart)))
  (dSeq (dSet 7 (dLst (dCons (dVar 5) (dCons (dVar 6) (dCons (dRev (dVar 5)) (dCons (dOp rdAdd (dVar 1) (dVar 2)) (dCons (dVar 2) (dCons (dIf (dTest (dOp rdEq (dVar 3) (dC (.int 60)))) (dTup (dCons (dC (.int 1)) (dCons (dC (.int 2)) dNil))) (dC (.str "ab"))) (dCons (dVar 1) dNil)))))))))
  (dRet (dComp (dItr (dVar 7)) (dName 8) (dTest (dOp rdLe (dCB rdLen (dCons (dVar 8) dNil)) (dVar 3))) (dVar 8) [8]))))))
theorem st_law_beside (a0 a1 a2 a3 : D) : startD N_law_beside [a0, a1, a2, a3] = [some a0, some a1, some a2, some a3, none, none, none, none, none] := rfl
abbrev N_law : List Str := ["_law_script", "_law_at", "_law_urn_here", "_law_parts", "_law_part", "_law_most", "_law_ring_here", "_law_others", "_law_row"]
def t_law (Ed : XKD) : TSD :=
  (dSeq (dFor (dRng1 (dCons (dCB rdMax2 (dCons (dC (.int 2)) (dCons (dCB rdMin2 (dCons (dC (.int 4)) (dCons (dCB rdLen (dCons (dVar 0) dNil)) dNil))) dNil))) dNil)) (dName 1)
  (dSeq (dSet 2 (dCall sp_law_urn [] (wd Ed) (dCons (dVar 0) (dCons (dVar 1) dNil))))
  (dSeq (dAsg (dCall sp_law_drawn [] (wd Ed) (dCons (dVar 2) dNil)) (dTupG 3 (dGCons (dName 3) (dGCons (dName 4) (dGCons (dName 5) dGNil)))))
  (dSeq (dSet 6 (dMake "Ring" sp_Ring___init__ [] (wd Ed) (dCons (dVar 3) dNil)))
  (dSeq (dIfS (dTest (dOp rdNe (dCB rdRepr (dCons (dMeth "Ring" "root" sp_Ring_root [] (wd Ed) (dVar 6) dNil) dNil)) (dCB rdRepr (dCons (dCall sp_law_root [] (wd Ed) (dCons (dVar 3) dNil)) dNil)))) (dRet (dC (.bl false))) dNext)
  (dSeq (dSet 7 (dCall sp_law_beside [] (wd Ed) (dCons (dVar 2) (dCons (dVar 3) (dCons (dVar 4) (dCons (dVar 5) dNil))))))
  (dSeq (dFor (dItr (dOp rdAdd (dVar 7) (dSl (dVar 7) dNoPart (dPart (dC (.int 2)))))) (dName 8)
  (dIfS (dOr (dNot (dTest (dCall sp_law_is_right [] (wd Ed) (dCons (dVar 6) (dCons (dVar 3) (dCons (dVar 8) dNil)))))) (dNot (dTest (dCall sp_law_is_right [] (wd Ed) (dCons (dMake "Ring" sp_Ring___init__ [] (wd Ed) (dCons (dVar 8) dNil)) (dCons (dVar 8) (dCons (dVar 3) dNil))))))) (dRet (dC (.bl false))) dNext))
  (dIfS (dOr (dTest (dOp rdNe (dCB rdRepr (dCons (dMeth "Ring" "root" sp_Ring_root [] (wd Ed) (dVar 6) dNil) dNil)) (dCB rdRepr (dCons (dCall sp_law_root [] (wd Ed) (dCons (dVar 3) dNil)) dNil)))) (dTest (dOp rdNe (dCB rdRepr (dCons (dMeth "Ring" "parts" sp_Ring_parts [] (wd Ed) (dVar 6) dNil) dNil)) (dCB rdRepr (dCons (dVar 3) dNil))))) (dRet (dC (.bl false))) dNext))))))))
  (dRet (dC (.bl true))))
theorem st_law (a0 : D) : startD N_law [a0] = [some a0, none, none, none, none, none, none, none, none] := rfl

local macro_rules | `(tactic| walk_at "dy") => `(tactic| simp only [dCall, List.append_nil, dSeq, dSet, dIfS, dRet, dNext, dTest, dOp, dCB, dCons, dNil, dC, x_var0, x_varS, dTup, dLst, dLstO, dAndV, dOrV, dNotV, dAnd, dOr, dNot, dIf, dChain, dChain3, dStore, dBM, dDrop, dAsg, dTupG, x_tupL, x_tupX, dPlain, x_mulL, x_eqO_ss, x_neO_ss, dBM0, dGCons, dGNil, dName, dUn, dPar, dPar3, dSl, dPart, dNoPart, dRev, dBk, dFor, dItr, dRng1, dRng2,
  x_add_ii, x_add_ib, x_add_ss, x_add_tt, x_add_ll, x_sub, x_mul, x_mul_s, x_mulA, x_mulA_s, x_mulA_t, dCallK, sel_n1, sel_n2, sel_x2, sel_12, dZip, zipR, x_fdiv, x_mod, x_pow, x_neg, x_lt, x_le, x_gt, x_ge, x_eq_ii, x_eq_ss, x_eq_bb, x_ne_ii, x_ne_ss, x_ne_bb, x_abs, x_str_i, x_str_s, x_divmod, x_max2, x_min2, x_int_i, x_int_b, x_tupA_l, x_tupA_t, x_tupA_s, x_listA_l, x_listA_t, x_listA_s, x_sl_t, x_sl_l, x_sl_s, x_ixs, x_ixQ, x_ixS, atI_0, atI_1, atI_2, atI_3, x_inS, x_inT, x_notInT, dKin, dHT, dKeyed, keyR, dSumT, x_is_bb, x_isNot_bb, x_is_n, x_isNot_n, x_count, tyM,
  x_len_tup, x_len_lst, x_len_str, x_ixt, x_ixl, x_isi, isi_non_int, isi_non_bool, isi_non_str, isi_non_tuple, isi_non_list, isi_bl_int, isi_bl_bool, isi_bl_str, isi_bl_tuple, isi_bl_list, isi_int_int, isi_int_bool, isi_int_str, isi_int_tuple, isi_int_list, isi_str_int, isi_str_bool, isi_str_str, isi_str_tuple, isi_str_list, isi_tup_int, isi_tup_bool, isi_tup_str, isi_tup_tuple, isi_tup_list, isi_lst_int, isi_lst_bool, isi_lst_str, isi_lst_tuple, isi_lst_list,
  List.set_cons_zero, List.set_cons_succ, ite_tt, ite_ff, Bool.not_true, Bool.not_false, List.length_cons, List.length_nil, true_and, and_true, Nat.reduceAdd, Nat.reduceLeDiff, decide_eq_true_eq, Bool.not_eq_true', decide_eq_false_iff_not, reduceCtorEq, eq_self, if_false, if_true])

theorem pure_is_whole : ∀ ds S Q Ed, sp_is_whole ds S Q Ed → t_is_whole Ed { nx := fun _ S' => Q .non S', rt := Q } (startD N_is_whole ds) S := by
  rintro ds S Q Ed ⟨d, rfl, hd, q⟩
  rw [st_is_whole]
  unfold t_is_whole
  cases d <;> first | (walk_at "dy"; exact q) | exact absurd (show false = true from hd) Bool.false_ne_true

theorem pure_is_within : ∀ ds S Q Ed, sp_is_within ds S Q Ed → t_is_within Ed { nx := fun _ S' => Q .non S', rt := Q } (startD N_is_within ds) S := by
  rintro ds S Q Ed ⟨d, lo, hi, rfl, hd, q⟩
  rw [st_is_within]
  unfold t_is_within
  walk_at "dy"
  refine ⟨d, rfl, hd, ?_⟩
  cases d with
  | int a =>
    have e : isWh (.int a) = true := rfl
    rw [e]
    walk_at "dy"
    have e2 : winD lo hi (.int a) = decide (lo ≤ a ∧ a ≤ hi) := rfl
    rw [e2] at q
    by_cases c : lo ≤ a
    · rw [if_pos c]
      simp only [c, true_and] at q
      exact q
    · rw [if_neg c]
      rw [decide_eq_false (fun h => c h.1)] at q
      exact q
  | _ => exact q

theorem pure_is_row : ∀ ds S Q Ed, sp_is_row ds S Q Ed → t_is_row Ed { nx := fun _ S' => Q .non S', rt := Q } (startD N_is_row ds) S := by
  rintro ds S Q Ed ⟨d, lo, hi, n, rfl, hd, hh, q⟩
  rw [st_is_row]
  unfold t_is_row
  cases d with
  | tup xs =>
    walk_at "dy"
    have e0 : rowD lo hi (.tup xs) = (decide (lo ≤ (xs.length : Int) ∧ (xs.length : Int) ≤ hi) && xs.all (winD 1 999999)) := rfl
    rw [e0] at q
    by_cases c1 : lo ≤ (xs.length : Int)
    · rw [if_pos c1]
      by_cases c2 : (xs.length : Int) ≤ hi
      · rw [if_neg (fun h => h c2)]
        rw [decide_eq_true ⟨c1, c2⟩, Bool.true_and] at q
        refine comp_pure (fun d => .bl (winD 1 999999 d)) xs S (fun R hR => hR) (fun x hx S' Q' q' => ?_) (by omega) ?_
        · exact (⟨x, 1, 999999, rfl, sm_data (smT.mp hd x hx), q'⟩ : sp_is_within [x, .int 1, .int 999999] S' Q' (fun _ _ => False))
        · refine x_allb (bs := xs.map (winD 1 999999)) (by rw [List.map_map]; rfl) ?_
          rw [List.all_map]
          exact q
      · rw [if_pos c2]
        rw [decide_eq_false (fun h => c2 h.2)] at q
        exact q
    · rw [if_neg c1]
      try walk_at "dy"
      rw [decide_eq_false (fun h => c1 h.1)] at q
      exact q
  | _ => first | (walk_at "dy"; exact q) | exact absurd (show false = true from hd) Bool.false_ne_true

theorem pure_is_number_ring : ∀ ds S Q Ed, sp_is_number_ring ds S Q Ed → t_is_number_ring Ed { nx := fun _ S' => Q .non S', rt := Q } (startD N_is_number_ring ds) S := by
  rintro ds S Q Ed ⟨d, n, rfl, hd, q⟩
  rw [st_is_number_ring]
  unfold t_is_number_ring
  walk_at "dy"
  exact ⟨d, 1, 40, n, rfl, hd, by decide, by rw [row_ring]; exact q⟩

theorem pure_shortest_part : ∀ ds S Q Ed, sp_shortest_part ds S Q Ed → t_shortest_part Ed { nx := fun _ S' => Q .non S', rt := Q } (startD N_shortest_part ds) S := by
  rintro ds S Q Ed ⟨d, rfl, hd, q⟩
  cases hd with
  | word l ab h1 h60 =>
    rw [shP_word] at q
    have h40 : l.length ≤ 1000 := by omega
    rw [st_shortest_part]
    unfold t_shortest_part
    refine seq_step fun r hr => ?_
    walk_at "dy"
    rw [ofL_len]
    refine ⟨by omega, ?_⟩
    subst hr
    refine seq_step fun r hr => ?_
    walk_at "dy"
    refine ⟨by omega, ?_⟩
    refine loop_rng (fun i σ S' => (∃ z, σ = [some (.str (ofL l)), some (.int l.length), z]) ∧ S' = S ∧ ∀ j, j < i → szOk l (j + 1) = false) ⟨⟨_, rfl⟩, rfl, fun j h => by omega⟩ ?_ ?_
    · rintro i σ S' N hi ⟨⟨z, rfl⟩, rfl, hno⟩ k
      have hi' : i < l.length - 1 := by omega
      walk_at "dy"
      refine ⟨by omega, ?_⟩
      have ei : (1 + (i : Int)) = ((i + 1 : Nat) : Int) := by omega
      obtain ⟨em, ed⟩ := nat_mod_div (n := l.length) (show 1 ≤ i + 1 by omega)
      rw [ei, em]
      have next : szOk l (i + 1) = false → N [some (.str (ofL l)), some (.int l.length), some (.int ((i + 1 : Nat) : Int))] S' := fun h => k _ _ ⟨⟨_, rfl⟩, rfl, fun j hj => by
        by_cases e : j = i
        · rw [e]; exact h
        · exact hno j (by omega)⟩
      by_cases c : l.length % (i + 1) = 0
      · rw [if_pos (by omega)]
        refine ⟨by rw [ofL_len]; omega, ?_⟩
        refine ⟨⟨by omega, ?_⟩, ?_⟩
        · have : (((i + 1 : Nat) : Int)).natAbs.log2 ≤ (i + 1) := by
            rw [Int.natAbs_natCast]
            exact Nat.log2_le_self _
          omega
        rw [ed]
        obtain ⟨g1, g2, g3⟩ := size_goL (l := l) (s := i + 1) (by omega) (by omega) h40
        rw [g1]
        refine ⟨g2, ?_⟩
        by_cases c2 : toldL (l.take (i + 1)) (l.length / (i + 1)) = l
        · rw [if_pos (g3.mpr c2)]
          have ho : szOk l (i + 1) = true := by unfold szOk; rw [decide_eq_true c, decide_eq_true c2]; rfl
          have e := shL_first hi' hno ho
          rw [e] at q
          exact ⟨by rw [ofL_len]; omega, q⟩
        · rw [if_neg (fun h => c2 (g3.mp h))]
          exact next (by unfold szOk; rw [decide_eq_false c2, Bool.and_false])
      · rw [if_neg (by omega)]
        exact next (by unfold szOk; rw [decide_eq_false c]; rfl)
    · rintro σ S' ⟨⟨z, rfl⟩, rfl, hno⟩
      subst hr
      walk_at "dy"
      have e := shL_none (l := l) fun j hj => hno j (by omega)
      rw [e] at q
      exact q
  | ring L R =>
    rw [shP_ring] at q
    have h1 := R.l0
    have h40 : L.length ≤ 1000 := Nat.le_trans R.l1 (by decide)
    rw [st_shortest_part]
    unfold t_shortest_part
    refine seq_step fun r hr => ?_
    unfold ringD
    walk_at "dy"
    rw [List.length_map]
    subst hr
    refine seq_step fun r hr => ?_
    walk_at "dy"
    refine ⟨by omega, ?_⟩
    refine loop_rng (fun i σ S' => (∃ z, σ = [some (ringD L), some (.int L.length), z]) ∧ S' = S ∧ ∀ j, j < i → sizeOk L (j + 1) = false) ⟨⟨_, rfl⟩, rfl, fun j h => by omega⟩ ?_ ?_
    · rintro i σ S' N hi ⟨⟨z, rfl⟩, rfl, hno⟩ k
      have hi' : i < L.length - 1 := by omega
      unfold ringD
      walk_at "dy"
      refine ⟨by omega, ?_⟩
      have ei : (1 + (i : Int)) = ((i + 1 : Nat) : Int) := by omega
      obtain ⟨em, ed⟩ := nat_mod_div (n := L.length) (show 1 ≤ i + 1 by omega)
      rw [ei, em]
      have next : sizeOk L (i + 1) = false → N [some (ringD L), some (.int L.length), some (.int ((i + 1 : Nat) : Int))] S' := fun h => k _ _ ⟨⟨_, rfl⟩, rfl, fun j hj => by
        by_cases e : j = i
        · rw [e]; exact h
        · exact hno j (by omega)⟩
      by_cases c : L.length % (i + 1) = 0
      · rw [if_pos (by omega)]
        refine ⟨⟨by omega, ?_⟩, ?_⟩
        · have : (((i + 1 : Nat) : Int)).natAbs.log2 ≤ (i + 1) := by
            rw [Int.natAbs_natCast]
            exact Nat.log2_le_self _
          omega
        rw [ed]
        refine size_go (by omega) (by omega) c h40 ?_
        by_cases c2 : told (L.take (i + 1)) (L.length / (i + 1)) = L
        · have ho : sizeOk L (i + 1) = true := by unfold sizeOk; rw [decide_eq_true c, decide_eq_true c2]; rfl
          have e := shS_first hi' hno ho
          rw [e] at q
          rw [decide_eq_true c2]
          walk_at "dy"
          rw [cutD_ring L (by omega)]
          exact q
        · rw [decide_eq_false c2]
          walk_at "dy"
          exact next (by unfold sizeOk; rw [decide_eq_false c2, Bool.and_false])
      · rw [if_neg (by omega)]
        exact next (by unfold sizeOk; rw [decide_eq_false c]; rfl)
    · rintro σ S' ⟨⟨z, rfl⟩, rfl, hno⟩
      subst hr
      walk_at "dy"
      have e := shS_none (L := L) fun j hj => hno j (by omega)
      rw [e] at q
      exact q

theorem pure_is_word : ∀ ds S Q Ed, sp_is_word ds S Q Ed → t_is_word Ed { nx := fun _ S' => Q .non S', rt := Q } (startD N_is_word ds) S := by
  rintro ds S Q Ed ⟨d, n, rfl, hd, q⟩
  rw [st_is_word]
  unfold t_is_word
  cases d with
  | str z =>
    walk_at "dy"
    have hz := sm_str.mp hd
    refine ⟨by omega, ?_⟩
    by_cases c1 : 1 ≤ (z.length : Int)
    · rw [if_pos c1]
      by_cases c2 : (z.length : Int) ≤ 60
      · rw [if_neg (by simp [c2])]
        refine abD_comp (fun c S' Q' q' => ?_) hz _ (fun R hR => hR) ?_
        · show rdInS (.str ⟨#[c]⟩) (.str "ab") S' Q'
          rw [x_inS, ab_cps]
          exact q'
        · have e : isWordD (.str z) = isAB z.cps.toList := by
            show (decide (1 ≤ z.length ∧ z.length ≤ 60) && _) = _
            rw [decide_eq_true ⟨by omega, by omega⟩]
            rfl
          rw [← e]; exact q
      · rw [if_pos (by simp; omega)]
        have e : isWordD (.str z) = false := by
          show (decide (1 ≤ z.length ∧ z.length ≤ 60) && _) = _
          rw [decide_eq_false (by omega)]
          rfl
        rw [← e]; exact q
    · rw [if_neg c1]
      have e : isWordD (.str z) = false := by
        show (decide (1 ≤ z.length ∧ z.length ≤ 60) && _) = _
        rw [decide_eq_false (by omega)]
        rfl
      rw [← e]; exact q
  | _ => first | (walk_at "dy"; exact q) | exact absurd (show false = true from hd) Bool.false_ne_true

theorem pure_Ring___init__ : ∀ ds S Q Ed, sp_Ring___init__ ds S Q Ed → t_Ring___init__ Ed { nx := fun _ S' => Q .non S', rt := Q } (startD N_Ring___init__ ds) S := by
  rintro ds S Q Ed ⟨a, d, n, rfl, hd, ha, q1, q2⟩
  rw [st_Ring___init__]
  unfold t_Ring___init__
  refine seq_step fun r hr => ?_
  walk_at "dy"
  refine ⟨d, n, rfl, hd, ?_⟩
  have fin : partB d = true → r { nx := fun _ S' => Q .non S', rt := Q } [some (.obj a), some d] S := fun e => by
    subst hr
    unfold dPut
    walk_at "dy"
    exact ⟨a, [], [], rfl, ha, by simp, by decide, q1 e⟩
  unfold partB at fin q2
  cases e : isWordD d with
  | true =>
    rw [e] at fin
    try walk_at "dy"
    exact fin rfl
  | false =>
    rw [e] at fin q2
    try walk_at "dy"
    refine ⟨d, n, rfl, hd, ?_⟩
    cases e2 : isRingD d with
    | true =>
      rw [e2] at fin
      try walk_at "dy"
      exact fin rfl
    | false =>
      rw [e2] at q2
      try walk_at "dy"
      exact q2 rfl

theorem pure_Ring_parts : ∀ ds S Q Ed, sp_Ring_parts ds S Q Ed → t_Ring_parts Ed { nx := fun _ S' => Q .non S', rt := Q } (startD N_Ring_parts ds) S := by
  rintro ds S Q Ed ⟨d, rfl, q⟩
  rw [st_Ring_parts]
  unfold t_Ring_parts dFld
  walk_at "dy"
  exact ⟨_, _, _, rfl, rfl, q⟩

theorem x_lenP {d : D} {S : Sd} {Q : DK} (h : PartI d) (q : Q (.int (lenD d : Nat)) S) : rdLen [d] S Q := by
  have hl := h.len
  cases h with
  | word l h l0 l1 =>
    have z : (ofL l).length ≤ 16777216 := by rw [ofL_len]; omega
    exact ⟨z, q⟩
  | ring L R => exact q
theorem held_at {d : D} {S : Sd} {Q : DK} {to : TED} {σ : Si} (h : ∀ P : DK, P (.inst "Ring" ["held"] [d]) S → to σ S P) (q : Q d S) : dFld "Ring" "held" to σ S Q := h _ ⟨_, _, _, rfl, rfl, q⟩
theorem rot_add {d : D} {S : Sd} {Q : DK} {i : Nat} (h : PartI d) (hi : i ≤ lenD d) (q : Q (rotD d i) S) : rdSl d (some (i : Int)) none S fun x S1 => rdSl d none (some (i : Int)) S1 fun y S2 => rdAdd x y S2 Q := by
  cases h with
  | word l h l0 l1 =>
    rw [lenD_word] at hi
    rw [rotD_word] at q
    walk_at "dy"
    rw [cutS_drop (by omega) (by omega), cutS_take (by omega) (by omega), ofL_app]
    have e : ((i : Int)).toNat = i := by omega
    simp only [e, ofL_len]
    refine ⟨by omega, by omega, by rw [List.length_drop, List.length_take]; omega, q⟩
  | ring L R =>
    rw [lenD_ring] at hi
    rw [rotD_ring] at q
    have l1 := R.l1
    unfold ringD
    walk_at "dy"
    have c1 := cutD_len (xs := L.map D.int) (lo := some (i : Int)) (hi := none)
    have c2 := cutD_len (xs := L.map D.int) (lo := none) (hi := some (i : Int))
    rw [List.length_map] at c1 c2
    refine ⟨by omega, ?_⟩
    have e : D.tup (cutD (L.map D.int) (some (i : Int)) none ++ cutD (L.map D.int) none (some (i : Int))) = ringD (rotI L i) := by
      rw [cutD_from (by rw [List.length_map]; exact hi), cutD_to (by rw [List.length_map]; exact hi)]
      unfold ringD rotI
      rw [List.map_append, List.map_drop, List.map_take]
    rw [e]
    exact q
theorem rot_add2 {d : D} {S : Sd} {Q : DK} {i : Nat} {F : Sd → DK → Prop} (h : PartI d) (hi : i ≤ lenD d) (hF : ∀ S' Q', Q' d S' → F S' Q') (q : Q (rotD d i) S) : rdSl d (some (i : Int)) none S fun x S1 => F S1 fun z S2 => rdSl z none (some (i : Int)) S2 fun y S3 => rdAdd x y S3 Q := by
  cases h with
  | word l h l0 l1 =>
    rw [lenD_word] at hi
    rw [rotD_word] at q
    walk_at "dy"
    rw [cutS_drop (by omega) (by omega)]
    have e : ((i : Int)).toNat = i := by omega
    simp only [e, ofL_len]
    refine ⟨by omega, hF _ _ ?_⟩
    walk_at "dy"
    rw [cutS_take (by omega) (by omega), ofL_app]
    simp only [e, ofL_len]
    exact ⟨by omega, by rw [List.length_drop, List.length_take]; omega, q⟩
  | ring L R =>
    rw [lenD_ring] at hi
    rw [rotD_ring] at q
    have l1 := R.l1
    unfold ringD at hF ⊢
    walk_at "dy"
    have c1 := cutD_len (xs := L.map D.int) (lo := some (i : Int)) (hi := none)
    have c2 := cutD_len (xs := L.map D.int) (lo := none) (hi := some (i : Int))
    rw [List.length_map] at c1 c2
    refine hF _ _ ?_
    walk_at "dy"
    refine ⟨by omega, ?_⟩
    have e : D.tup (cutD (L.map D.int) (some (i : Int)) none ++ cutD (L.map D.int) none (some (i : Int))) = ringD (rotI L i) := by
      rw [cutD_from (by rw [List.length_map]; exact hi), cutD_to (by rw [List.length_map]; exact hi)]
      unfold ringD rotI
      rw [List.map_append, List.map_drop, List.map_take]
    rw [e]
    exact q
theorem pure_Ring_turned : ∀ ds S Q Ed, sp_Ring_turned ds S Q Ed → t_Ring_turned Ed { nx := fun _ S' => Q .non S', rt := Q } (startD N_Ring_turned ds) S := by
  rintro ds S Q Ed ⟨d, k, rfl, h, q⟩
  rw [st_Ring_turned]
  unfold t_Ring_turned
  obtain ⟨l0, l1⟩ := h.len
  refine seq_step fun r hr => ?_
  walk_at "dy"
  refine held_at (d := d) (fun P h => by walk_at "dy"; exact h) ?_
  refine x_lenP h ?_
  have f := fmod_in (a := k) (b := ((lenD d : Nat) : Int)) (by omega)
  try walk_at "dy"
  refine ⟨by omega, ?_⟩
  subst hr
  obtain ⟨i, hi⟩ := Int.eq_ofNat_of_zero_le f.1
  rw [hi] at f q ⊢
  have e2 : ((i : Int)).toNat = i := by omega
  rw [e2] at q
  have held : ∀ (S' : Sd) (Q' : DK), Q' d S' → dFld "Ring" "held" (dVar 0) [some (D.inst "Ring" ["held"] [d]), some (.int k), some (.int (i : Int))] S' Q' := fun S' Q' h => held_at (d := d) (fun P h => by walk_at "dy"; exact h) h
  simp only [dRet, dOp, dSl, dPart, dNoPart, x_var0, x_varS]
  refine held _ _ ?_
  refine rot_add2 h (by omega) (fun S' Q' => held S' Q') q

theorem pure_Ring_least_turn : ∀ ds S Q Ed, sp_Ring_least_turn ds S Q Ed → t_Ring_least_turn Ed { nx := fun _ S' => Q .non S', rt := Q } (startD N_Ring_least_turn ds) S := by
  rintro ds S Q Ed ⟨d, rfl, h, q⟩
  rw [st_Ring_least_turn]
  unfold t_Ring_least_turn
  obtain ⟨l0, l1⟩ := h.len
  show dMinB "Ring" "turned" sp_Ring_turned 0 (dCB rdLen (dCons (dFld "Ring" "held" (dVar 0)) dNil)) [some (.inst "Ring" ["held"] [d])] S Q
  unfold dMinB
  walk_at "dy"
  refine held_at (d := d) (fun P g => by walk_at "dy"; exact g) ?_
  refine x_lenP h ?_
  refine ⟨lenD d, _, fun j => rotD d j, rfl, by omega, by omega, rfl, ⟨_, _, rfl, by decide⟩, fun j hj Q' q' => ⟨d, j, rfl, h, ?_⟩, fun j hj => (h.rot j).key, fun i j hi hj => h.alike i j, q⟩
  have e : ((j : Nat) : Int).fmod (lenD d : Nat) = j := by
    rw [Int.fmod_eq_emod_of_nonneg _ (by omega)]
    exact Int.emod_eq_of_lt (by omega) (by omega)
  rw [e]
  exact q'

theorem pure_Ring_least : ∀ ds S Q Ed, sp_Ring_least ds S Q Ed → t_Ring_least Ed { nx := fun _ S' => Q .non S', rt := Q } (startD N_Ring_least ds) S := by
  rintro ds S Q Ed ⟨d, rfl, h, q⟩
  rw [st_Ring_least]
  unfold t_Ring_least dMeth
  walk_at "dy"
  refine ⟨⟨_, _, rfl, by decide⟩, ⟨_, _, rfl, by decide⟩, d, rfl, h, ?_⟩
  refine ⟨d, leastT d, rfl, h, ?_⟩
  have := leastT_lt h
  have e : ((leastT d : Nat) : Int).fmod (lenD d : Nat) = leastT d := by
    rw [Int.fmod_eq_emod_of_nonneg _ (by omega)]
    exact Int.emod_eq_of_lt (by omega) (by omega)
  rw [e]
  exact q

theorem pure_Ring_root : ∀ ds S Q Ed, sp_Ring_root ds S Q Ed → t_Ring_root Ed { nx := fun _ S' => Q .non S', rt := Q } (startD N_Ring_root ds) S := by
  rintro ds S Q Ed ⟨d, rfl, h, q⟩
  rw [st_Ring_root]
  unfold t_Ring_root
  obtain ⟨l0, l1⟩ := h.len
  obtain ⟨m0, m1⟩ := h.shP.len
  refine seq_step fun r hr => ?_
  walk_at "dy"
  refine ⟨_, _, _, rfl, rfl, ?_⟩
  refine ⟨d, rfl, h, ?_⟩
  subst hr
  walk_at "dy"
  refine ⟨_, _, _, rfl, rfl, ?_⟩
  refine x_lenP h ?_
  try walk_at "dy"
  refine x_lenP h.shP ?_
  try walk_at "dy"
  have e : ((lenD d : Nat) : Int).fdiv ((lenD (shP d) : Nat) : Int) = ((lenD d / lenD (shP d) : Nat) : Int) := by
    rw [Int.fdiv_eq_ediv_of_nonneg _ (by omega)]
    exact (Int.natCast_ediv _ _).symm
  refine ⟨⟨by omega, ?_⟩, ?_⟩
  · have e2 : (2 : Nat) ^ 6 = 64 := by decide
    exact Nat.lt_trans (log2_lt (n := 6) (by omega) (by decide)) (by decide)
  · rw [e]
    exact q

theorem eq_part {d e : D} (h : PartI d) (k : PartI e) {S : Sd} {Q : DK} (q : Q (.bl (deq d e)) S) : rdEq d e S Q := by
  cases h with
  | word l ab l0 l1 =>
    cases k with
    | word m am m0 m1 =>
      rw [x_eq_ss]
      have e : deq (.str (ofL l)) (.str (ofL m)) = decide (ofL l = ofL m) := by
        show ((ofL l) == (ofL m)) = _
        exact Bool.eq_iff_iff.mpr (by simp)
      rw [← e]
      exact q
    | ring M R => exact ⟨⟨okD_eqOk (k := 1) (okD_word ab) (by decide), okD_eqOk (okD_ints M) (by decide)⟩, q⟩
  | ring L R =>
    cases k with
    | word m am m0 m1 => exact ⟨⟨okD_eqOk (okD_ints L) (by decide), okD_eqOk (k := 1) (okD_word am) (by decide)⟩, q⟩
    | ring M R2 => exact ⟨⟨okD_eqOk (okD_ints L) (by decide), okD_eqOk (okD_ints M) (by decide)⟩, q⟩
theorem name_go {i : Nat} {x : D} {σ : Si} {S : Sd} {K : Si → Sd → Prop} (h : K (σ.set i (some x)) S) : dName i x σ S K := h
theorem frT_first {d e : D} {i : Nat} (hi : i < lenD d) (no : ∀ j, j < i → deq (rotD d j) e = false) (ok : deq (rotD d i) e = true) : frT d e = some i := by
  unfold frT
  rw [List.find?_eq_some_iff_append]
  refine ⟨ok, List.range i, (List.range (lenD d - (i + 1))).map (fun k => i + 1 + k), ?_, fun a ha => ?_⟩
  · conv => lhs; rw [show lenD d = i + 1 + (lenD d - (i + 1)) by omega, List.range_add, List.range_succ]
    simp
  · rw [no a (List.mem_range.mp ha)]; rfl
theorem frT_none {d e : D} (no : ∀ j, j < lenD d → deq (rotD d j) e = false) : frT d e = none := by
  unfold frT
  rw [List.find?_eq_none]
  intro a ha h
  exact absurd (h.symm.trans (no a (List.mem_range.mp ha))) (by decide)
theorem pure_Ring_turn_to : ∀ ds S Q Ed, sp_Ring_turn_to ds S Q Ed → t_Ring_turn_to Ed { nx := fun _ S' => Q .non S', rt := Q } (startD N_Ring_turn_to ds) S := by
  rintro ds S Q Ed ⟨d, e, rfl, h, k, q1, q2⟩
  rw [st_Ring_turn_to]
  unfold t_Ring_turn_to
  obtain ⟨l0, l1⟩ := h.len
  refine seq_step fun r hr => ?_
  walk_at "dy"
  refine ⟨_, _, _, rfl, rfl, ?_⟩
  refine x_lenP h ?_
  try walk_at "dy"
  refine ⟨by omega, ?_⟩
  rw [Int.toNat_natCast]
  refine loop_all (fun p σ S' => (∃ z, σ = [some (.inst "Ring" ["held"] [d]), some (.inst "Ring" ["held"] [e]), z]) ∧ S' = S ∧ ∀ j, j < p.length → deq (rotD d j) e = false) ⟨⟨_, rfl⟩, rfl, fun j hj => by simp at hj⟩ ?_ ?_
  · rintro p x rr σ S' N ex ⟨⟨z, rfl⟩, rfl, no⟩ kk
    obtain ⟨rfl, hp⟩ := rgD_at ex
    have e0 : ((0 : Int) + (p.length : Int)) = ((p.length : Nat) : Int) := by omega
    rw [e0]
    refine name_go ?_
    simp only [List.set_cons_zero, List.set_cons_succ]
    unfold dMeth
    walk_at "dy"
    refine ⟨⟨_, _, rfl, by decide +kernel⟩, ?_⟩
    refine ⟨d, _, rfl, h, ?_⟩
    have em : (((p.length : Nat) : Int).fmod ((lenD d : Nat) : Int)).toNat = p.length := by
      rw [Int.fmod_eq_emod_of_nonneg _ (by omega), Int.emod_eq_of_lt (by omega) (by omega)]
      exact Int.toNat_natCast _
    rw [em]
    refine ⟨⟨_, _, rfl, by decide +kernel⟩, ?_⟩
    refine ⟨e, rfl, ?_⟩
    refine eq_part (h.rot _) k ?_
    cases c : deq (rotD d p.length) e with
    | true =>
      try dsimp only
      rw [if_pos rfl]
      exact q1 _ (frT_first hp no c)
    | false =>
      try dsimp only
      rw [if_neg (by decide)]
      refine kk _ _ ⟨⟨_, rfl⟩, rfl, fun j hj => ?_⟩
      rw [List.length_append, List.length_singleton] at hj
      by_cases c2 : j = p.length
      · rw [c2]; exact c
      · exact no j (by omega)
  · rintro σ S' ⟨⟨z, rfl⟩, rfl, no⟩
    rw [rgD_len] at no
    have fn := frT_none no
    subst hr
    unfold dRaiseF2 dMeth
    walk_at "dy"
    refine ⟨⟨_, _, rfl, by decide +kernel⟩, ⟨d, rfl, h, ?_⟩⟩
    refine ⟨⟨_, _, rfl, by decide +kernel⟩, ⟨e, rfl, k, ?_⟩⟩
    exact q2 fn

theorem pure_law_urn : ∀ ds S Q Ed, sp_law_urn ds S Q Ed → t_law_urn Ed { nx := fun _ S' => Q .non S', rt := Q } (startD N_law_urn ds) S := by
  rintro ds S Q Ed ⟨ns, at_, rfl, h0, h1, q⟩
  rw [st_law_urn]
  unfold t_law_urn
  walk_at "dy"
  have fin : ∀ (g c : Int), 0 ≤ g → ∀ p, S p = none → Q (.obj p) (upS S p (.lst [.int g, .int (c.fmod 1000000000000000003 + 97 * at_ * at_ + 31 * at_ + 1), .int 0])) := fun g c hg p hp => by
    have f := fmod_in (a := c) (b := 1000000000000000003) (by decide)
    have e1 : 0 ≤ 97 * at_ * at_ := Int.mul_nonneg (by omega) h0
    have e2 : 97 * at_ * at_ ≤ 9700 * 100 := Int.mul_le_mul (by omega) (by omega) h0 (by omega)
    exact q p _ hp ⟨g, _, 0, upS_same, hg, by omega, by omega, by decide, by decide⟩ fun a ha => upS_ne ha
  have m1 : (Int.natAbs 97).log2 + at_.natAbs.log2 < 1000000 := mulOk 7 7 (by decide) (by omega) (by decide) (by decide) (by decide)
  have m2 : (97 * at_).natAbs.log2 + at_.natAbs.log2 < 1000000 := mulOk 14 7 (by omega) (by omega) (by decide) (by decide) (by decide)
  have m3 : (Int.natAbs 31).log2 + at_.natAbs.log2 < 1000000 := mulOk 7 7 (by decide) (by omega) (by decide) (by decide) (by decide)
  by_cases c : at_ < ((ns.map D.int).length : Int)
  · rw [if_pos c, atI_lt h0 c, List.getElem?_map]
    rw [List.length_map] at c
    have e : ns[at_.toNat]? = some ns[at_.toNat] := List.getElem?_eq_getElem (by omega)
    rw [e]
    show ixQ S _ (some (D.int ns[at_.toNat]))
    walk_at "dy"
    refine ⟨by decide, ?_⟩
    generalize e2 : (if ns[at_.toNat] < 0 then -ns[at_.toNat] else ns[at_.toNat]) = g
    have hg : 0 ≤ g := by rw [← e2]; split <;> omega
    split
    · exact ⟨by decide, m1, m2, m3, fin _ _ (by decide)⟩
    · exact ⟨by decide, m1, m2, m3, fin _ _ hg⟩
  · rw [if_neg c]
    refine ⟨by decide, ?_⟩
    split
    · exact ⟨by decide, m1, m2, m3, fin _ _ (by decide)⟩
    · exact ⟨by decide, m1, m2, m3, fin _ _ (by decide)⟩

theorem pure_law_draw : ∀ ds S Q Ed, sp_law_draw ds S Q Ed → t_law_draw Ed { nx := fun _ S' => Q .non S', rt := Q } (startD N_law_draw ds) S := by
  rintro ds S Q Ed ⟨u, w, B, rfl, ⟨g, c, n, hu, g0, c0, c1, n0, n1⟩, hB, w0, w1, q⟩
  have lw : w.natAbs.log2 < 9000 := Nat.lt_of_lt_of_le (log2_lt (n := 1000) (abs_lt_of (by omega) w1) (by decide)) (by decide)
  rw [st_law_draw]
  unfold t_law_draw
  walk_at "dy"
  rw [x_ixo hu]
  walk_at "dy"
  by_cases cg : 0 < g
  · rw [if_pos cg, x_ixo hu]
    walk_at "dy"
    refine ⟨by omega, ?_⟩
    rw [x_ixo hu]
    walk_at "dy"
    refine ⟨⟨by omega, lw⟩, ?_⟩
    rw [x_set hu (ixN_0 (by simp))]
    walk_at "dy"
    have f := fmod_in (a := g) w0
    refine q _ _ f.1 f.2 ⟨g.fdiv w, c, n, upS_same, ?_, c0, c1, n0, by omega⟩ fun a ha => upS_ne ha
    rw [Int.fdiv_eq_ediv_of_nonneg g (by omega)]
    exact Int.ediv_nonneg g0 (by omega)
  · rw [if_neg cg]
    rw [x_ixo hu]
    walk_at "dy"
    rw [x_set hu (ixN_2 (by simp))]
    have hu2 : upS S u (.lst [.int g, .int c, .int (n + 1)]) u = some (.lst [.int g, .int c, .int (n + 1)]) := upS_same
    walk_at "dy"
    rw [x_ixo hu2]
    walk_at "dy"
    rw [x_ixo hu2]
    walk_at "dy"
    have hn : n < 2 ^ 100 + 1 := by omega
    have b1 : (n + 1).natAbs < 2 ^ 101 := abs_lt_of (by omega) (by omega)
    have b2 : (2 * (n + 1) + 1).natAbs < 2 ^ 103 := abs_lt_of (by omega) (by omega)
    have b3 : c.natAbs < 2 ^ 70 := abs_lt_of c0 c1
    have b4 : (c * (2 * (n + 1) + 1)).natAbs < 2 ^ (70 + 103) := wide_lt b3 b2
    have b5 : (6007 * (n + 1)).natAbs < 2 ^ (13 + 101) := wide_lt (by decide) b1
    have b6 : (6007 * (n + 1) * (n + 1)).natAbs < 2 ^ (13 + 101 + 101) := wide_lt b5 b1
    have b7 : (c * (2 * (n + 1) + 1) + 6007 * (n + 1) * (n + 1) + 53).natAbs < 2 ^ 220 := by
      have e1 : (2 : Nat) ^ (70 + 103) ≤ 2 ^ 216 := Nat.pow_le_pow_right (by decide) (by decide)
      have e2 : (2 : Nat) ^ (13 + 101 + 101) ≤ 2 ^ 216 := Nat.pow_le_pow_right (by decide) (by decide)
      omega
    refine ⟨mulOk 2 101 (by decide) b1 (by decide) (by decide) (by decide), mulOk 70 103 b3 b2 (by decide) (by decide) (by decide), mulOk 13 101 (by decide) b1 (by decide) (by decide) (by decide), mulOk (13 + 101) 101 b5 b1 (by decide) (by decide) (by decide), powOk 220 3 b7 (by decide) (by decide) (by decide), by decide, ?_⟩
    have f7 := fmod_in (a := n + 1) (b := 7) (by decide)
    obtain ⟨p, ep, p0, p1⟩ := primes_at f7.1 f7.2
    have f8 := fmod_in (a := n + 1 + 3) (b := 7) (by decide)
    obtain ⟨p', ep', p0', p1'⟩ := primes_at f8.1 f8.2
    unfold primes at ep ep'
    rw [ep]
    walk_at "dy"
    have fm := fmod_in (a := (c * (2 * (n + 1) + 1) + 6007 * (n + 1) * (n + 1) + 53) ^ Int.toNat 3) (b := p) (by omega)
    rw [ep']
    walk_at "dy"
    generalize (c * (2 * (n + 1) + 1) + 6007 * (n + 1) * (n + 1) + 53) ^ Int.toNat 3 = big at fm ⊢
    have fd : 0 ≤ (big.fmod p).fdiv 8191 ∧ (big.fmod p).fdiv 8191 < 2 ^ 31 := by
      rw [Int.fdiv_eq_ediv_of_nonneg _ (by decide)]
      omega
    refine ⟨by omega, ⟨by decide, by decide⟩, mulOk 31 102 (abs_lt_of fm.1 (by omega)) (abs_lt_of (by omega) (by omega)) (by decide) (by decide) (by decide), by decide, by omega, ⟨by decide, by decide⟩, by omega, ?_⟩
    exact q _ _ (fmod_in w0).1 (fmod_in w0).2 ⟨g, c, n + 1, upS_same, g0, c0, c1, by omega, by omega⟩ fun a ha => upS_ne ha

theorem x_isx {a : Addr} {od : Option Addr} {b : Bool} {ns : List Str} {xs : List D} {r : Si} {S : Sd} {Q : DK} : dIsX 0 a od b (some (.exc a od ns xs) :: r) S Q = Q (.bl b) S := propext ⟨fun h => h.2, fun h => ⟨⟨ns, xs, rfl⟩, h⟩⟩
def tup3 (z : Str × Bool × Bool) : D := .tup [.str z.1, .bl z.2.1, .bl z.2.2]
theorem lc3 {tt : TTD} {te : TED} {p : Addr} {o0 o1 o2 o3 o4 o5 o6 : Option D} {S : Sd} {f : Bool → Bool → Bool} (ht : ∀ x b c S (Q' : Bool → Sd → Prop), Q' (f b c) S → tt [o0, o1, o2, o3, some (.str x), some (.bl b), some (.bl c)] S Q') (he : ∀ x b c S (Q' : DK), Q' (.str x) S → te [o0, o1, o2, o3, some (.str x), some (.bl b), some (.bl c)] S Q') :
    ∀ (L : List (Str × Bool × Bool)) (acc : List D) (Q : List D → Sd → Prop), acc.length + L.length ≤ 1000 → Q (acc ++ ((L.filter fun z => f z.2.1 z.2.2).map fun z => .str z.1)) (upS S p (.lst (acc ++ ((L.filter fun z => f z.2.1 z.2.2).map fun z => .str z.1)))) →
      dLcL (dTupG 3 (dGCons (dName 4) (dGCons (dName 5) (dGCons (dName 6) dGNil)))) tt te p [o0, o1, o2, o3, o4, o5, o6] (L.map tup3) acc (upS S p (.lst acc)) Q
  | [], acc, Q, _, q => by
    rw [List.filter_nil, List.map_nil, List.append_nil] at q
    exact q
  | (x, b, c) :: r, acc, Q, hl, q => by
    rw [List.length_cons] at hl
    refine ⟨rfl, ht x b c _ _ ?_⟩
    cases e : f b c with
    | true =>
      rw [List.filter_cons_of_pos (by exact e), List.map_cons] at q
      rw [if_pos rfl]
      refine he x b c _ _ ⟨upS_same, by omega, ?_⟩
      rw [upS_upS]
      refine lc3 ht he r (acc ++ [.str x]) Q (by rw [List.length_append, List.length_singleton]; omega) ?_
      rw [List.append_assoc]
      exact q
    | false =>
      rw [List.filter_cons_of_neg (by rw [e]; exact Bool.false_ne_true)] at q
      rw [if_neg Bool.false_ne_true]
      exact lc3 ht he r acc Q (by omega) q
def whL (n : Str) : List (Str × Bool × Bool) := [("NoNumber", excIs n "NoNumber", excIs n "ArithmeticError"), ("NoForm", excIs n "NoForm", excIs n "ArithmeticError"), ("OverNought", excIs n "OverNought", excIs n "ZeroDivisionError"), ("TooMany", excIs n "TooMany", excIs n "OverflowError"), ("NoKin", excIs n "NoKin", excIs n "TypeError"), ("NoPlace", excIs n "NoPlace", excIs n "IndexError"),
  ("NoName", excIs n "NoName", excIs n "KeyError"), ("NoTurn", excIs n "NoTurn", excIs n "LookupError"), ("NoRow", excIs n "NoRow", excIs n "RuntimeError"), ("NoStair", excIs n "NoStair", excIs n "ValueError"), ("NoRing", excIs n "NoRing", excIs n "ValueError"), ("NoWord", excIs n "NoWord", excIs n "ValueError"), ("NoStep", excIs n "NoStep", excIs n "ValueError"), ("Uneven", excIs n "Uneven", excIs n "ValueError"), ("NoWay", excIs n "NoWay", excIs n "ValueError"), ("NoTable", excIs n "NoTable", excIs n "ValueError"), ("NoTriple", excIs n "NoTriple", excIs n "ValueError")]
theorem whL1 : ∀ n ∈ ownCls, ((whL n).filter fun z => z.2.1) = [(n, true, true)] ∧ ((whL n).filter fun z => z.2.1 && z.2.2) = [(n, true, true)] := by decide +kernel
theorem comp_at {ti : TID} {g : TGD} {tt : TTD} {te : TED} {vs : List Nat} {σ : Si} {S : Sd} {Q : DK} (xs : List D) (S1 : Sd) (hti : ∀ R : List D → Sd → Prop, R xs S1 → ti σ S R) (h : ∀ p, S1 p = none → dLcL g tt te p (wipeD σ vs) xs [] (upS S1 p (.lst [])) fun acc S2 => S2 p = some (.lst acc) ∧ Q (.lst acc) (del S2 p)) : dComp ti g tt te vs σ S Q := hti _ h
theorem pure_law_which : ∀ (a : Addr) (od : Option Addr) (n : Str) (ns : List Str) (xs : List D) (S : Sd) (Q : DK), n ∈ ownCls → Q (.str n) S → t_law_which a od n { nx := fun _ S' => Q .non S', rt := Q } (startD N_law_which [.exc a od ns xs]) S := by
  intro a od n ns xs S Q hn q
  obtain ⟨h1, h2⟩ := whL1 n hn
  rw [st_law_which]
  unfold t_law_which
  simp only [dSeq, dSet, dLst, dTup, dCons, dNil, dC, x_isx, List.length_cons, List.length_nil, Nat.reduceAdd, Nat.reduceLeDiff, true_and, List.set_cons_zero, List.set_cons_succ]
  refine comp_at ((whL n).map tup3) S (fun R h => h) (fun p hp => ?_)
  refine lc3 (f := fun b _ => b) (fun x b c S Q' h => h) (fun x b c S Q' h => h) (whL n) [] _ (by show 0 + 17 ≤ 1000; decide) ⟨upS_same, ?_⟩
  rw [del_upS hp, h1]
  refine comp_at ((whL n).map tup3) S (fun R h => h) (fun p hp => ?_)
  refine lc3 (f := fun b c => b && c) (fun x b c S Q' h => by cases b <;> exact h) (fun x b c S Q' h => h) (whL n) [] _ (by show 0 + 17 ≤ 1000; decide) ⟨upS_same, ?_⟩
  rw [del_upS hp, h2]
  simp only [List.nil_append, List.map_cons, List.map_nil, List.set_cons_zero, List.set_cons_succ]
  walk_at "dy"
  have e1 : deq (.lst [.str n]) (.lst [.str n]) = true := by simp [deq, deqL]
  show (eqOk (.lst [.str n]) = true ∧ eqOk (.lst [.str n]) = true) ∧ _
  have e2 : eqOk (.lst [.str n]) = true := (by decide +kernel : ∀ n ∈ ownCls, eqOk (.lst [.str n]) = true) n hn
  refine ⟨⟨e2, e2⟩, ?_⟩
  rw [e1]
  exact q

theorem pure_law_ring : ∀ ds S Q Ed, sp_law_ring ds S Q Ed → t_law_ring Ed { nx := fun _ S' => Q .non S', rt := Q } (startD N_law_ring ds) S := by
  rintro ds S Q Ed ⟨u, B, rfl, hU, hB, q⟩
  rw [st_law_ring]
  unfold t_law_ring
  refine seq_step fun r hr => ?_
  walk_at "dy"
  refine ⟨u, 8, B, rfl, hU, by omega, by decide, by decide, fun k S1 k0 k1 hU1 ho1 => ?_⟩
  walk_at "dy"
  obtain ⟨n, en, hn⟩ := at_nat (ns := [1, 2, 4, 8, 12, 12, 12, 13]) k0 k1
  have n0 : 1 ≤ n ∧ n ≤ 13 := by
    simp only [List.mem_cons, List.not_mem_nil, or_false] at hn
    omega
  have en' : atI [D.int 1, D.int 2, D.int 4, D.int 8, D.int 12, D.int 12, D.int 12, D.int 13] k = some (.int (n : Int)) := en
  rw [en']
  walk_at "dy"
  subst hr
  refine seq_step fun r hr => ?_
  walk_at "dy"
  refine ⟨u, 6, _, rfl, hU1, by omega, by decide, by decide, fun j S2 j0 j1 hU2 ho2 => ?_⟩
  walk_at "dy"
  obtain ⟨w, ew, hw⟩ := at_nat (ns := [2, 2, 3, 5, 30, 999999]) j0 j1
  have w0 : 2 ≤ w ∧ w ≤ 999999 := by
    simp only [List.mem_cons, List.not_mem_nil, or_false] at hw
    omega
  have ew' : atI [D.int 2, D.int 2, D.int 3, D.int 5, D.int 30, D.int 999999] j = some (.int (w : Int)) := ew
  rw [ew']
  walk_at "dy"
  subst hr
  have ho12 : Oth S S2 u := ho1.trans ho2
  have hw5 : (w : Int) < 2 ^ 1000 := Int.lt_of_le_of_lt (b := 999999) (by omega) (by decide)
  have hn5 : (n : Int) < 2 ^ 1000 := Int.lt_of_le_of_lt (b := 13) (by omega) (by decide)
  simp only [dRet, dCB, dCons, dNil, dComp, dRng1, dOp, dC, dCall, List.append_nil, x_var0, x_varS]
  refine ⟨u, _, _, rfl, hU2, by omega, by omega, hn5, fun t S3 t0 t1 hU3 ho3 => ?_⟩
  walk_at "dy"
  refine ⟨by omega, ?_⟩
  obtain ⟨t, rfl⟩ := Int.eq_ofNat_of_zero_le t0
  have et : ((1 : Int) + (t : Int)).toNat = 1 + t := by omega
  rw [et]
  have T0 : 1 ≤ 1 + t ∧ 1 + t ≤ 13 := by omega
  generalize 1 + t = T at T0 ⊢
  have ho13 : Oth S S3 u := ho12.trans ho3
  show dComp (fun _ _ R => R (rgD 0 T) S3) (dName 4) dYes (dOp rdAdd (dC (.int 1)) (dCall sp_law_draw [] wd0 (dCons (dVar 0) (dCons (dVar 3) dNil)))) [4] [some (D.obj u), some (D.int 13), some (D.int n), some (D.int w), none] S3 (fun x S' => rdTupA [x] S' Q)
  refine comp_inv (rgD 0 T) S3 (fun p acc S' => ∃ l : List Int, acc = l.map D.int ∧ (∀ a ∈ l, 1 ≤ a ∧ a ≤ 999999) ∧ Urn S' u (B + 3 + acc.length) ∧ ∀ a, a ≠ u → a ≠ p → S' a = S3 a) (fun R hR => hR) (fun p hp => ⟨[], rfl, (fun a h => by cases h), (hU3.up (hU3.ne hp)).mono (by show _ ≤ B + 3 + (0 : Nat); omega), fun a _ ha => upS_ne ha⟩) ?_ (by rw [rgD_len]; omega) ?_
  · rintro p pre x r acc S4 Q' hp hx hlen ⟨l, rfl, hl, hU4, ho4⟩ hS4 kk
    have up := hU3.ne hp
    have hb : pre.length < T := by
      have := congrArg List.length hx
      rw [rgD_len, List.length_append, List.length_cons] at this
      omega
    rw [List.length_map] at hlen
    refine ⟨u, _, _, rfl, hU4, by rw [List.length_map]; omega, by omega, hw5, fun v S5 v0 v1 hU5 ho5 => ?_⟩
    rw [List.length_map] at hU5
    show Q' (.int (1 + v)) S5
    refine kk _ S5 ((ho5 p (Ne.symm up)).trans hS4) ⟨l ++ [1 + v], by rw [List.map_append]; rfl, fun a ha => ?_, (hU5.up up).mono ?_, fun a ha hb => ?_⟩
    · rcases List.mem_append.mp ha with ha | ha
      · exact hl a ha
      · rw [List.mem_singleton.mp ha]; omega
    · rw [List.length_append, List.length_singleton, List.length_map]; omega
    · rw [upS_ne hb, ho5 a ha, ho4 a ha hb]
  · rintro p acc S4 hp hlen ⟨l, rfl, hl, hU4, ho4⟩ hS4
    have up := hU3.ne hp
    rw [rgD_len, List.length_map] at hlen
    rw [List.length_map] at hU4
    show Q (ringD l) (del S4 p)
    exact q l _ ⟨hl, by omega, by omega⟩ (by omega) ((hU4.del up).mono (by omega)) (ho13.trans (Oth.del ho4 hp))

theorem pure_law_even_word : ∀ ds S Q Ed, sp_law_even_word ds S Q Ed → t_law_even_word Ed { nx := fun _ S' => Q .non S', rt := Q } (startD N_law_even_word ds) S := by
  rintro ds S Q Ed ⟨b, a, rfl, hl, q⟩
  rw [st_law_even_word]
  unfold t_law_even_word
  walk_at "dy"
  refine ⟨by omega, ?_⟩
  have en : ((b : Int) + (a : Int)).toNat = b + a := by omega
  rw [en]
  refine loop_rng (fun i σ S' => ∃ kk, σ = [some (.int b), some (.int a), some (.str (ofL (evP b (b + a) i))), some (.int ((i * b % (b + a) : Nat) : Int)), kk] ∧ S' = S) ⟨none, by rw [Nat.zero_mul, Nat.zero_mod]; rfl, rfl⟩ ?_ ?_
  · rintro i σ S' N hi ⟨kk, rfl, rfl⟩ k
    walk_at "dy"
    rw [ab_cpsL]
    refine ⟨by decide +kernel, ?_⟩
    have f := floor_step (k := i) (b := b) (n := b + a) (by omega) (by omega)
    have hs := evP_succ b (b + a) i
    by_cases c : i * b % (b + a) + b < b + a
    · rw [if_pos c, if_pos c] at f
      rw [f.1, if_pos rfl] at hs
      rw [if_neg (by omega), atI_0]
      walk_at "dy"
      refine ⟨by rw [ofL_len, evP_len]; show i + 1 ≤ _; omega, ?_⟩
      rw [if_neg (by omega)]
      refine k _ _ ⟨some (.int (0 + i)), ?_, rfl⟩
      rw [hs, f.2, ← ofL_app]
      rfl
    · rw [if_neg c, if_neg c] at f
      rw [f.1, if_neg (Nat.succ_ne_self _)] at hs
      rw [if_pos (by omega), atI_1]
      walk_at "dy"
      refine ⟨by rw [ofL_len, evP_len]; show i + 1 ≤ _; omega, ?_⟩
      rw [if_pos (by omega)]
      refine k _ _ ⟨some (.int (0 + i)), ?_, rfl⟩
      rw [hs, f.2, ← ofL_app]
      rw [show ((i * b % (b + a) : Nat) : Int) + (b : Int) - (b : Int) - (a : Int) = ((i * b % (b + a) + b - (b + a) : Nat) : Int) by omega]
      rfl
  · rintro σ S' ⟨kk, rfl, rfl⟩
    walk_at "dy"
    exact q

theorem pure_law_word : ∀ ds S Q Ed, sp_law_word ds S Q Ed → t_law_word Ed { nx := fun _ S' => Q .non S', rt := Q } (startD N_law_word ds) S := by
  rintro ds S Q Ed ⟨u, B, most, rfl, hU, hB, m0, m1, q⟩
  rw [st_law_word]
  unfold t_law_word
  walk_at "dy"
  refine ⟨u, 4, B, rfl, hU, by omega, by decide, by decide, fun k S1 k0 k1 hU1 ho1 => ?_⟩
  walk_at "dy"
  obtain ⟨n, en, hn⟩ := at_nat (ns := [3, 6, 12, most]) k0 k1
  have n0 : 1 ≤ n ∧ n ≤ most := by
    simp only [List.mem_cons, List.not_mem_nil, or_false] at hn
    omega
  have en' : atI [D.int 3, D.int 6, D.int 12, D.int most] k = some (.int (n : Int)) := en
  rw [en']
  walk_at "dy"
  have hw : (n : Int) < 2 ^ 1000 := Int.lt_of_le_of_lt (b := 1000) (by omega) (by decide)
  refine ⟨u, _, _, rfl, hU1, by omega, by omega, hw, fun t S2 t0 t1 hU2 ho2 => ?_⟩
  walk_at "dy"
  refine ⟨u, 3, _, rfl, hU2, by omega, by decide, by decide, fun k2 S3 k20 k21 hU3 ho3 => ?_⟩
  walk_at "dy"
  obtain ⟨w, ew, hww⟩ := at_nat (ns := [2, 2, 5]) k20 k21
  have w0 : 2 ≤ w ∧ w ≤ 5 := by
    simp only [List.mem_cons, List.not_mem_nil, or_false] at hww
    omega
  have ew' : atI [D.int 2, D.int 2, D.int 5] k2 = some (.int (w : Int)) := ew
  rw [ew']
  walk_at "dy"
  obtain ⟨t, rfl⟩ := Int.eq_ofNat_of_zero_le t0
  have et : (1 + (t : Int)) = ((1 + t : Nat) : Int) := by omega
  rw [et]
  generalize hT : 1 + t = T at *
  have T0 : 1 ≤ T ∧ T ≤ most := by omega
  have ho13 : Oth S S3 u := (ho1.trans ho2).trans ho3
  refine comp_inv (rgD 0 T) S3 (fun p acc S' => ∃ l : List Nat, acc = l.map (fun c => D.str ⟨#[c]⟩) ∧ isAB l = true ∧ Urn S' u (B + 3 + acc.length) ∧ ∀ a, a ≠ u → a ≠ p → S' a = S3 a) (fun R hR => ?_) (fun p hp => ⟨[], rfl, rfl, (hU3.up (hU3.ne hp)).mono (by show _ ≤ B + 3 + (0 : Nat); omega), fun a _ ha => upS_ne ha⟩) ?_ (by rw [rgD_len]; omega) ?_
  · walk_at "dy"
    refine ⟨by omega, ?_⟩
    exact hR
  · rintro p pre x r acc S4 Q' hp hx hlen ⟨l, rfl, hl, hU4, ho4⟩ hS4 kk
    have up := hU3.ne hp
    have hb : pre.length < T := by
      have := congrArg List.length hx
      rw [rgD_len, List.length_append, List.length_cons] at this
      omega
    show dOp rdIx _ _ [some (D.obj u), some (D.int most), some (D.int n), some (D.int T), some (D.int w), none, none, none, none, none, none, some x] S4 Q'
    walk_at "dy"
    have hw5 : (w : Int) < 2 ^ 1000 := Int.lt_of_le_of_lt (b := 5) (by omega) (by decide)
    refine ⟨u, _, _, rfl, hU4, by omega, by omega, hw5, fun v S5 v0 v1 hU5 ho5 => ?_⟩
    walk_at "dy"
    rw [ba_cps]
    refine ⟨by decide +kernel, ?_⟩
    have fin : ∀ c, c = 97 ∨ c = 98 → Q' (.str ⟨#[c]⟩) S5 := fun c hc => by
      refine kk _ S5 ((ho5 p (Ne.symm up)).trans hS4) ⟨l ++ [c], by rw [List.map_append]; rfl, isAB_app hl (isAB_iff.mpr fun d hd => by rw [List.mem_singleton.mp hd]; exact hc), (hU5.up up).mono ?_, fun a ha hb => ?_⟩
      · rw [List.length_append, List.length_singleton]; omega
      · rw [upS_ne hb, ho5 a ha, ho4 a ha hb]
    by_cases c : 0 < v
    · rw [if_pos c, atI_1]; exact fin _ (.inl rfl)
    · rw [if_neg c, atI_0]; exact fin _ (.inr rfl)
  · rintro p acc S4 hp hlen ⟨l, rfl, hl, hU4, ho4⟩ hS4
    have up := hU3.ne hp
    rw [rgD_len, List.length_map] at hlen
    have hU5 : Urn (del S4 p) u (B + 1003) := (hU4.del up).mono (by rw [List.length_map]; omega)
    have ho5 : Oth S (del S4 p) u := ho13.trans (Oth.del ho4 hp)
    refine x_join (l.map fun c => (⟨#[c]⟩ : Str)) (by rw [List.map_map]; rfl) ?_ ?_
    · rw [sum_ones _ (fun _ => rfl), List.length_map]
      show l.length + l.length * 0 ≤ _
      omega
    · rw [join_ones]
      refine ⟨u, 4, _, rfl, hU5, by omega, by decide, by decide, fun y S6 y0 y1 hU6 ho6 => ?_⟩
      walk_at "dy"
      by_cases c2 : y < 2
      · rw [if_pos c2]
        exact q l S6 hl (by omega) (by omega) (hU6.mono (by omega)) (ho5.trans ho6)
      · rw [if_neg c2]
        have hT1 : (T : Int) + 1 < 2 ^ 1000 := Int.lt_of_le_of_lt (b := 1001) (by omega) (by decide)
        have hT2 : (T : Int) < 2 ^ 1000 := Int.lt_of_le_of_lt (b := 1001) (by omega) (by decide)
        refine ⟨u, _, _, rfl, hU6, by omega, by omega, hT1, fun b S7 b0 b1 hU7 ho7 => ?_⟩
        walk_at "dy"
        obtain ⟨b, rfl⟩ := Int.eq_ofNat_of_zero_le b0
        refine ⟨b, T - b, by rw [Int.ofNat_sub (by omega)], by omega, ?_⟩
        rw [show b + (T - b) = T by omega]
        walk_at "dy"
        refine ⟨u, _, _, rfl, hU7, by omega, by omega, hT2, fun s S8 s0 s1 hU8 ho8 => ?_⟩
        walk_at "dy"
        have hel : (evF b T).length = T := evF_len b T
        rw [ofL_len, hel, cutS_drop s0 (by rw [hel]; omega), cutS_take s0 (by rw [hel]; omega), ofL_app]
        refine ⟨by omega, by omega, by rw [ofL_len, ofL_len, List.length_drop, List.length_take]; omega, ?_⟩
        generalize he : (evF b T).drop s.toNat ++ (evF b T).take s.toNat = e
        have hE : isAB e = true := by rw [← he]; exact isAB_app (isAB_drop _ (evF_ab b T)) (isAB_take _ (evF_ab b T))
        have hEl : e.length = T := by rw [← he, List.length_append, List.length_drop, List.length_take, hel]; omega
        have hU9 : Urn S8 u (B + 1006) := hU8.mono (by omega)
        have ho9 : Oth S S8 u := ((ho5.trans ho6).trans ho7).trans ho8
        by_cases c3 : y = 2
        · rw [if_pos c3]
          exact q e S8 hE (by omega) (by omega) (hU9.mono (by omega)) ho9
        · rw [if_neg c3]
          refine ⟨u, _, _, rfl, hU9, by omega, by omega, hT2, fun s2 S9 s20 s21 hU10 ho10 => ?_⟩
          walk_at "dy"
          rw [ofL_len, ofL_len, hEl, cutS_take s20 (by omega)]
          obtain ⟨s2, rfl⟩ := Int.eq_ofNat_of_zero_le s20
          have hs2 : s2 < l.length := by omega
          have eat : atI (ofL l).cps.toList (s2 : Int) = some l[s2] := atI_nat (List.getElem?_eq_getElem hs2)
          rw [eat]
          walk_at "dy"
          rw [cutS_drop (i := (s2 : Int) + 1) (by omega) (by omega)]
          have e1 : ∀ c : Nat, (⟨#[c]⟩ : Str) = ofL [c] := fun _ => rfl
          rw [e1, ofL_app, ofL_app]
          simp only [ofL_len, List.length_append, List.length_take, List.length_drop, List.length_singleton, hEl]
          refine ⟨by omega, by omega, by omega, by omega, by omega, ?_⟩
          refine q _ S9 (isAB_app (isAB_app (isAB_take _ hE) ?_) (isAB_drop _ hE)) ?_ ?_ (hU10.mono (by omega)) (ho9.trans ho10)
          · exact isAB_iff.mpr fun d hd => by rw [List.mem_singleton.mp hd]; exact isAB_iff.mp hl _ (List.getElem_mem hs2)
          · simp only [List.length_append, List.length_take, List.length_drop, List.length_singleton, hEl]; omega
          · simp only [List.length_append, List.length_take, List.length_drop, List.length_singleton, hEl]; omega

theorem pure_law_turned : ∀ ds S Q Ed, sp_law_turned ds S Q Ed → t_law_turned Ed { nx := fun _ S' => Q .non S', rt := Q } (startD N_law_turned ds) S := by
  rintro ds S Q Ed ⟨d, k, rfl, h, q⟩
  rw [st_law_turned]
  unfold t_law_turned
  obtain ⟨l0, l1⟩ := h.len
  refine seq_step fun r hr => ?_
  walk_at "dy"
  refine x_lenP h ?_
  have f := fmod_in (a := k) (b := ((lenD d : Nat) : Int)) (by omega)
  try walk_at "dy"
  refine ⟨by omega, ?_⟩
  subst hr
  obtain ⟨i, hi⟩ := Int.eq_ofNat_of_zero_le f.1
  rw [hi] at f q ⊢
  have e2 : ((i : Int)).toNat = i := by omega
  rw [e2] at q
  simp only [dRet, dOp, dSl, dPart, dNoPart, x_var0, x_varS]
  exact rot_add h (by omega) q

theorem div_ok {s : Nat} (s1 : 1 ≤ s) (s2 : s ≤ 60) : ((s : Nat) : Int) ≠ 0 ∧ ((s : Nat) : Int).natAbs.log2 < 9000 := by
  refine ⟨by omega, ?_⟩
  have e2 : (2 : Nat) ^ 6 = 64 := by decide
  exact Nat.lt_trans (log2_lt (n := 6) (by omega) (by decide)) (by decide)
/-- whether a beginning makes the parts -/
theorem mul_go {d : D} (h : PartI d) {s : Nat} (s1 : 1 ≤ s) (s2 : s ≤ lenD d) (hd : lenD d % s = 0) {S : Sd} {Q : DK} (q : Q (.bl (okP d s)) S) :
    rdSl d none (some (s : Int)) S fun x S1 => ((s : Int) ≠ 0 ∧ (s : Int).natAbs.log2 < 9000) ∧ rdMulA x (.int ((lenD d : Int).fdiv (s : Int))) S1 fun x S1 => rdEq x d S1 Q := by
  have z := div_ok s1 (Nat.le_trans s2 h.len.2)
  rw [(nat_mod_div (n := lenD d) s1).2]
  cases h with
  | word l ab l0 l1 =>
    rw [lenD_word] at s2 hd ⊢
    rw [okP_word] at q
    obtain ⟨g1, g2, g3⟩ := size_goL (l := l) (s := s) s1 s2 (by omega)
    refine ⟨by rw [ofL_len]; omega, ?_⟩
    rw [g1]
    refine ⟨z, g2, ?_⟩
    try dsimp only
    rw [x_eq_ss]
    have e : szOk l s = decide (repS (ofL (l.take s)) ((l.length / s : Nat) : Int).toNat = ofL l) := by
      unfold szOk
      rw [decide_eq_true hd, Bool.true_and]
      exact decide_eq_decide.mpr g3.symm
    rw [← e]
    exact q
  | ring L R =>
    rw [lenD_ring] at s2 hd ⊢
    rw [okP_ring] at q
    unfold sizeOk at q
    rw [decide_eq_true hd, Bool.true_and] at q
    exact ⟨z, size_go s1 s2 hd (Nat.le_trans R.l1 (by decide)) q⟩
theorem pure_law_root : ∀ ds S Q Ed, sp_law_root ds S Q Ed → t_law_root Ed { nx := fun _ S' => Q .non S', rt := Q } (startD N_law_root ds) S := by
  rintro ds S Q Ed ⟨d, rfl, h, q⟩
  rw [st_law_root]
  unfold t_law_root
  obtain ⟨l0, l1⟩ := h.len
  obtain ⟨s, s1, s2, ok, no, es, sl⟩ := shP_char h
  refine seq_step fun r hr => ?_
  walk_at "dy"
  refine x_lenP h ?_
  try walk_at "dy"
  subst hr
  refine seq_step fun r hr => ?_
  refine seq_set ?_
  refine comp_filter (fun x => x) (fun x => match x with | .int i => okP d i.toNat | _ => false) (rgD 1 (lenD d)) S (fun R hR => ?_) (fun x hx S' Q' q' => ?_) (fun x hx _ S' Q' q' => ?_) (by rw [rgD_len]; omega) ?_
  · walk_at "dy"
    have e1 : ((lenD d : Int) + 1 - 1).toNat = lenD d := by omega
    exact ⟨by omega, by rw [e1]; exact hR⟩
  · obtain ⟨j, hj, rfl⟩ := List.mem_map.mp hx
    have hj := List.mem_range.mp hj
    have ej : ((1 : Int) + (j : Int)) = ((j + 1 : Nat) : Int) := by omega
    rw [ej] at q' ⊢
    have q2 : Q' (okP d (j + 1)) S' := q'
    obtain ⟨em, ed⟩ := nat_mod_div (n := lenD d) (show 1 ≤ j + 1 by omega)
    have z := div_ok (show 1 ≤ j + 1 by omega) (by omega)
    show dAnd _ _ [some d, some (.int (lenD d)), none, some (.int ((j + 1 : Nat) : Int))] S' Q'
    walk_at "dy"
    refine ⟨z.1, ?_⟩
    rw [em]
    by_cases c : lenD d % (j + 1) = 0
    · rw [if_pos (by omega)]
      exact mul_go h (show 1 ≤ j + 1 by omega) (by omega) c q2
    · rw [if_neg (by omega)]
      have e : okP d (j + 1) = false := by
        cases h with
        | word l ab l0 l1 =>
          rw [lenD_word] at c
          rw [okP_word]
          unfold szOk
          rw [decide_eq_false c]; rfl
        | ring L R =>
          rw [lenD_ring] at c
          rw [okP_ring]
          unfold sizeOk
          rw [decide_eq_false c]; rfl
      rw [e] at q2
      exact q2
  · obtain ⟨j, hj, rfl⟩ := List.mem_map.mp hx
    exact q'
  have ef := rg_filter 1 (lenD d) (okP d) (fun x => match x with | .int i => okP d i.toNat | _ => false) (fun i _ => by
    show okP d (((1 : Nat) : Int) + (i : Int)).toNat = _
    rw [show (((1 : Nat) : Int) + (i : Int)).toNat = 1 + i by omega])
  obtain ⟨rest, er⟩ := first_filter (h := okP d) s1 s2 ok no
  rw [er] at ef
  rw [List.map_id']
  have ef' : (rgD 1 (lenD d)).filter (fun x => match x with | .int i => okP d i.toNat | _ => false) = .int (s : Int) :: rest.map fun (k : Nat) => D.int (k : Int) := ef
  rw [ef']
  generalize rest.map (fun (k : Nat) => D.int (k : Int)) = rs
  simp only [List.set_cons_zero, List.set_cons_succ]
  subst hr
  have e0 : atI (.int (s : Int) :: rs) 0 = some (D.int (s : Int)) := atI_nat (j := 0) rfl
  walk_at "dy"
  refine sl _ _ ?_
  refine ⟨div_ok s1 (by omega), ?_⟩
  rw [(nat_mod_div (n := lenD d) s1).2]
  unfold rtA at q
  rw [es] at q
  exact q

theorem pure_law_turn : ∀ ds S Q Ed, sp_law_turn ds S Q Ed → t_law_turn Ed { nx := fun _ S' => Q .non S', rt := Q } (startD N_law_turn ds) S := by
  rintro ds S Q Ed ⟨d, e, rfl, h, k, q⟩
  rw [st_law_turn]
  unfold t_law_turn
  obtain ⟨l0, l1⟩ := h.len
  refine seq_step fun r hr => ?_
  refine seq_set ?_
  refine comp_filter (fun x => x) (fun x => match x with | .int i => deq (rotD d i.toNat) e | _ => false) (rgD 0 (lenD d)) S (fun R hR => ?_) (fun x hx S' Q' q' => ?_) (fun x hx _ S' Q' q' => ?_) (by rw [rgD_len]; omega) ?_
  · walk_at "dy"
    refine x_lenP h ?_
    try walk_at "dy"
    exact ⟨by omega, by rw [Int.toNat_natCast]; exact hR⟩
  · obtain ⟨j, hj, rfl⟩ := List.mem_map.mp hx
    have hj := List.mem_range.mp hj
    have ej : ((0 : Int) + (j : Int)) = (j : Int) := by omega
    rw [ej] at q' ⊢
    have q2 : Q' (deq (rotD d j) e) S' := q'
    show dTest _ [some d, some e, none, some (.int (j : Int))] S' Q'
    walk_at "dy"
    refine ⟨d, _, rfl, h, ?_⟩
    have em : ((j : Int).fmod ((lenD d : Nat) : Int)).toNat = j := by
      rw [Int.fmod_eq_emod_of_nonneg _ (by omega), Int.emod_eq_of_lt (by omega) (by omega)]
      exact Int.toNat_natCast _
    rw [em]
    refine x_reprG (h.rot j).sh ((h.rot j).valG _) ?_
    refine x_reprG k.sh (k.valG _) ?_
    rw [x_eq_ss]
    have eb : decide (shownD (rotD d j) = shownD e) = deq (rotD d j) e := by
      rw [Bool.eq_iff_iff, decide_eq_true_eq, part_deq (h.rot j) k]
      exact part_shown (h.rot j) k
    rw [eb]
    exact q2
  · obtain ⟨j, hj, rfl⟩ := List.mem_map.mp hx
    exact q'
  have ef := rg_filter 0 (lenD d) (fun j => deq (rotD d j) e) (fun x => match x with | .int i => deq (rotD d i.toNat) e | _ => false) (fun i _ => by
    show deq (rotD d (((0 : Nat) : Int) + (i : Int)).toNat) e = _
    rw [show (((0 : Nat) : Int) + (i : Int)).toNat = 0 + i by omega])
  rw [List.map_id']
  have ez : (List.range (lenD d)).map (0 + ·) = List.range (lenD d) := by
    rw [show (fun x : Nat => 0 + x) = id from funext fun x => Nat.zero_add x, List.map_id]
  rw [ez] at ef
  have ef' : (rgD 0 (lenD d)).filter (fun x => match x with | .int i => deq (rotD d i.toNat) e | _ => false) = ((List.range (lenD d)).filter fun j => deq (rotD d j) e).map fun (k : Nat) => D.int (k : Int) := ef
  rw [ef']
  simp only [List.set_cons_zero, List.set_cons_succ]
  have qf : frT d e = (List.range (lenD d)).find? fun k => deq (rotD d k) e := rfl
  unfold trnD at q
  subst hr
  rcases filter_find (fun j => deq (rotD d j) e) (List.range (lenD d)) with ⟨f1, f2⟩ | ⟨x, rest, f1, f2⟩
  · rw [qf, f2] at q
    rw [f1]
    show dRet (dIf (dTest (dOp rdNe (dVar 2) (dLst dNil))) (dOp rdIx (dVar 2) (dC (.int 0))) (dC .non)) _ [some d, some e, some (.lst []), none] S
    walk_at "dy"
    refine ⟨⟨by decide +kernel, by decide +kernel⟩, ?_⟩
    rw [show deq (.lst []) (.lst []) = true by decide +kernel]
    try dsimp only
    rw [if_neg (by decide)]
    exact q
  · rw [qf, f2] at q
    rw [f1, List.map_cons]
    have ek : eqOk (.lst (.int (x : Int) :: rest.map fun (k : Nat) => D.int (k : Int))) = true := by
      have e1 : (D.int (x : Int) :: rest.map fun (k : Nat) => D.int (k : Int)) = ((x : Int) :: rest.map fun (k : Nat) => (k : Int)).map D.int := by rw [List.map_cons, List.map_map]; rfl
      rw [e1]
      exact okD_eqOk (okD_intsL _) (by decide)
    generalize rest.map (fun (k : Nat) => D.int (k : Int)) = rs at *
    have e0 : atI (.int (x : Int) :: rs) 0 = some (D.int (x : Int)) := atI_nat (j := 0) rfl
    walk_at "dy"
    refine ⟨⟨ek, by decide +kernel⟩, ?_⟩
    rw [show deq (.lst (.int (x : Int) :: rs)) (.lst []) = false from rfl]
    try dsimp only
    rw [if_pos (by decide)]
    exact q

theorem pure_law_least_row : ∀ ds S Q Ed, sp_law_least_row ds S Q Ed → t_law_least_row Ed { nx := fun _ S' => Q .non S', rt := Q } (startD N_law_least_row ds) S := by
  rintro ds S Q Ed ⟨d, rfl, h, q⟩
  rw [st_law_least_row]
  unfold t_law_least_row
  obtain ⟨l0, l1⟩ := h.len
  have lt := leastT_lt h
  simp only [dRet, dCB, dCons, dNil]
  refine comp_pure (rtD d) (rgD 0 (lenD d)) S (fun R hR => ?_) (fun x hx S' Q' q' => ?_) (by rw [rgD_len]; omega) ?_
  · walk_at "dy"
    refine x_lenP h ?_
    walk_at "dy"
    refine ⟨by omega, ?_⟩
    exact hR
  · obtain ⟨j, hj, rfl⟩ := List.mem_map.mp hx
    have hj := List.mem_range.mp hj
    show dCall sp_law_turned [] wd0 (dCons (dVar 0) (dCons (dVar 1) dNil)) [some d, some (.int (0 + (j : Int)))] S' Q'
    walk_at "dy"
    refine ⟨d, _, rfl, h, ?_⟩
    have e : ((0 + (j : Int)).fmod ((lenD d : Nat) : Int)).toNat = j := by
      rw [Int.zero_add, Int.fmod_eq_emod_of_nonneg _ (by omega), Int.emod_eq_of_lt (by omega) (by omega)]
      exact Int.toNat_natCast j
    rw [e]
    have e2 : rtD d (.int (0 + (j : Int))) = rotD d j := by
      show rotD d ((0 : Int) + (j : Int)).toNat = _
      rw [Int.zero_add, Int.toNat_natCast]
    rw [e2] at q'
    exact q'
  rw [rots_map]
  have mem : ∀ x ∈ (List.range (lenD d)).map (fun j => rotD d j), ∃ j, j < lenD d ∧ x = rotD d j := fun x hx => by
    obtain ⟨j, hj, rfl⟩ := List.mem_map.mp hx
    exact ⟨j, List.mem_range.mp hj, rfl⟩
  have at_ : ∀ j, j < lenD d → ((List.range (lenD d)).map (fun j => rotD d j))[j]? = some (rotD d j) := fun j hj => by
    rw [List.getElem?_map, List.getElem?_range hj]; rfl
  have ll : ((List.range (lenD d)).map (fun j => rotD d j)).length = lenD d := by rw [List.length_map, List.length_range]
  have alk : alikeL ((List.range (lenD d)).map (fun j => rotD d j)) = true := by
    unfold alikeL
    refine List.all_eq_true.mpr fun x hx => ?_
    obtain ⟨i, hi, rfl⟩ := mem x hx
    obtain ⟨a1, a2, a3⟩ := (h.rot i).alikeOk
    simp only [Bool.and_eq_true]
    refine ⟨⟨⟨a1, List.all_eq_true.mpr fun y hy => ?_⟩, decide_eq_true a2⟩, ?_⟩
    · obtain ⟨j, hj, rfl⟩ := mem y hy
      exact h.alike i j
    · rcases a3 with ⟨x, xs, e⟩ | ⟨z, e⟩ <;> rw [e]
  have best : argBest (fun i j => ltD (((List.range (lenD d)).map (fun j => rotD d j)).getD i .non) (((List.range (lenD d)).map (fun j => rotD d j)).getD j .non)) (lenD d - 1) = leastT d := by
    unfold leastT bestD
    refine argBest_congr _ fun i j hi hj => ?_
    rw [List.getD_eq_getElem?_getD, List.getD_eq_getElem?_getD, at_ i (by omega), at_ j (by omega)]
    rfl
  have atL := at_ (leastT d) lt
  generalize (List.range (lenD d)).map (fun j => rotD d j) = L at *
  have mn : ∀ (S : Sd) (Q : DK), Q (rotD d (leastT d)) S → rdMinD [.lst L] S Q := fun S Q hq => by
    refine ⟨L, rfl, alk, by omega, fun x hx => ?_⟩
    rw [ll, best, atL] at hx
    injection hx with hx
    rw [← hx]
    exact hq
  exact mn _ _ q

theorem not_n {d : D} {S : Sd} {Q : DK} {b : Bool} (h : (match d with | .non => false | _ => true) = b) (q : Q (.bl b) S) : rdNotN d .non S Q := by
  subst h
  cases d <;> exact q
theorem frT_lt {d e : D} {n : Nat} (h : frT d e = some n) : n < lenD d := List.mem_range.mp (List.mem_of_find?_eq_some h)
theorem pure_law_is_right : ∀ ds S Q Ed, sp_law_is_right ds S Q Ed → t_law_is_right Ed { nx := fun _ S' => Q .non S', rt := Q } (startD N_law_is_right ds) S := by
  rintro ds S Q Ed ⟨d, e, rfl, h, k, q⟩
  rw [st_law_is_right]
  unfold t_law_is_right dTry
  refine seq_step fun r hr => ?_
  walk_at "dy"
  refine ⟨d, e, rfl, h, k, ?_⟩
  subst hr
  refine seq_step fun r hr => ?_
  unfold dMeth dMake
  walk_at "dy"
  refine ⟨⟨_, _, rfl, by decide +kernel⟩, ?_⟩
  intro a ha
  refine ⟨_, e, 20, rfl, k.sm, upS_same, fun _ => ⟨rfl, _, _, upS_same, ?_⟩, fun h => by rw [k.ok] at h; cases h⟩
  rw [upS_upS, del_upS ha]
  refine ⟨d, e, rfl, h, k, fun n hn => ?_, fun hn => ?_⟩
  · have et : trnD d e = .int (n : Int) := by unfold trnD; rw [hn]
    rw [et]
    subst hr
    dsimp only
    walk_at "dy"
    have l1 := h.len.2
    have lt := frT_lt hn
    have si : shD (.int (n : Int)) := by
      have e2 : (2 : Nat) ^ 6 = 64 := by decide
      exact ⟨decide_eq_true (Nat.lt_trans (log2_lt (n := 6) (by rw [Int.natAbs_natCast]; omega) (by decide)) (by decide)), Nat.le_of_ble_eq_true rfl, by show 0 ≤ 60; decide⟩
    refine not_n rfl ?_
    dsimp only
    rw [if_pos rfl]
    refine x_reprG si rfl ?_
    refine x_reprG si rfl ?_
    rw [x_eq_ss, decide_eq_true rfl]
    exact q
  · have et : trnD d e = .non := by unfold trnD; rw [hn]
    rw [et]
    refine ⟨show (Str.ofString "NoTurn") ∈ rsX by decide +kernel, ?_⟩
    rw [if_pos (show ([Str.ofString "NoTurn"] : List Str).any (excIs (Str.ofString "NoTurn")) = true by decide +kernel)]
    intro a od ha
    refine ⟨rfl, ?_⟩
    rw [show bindD (some 5) a od ⟨"NoTurn", ["other", "one"], [rotD e (leastT e), rotD d (leastT d)]⟩ [some (.inst "Ring" ["held"] [d]), some d, some e, some .non, none, none] = [some (.inst "Ring" ["held"] [d]), some d, some e, some .non, none, some (.exc a od ["other", "one"] [rotD e (leastT e), rotD d (leastT d)])] from rfl]
    walk_at "dy"
    refine not_n rfl ?_
    dsimp only
    rw [if_neg (by decide)]
    refine ⟨⟨_, _, rfl⟩, by decide +kernel, ?_⟩
    dsimp only
    rw [x_ne_ss, decide_eq_true rfl]
    dsimp only
    rw [if_neg (by decide)]
    refine ⟨_, _, rotD d (leastT d), rfl, by simp, by rfl, ?_⟩
    refine x_reprG (h.rot _).sh ((h.rot _).valG _) ?_
    refine ⟨d, rfl, h, ?_⟩
    refine x_reprG (h.rot _).sh ((h.rot _).valG _) ?_
    rw [x_eq_ss, decide_eq_true rfl]
    dsimp only
    rw [if_pos rfl]
    refine ⟨_, _, rotD e (leastT e), rfl, by simp, by rfl, ?_⟩
    refine x_reprG (k.rot _).sh ((k.rot _).valG _) ?_
    refine ⟨e, rfl, k, ?_⟩
    refine x_reprG (k.rot _).sh ((k.rot _).valG _) ?_
    rw [x_eq_ss, decide_eq_true rfl]
    exact q

theorem pure_law_drawn : ∀ ds S Q Ed, sp_law_drawn ds S Q Ed → t_law_drawn Ed { nx := fun _ S' => Q .non S', rt := Q } (startD N_law_drawn ds) S := by
  rintro ds S Q Ed ⟨u, B, rfl, hU, hB, k⟩
  rw [st_law_drawn]
  unfold t_law_drawn
  refine seq_step fun r hr => ?_
  walk_at "dy"
  refine ⟨u, 2, B, rfl, hU, by omega, by decide, by decide, fun w S1 w0 w1 hU1 ho1 => ?_⟩
  try walk_at "dy"
  obtain ⟨m, em, hm⟩ := at_nat (ns := [40, 60]) w0 w1
  have em' : atI [D.int 40, D.int 60] w = some (.int (m : Int)) := em
  rw [em']
  try walk_at "dy"
  subst hr
  refine seq_step fun r hr => ?_
  walk_at "dy"
  have hm2 : m = 40 ∨ m = 60 := by
    simp only [List.mem_cons, List.not_mem_nil, or_false] at hm
    exact hm
  have e2 : (2 : Nat) ^ 6 = 64 := by decide
  rcases hm2 with rfl | rfl
  · rw [if_neg (by decide)]
    refine ⟨u, _, rfl, hU1, by omega, fun L S2 R l13 hU2 ho2 => ?_⟩
    have l0 := R.l0
    have len_go : ∀ Q : DK, Q (.int L.length) S2 → rdLen [ringD L] S2 Q := fun Q h => by
      show Q (.int (L.map D.int).length) S2
      rw [List.length_map]
      exact h
    subst hr
    refine seq_step fun r hr => ?_
    walk_at "dy"
    refine len_go _ ?_
    refine ⟨⟨by omega, Nat.lt_trans (log2_lt (n := 6) (by omega) (by decide)) (by decide)⟩, ?_⟩
    have ew : ((40 : Nat) : Int).fdiv (L.length : Int) = ((40 / L.length : Nat) : Int) := by
      rw [Int.fdiv_eq_ediv_of_nonneg _ (by omega)]
      rfl
    rw [ew]
    have w1 : 1 ≤ 40 / L.length := Nat.div_pos (by omega) l0
    have w2 : 40 / L.length ≤ 40 := Nat.div_le_self _ _
    refine ⟨u, _, _, rfl, hU2, by omega, by omega, Int.lt_of_le_of_lt (b := 40) (by omega) (by decide), fun v S3 v0 v1 hU3 ho3 => ?_⟩
    try walk_at "dy"
    subst hr
    walk_at "dy"
    obtain ⟨t, rfl⟩ := Int.eq_ofNat_of_zero_le v0
    refine ⟨⟨fun z => by have := congrArg List.length z; rw [List.length_map] at this; rw [this] at l0; exact absurd l0 (by decide), by omega, by omega, by rw [List.length_map]; omega⟩, ?_⟩
    have em : ((1 : Int) + (t : Int)).toNat = t + 1 := by omega
    rw [em, told_D]
    have hm : (t + 1) * L.length ≤ 40 := by
      have h1 : t + 1 ≤ 40 / L.length := by omega
      exact Nat.le_trans (Nat.mul_le_mul_right _ h1) (Nat.div_mul_le_self 40 L.length)
    exact k _ _ _ _ (.ring (told L (t + 1)) L ⟨fun a ha => R.el a (told_mem ha), by rw [told_len]; exact Nat.mul_le_mul (show 1 ≤ t + 1 by omega) l0, by rw [told_len]; exact hm⟩ R) (hU3.mono (by omega)) ((ho1.trans ho2).trans ho3)
  · rw [if_pos (by decide)]
    refine ⟨u, _, 20, rfl, hU1, by omega, by decide, by decide, fun l S2 ab l0 l1 hU2 ho2 => ?_⟩
    subst hr
    refine seq_step fun r hr => ?_
    walk_at "dy"
    rw [ofL_len]
    refine ⟨by omega, ⟨by omega, Nat.lt_trans (log2_lt (n := 6) (by omega) (by decide)) (by decide)⟩, ?_⟩
    have ew : ((60 : Nat) : Int).fdiv (l.length : Int) = ((60 / l.length : Nat) : Int) := by
      rw [Int.fdiv_eq_ediv_of_nonneg _ (by omega)]
      rfl
    rw [ew]
    have w1 : 1 ≤ 60 / l.length := Nat.div_pos (by omega) l0
    have w2 : 60 / l.length ≤ 60 := Nat.div_le_self _ _
    refine ⟨u, _, _, rfl, hU2, by omega, by omega, Int.lt_of_le_of_lt (b := 60) (by omega) (by decide), fun v S3 v0 v1 hU3 ho3 => ?_⟩
    try walk_at "dy"
    subst hr
    walk_at "dy"
    obtain ⟨t, rfl⟩ := Int.eq_ofNat_of_zero_le v0
    have em : ((1 : Int) + (t : Int)).toNat = t + 1 := by omega
    have hm : (t + 1) * l.length ≤ 60 := by
      have h1 : t + 1 ≤ 60 / l.length := by omega
      exact Nat.le_trans (Nat.mul_le_mul_right _ h1) (Nat.div_mul_le_self 60 l.length)
    have eL : (List.replicate (t + 1) l).flatten.length = (t + 1) * l.length := by
      rw [List.length_flatten, List.map_replicate, List.sum_replicate_nat]
    refine ⟨⟨by omega, ?_, by omega⟩, ?_⟩
    · have h2 : (l.length : Int) * (1 + (t : Int)) = (((t + 1) * l.length : Nat) : Int) := by
        rw [Int.natCast_mul, Int.mul_comm]
        congr 1
        omega
      rw [ofL_len, h2]
      omega
    rw [em, repS_ofL]
    refine k _ _ _ _ (.word _ l ?_ ab ?_ ?_ l0 l1) (hU3.mono (by omega)) ((ho1.trans ho2).trans ho3)
    · show isAB (List.replicate (t + 1) l).flatten = true
      unfold isAB at ab ⊢
      rw [List.all_flatten, List.all_replicate]
      simpa using ab
    · rw [eL]
      exact Nat.mul_le_mul (show 1 ≤ t + 1 by omega) l0
    · rw [eL]
      exact hm

theorem cutD_mid {xs : List D} {i : Nat} (h : i + 1 ≤ xs.length) : cutD xs (some (i : Int)) (some ((i : Int) + 1)) = (xs.drop i).take 1 := by
  unfold cutD
  rw [sIx_lo (by omega) (by omega), sIx_lo (by omega) (by omega)]
  rw [show ((i : Int) + 1).toNat - (i : Int).toNat = 1 by omega, Int.toNat_natCast]
theorem bent_len {α : Type} {t l : List α} {v : Nat} (e : t.length = l.length) (h : v < l.length) : (t.take v ++ (l.drop v).take 1 ++ t.drop (v + 1)).length = l.length := by
  rw [List.length_append, List.length_append, List.length_take, List.length_take, List.length_drop, List.length_drop]
  omega
theorem pure_law_beside : ∀ ds S Q Ed, sp_law_beside ds S Q Ed → t_law_beside Ed { nx := fun _ S' => Q .non S', rt := Q } (startD N_law_beside ds) S := by
  rintro ds S Q Ed ⟨u, B, d, p, most, rfl, hD, hU, hB, k⟩
  rw [st_law_beside]
  unfold t_law_beside
  cases hD with
  | word l m hl hm l0 l1 m0 m1 =>
    refine seq_step fun r hr => ?_
    walk_at "dy"
    rw [ofL_len]
    refine ⟨by omega, u, _, _, rfl, hU, by omega, by omega, Int.lt_of_le_of_lt (b := 60) (by omega) (by decide), fun v S1 v0 v1 hU1 ho1 => ?_⟩
    try walk_at "dy"
    subst hr
    refine seq_step fun r hr => ?_
    walk_at "dy"
    rw [ofL_len]
    refine ⟨by omega, u, _, _, rfl, hU1, by omega, by omega, Int.lt_of_le_of_lt (b := 60) (by omega) (by decide), fun w S2 w0 w1 hU2 ho2 => ?_⟩
    refine ⟨_, _, rfl, .word l hl l0 l1, ?_⟩
    try walk_at "dy"
    rw [rotD_word]
    have ab := isAB_app (isAB_drop (w.fmod (lenD (.str (ofL l)) : Nat)).toNat hl) (isAB_take (w.fmod (lenD (.str (ofL l)) : Nat)).toNat hl)
    have et : (rotL l (w.fmod (lenD (.str (ofL l)) : Nat)).toNat).length = l.length := rotL_len
    have ab : isAB (rotL l (w.fmod (lenD (.str (ofL l)) : Nat)).toNat) = true := ab
    generalize rotL l (w.fmod (lenD (.str (ofL l)) : Nat)).toNat = t at *
    obtain ⟨v, rfl⟩ := Int.eq_ofNat_of_zero_le v0
    have hv : v < l.length := by omega
    subst hr
    refine seq_step fun r hr => ?_
    walk_at "dy"
    refine ⟨by rw [ofL_len]; omega, by rw [ofL_len]; omega, ?_⟩
    rw [cutS_take (by omega) (by omega), cutS_mid (by omega) (by omega) (by omega) (by omega)]
    refine ⟨by rw [ofL_len, ofL_len, List.length_take, List.length_take]; omega, ?_⟩
    refine ⟨by rw [ofL_len]; omega, ?_⟩
    rw [cutS_drop (by omega) (by omega)]
    rw [show ((v : Int) + 1).toNat - (v : Int).toNat = 1 by omega, Int.toNat_natCast, show ((v : Int) + 1).toNat = v + 1 by omega]
    have hb : isAB (t.take v ++ (l.drop v).take 1 ++ t.drop (v + 1)) = true := isAB_app (isAB_app (isAB_take _ ab) (isAB_take _ (isAB_drop _ hl))) (isAB_drop _ ab)
    have lb := bent_len et hv
    refine ⟨by rw [app_len2, ofL_len, ofL_len, ofL_len]; rw [List.length_append, List.length_append] at lb; omega, ?_⟩
    rw [ofL_app, ofL_app]
    generalize t.take v ++ (l.drop v).take 1 ++ t.drop (v + 1) = b at *
    subst hr
    refine seq_step fun r hr => ?_
    walk_at "dy"
    refine ⟨by rw [ofL_len]; omega, ?_⟩
    refine ⟨by rw [ofL_len, ofL_len]; omega, ?_⟩
    rw [ofL_app, revS_of]
    have pw : ∀ x ∈ [D.str (ofL t), .str (ofL b), .str (ofL t.reverse), .str (ofL (l ++ m)), .str (ofL m), .tup [.int 1, .int 2], .str (ofL l)], (∃ z, x = .str (ofL z) ∧ isAB z = true ∧ 1 ≤ z.length ∧ z.length ≤ 200) ∨ x = ringD [1, 2] := fun x hx => by
      simp only [List.mem_cons, List.not_mem_nil, or_false] at hx
      rcases hx with rfl | rfl | rfl | rfl | rfl | rfl | rfl
      · exact .inl ⟨_, rfl, ab, by omega, by omega⟩
      · exact .inl ⟨_, rfl, hb, by omega, by omega⟩
      · exact .inl ⟨_, rfl, by unfold isAB at ab ⊢; rw [List.all_reverse]; exact ab, by rw [List.length_reverse]; omega, by rw [List.length_reverse]; omega⟩
      · exact .inl ⟨_, rfl, isAB_app hl hm, by rw [List.length_append]; omega, by rw [List.length_append]; omega⟩
      · exact .inl ⟨_, rfl, hm, m0, by omega⟩
      · exact .inr rfl
      · exact .inl ⟨_, rfl, hl, l0, by omega⟩
    have l7 : [D.str (ofL t), .str (ofL b), .str (ofL t.reverse), .str (ofL (l ++ m)), .str (ofL m), .tup [.int 1, .int 2], .str (ofL l)].length = 7 := rfl
    generalize [D.str (ofL t), .str (ofL b), .str (ofL t.reverse), .str (ofL (l ++ m)), .str (ofL m), .tup [.int 1, .int 2], .str (ofL l)] = L7 at *
    subst hr
    walk_at "dy"
    refine comp_filter (fun x => x) (fun x => decide (lenD x ≤ 60)) L7 S2 (fun R hR => hR) (fun x hx S' Q' q' => ?_) (fun x hx _ S' Q' q' => by exact q') (by rw [l7]; decide) ?_
    · show dTest _ [some (.obj u), some (.str (ofL l)), some (.str (ofL m)), some (.int 60), some (.int (v : Int)), some (.str (ofL t)), some (.str (ofL b)), some (.lst L7), some x] S' Q'
      rcases pw x hx with ⟨z, rfl, _, _, hz⟩ | rfl
      · walk_at "dy"
        rw [lenD_word] at q'
        refine ⟨by rw [ofL_len]; omega, ?_⟩
        rw [ofL_len]
        rw [decide_eq_decide.mpr (show ((z.length : Int) ≤ 60) ↔ z.length ≤ 60 by omega)]
        exact q'
      · walk_at "dy"
        exact q'
    · rw [List.map_id']
      refine k _ _ (fun y hy => ?_) (Nat.le_trans (List.length_filter_le _ _) (by omega)) (hU2.mono (by omega)) (ho1.trans ho2)
      obtain ⟨hy, hg⟩ := List.mem_filter.mp hy
      have hg := of_decide_eq_true hg
      rcases pw y hy with ⟨z, rfl, a1, a2, _⟩ | rfl
      · rw [lenD_word] at hg
        exact .word z a1 a2 hg
      · exact .ring [1, 2] ⟨by decide, by decide, by decide⟩
  | ring L M RL RM =>
    refine seq_step fun r hr => ?_
    have len_go : ∀ (S : Sd) (Q : DK), Q (.int L.length) S → rdLen [ringD L] S Q := fun S Q h => by
      show Q (.int (L.map D.int).length) S
      rw [List.length_map]
      exact h
    have l0 := RL.l0
    have l1 := RL.l1
    walk_at "dy"
    refine len_go _ _ ?_
    refine ⟨u, _, _, rfl, hU, by omega, by omega, Int.lt_of_le_of_lt (b := 60) (by omega) (by decide), fun v S1 v0 v1 hU1 ho1 => ?_⟩
    try walk_at "dy"
    subst hr
    refine seq_step fun r hr => ?_
    walk_at "dy"
    refine len_go _ _ ?_
    refine ⟨u, _, _, rfl, hU1, by omega, by omega, Int.lt_of_le_of_lt (b := 60) (by omega) (by decide), fun w S2 w0 w1 hU2 ho2 => ?_⟩
    refine ⟨_, _, rfl, .ring L RL, ?_⟩
    try walk_at "dy"
    rw [rotD_ring]
    have et : (rotI L (w.fmod (lenD (ringD L) : Nat)).toNat).length = L.length := rotI_len _ _
    have RT : RowI (rotI L (w.fmod (lenD (ringD L) : Nat)).toNat) := RL.rot _
    generalize rotI L (w.fmod (lenD (ringD L) : Nat)).toNat = T at *
    obtain ⟨v, rfl⟩ := Int.eq_ofNat_of_zero_le v0
    have hv : v < L.length := by omega
    subst hr
    refine seq_step fun r hr => ?_
    unfold ringD
    walk_at "dy"
    have lL : (L.map D.int).length = L.length := List.length_map _
    have lT : (T.map D.int).length = L.length := by rw [List.length_map, et]
    have lM : (M.map D.int).length = M.length := List.length_map _
    have mm := RM.l0
    have mm1 := RM.l1
    rw [cutD_to (by rw [lT]; omega), cutD_mid (by rw [lL]; omega), show ((v : Int) + 1) = ((v + 1 : Nat) : Int) by omega, cutD_from (by rw [lT]; omega)]
    rw [← List.map_take, ← List.map_drop, ← List.map_take, ← List.map_drop, ← List.map_append, ← List.map_append]
    have lb := bent_len et hv
    have hb : ∀ a ∈ T.take v ++ (L.drop v).take 1 ++ T.drop (v + 1), 1 ≤ a ∧ a ≤ 999999 := fun a ha => by
      rcases List.mem_append.mp ha with h | h
      · rcases List.mem_append.mp h with h | h
        · exact RT.el a (List.mem_of_mem_take h)
        · exact RL.el a (List.mem_of_mem_drop (List.mem_of_mem_take h))
      · exact RT.el a (List.mem_of_mem_drop h)
    refine ⟨by rw [List.length_map, List.length_map, List.length_take, List.length_take]; omega, by simp only [List.length_map, List.length_append, List.length_take, List.length_drop]; omega, ?_⟩
    generalize T.take v ++ (L.drop v).take 1 ++ T.drop (v + 1) = b at *
    subst hr
    refine seq_step fun r hr => ?_
    walk_at "dy"
    refine ⟨by rw [lL, lM]; omega, ?_⟩
    rw [← List.map_append, ← List.map_reverse]
    rw [if_neg (by decide)]
    have pw : ∀ x ∈ [D.tup (T.map D.int), .tup (b.map D.int), .tup (T.reverse.map D.int), .tup ((L ++ M).map D.int), .tup (M.map D.int), .str "ab", .tup (L.map D.int)], (∃ z : List Int, x = ringD z ∧ (∀ a ∈ z, 1 ≤ a ∧ a ≤ 999999) ∧ 1 ≤ z.length ∧ z.length ≤ 200) ∨ x = .str (ofL [97, 98]) := fun x hx => by
      simp only [List.mem_cons, List.not_mem_nil, or_false] at hx
      rcases hx with rfl | rfl | rfl | rfl | rfl | rfl | rfl
      · exact .inl ⟨_, rfl, RT.el, RT.l0, by have := RT.l1; omega⟩
      · exact .inl ⟨_, rfl, hb, by omega, by omega⟩
      · exact .inl ⟨_, rfl, fun a ha => RT.el a (List.mem_reverse.mp ha), by rw [List.length_reverse]; omega, by rw [List.length_reverse]; omega⟩
      · exact .inl ⟨_, rfl, fun a ha => by
          rcases List.mem_append.mp ha with h | h
          · exact RL.el a h
          · exact RM.el a h, by rw [List.length_append]; omega, by rw [List.length_append]; omega⟩
      · exact .inl ⟨_, rfl, RM.el, mm, by omega⟩
      · exact .inr (by rw [show Str.ofString "ab" = ofL [97, 98] by decide +kernel])
      · exact .inl ⟨_, rfl, RL.el, l0, by omega⟩
    have l7 : [D.tup (T.map D.int), .tup (b.map D.int), .tup (T.reverse.map D.int), .tup ((L ++ M).map D.int), .tup (M.map D.int), .str "ab", .tup (L.map D.int)].length = 7 := rfl
    generalize [D.tup (T.map D.int), .tup (b.map D.int), .tup (T.reverse.map D.int), .tup ((L ++ M).map D.int), .tup (M.map D.int), .str "ab", .tup (L.map D.int)] = L7 at *
    subst hr
    walk_at "dy"
    refine comp_filter (fun x => x) (fun x => decide (lenD x ≤ 40)) L7 S2 (fun R hR => hR) (fun x hx S' Q' q' => ?_) (fun x hx _ S' Q' q' => by exact q') (by rw [l7]; decide) ?_
    · show dTest _ [some (.obj u), some (.tup (L.map D.int)), some (.tup (M.map D.int)), some (.int 40), some (.int (v : Int)), some (.tup (T.map D.int)), some (.tup (b.map D.int)), some (.lst L7), some x] S' Q'
      rcases pw x hx with ⟨z, rfl, _, _, hz⟩ | rfl
      · rw [lenD_ring] at q'
        unfold ringD
        walk_at "dy"
        rw [List.length_map]
        rw [decide_eq_decide.mpr (show ((z.length : Int) ≤ 40) ↔ z.length ≤ 40 by omega)]
        exact q'
      · walk_at "dy"
        refine ⟨by rw [ofL_len]; decide, ?_⟩
        exact q'
    · rw [List.map_id']
      refine k _ _ (fun y hy => ?_) (Nat.le_trans (List.length_filter_le _ _) (by omega)) (hU2.mono (by omega)) (ho1.trans ho2)
      obtain ⟨hy, hg⟩ := List.mem_filter.mp hy
      have hg := of_decide_eq_true hg
      rcases pw y hy with ⟨z, rfl, a1, a2, _⟩ | rfl
      · rw [lenD_ring] at hg
        exact .ring z ⟨a1, a2, hg⟩
      · exact .word [97, 98] (by decide) (by decide) (by decide)

theorem len_law : ∀ ds S Q E, spLawD ds S Q E → ds.length = 1 := fun _ _ _ _ ⟨_, e, _⟩ => by rw [e]; rfl
theorem DrI.part {d p : D} {m : Int} (h : DrI d p m) : PartI d := by
  cases h with
  | word l m hl hm l0 l1 m0 m1 => exact .word l hl l0 l1
  | ring L M RL RM => exact .ring L RL
theorem cut_mem {xs : List D} {lo hi : Option Int} : (∀ x ∈ xs, PartI x) → ∀ x ∈ cutD xs lo hi, PartI x := fun h x hx => h x (cutD_mem hx)
theorem rt_same {d : D} (h : PartI d) (S : Sd) (Q : DK) (q : Q (.str (shownD (rtA d))) S) : rdRepr [rtA d] S Q := x_reprG (rtA_sh h) rfl q
theorem pure_law : ∀ ds S Q Ed, spLawD ds S Q Ed → t_law Ed { nx := fun _ S' => Q .non S', rt := Q } (startD N_law ds) S := by
  rintro ds S Q Ed ⟨ns, rfl, hns, q⟩
  rw [st_law]
  unfold t_law
  refine seq_cut (fun σ S' => True) (fun N hN => ?_) (fun σ S' h => by walk_at "dy"; exact q S')
  walk_at "dy"
  have hlen : (List.map D.int ns).length = ns.length := List.length_map _
  refine ⟨by rw [hlen]; constructor <;> (split <;> (try split) <;> omega), ?_⟩
  refine loop_rng (fun i σ S' => ∃ a b c d e f g h, σ = [some (.lst (ns.map D.int)), a, b, c, d, e, f, g, h]) ⟨none, none, none, none, none, none, none, none, rfl⟩ ?_ (fun σ S' _ => hN σ S' trivial)
  rintro i σ S' N' hi ⟨a, b, c, d, e, f, g, h, rfl⟩ k
  have hl4 : (0 : Int) + i < 4 := by
    rw [hlen] at hi
    split at hi <;> (try split at hi) <;> omega
  show dSeq (dSet 2 _) _ _ [some (.lst (ns.map D.int)), some (.int (0 + i)), b, c, d, e, f, g, h] S'
  refine seq_step fun r hr => ?_
  walk_at "dy"
  refine ⟨ns, _, rfl, by omega, by omega, fun u S1 hu0 hU1 ho1 => ?_⟩
  try walk_at "dy"
  subst hr
  refine seq_step fun r hr => ?_
  walk_at "dy"
  refine ⟨u, _, rfl, hU1, by decide, fun d0 p0 most S2 hD hU2 ho2 => ?_⟩
  have h0 := hD.part
  try walk_at "dy"
  subst hr
  refine seq_step fun r hr => ?_
  unfold dMake
  walk_at "dy"
  intro a ha
  refine ⟨_, d0, 20, rfl, h0.sm, upS_same, fun _ => ⟨rfl, _, _, upS_same, ?_⟩, fun h => by rw [h0.ok] at h; cases h⟩
  rw [upS_upS, del_upS ha]
  subst hr
  refine seq_step fun r hr => ?_
  unfold dMeth
  walk_at "dy"
  refine ⟨⟨_, _, rfl, by decide +kernel⟩, ?_⟩
  refine ⟨d0, rfl, h0, ?_⟩
  refine rt_same h0 _ _ ?_
  refine ⟨d0, rfl, h0, ?_⟩
  refine rt_same h0 _ _ ?_
  rw [x_ne_ss, decide_eq_true rfl]
  dsimp only
  rw [if_neg (by decide)]
  subst hr
  refine seq_step fun r hr => ?_
  walk_at "dy"
  refine ⟨u, _, d0, p0, most, rfl, hD, hU2, by decide, fun rs S3 hrs lrs hU3 ho3 => ?_⟩
  try walk_at "dy"
  subst hr
  refine seq_step fun r hr => ?_
  walk_at "dy"
  have lc := cutD_len (xs := rs) (lo := none) (hi := some 2)
  refine ⟨by omega, ?_⟩
  have hall : ∀ x ∈ rs ++ cutD rs none (some 2), PartI x := fun x hx => by
    rcases List.mem_append.mp hx with h | h
    · exact hrs x h
    · exact cut_mem hrs x h
  generalize rs ++ cutD rs none (some 2) = us at *
  refine loop_all (fun pre σ S' => ∃ z, σ = [some (.lst (ns.map D.int)), some (.int (0 + i)), some (.obj u), some d0, some p0, some (.int most), some (.inst "Ring" ["held"] [d0]), some (.lst rs), z]) ⟨_, rfl⟩ ?_ ?_
  · rintro pre x rr σ S4 N4 ex ⟨z, rfl⟩ k4
    have hx := hall x (by rw [ex]; simp)
    refine name_go ?_
    simp only [List.set_cons_zero, List.set_cons_succ]
    unfold dMake
    walk_at "dy"
    refine ⟨d0, x, rfl, h0, hx, ?_⟩
    dsimp only
    rw [if_neg (by decide)]
    intro a ha
    refine ⟨_, x, 20, rfl, hx.sm, upS_same, fun _ => ⟨rfl, _, _, upS_same, ?_⟩, fun h => by rw [hx.ok] at h; cases h⟩
    rw [upS_upS, del_upS ha]
    refine ⟨x, d0, rfl, hx, h0, ?_⟩
    dsimp only
    rw [if_neg (by decide)]
    exact k4 _ _ ⟨_, rfl⟩
  · rintro σ S4 ⟨z, rfl⟩
    subst hr
    unfold dMeth
    walk_at "dy"
    refine ⟨⟨_, _, rfl, by decide +kernel⟩, ?_⟩
    refine ⟨d0, rfl, h0, ?_⟩
    refine rt_same h0 _ _ ?_
    refine ⟨d0, rfl, h0, ?_⟩
    refine rt_same h0 _ _ ?_
    rw [x_ne_ss, decide_eq_true rfl]
    dsimp only
    rw [if_neg (by decide)]
    refine ⟨⟨_, _, rfl, by decide +kernel⟩, ?_⟩
    refine ⟨d0, rfl, ?_⟩
    refine x_reprG h0.sh (h0.valG _) ?_
    refine x_reprG h0.sh (h0.valG _) ?_
    rw [x_ne_ss, decide_eq_true rfl]
    dsimp only
    rw [if_neg (by decide)]
    exact k _ _ ⟨_, _, _, _, _, _, _, _, rfl⟩


/-! the text by places, derivations, printed by gen.py -/
def top (i : Nat) : Stmt := PySem.Challenge.pw_nearthrees_k14_roots_of_rings_and_turns.main.body.getD i (.Pass ⟨0, 0, 0, 0⟩)
abbrev s_is_whole : Stmt := top 19
theorem sc_is_whole : FnScope N_is_whole ["thing"] (defScope s_is_whole) := ⟨rfl, rfl, rfl, by decide +kernel, rfl, by decide +kernel, by decide +kernel⟩
abbrev s_is_within : Stmt := top 23
theorem sc_is_within : FnScope N_is_within ["thing", "least", "most"] (defScope s_is_within) := ⟨rfl, rfl, rfl, by decide +kernel, rfl, by decide +kernel, by decide +kernel⟩
abbrev s_is_row : Stmt := top 24
theorem sc_is_row : FnScope N_is_row ["thing", "least", "most"] (defScope s_is_row) := ⟨rfl, rfl, rfl, by decide +kernel, rfl, by decide +kernel, by decide +kernel⟩
abbrev s_is_number_ring : Stmt := top 25
theorem sc_is_number_ring : FnScope N_is_number_ring ["thing"] (defScope s_is_number_ring) := ⟨rfl, rfl, rfl, by decide +kernel, rfl, by decide +kernel, by decide +kernel⟩
abbrev s_shortest_part : Stmt := top 26
theorem sc_shortest_part : FnScope N_shortest_part ["parts"] (defScope s_shortest_part) := ⟨rfl, rfl, rfl, by decide +kernel, rfl, by decide +kernel, by decide +kernel⟩
abbrev s_is_word : Stmt := top 30
theorem sc_is_word : FnScope N_is_word ["thing"] (defScope s_is_word) := ⟨rfl, rfl, rfl, by decide +kernel, rfl, by decide +kernel, by decide +kernel⟩
abbrev s_Ring___init__ : Stmt := inClass (top 31) 0
theorem sc_Ring___init__ : FnScope N_Ring___init__ ["self", "parts"] (defScope s_Ring___init__) := ⟨rfl, rfl, rfl, by decide +kernel, rfl, by decide +kernel, by decide +kernel⟩
abbrev s_Ring_parts : Stmt := inClass (top 31) 1
theorem sc_Ring_parts : FnScope N_Ring_parts ["self"] (defScope s_Ring_parts) := ⟨rfl, rfl, rfl, by decide +kernel, rfl, by decide +kernel, by decide +kernel⟩
abbrev s_Ring_turned : Stmt := inClass (top 31) 2
theorem sc_Ring_turned : FnScope N_Ring_turned ["self", "by"] (defScope s_Ring_turned) := ⟨rfl, rfl, rfl, by decide +kernel, rfl, by decide +kernel, by decide +kernel⟩
abbrev s_Ring_least_turn : Stmt := inClass (top 31) 3
theorem sc_Ring_least_turn : FnScope N_Ring_least_turn ["self"] (defScope s_Ring_least_turn) := ⟨rfl, rfl, rfl, by decide +kernel, rfl, by decide +kernel, by decide +kernel⟩
abbrev s_Ring_least : Stmt := inClass (top 31) 4
theorem sc_Ring_least : FnScope N_Ring_least ["self"] (defScope s_Ring_least) := ⟨rfl, rfl, rfl, by decide +kernel, rfl, by decide +kernel, by decide +kernel⟩
abbrev s_Ring_root : Stmt := inClass (top 31) 5
theorem sc_Ring_root : FnScope N_Ring_root ["self"] (defScope s_Ring_root) := ⟨rfl, rfl, rfl, by decide +kernel, rfl, by decide +kernel, by decide +kernel⟩
abbrev s_Ring_turn_to : Stmt := inClass (top 31) 6
theorem sc_Ring_turn_to : FnScope N_Ring_turn_to ["self", "other"] (defScope s_Ring_turn_to) := ⟨rfl, rfl, rfl, by decide +kernel, rfl, by decide +kernel, by decide +kernel⟩
abbrev s_law_urn : Stmt := top 33
theorem sc_law_urn : FnScope N_law_urn ["_law_script", "_law_at"] (defScope s_law_urn) := ⟨rfl, rfl, rfl, by decide +kernel, rfl, by decide +kernel, by decide +kernel⟩
abbrev s_law_draw : Stmt := top 34
theorem sc_law_draw : FnScope N_law_draw ["_law_urn_here", "_law_wide"] (defScope s_law_draw) := ⟨rfl, rfl, rfl, by decide +kernel, rfl, by decide +kernel, by decide +kernel⟩
abbrev s_law_which : Stmt := top 35
theorem sc_law_which : FnScope N_law_which ["_law_e"] (defScope s_law_which) := ⟨rfl, rfl, rfl, by decide +kernel, rfl, by decide +kernel, by decide +kernel⟩
abbrev s_law_ring : Stmt := top 36
theorem sc_law_ring : FnScope N_law_ring ["_law_urn_here", "_law_most"] (defScope s_law_ring) := ⟨rfl, rfl, rfl, by decide +kernel, rfl, by decide +kernel, by decide +kernel⟩
abbrev s_law_even_word : Stmt := top 37
theorem sc_law_even_word : FnScope N_law_even_word ["_law_bs", "_law_others"] (defScope s_law_even_word) := ⟨rfl, rfl, rfl, by decide +kernel, rfl, by decide +kernel, by decide +kernel⟩
abbrev s_law_word : Stmt := top 38
theorem sc_law_word : FnScope N_law_word ["_law_urn_here", "_law_most"] (defScope s_law_word) := ⟨rfl, rfl, rfl, by decide +kernel, rfl, by decide +kernel, by decide +kernel⟩
abbrev s_law_turned : Stmt := top 39
theorem sc_law_turned : FnScope N_law_turned ["_law_parts", "_law_step"] (defScope s_law_turned) := ⟨rfl, rfl, rfl, by decide +kernel, rfl, by decide +kernel, by decide +kernel⟩
abbrev s_law_root : Stmt := top 40
theorem sc_law_root : FnScope N_law_root ["_law_parts"] (defScope s_law_root) := ⟨rfl, rfl, rfl, by decide +kernel, rfl, by decide +kernel, by decide +kernel⟩
abbrev s_law_turn : Stmt := top 41
theorem sc_law_turn : FnScope N_law_turn ["_law_parts", "_law_others"] (defScope s_law_turn) := ⟨rfl, rfl, rfl, by decide +kernel, rfl, by decide +kernel, by decide +kernel⟩
abbrev s_law_least_row : Stmt := top 42
theorem sc_law_least_row : FnScope N_law_least_row ["_law_parts"] (defScope s_law_least_row) := ⟨rfl, rfl, rfl, by decide +kernel, rfl, by decide +kernel, by decide +kernel⟩
abbrev s_law_is_right : Stmt := top 43
theorem sc_law_is_right : FnScope N_law_is_right ["_law_ring_here", "_law_parts", "_law_others"] (defScope s_law_is_right) := ⟨rfl, rfl, rfl, by decide +kernel, rfl, by decide +kernel, by decide +kernel⟩
abbrev s_law_drawn : Stmt := top 44
theorem sc_law_drawn : FnScope N_law_drawn ["_law_urn_here"] (defScope s_law_drawn) := ⟨rfl, rfl, rfl, by decide +kernel, rfl, by decide +kernel, by decide +kernel⟩
abbrev s_law_beside : Stmt := top 45
theorem sc_law_beside : FnScope N_law_beside ["_law_urn_here", "_law_parts", "_law_part", "_law_most"] (defScope s_law_beside) := ⟨rfl, rfl, rfl, by decide +kernel, rfl, by decide +kernel, by decide +kernel⟩
abbrev s_law : Stmt := top 46
theorem sc_law : FnScope N_law ["_law_script"] (defScope s_law) := ⟨rfl, rfl, rfl, by decide +kernel, rfl, by decide +kernel, by decide +kernel⟩
abbrev sI_NoTurn : Stmt := inClass (top 11) 0
theorem scI_NoTurn : FnScope ["self", "one", "other"] ["self", "one", "other"] (defScope sI_NoTurn) := ⟨rfl, rfl, rfl, by decide +kernel, rfl, by decide +kernel, by decide +kernel⟩
structure Txt (w : World) (K : PySem.W.Frag) (mg : Str → Option Value) (base : Heap) where
  C_Ring : Addr
  gc_Ring : mg "Ring" = some (.ref C_Ring)
  f_is_whole : Addr
  fd_is_whole : FuncData
  f_is_within : Addr
  fd_is_within : FuncData
  f_is_row : Addr
  fd_is_row : FuncData
  f_is_number_ring : Addr
  fd_is_number_ring : FuncData
  f_shortest_part : Addr
  fd_shortest_part : FuncData
  f_is_word : Addr
  fd_is_word : FuncData
  f_law_urn : Addr
  fd_law_urn : FuncData
  f_law_draw : Addr
  fd_law_draw : FuncData
  f_law_which : Addr
  fd_law_which : FuncData
  f_law_ring : Addr
  fd_law_ring : FuncData
  f_law_even_word : Addr
  fd_law_even_word : FuncData
  f_law_word : Addr
  fd_law_word : FuncData
  f_law_turned : Addr
  fd_law_turned : FuncData
  f_law_root : Addr
  fd_law_root : FuncData
  f_law_turn : Addr
  fd_law_turn : FuncData
  f_law_least_row : Addr
  fd_law_least_row : FuncData
  f_law_is_right : Addr
  fd_law_is_right : FuncData
  f_law_drawn : Addr
  fd_law_drawn : FuncData
  f_law_beside : Addr
  fd_law_beside : FuncData
  f_law : Addr
  fd_law : FuncData
  f_Ring___init__ : Addr
  fd_Ring___init__ : FuncData
  f_Ring_parts : Addr
  fd_Ring_parts : FuncData
  f_Ring_turned : Addr
  fd_Ring_turned : FuncData
  f_Ring_least_turn : Addr
  fd_Ring_least_turn : FuncData
  f_Ring_least : Addr
  fd_Ring_least : FuncData
  f_Ring_root : Addr
  fd_Ring_root : FuncData
  f_Ring_turn_to : Addr
  fd_Ring_turn_to : FuncData
  F_is_whole : Fun K "is_whole" "is_whole" s_is_whole f_is_whole fd_is_whole
  m_is_whole : mg "is_whole" = some (.ref f_is_whole)
  b_is_whole : Binds K fd_is_whole ["thing"] []
  F_is_within : Fun K "is_within" "is_within" s_is_within f_is_within fd_is_within
  m_is_within : mg "is_within" = some (.ref f_is_within)
  b_is_within : Binds K fd_is_within ["thing", "least", "most"] []
  F_is_row : Fun K "is_row" "is_row" s_is_row f_is_row fd_is_row
  m_is_row : mg "is_row" = some (.ref f_is_row)
  b_is_row : Binds K fd_is_row ["thing", "least", "most"] []
  F_is_number_ring : Fun K "is_number_ring" "is_number_ring" s_is_number_ring f_is_number_ring fd_is_number_ring
  m_is_number_ring : mg "is_number_ring" = some (.ref f_is_number_ring)
  b_is_number_ring : Binds K fd_is_number_ring ["thing"] []
  F_shortest_part : Fun K "shortest_part" "shortest_part" s_shortest_part f_shortest_part fd_shortest_part
  m_shortest_part : mg "shortest_part" = some (.ref f_shortest_part)
  b_shortest_part : Binds K fd_shortest_part ["parts"] []
  F_is_word : Fun K "is_word" "is_word" s_is_word f_is_word fd_is_word
  m_is_word : mg "is_word" = some (.ref f_is_word)
  b_is_word : Binds K fd_is_word ["thing"] []
  F_law_urn : Fun K "_law_urn" "_law_urn" s_law_urn f_law_urn fd_law_urn
  m_law_urn : mg "_law_urn" = some (.ref f_law_urn)
  b_law_urn : Binds K fd_law_urn ["_law_script", "_law_at"] []
  F_law_draw : Fun K "_law_draw" "_law_draw" s_law_draw f_law_draw fd_law_draw
  m_law_draw : mg "_law_draw" = some (.ref f_law_draw)
  b_law_draw : Binds K fd_law_draw ["_law_urn_here", "_law_wide"] []
  F_law_which : Fun K "_law_which" "_law_which" s_law_which f_law_which fd_law_which
  m_law_which : mg "_law_which" = some (.ref f_law_which)
  b_law_which : Binds K fd_law_which ["_law_e"] []
  F_law_ring : Fun K "_law_ring" "_law_ring" s_law_ring f_law_ring fd_law_ring
  m_law_ring : mg "_law_ring" = some (.ref f_law_ring)
  b_law_ring : Binds K fd_law_ring ["_law_urn_here", "_law_most"] []
  F_law_even_word : Fun K "_law_even_word" "_law_even_word" s_law_even_word f_law_even_word fd_law_even_word
  m_law_even_word : mg "_law_even_word" = some (.ref f_law_even_word)
  b_law_even_word : Binds K fd_law_even_word ["_law_bs", "_law_others"] []
  F_law_word : Fun K "_law_word" "_law_word" s_law_word f_law_word fd_law_word
  m_law_word : mg "_law_word" = some (.ref f_law_word)
  b_law_word : Binds K fd_law_word ["_law_urn_here", "_law_most"] []
  F_law_turned : Fun K "_law_turned" "_law_turned" s_law_turned f_law_turned fd_law_turned
  m_law_turned : mg "_law_turned" = some (.ref f_law_turned)
  b_law_turned : Binds K fd_law_turned ["_law_parts", "_law_step"] []
  F_law_root : Fun K "_law_root" "_law_root" s_law_root f_law_root fd_law_root
  m_law_root : mg "_law_root" = some (.ref f_law_root)
  b_law_root : Binds K fd_law_root ["_law_parts"] []
  F_law_turn : Fun K "_law_turn" "_law_turn" s_law_turn f_law_turn fd_law_turn
  m_law_turn : mg "_law_turn" = some (.ref f_law_turn)
  b_law_turn : Binds K fd_law_turn ["_law_parts", "_law_others"] []
  F_law_least_row : Fun K "_law_least_row" "_law_least_row" s_law_least_row f_law_least_row fd_law_least_row
  m_law_least_row : mg "_law_least_row" = some (.ref f_law_least_row)
  b_law_least_row : Binds K fd_law_least_row ["_law_parts"] []
  F_law_is_right : Fun K "_law_is_right" "_law_is_right" s_law_is_right f_law_is_right fd_law_is_right
  m_law_is_right : mg "_law_is_right" = some (.ref f_law_is_right)
  b_law_is_right : Binds K fd_law_is_right ["_law_ring_here", "_law_parts", "_law_others"] []
  F_law_drawn : Fun K "_law_drawn" "_law_drawn" s_law_drawn f_law_drawn fd_law_drawn
  m_law_drawn : mg "_law_drawn" = some (.ref f_law_drawn)
  b_law_drawn : Binds K fd_law_drawn ["_law_urn_here"] []
  F_law_beside : Fun K "_law_beside" "_law_beside" s_law_beside f_law_beside fd_law_beside
  m_law_beside : mg "_law_beside" = some (.ref f_law_beside)
  b_law_beside : Binds K fd_law_beside ["_law_urn_here", "_law_parts", "_law_part", "_law_most"] []
  F_law : Fun K "law" "law" s_law f_law fd_law
  m_law : mg "law" = some (.ref f_law)
  b_law : Binds K fd_law ["_law_script"] []
  F_Ring___init__ : Fun K "__init__" "Ring.__init__" s_Ring___init__ f_Ring___init__ fd_Ring___init__
  cl_Ring : ClF K "Ring" C_Ring f_Ring___init__
  na_Ring : noAttrB K C_Ring ["held"] = true
  b_Ring___init__ : Binds K fd_Ring___init__ ["self", "parts"] []
  F_Ring_parts : Fun K "parts" "Ring.parts" s_Ring_parts f_Ring_parts fd_Ring_parts
  M_Ring_parts : Meth K C_Ring "parts" f_Ring_parts
  b_Ring_parts : Binds K fd_Ring_parts ["self"] []
  T_Ring_turned : Addr
  its_Ring_turned : Array Value
  F_Ring_turned : Hx.FunV K "turned" "Ring.turned" s_Ring_turned f_Ring_turned fd_Ring_turned T_Ring_turned its_Ring_turned
  M_Ring_turned : Meth K C_Ring "turned" f_Ring_turned
  B_Ring_turned : BMeth K C_Ring "turned" f_Ring_turned
  b_Ring_turned : Binds K fd_Ring_turned ["self", "by"] []
  F_Ring_least_turn : Fun K "least_turn" "Ring.least_turn" s_Ring_least_turn f_Ring_least_turn fd_Ring_least_turn
  M_Ring_least_turn : Meth K C_Ring "least_turn" f_Ring_least_turn
  b_Ring_least_turn : Binds K fd_Ring_least_turn ["self"] []
  F_Ring_least : Fun K "least" "Ring.least" s_Ring_least f_Ring_least fd_Ring_least
  M_Ring_least : Meth K C_Ring "least" f_Ring_least
  b_Ring_least : Binds K fd_Ring_least ["self"] []
  F_Ring_root : Fun K "root" "Ring.root" s_Ring_root f_Ring_root fd_Ring_root
  M_Ring_root : Meth K C_Ring "root" f_Ring_root
  b_Ring_root : Binds K fd_Ring_root ["self"] []
  F_Ring_turn_to : Fun K "turn_to" "Ring.turn_to" s_Ring_turn_to f_Ring_turn_to fd_Ring_turn_to
  M_Ring_turn_to : Meth K C_Ring "turn_to" f_Ring_turn_to
  b_Ring_turn_to : Binds K fd_Ring_turn_to ["self", "other"] []
  own : ∀ c ∈ ownCls, ∃ Dn, mg c = some (.ref Dn) ∧ clsV K c = .ref Dn
  wf : ∀ n ∈ rsX, n ∈ ownCls ∧ ∃ Dn, WhF K n Dn
  C_NoTurn : Addr
  fI_NoTurn : Addr
  fdI_NoTurn : FuncData
  FI_NoTurn : Fun K "__init__" "NoTurn.__init__" sI_NoTurn fI_NoTurn fdI_NoTurn
  bI_NoTurn : Binds K fdI_NoTurn ["self", "one", "other"] []
  X_NoTurn : FxF K "NoTurn" [.type "LookupError", .type "Exception", .type "BaseException", .type "object"] "LookupError.__new__" C_NoTurn fI_NoTurn ["one", "other"]
  gc_NoTurn : mg "NoTurn" = some (.ref C_NoTurn)
  C_NoRing : Addr
  R_NoRing : RsF K "NoRing" [.type "ValueError", .type "Exception", .type "BaseException", .type "object"] "ValueError.__new__" C_NoRing
  gc_NoRing : mg "NoRing" = some (.ref C_NoRing)
  zn_ArithmeticError : PySem.W.nsIn K mainGlobals "ArithmeticError" = some none
  zn_IndexError : PySem.W.nsIn K mainGlobals "IndexError" = some none
  zn_KeyError : PySem.W.nsIn K mainGlobals "KeyError" = some none
  zn_LookupError : PySem.W.nsIn K mainGlobals "LookupError" = some none
  zn_OverflowError : PySem.W.nsIn K mainGlobals "OverflowError" = some none
  zn_RuntimeError : PySem.W.nsIn K mainGlobals "RuntimeError" = some none
  zn_TypeError : PySem.W.nsIn K mainGlobals "TypeError" = some none
  zn_ValueError : PySem.W.nsIn K mainGlobals "ValueError" = some none
  zn_ZeroDivisionError : PySem.W.nsIn K mainGlobals "ZeroDivisionError" = some none
  v_LETTERS : V
  u_LETTERS : Value
  m_LETTERS : mg "LETTERS" = some u_LETTERS
  r_LETTERS : RelV v_LETTERS u_LETTERS
  k_LETTERS : ∀ H S, Rp K H S (k_LETTERS) v_LETTERS
  v_MOST_LETTERS : V
  u_MOST_LETTERS : Value
  m_MOST_LETTERS : mg "MOST_LETTERS" = some u_MOST_LETTERS
  r_MOST_LETTERS : RelV v_MOST_LETTERS u_MOST_LETTERS
  k_MOST_LETTERS : ∀ H S, Rp K H S (k_MOST_LETTERS) v_MOST_LETTERS
  v_MOST_NUMBER : V
  u_MOST_NUMBER : Value
  m_MOST_NUMBER : mg "MOST_NUMBER" = some u_MOST_NUMBER
  r_MOST_NUMBER : RelV v_MOST_NUMBER u_MOST_NUMBER
  k_MOST_NUMBER : ∀ H S, Rp K H S (k_MOST_NUMBER) v_MOST_NUMBER
  v_MOST_RING : V
  u_MOST_RING : Value
  m_MOST_RING : mg "MOST_RING" = some u_MOST_RING
  r_MOST_RING : RelV v_MOST_RING u_MOST_RING
  k_MOST_RING : ∀ H S, Rp K H S (k_MOST_RING) v_MOST_RING
  n_ArithmeticError : mg "ArithmeticError" = none
  n_IndexError : mg "IndexError" = none
  n_KeyError : mg "KeyError" = none
  n_LookupError : mg "LookupError" = none
  n_OverflowError : mg "OverflowError" = none
  n_RuntimeError : mg "RuntimeError" = none
  n_TypeError : mg "TypeError" = none
  n_ValueError : mg "ValueError" = none
  n_ZeroDivisionError : mg "ZeroDivisionError" = none
  n_abs : mg "abs" = none
  n_all : mg "all" = none
  n_bool : mg "bool" = none
  n_int : mg "int" = none
  n_isinstance : mg "isinstance" = none
  n_len : mg "len" = none
  n_max : mg "max" = none
  n_min : mg "min" = none
  n_range : mg "range" = none
  n_repr : mg "repr" = none
  n_str : mg "str" = none
  n_tuple : mg "tuple" = none
section
variable {P : Program} {w : World} {K : PySem.W.Frag} {mg : Str → Option Value} {base : Heap}
theorem in_NoTurn (T : Txt w K mg base) : FnG P w K mg base (L2N.CX P w) 1 T.fI_NoTurn T.fdI_NoTurn ["self", "one", "other"] (spI2 T.C_NoTurn "one" "other") := init2_ok T.FI_NoTurn scI_NoTurn T.X_NoTurn.ox (T.X_NoTurn.free _ (by decide +kernel)) (T.X_NoTurn.free _ (by decide +kernel)) rfl
theorem ok_is_whole (T : Txt w K mg base) : FnG P w K mg base (L2N.CX P w) 1 T.f_is_whole T.fd_is_whole ["thing"] (upF K (sp_is_whole)) := by
  refine okD (k := 0) (t := fun Ed => t_is_whole Ed) T.F_is_whole sc_is_whole (len_is_whole) (fun cdv A outer s H E Ed hr => ?_) (pure_is_whole)
  exact (db_one (ds_ret (de_and (de_callB cd_isi (by rfl) T.n_isinstance (by decide +kernel) (da_cons (dv 0) (da_cons (de_ty (by rfl) T.n_int (by decide +kernel)) da_nil))) (de_one (de_not (de_callB cd_isi (by rfl) T.n_isinstance (by decide +kernel) (da_cons (dv 0) (da_cons (de_ty (by rfl) T.n_bool (by decide +kernel)) da_nil))))))))
theorem ok_is_within (T : Txt w K mg base) : FnG P w K mg base (L2N.CX P w) 2 T.f_is_within T.fd_is_within ["thing", "least", "most"] (upF K (sp_is_within)) := by
  refine okD (k := 1) (t := fun Ed => t_is_within Ed) T.F_is_within sc_is_within (len_is_within) (fun cdv A outer s H E Ed hr => ?_) (pure_is_within)
  exact (db_one (ds_ret (de_and (de_call (ok_is_whole T) (hr.mono (by decide)) (by rfl) T.m_is_whole T.F_is_whole.kp T.b_is_whole .nil (fun _ _ => rpL_nil) takesB (da_cons (dv 0) da_nil)) (de_one (de_chain od_le od_le (dv 1) (dv 0) (dv 2))))))
theorem ok_is_row (T : Txt w K mg base) : FnG P w K mg base (L2N.CX P w) 3 T.f_is_row T.fd_is_row ["thing", "least", "most"] (upF K (sp_is_row)) := by
  refine okD (k := 2) (t := fun Ed => t_is_row Ed) T.F_is_row sc_is_row (len_is_row) (fun cdv A outer s H E Ed hr => ?_) (pure_is_row)
  exact (db_cons (ds_if (DW.pt (dw_or (dt_not (dt_val (de_callB cd_isi (by rfl) T.n_isinstance (by decide +kernel) (da_cons (dv 0) (da_cons (de_ty (by rfl) T.n_tuple (by decide +kernel)) da_nil))))) (dw_or1 (dt_not (dt_chain od_le od_le (dv 1) (de_callB cd_len (by rfl) T.n_len (by decide +kernel) (da_cons (dv 0) da_nil)) (dv 2)))))) (db_one (ds_ret de_bl)) db_nil)
  (db_one (ds_ret (de_callB (cd_all rfl) (by rfl) T.n_all (by decide +kernel) (da_cons (de_lc (own := [("number", 3)]) rfl sc_is_row.nd (di_any (dv 0)) (blkOk_by (own := [("number", 3)]) (N := N_is_row) (sc := defScope s_is_row) (by decide +kernel)) (fun _ _ _ _ _ => (dg_name (i := 3) sc_is_row.nd rfl (by first | exact Or.inl rfl | exact Or.inr rfl) (by decide))) (fun _ _ _ _ _ => dts_nil) (fun _ _ _ _ _ => (de_call (ok_is_within T) (hr.mono (by decide)) (by rfl) T.m_is_within T.F_is_within.kp T.b_is_within .nil (fun _ _ => rpL_nil) takes0N (da_cons (dv 3) (da_cons de_int (da_cons (de_k (by rfl) T.m_MOST_NUMBER T.r_MOST_NUMBER T.k_MOST_NUMBER) da_nil)))))) da_nil)))))
theorem ok_is_number_ring (T : Txt w K mg base) : FnG P w K mg base (L2N.CX P w) 4 T.f_is_number_ring T.fd_is_number_ring ["thing"] (upF K (sp_is_number_ring)) := by
  refine okD (k := 3) (t := fun Ed => t_is_number_ring Ed) T.F_is_number_ring sc_is_number_ring (len_is_number_ring) (fun cdv A outer s H E Ed hr => ?_) (pure_is_number_ring)
  exact (db_one (ds_ret (de_call (ok_is_row T) (hr.mono (by decide)) (by rfl) T.m_is_row T.F_is_row.kp T.b_is_row .nil (fun _ _ => rpL_nil) takesB (da_cons (dv 0) (da_cons de_int (da_cons (de_k (by rfl) T.m_MOST_RING T.r_MOST_RING T.k_MOST_RING) da_nil))))))
theorem ok_shortest_part (T : Txt w K mg base) : FnG P w K mg base (L2N.CX P w) 1 T.f_shortest_part T.fd_shortest_part ["parts"] (upF K (sp_shortest_part)) := by
  refine okD (k := 0) (t := fun Ed => t_shortest_part Ed) T.F_shortest_part sc_shortest_part (len_shortest_part) (fun cdv A outer s H E Ed hr => ?_) (pure_shortest_part)
  exact (db_cons (ds_set 1 sc_shortest_part.nd rfl (by first | exact .inl rfl | exact .inr rfl) (de_callB cd_len (by rfl) T.n_len (by decide +kernel) (da_cons (dv 0) da_nil)))
  (db_cons (ds_for (vs := [2]) passB rfl (di_rng2 (by rfl) T.n_range (da_cons de_int (da_cons (dv 1) da_nil))) (dg_name (i := 2) sc_shortest_part.nd rfl (by first | exact Or.inl rfl | exact Or.inr rfl) (by decide))
  (db_one (ds_if (DW.pt (dw_and (dt_cmp (od_eq hr.units) (de_op od_mod (dv 1) (dv 2)) de_int (nomark _)) (dw_and1 (dt_cmp (od_eq hr.units) (de_op od_mulA (de_slice (dv 0) do_none (do_some (dv 2))) (de_op od_fdiv (dv 1) (dv 2))) (dv 0) (nomark _))))) (db_one (ds_ret (de_slice (dv 0) do_none (do_some (dv 2))))) db_nil)))
  (db_one (ds_ret (dv 0)))))
theorem ok_is_word (T : Txt w K mg base) : FnG P w K mg base (L2N.CX P w) 1 T.f_is_word T.fd_is_word ["thing"] (upF K (sp_is_word)) := by
  refine okD (k := 0) (t := fun Ed => t_is_word Ed) T.F_is_word sc_is_word (len_is_word) (fun cdv A outer s H E Ed hr => ?_) (pure_is_word)
  exact (db_cons (ds_if (DW.pt (dw_or (dt_not (dt_val (de_callB cd_isi (by rfl) T.n_isinstance (by decide +kernel) (da_cons (dv 0) (da_cons (de_ty (by rfl) T.n_str (by decide +kernel)) da_nil))))) (dw_or1 (dt_not (dt_chain od_le od_le de_int (de_callB cd_len (by rfl) T.n_len (by decide +kernel) (da_cons (dv 0) da_nil)) (de_k (by rfl) T.m_MOST_LETTERS T.r_MOST_LETTERS T.k_MOST_LETTERS)))))) (db_one (ds_ret de_bl)) db_nil)
  (db_one (ds_ret (de_callB (cd_all rfl) (by rfl) T.n_all (by decide +kernel) (da_cons (de_lc (own := [("letter", 1)]) rfl sc_is_word.nd (di_any (dv 0)) (blkOk_by (own := [("letter", 1)]) (N := N_is_word) (sc := defScope s_is_word) (by decide +kernel)) (fun _ _ _ _ _ => (dg_name (i := 1) sc_is_word.nd rfl (by first | exact Or.inl rfl | exact Or.inr rfl) (by decide))) (fun _ _ _ _ _ => dts_nil) (fun _ _ _ _ _ => (de_cmp od_inS (dv 1) (de_k (by rfl) T.m_LETTERS T.r_LETTERS T.k_LETTERS) (by with_unfolding_all rfl)))) da_nil)))))
theorem ok_Ring___init__ (T : Txt w K mg base) : FnG P w K mg base (L2N.CX P w) 5 T.f_Ring___init__ T.fd_Ring___init__ ["self", "parts"] (upF K (sp_Ring___init__)) := by
  refine okD (k := 4) (t := fun Ed => t_Ring___init__ Ed) T.F_Ring___init__ sc_Ring___init__ (len_Ring___init__) (fun cdv A outer s H E Ed hr => ?_) (pure_Ring___init__)
  exact (db_cons (ds_if (DW.pt (dw_and (dt_not (dt_val (de_call (ok_is_word T) (hr.mono (by decide)) (by rfl) T.m_is_word T.F_is_word.kp T.b_is_word .nil (fun _ _ => rpL_nil) takesB (da_cons (dv 1) da_nil)))) (dw_and1 (dt_not (dt_val (de_call (ok_is_number_ring T) (hr.mono (by decide)) (by rfl) T.m_is_number_ring T.F_is_number_ring.kp T.b_is_number_ring .nil (fun _ _ => rpL_nil) takesB (da_cons (dv 1) da_nil))))))) (db_one (ds_raiseC rfl takesB PySem.F.excBase_ValueError T.R_NoRing T.gc_NoRing (by rfl))) db_nil)
  (db_one (ds_put T.cl_Ring (noAttrB_ok T.na_Ring (by decide +kernel)) (dv 0) (dv 1) (by rfl))))
theorem ok_Ring_parts (T : Txt w K mg base) : FnG P w K mg base (L2N.CX P w) 1 T.f_Ring_parts T.fd_Ring_parts ["self"] (upF K (sp_Ring_parts)) := by
  refine okD (k := 0) (t := fun Ed => t_Ring_parts Ed) T.F_Ring_parts sc_Ring_parts (len_Ring_parts) (fun cdv A outer s H E Ed hr => ?_) (pure_Ring_parts)
  exact (db_one (ds_ret (de_fld T.cl_Ring (noAttrB_ok T.na_Ring (by decide +kernel)) (dv 0))))
theorem ok_Ring_turned (T : Txt w K mg base) : FnG P w K mg base (L2N.CX P w) 1 T.f_Ring_turned T.fd_Ring_turned ["self", "by"] (upF K (sp_Ring_turned)) := by
  refine okDv (k := 0) (t := fun Ed => t_Ring_turned Ed) T.F_Ring_turned sc_Ring_turned (len_Ring_turned) (fun cdv A outer s H E Ed hr => ?_) (pure_Ring_turned)
  exact (db_cons (ds_set 2 sc_Ring_turned.nd rfl (by first | exact .inl rfl | exact .inr rfl) (de_op od_mod (dv 1) (de_callB cd_len (by rfl) T.n_len (by decide +kernel) (da_cons (de_fld T.cl_Ring (noAttrB_ok T.na_Ring (by decide +kernel)) (dv 0)) da_nil))))
  (db_one (ds_ret (de_op od_add (de_slice (de_fld T.cl_Ring (noAttrB_ok T.na_Ring (by decide +kernel)) (dv 0)) (do_some (dv 2)) do_none) (de_slice (de_fld T.cl_Ring (noAttrB_ok T.na_Ring (by decide +kernel)) (dv 0)) do_none (do_some (dv 2)))))))
theorem ok_Ring_least_turn (T : Txt w K mg base) : FnG P w K mg base (L2N.CX P w) 3 T.f_Ring_least_turn T.fd_Ring_least_turn ["self"] (upF K (sp_Ring_least_turn)) := by
  refine okD (k := 2) (t := fun Ed => t_Ring_least_turn Ed) T.F_Ring_least_turn sc_Ring_least_turn (len_Ring_least_turn) (fun cdv A outer s H E Ed hr => ?_) (pure_Ring_least_turn)
  exact (db_one (ds_ret (de_minB rfl hr.units T.cl_Ring T.B_Ring_turned (ok_Ring_turned T) (hr.mono (by decide)) T.b_Ring_turned (by rfl) T.n_min (by decide +kernel) (by rfl) T.n_range rfl (by first | exact .inl rfl | exact .inr rfl) (de_callB cd_len (by rfl) T.n_len (by decide +kernel) (da_cons (de_fld T.cl_Ring (noAttrB_ok T.na_Ring (by decide +kernel)) (dv 0)) da_nil)))))
theorem ok_Ring_least (T : Txt w K mg base) : FnG P w K mg base (L2N.CX P w) 4 T.f_Ring_least T.fd_Ring_least ["self"] (upF K (sp_Ring_least)) := by
  refine okD (k := 3) (t := fun Ed => t_Ring_least Ed) T.F_Ring_least sc_Ring_least (len_Ring_least) (fun cdv A outer s H E Ed hr => ?_) (pure_Ring_least)
  exact (db_one (ds_ret (de_meth T.cl_Ring T.M_Ring_turned (dv 0) (ok_Ring_turned T) (hr.mono (by decide)) T.b_Ring_turned .nil (fun _ _ => rpL_nil) takesB (da_cons (de_meth0 T.cl_Ring T.M_Ring_least_turn (dv 0) (ok_Ring_least_turn T) (hr.mono (by decide)) T.b_Ring_least_turn .nil (fun _ _ => rpL_nil) takesB) da_nil))))
theorem ok_Ring_root (T : Txt w K mg base) : FnG P w K mg base (L2N.CX P w) 2 T.f_Ring_root T.fd_Ring_root ["self"] (upF K (sp_Ring_root)) := by
  refine okD (k := 1) (t := fun Ed => t_Ring_root Ed) T.F_Ring_root sc_Ring_root (len_Ring_root) (fun cdv A outer s H E Ed hr => ?_) (pure_Ring_root)
  exact (db_cons (ds_set 1 sc_Ring_root.nd rfl (by first | exact .inl rfl | exact .inr rfl) (de_call (ok_shortest_part T) (hr.mono (by decide)) (by rfl) T.m_shortest_part T.F_shortest_part.kp T.b_shortest_part .nil (fun _ _ => rpL_nil) takesB (da_cons (de_fld T.cl_Ring (noAttrB_ok T.na_Ring (by decide +kernel)) (dv 0)) da_nil)))
  (db_one (ds_ret (de_tup (da_cons (dv 1) (da_cons (de_op od_fdiv (de_callB cd_len (by rfl) T.n_len (by decide +kernel) (da_cons (de_fld T.cl_Ring (noAttrB_ok T.na_Ring (by decide +kernel)) (dv 0)) da_nil)) (de_callB cd_len (by rfl) T.n_len (by decide +kernel) (da_cons (dv 1) da_nil))) da_nil))))))
theorem ok_Ring_turn_to (T : Txt w K mg base) : FnG P w K mg base (L2N.CX P w) 5 T.f_Ring_turn_to T.fd_Ring_turn_to ["self", "other"] (upF K (sp_Ring_turn_to)) := by
  refine okD (k := 4) (t := fun Ed => t_Ring_turn_to Ed) T.F_Ring_turn_to sc_Ring_turn_to (len_Ring_turn_to) (fun cdv A outer s H E Ed hr => ?_) (pure_Ring_turn_to)
  exact (db_cons (ds_for (vs := [2]) passB rfl (di_rng1 (by rfl) T.n_range (da_cons (de_callB cd_len (by rfl) T.n_len (by decide +kernel) (da_cons (de_fld T.cl_Ring (noAttrB_ok T.na_Ring (by decide +kernel)) (dv 0)) da_nil)) da_nil)) (dg_name (i := 2) sc_Ring_turn_to.nd rfl (by first | exact Or.inl rfl | exact Or.inr rfl) (by decide))
  (db_one (ds_if (dt_cmp (od_eq hr.units) (de_meth T.cl_Ring T.M_Ring_turned (dv 0) (ok_Ring_turned T) (hr.mono (by decide)) T.b_Ring_turned .nil (fun _ _ => rpL_nil) takesB (da_cons (dv 2) da_nil)) (de_meth0 T.cl_Ring T.M_Ring_parts (dv 1) (ok_Ring_parts T) (hr.mono (by decide)) T.b_Ring_parts .nil (fun _ _ => rpL_nil) takesB) (nomark _)) (db_one (ds_ret (dv 2))) db_nil)))
  (db_one (ds_raiseF2 rfl takesB PySem.F.excBase_LookupError T.X_NoTurn (in_NoTurn T) (hr.mono (by decide)) T.bI_NoTurn T.gc_NoTurn (by rfl) (da_cons (de_meth0 T.cl_Ring T.M_Ring_least (dv 0) (ok_Ring_least T) (hr.mono (by decide)) T.b_Ring_least .nil (fun _ _ => rpL_nil) takesB) (da_cons (de_meth0 T.cl_Ring T.M_Ring_least (dv 1) (ok_Ring_least T) (hr.mono (by decide)) T.b_Ring_least .nil (fun _ _ => rpL_nil) takesB) da_nil)))))
theorem ok_law_urn (T : Txt w K mg base) : FnG P w K mg base (L2N.CX P w) 1 T.f_law_urn T.fd_law_urn ["_law_script", "_law_at"] (upF K (sp_law_urn)) := by
  refine okD (k := 0) (t := fun Ed => t_law_urn Ed) T.F_law_urn sc_law_urn (len_law_urn) (fun cdv A outer s H E Ed hr => ?_) (pure_law_urn)
  exact (db_cons (ds_set 2 sc_law_urn.nd rfl (by first | exact .inl rfl | exact .inr rfl) de_int)
  (db_cons (ds_if (dt_cmp od_lt (dv 1) (de_callB cd_len (by rfl) T.n_len (by decide +kernel) (da_cons (dv 0) da_nil)) (nomark _)) (db_one (ds_set 2 sc_law_urn.nd rfl (by first | exact .inl rfl | exact .inr rfl) (de_ix (dv 0) (dv 1) (fun _ _ => rfl)))) db_nil)
  (db_cons (ds_set 3 sc_law_urn.nd rfl (by first | exact .inl rfl | exact .inr rfl) (de_callB cd_abs (by rfl) T.n_abs (by decide +kernel) (da_cons (dv 2) da_nil)))
  (db_cons (ds_if (dt_cmp od_lt (dv 3) (de_op od_pow de_int de_int) (nomark _)) (db_one (ds_set 3 sc_law_urn.nd rfl (by first | exact .inl rfl | exact .inr rfl) de_int)) db_nil)
  (db_one (ds_ret (de_lstO (da_cons (dv 3) (da_cons (de_op od_add (de_op od_add (de_op od_add (de_op od_mod (dv 2) de_int) (de_op od_mulA (de_op od_mulA de_int (dv 1)) (dv 1))) (de_op od_mulA de_int (dv 1))) de_int) (da_cons de_int da_nil))))))))))
theorem ok_law_draw (T : Txt w K mg base) : FnG P w K mg base (L2N.CX P w) 1 T.f_law_draw T.fd_law_draw ["_law_urn_here", "_law_wide"] (upF K (sp_law_draw)) := by
  refine okD (k := 0) (t := fun Ed => t_law_draw Ed) T.F_law_draw sc_law_draw (len_law_draw) (fun cdv A outer s H E Ed hr => ?_) (pure_law_draw)
  exact (db_cons (ds_if (dt_cmp od_gt (de_ix (dv 0) de_int (fun _ _ => rfl)) de_int (nomark _)) (db_cons (ds_set 2 sc_law_draw.nd rfl (by first | exact .inl rfl | exact .inr rfl) (de_op od_mod (de_ix (dv 0) de_int (fun _ _ => rfl)) (dv 1)))
  (db_cons (ds_store (dv 0) de_int (de_op od_fdiv (de_ix (dv 0) de_int (fun _ _ => rfl)) (dv 1)))
  (db_one (ds_ret (dv 2))))) db_nil)
  (db_cons (ds_set 3 sc_law_draw.nd rfl (by first | exact .inl rfl | exact .inr rfl) (de_tup (da_cons de_int (da_cons de_int (da_cons de_int (da_cons de_int (da_cons de_int (da_cons de_int (da_cons de_int da_nil)))))))))
  (db_cons (ds_store (dv 0) de_int (de_op od_add (de_ix (dv 0) de_int (fun _ _ => rfl)) de_int))
  (db_cons (ds_set 4 sc_law_draw.nd rfl (by first | exact .inl rfl | exact .inr rfl) (de_ix (dv 0) de_int (fun _ _ => rfl)))
  (db_cons (ds_set 5 sc_law_draw.nd rfl (by first | exact .inl rfl | exact .inr rfl) (de_op od_add (de_op od_add (de_op od_mulA (de_ix (dv 0) de_int (fun _ _ => rfl)) (de_op od_add (de_op od_mulA de_int (dv 4)) de_int)) (de_op od_mulA (de_op od_mulA de_int (dv 4)) (dv 4))) de_int))
  (db_cons (ds_set 6 sc_law_draw.nd rfl (by first | exact .inl rfl | exact .inr rfl) (de_op od_mod (de_op od_pow (dv 5) de_int) (de_ix (dv 3) (de_op od_mod (dv 4) de_int) (fun _ _ => rfl))))
  (db_one (ds_ret (de_op od_mod (de_op od_fdiv (de_op od_mod (de_op od_mulA (dv 6) (de_op od_add (de_op od_fdiv (dv 6) de_int) (dv 4))) (de_ix (dv 3) (de_op od_mod (de_op od_add (dv 4) de_int) de_int) (fun _ _ => rfl))) de_int) (dv 1))))))))))
theorem wh_law_which (T : Txt w K mg base) {k : Nat} : WhOk P w K mg base k T.f_law_which s_law_which N_law_which "_law_which" :=
  whOk (t := fun a od xc => t_law_which a od xc) (fun a oe od xc sf A outer s H cdv hr hot => (db_cons (ds_set 1 sc_law_which.nd rfl (by first | exact .inl rfl | exact .inr rfl) (de_lst (da_cons (de_tup (da_cons de_str (da_cons (de_isxO (T.own _ (by decide +kernel)) (by rfl) (by decide +kernel) sf (.head _) (by rfl) T.n_isinstance (i := 0) rfl (by first | exact .inl rfl | exact .inr (.inl rfl))) (da_cons (de_isxB (ty := "ArithmeticError") T.zn_ArithmeticError T.n_ArithmeticError (by decide +kernel) (by rfl) (by decide +kernel) sf (.head _) (by rfl) T.n_isinstance (i := 0) rfl (by first | exact .inl rfl | exact .inr (.inl rfl))) da_nil)))) (da_cons (de_tup (da_cons de_str (da_cons (de_isxO (T.own _ (by decide +kernel)) (by rfl) (by decide +kernel) sf (.head _) (by rfl) T.n_isinstance (i := 0) rfl (by first | exact .inl rfl | exact .inr (.inl rfl))) (da_cons (de_isxB (ty := "ArithmeticError") T.zn_ArithmeticError T.n_ArithmeticError (by decide +kernel) (by rfl) (by decide +kernel) sf (.head _) (by rfl) T.n_isinstance (i := 0) rfl (by first | exact .inl rfl | exact .inr (.inl rfl))) da_nil)))) (da_cons (de_tup (da_cons de_str (da_cons (de_isxO (T.own _ (by decide +kernel)) (by rfl) (by decide +kernel) sf (.head _) (by rfl) T.n_isinstance (i := 0) rfl (by first | exact .inl rfl | exact .inr (.inl rfl))) (da_cons (de_isxB (ty := "ZeroDivisionError") T.zn_ZeroDivisionError T.n_ZeroDivisionError (by decide +kernel) (by rfl) (by decide +kernel) sf (.head _) (by rfl) T.n_isinstance (i := 0) rfl (by first | exact .inl rfl | exact .inr (.inl rfl))) da_nil)))) (da_cons (de_tup (da_cons de_str (da_cons (de_isxO (T.own _ (by decide +kernel)) (by rfl) (by decide +kernel) sf (.head _) (by rfl) T.n_isinstance (i := 0) rfl (by first | exact .inl rfl | exact .inr (.inl rfl))) (da_cons (de_isxB (ty := "OverflowError") T.zn_OverflowError T.n_OverflowError (by decide +kernel) (by rfl) (by decide +kernel) sf (.head _) (by rfl) T.n_isinstance (i := 0) rfl (by first | exact .inl rfl | exact .inr (.inl rfl))) da_nil)))) (da_cons (de_tup (da_cons de_str (da_cons (de_isxO (T.own _ (by decide +kernel)) (by rfl) (by decide +kernel) sf (.head _) (by rfl) T.n_isinstance (i := 0) rfl (by first | exact .inl rfl | exact .inr (.inl rfl))) (da_cons (de_isxB (ty := "TypeError") T.zn_TypeError T.n_TypeError (by decide +kernel) (by rfl) (by decide +kernel) sf (.head _) (by rfl) T.n_isinstance (i := 0) rfl (by first | exact .inl rfl | exact .inr (.inl rfl))) da_nil)))) (da_cons (de_tup (da_cons de_str (da_cons (de_isxO (T.own _ (by decide +kernel)) (by rfl) (by decide +kernel) sf (.head _) (by rfl) T.n_isinstance (i := 0) rfl (by first | exact .inl rfl | exact .inr (.inl rfl))) (da_cons (de_isxB (ty := "IndexError") T.zn_IndexError T.n_IndexError (by decide +kernel) (by rfl) (by decide +kernel) sf (.head _) (by rfl) T.n_isinstance (i := 0) rfl (by first | exact .inl rfl | exact .inr (.inl rfl))) da_nil)))) (da_cons (de_tup (da_cons de_str (da_cons (de_isxO (T.own _ (by decide +kernel)) (by rfl) (by decide +kernel) sf (.head _) (by rfl) T.n_isinstance (i := 0) rfl (by first | exact .inl rfl | exact .inr (.inl rfl))) (da_cons (de_isxB (ty := "KeyError") T.zn_KeyError T.n_KeyError (by decide +kernel) (by rfl) (by decide +kernel) sf (.head _) (by rfl) T.n_isinstance (i := 0) rfl (by first | exact .inl rfl | exact .inr (.inl rfl))) da_nil)))) (da_cons (de_tup (da_cons de_str (da_cons (de_isxO (T.own _ (by decide +kernel)) (by rfl) (by decide +kernel) sf (.head _) (by rfl) T.n_isinstance (i := 0) rfl (by first | exact .inl rfl | exact .inr (.inl rfl))) (da_cons (de_isxB (ty := "LookupError") T.zn_LookupError T.n_LookupError (by decide +kernel) (by rfl) (by decide +kernel) sf (.head _) (by rfl) T.n_isinstance (i := 0) rfl (by first | exact .inl rfl | exact .inr (.inl rfl))) da_nil)))) (da_cons (de_tup (da_cons de_str (da_cons (de_isxO (T.own _ (by decide +kernel)) (by rfl) (by decide +kernel) sf (.head _) (by rfl) T.n_isinstance (i := 0) rfl (by first | exact .inl rfl | exact .inr (.inl rfl))) (da_cons (de_isxB (ty := "RuntimeError") T.zn_RuntimeError T.n_RuntimeError (by decide +kernel) (by rfl) (by decide +kernel) sf (.head _) (by rfl) T.n_isinstance (i := 0) rfl (by first | exact .inl rfl | exact .inr (.inl rfl))) da_nil)))) (da_cons (de_tup (da_cons de_str (da_cons (de_isxO (T.own _ (by decide +kernel)) (by rfl) (by decide +kernel) sf (.head _) (by rfl) T.n_isinstance (i := 0) rfl (by first | exact .inl rfl | exact .inr (.inl rfl))) (da_cons (de_isxB (ty := "ValueError") T.zn_ValueError T.n_ValueError (by decide +kernel) (by rfl) (by decide +kernel) sf (.head _) (by rfl) T.n_isinstance (i := 0) rfl (by first | exact .inl rfl | exact .inr (.inl rfl))) da_nil)))) (da_cons (de_tup (da_cons de_str (da_cons (de_isxO (T.own _ (by decide +kernel)) (by rfl) (by decide +kernel) sf (.head _) (by rfl) T.n_isinstance (i := 0) rfl (by first | exact .inl rfl | exact .inr (.inl rfl))) (da_cons (de_isxB (ty := "ValueError") T.zn_ValueError T.n_ValueError (by decide +kernel) (by rfl) (by decide +kernel) sf (.head _) (by rfl) T.n_isinstance (i := 0) rfl (by first | exact .inl rfl | exact .inr (.inl rfl))) da_nil)))) (da_cons (de_tup (da_cons de_str (da_cons (de_isxO (T.own _ (by decide +kernel)) (by rfl) (by decide +kernel) sf (.head _) (by rfl) T.n_isinstance (i := 0) rfl (by first | exact .inl rfl | exact .inr (.inl rfl))) (da_cons (de_isxB (ty := "ValueError") T.zn_ValueError T.n_ValueError (by decide +kernel) (by rfl) (by decide +kernel) sf (.head _) (by rfl) T.n_isinstance (i := 0) rfl (by first | exact .inl rfl | exact .inr (.inl rfl))) da_nil)))) (da_cons (de_tup (da_cons de_str (da_cons (de_isxO (T.own _ (by decide +kernel)) (by rfl) (by decide +kernel) sf (.head _) (by rfl) T.n_isinstance (i := 0) rfl (by first | exact .inl rfl | exact .inr (.inl rfl))) (da_cons (de_isxB (ty := "ValueError") T.zn_ValueError T.n_ValueError (by decide +kernel) (by rfl) (by decide +kernel) sf (.head _) (by rfl) T.n_isinstance (i := 0) rfl (by first | exact .inl rfl | exact .inr (.inl rfl))) da_nil)))) (da_cons (de_tup (da_cons de_str (da_cons (de_isxO (T.own _ (by decide +kernel)) (by rfl) (by decide +kernel) sf (.head _) (by rfl) T.n_isinstance (i := 0) rfl (by first | exact .inl rfl | exact .inr (.inl rfl))) (da_cons (de_isxB (ty := "ValueError") T.zn_ValueError T.n_ValueError (by decide +kernel) (by rfl) (by decide +kernel) sf (.head _) (by rfl) T.n_isinstance (i := 0) rfl (by first | exact .inl rfl | exact .inr (.inl rfl))) da_nil)))) (da_cons (de_tup (da_cons de_str (da_cons (de_isxO (T.own _ (by decide +kernel)) (by rfl) (by decide +kernel) sf (.head _) (by rfl) T.n_isinstance (i := 0) rfl (by first | exact .inl rfl | exact .inr (.inl rfl))) (da_cons (de_isxB (ty := "ValueError") T.zn_ValueError T.n_ValueError (by decide +kernel) (by rfl) (by decide +kernel) sf (.head _) (by rfl) T.n_isinstance (i := 0) rfl (by first | exact .inl rfl | exact .inr (.inl rfl))) da_nil)))) (da_cons (de_tup (da_cons de_str (da_cons (de_isxO (T.own _ (by decide +kernel)) (by rfl) (by decide +kernel) sf (.head _) (by rfl) T.n_isinstance (i := 0) rfl (by first | exact .inl rfl | exact .inr (.inl rfl))) (da_cons (de_isxB (ty := "ValueError") T.zn_ValueError T.n_ValueError (by decide +kernel) (by rfl) (by decide +kernel) sf (.head _) (by rfl) T.n_isinstance (i := 0) rfl (by first | exact .inl rfl | exact .inr (.inl rfl))) da_nil)))) (da_cons (de_tup (da_cons de_str (da_cons (de_isxO (T.own _ (by decide +kernel)) (by rfl) (by decide +kernel) sf (.head _) (by rfl) T.n_isinstance (i := 0) rfl (by first | exact .inl rfl | exact .inr (.inl rfl))) (da_cons (de_isxB (ty := "ValueError") T.zn_ValueError T.n_ValueError (by decide +kernel) (by rfl) (by decide +kernel) sf (.head _) (by rfl) T.n_isinstance (i := 0) rfl (by first | exact .inl rfl | exact .inr (.inl rfl))) da_nil)))) da_nil)))))))))))))))))))
  (db_cons (ds_setLcH (own := [("_law_name", 4), ("_law_ours", 5), ("_law_theirs", 6)]) 2 hot sc_law_which.nd rfl rfl (sw_true rfl rfl rfl (by decide +kernel)) (dih_list (dv 1)) (blkOk_by (own := [("_law_name", 4), ("_law_ours", 5), ("_law_theirs", 6)]) (N := N_law_which) (sc := defScope s_law_which) (by decide +kernel)) (fun _ _ _ _ _ => (dg_tupH hot (dgs_cons (dg_name (i := 4) sc_law_which.nd rfl (by first | exact Or.inl rfl | exact Or.inr rfl) (by decide)) (dgs_cons (dg_name (i := 5) sc_law_which.nd rfl (by first | exact Or.inl rfl | exact Or.inr rfl) (by decide)) (dgs_cons (dg_name (i := 6) sc_law_which.nd rfl (by first | exact Or.inl rfl | exact Or.inr rfl) (by decide)) dgs_nil))))) (fun _ _ _ _ _ => (dts_one (dt_val (dv 5)))) (fun _ _ _ _ _ => (dv 4)))
  (db_cons (ds_setLcH (own := [("_law_name", 4), ("_law_ours", 5), ("_law_theirs", 6)]) 3 hot sc_law_which.nd rfl rfl (sw_true rfl rfl rfl (by decide +kernel)) (dih_list (dv 1)) (blkOk_by (own := [("_law_name", 4), ("_law_ours", 5), ("_law_theirs", 6)]) (N := N_law_which) (sc := defScope s_law_which) (by decide +kernel)) (fun _ _ _ _ _ => (dg_tupH hot (dgs_cons (dg_name (i := 4) sc_law_which.nd rfl (by first | exact Or.inl rfl | exact Or.inr rfl) (by decide)) (dgs_cons (dg_name (i := 5) sc_law_which.nd rfl (by first | exact Or.inl rfl | exact Or.inr rfl) (by decide)) (dgs_cons (dg_name (i := 6) sc_law_which.nd rfl (by first | exact Or.inl rfl | exact Or.inr rfl) (by decide)) dgs_nil))))) (fun _ _ _ _ _ => (dts_one (DW.pt (dw_and (dt_val (dv 5)) (dw_and1 (dt_val (dv 6))))))) (fun _ _ _ _ _ => (dv 4)))
  (db_cons (ds_if (DW.pt (dw_and (dt_cmp (od_eq (unitsH hr)) (de_callB cd_len (by rfl) T.n_len (by decide +kernel) (da_cons (dv 2) da_nil)) de_int (nomark _)) (dw_and1 (dt_cmp (od_eq (unitsH hr)) (dv 3) (dv 2) (nomark _))))) (db_one (ds_ret (de_ix (dv 2) de_int (fun _ _ => rfl)))) db_nil)
  (db_one (ds_ret de_str))))))) pure_law_which
theorem ok_law_ring (T : Txt w K mg base) : FnG P w K mg base (L2N.CX P w) 2 T.f_law_ring T.fd_law_ring ["_law_urn_here", "_law_most"] (upF K (sp_law_ring)) := by
  refine okD (k := 1) (t := fun Ed => t_law_ring Ed) T.F_law_ring sc_law_ring (len_law_ring) (fun cdv A outer s H E Ed hr => ?_) (pure_law_ring)
  exact (db_cons (ds_set 2 sc_law_ring.nd rfl (by first | exact .inl rfl | exact .inr rfl) (de_ix (de_lst (da_cons de_int (da_cons de_int (da_cons de_int (da_cons de_int (da_cons de_int (da_cons de_int (da_cons de_int (da_cons (dv 1) da_nil))))))))) (de_call (ok_law_draw T) (hr.mono (by decide)) (by rfl) T.m_law_draw T.F_law_draw.kp T.b_law_draw .nil (fun _ _ => rpL_nil) takesB (da_cons (dv 0) (da_cons de_int da_nil))) (fun _ _ => rfl)))
  (db_cons (ds_set 3 sc_law_ring.nd rfl (by first | exact .inl rfl | exact .inr rfl) (de_ix (de_lst (da_cons de_int (da_cons de_int (da_cons de_int (da_cons de_int (da_cons de_int (da_cons de_int da_nil))))))) (de_call (ok_law_draw T) (hr.mono (by decide)) (by rfl) T.m_law_draw T.F_law_draw.kp T.b_law_draw .nil (fun _ _ => rpL_nil) takesB (da_cons (dv 0) (da_cons de_int da_nil))) (fun _ _ => rfl)))
  (db_one (ds_ret (de_callTy (cd_tupA rfl) (by rfl) T.n_tuple (by decide +kernel) (da_cons (de_lc (own := [("_law_k", 4)]) rfl sc_law_ring.nd (di_rng1 (by rfl) T.n_range (da_cons (de_op od_add de_int (de_call (ok_law_draw T) (hr.mono (by decide)) (by rfl) T.m_law_draw T.F_law_draw.kp T.b_law_draw .nil (fun _ _ => rpL_nil) takesB (da_cons (dv 0) (da_cons (dv 2) da_nil)))) da_nil)) (blkOk_by (own := [("_law_k", 4)]) (N := N_law_ring) (sc := defScope s_law_ring) (by decide +kernel)) (fun _ _ _ _ _ => (dg_name (i := 4) sc_law_ring.nd rfl (by first | exact Or.inl rfl | exact Or.inr rfl) (by decide))) (fun _ _ _ _ _ => dts_nil) (fun _ _ _ _ _ => (de_op od_add de_int (de_call (ok_law_draw T) (hr.mono (by decide)) (by rfl) T.m_law_draw T.F_law_draw.kp T.b_law_draw .nil (fun _ _ => rpL_nil) takes0N (da_cons (dv 0) (da_cons (dv 3) da_nil)))))) da_nil))))))
theorem ok_law_even_word (T : Txt w K mg base) : FnG P w K mg base (L2N.CX P w) 1 T.f_law_even_word T.fd_law_even_word ["_law_bs", "_law_others"] (upF K (sp_law_even_word)) := by
  refine okD (k := 0) (t := fun Ed => t_law_even_word Ed) T.F_law_even_word sc_law_even_word (len_law_even_word) (fun cdv A outer s H E Ed hr => ?_) (pure_law_even_word)
  exact (db_cons (ds_set 2 sc_law_even_word.nd rfl (by first | exact .inl rfl | exact .inr rfl) de_str)
  (db_cons (ds_set 3 sc_law_even_word.nd rfl (by first | exact .inl rfl | exact .inr rfl) de_int)
  (db_cons (ds_for (vs := [4]) passB rfl (di_rng1 (by rfl) T.n_range (da_cons (de_op od_add (dv 0) (dv 1)) da_nil)) (dg_name (i := 4) sc_law_even_word.nd rfl (by first | exact Or.inl rfl | exact Or.inr rfl) (by decide))
  (db_cons (ds_set 3 sc_law_even_word.nd rfl (by first | exact .inl rfl | exact .inr rfl) (de_op od_add (dv 3) (dv 0)))
  (db_cons (ds_set 2 sc_law_even_word.nd rfl (by first | exact .inl rfl | exact .inr rfl) (de_op od_add (dv 2) (de_ix de_str (de_callTy cd_int (by rfl) T.n_int (by decide +kernel) (da_cons (de_cmp od_ge (dv 3) (de_op od_add (dv 0) (dv 1)) (nomark _)) da_nil)) (fun _ _ => rfl))))
  (db_one (ds_if (dt_cmp od_ge (dv 3) (de_op od_add (dv 0) (dv 1)) (nomark _)) (db_one (ds_set 3 sc_law_even_word.nd rfl (by first | exact .inl rfl | exact .inr rfl) (de_op od_sub (de_op od_sub (dv 3) (dv 0)) (dv 1)))) db_nil)))))
  (db_one (ds_ret (dv 2))))))
theorem ok_law_word (T : Txt w K mg base) : FnG P w K mg base (L2N.CX P w) 2 T.f_law_word T.fd_law_word ["_law_urn_here", "_law_most"] (upF K (sp_law_word)) := by
  refine okD (k := 1) (t := fun Ed => t_law_word Ed) T.F_law_word sc_law_word (len_law_word) (fun cdv A outer s H E Ed hr => ?_) (pure_law_word)
  exact (db_cons (ds_set 2 sc_law_word.nd rfl (by first | exact .inl rfl | exact .inr rfl) (de_ix (de_lst (da_cons de_int (da_cons de_int (da_cons de_int (da_cons (dv 1) da_nil))))) (de_call (ok_law_draw T) (hr.mono (by decide)) (by rfl) T.m_law_draw T.F_law_draw.kp T.b_law_draw .nil (fun _ _ => rpL_nil) takesB (da_cons (dv 0) (da_cons de_int da_nil))) (fun _ _ => rfl)))
  (db_cons (ds_set 3 sc_law_word.nd rfl (by first | exact .inl rfl | exact .inr rfl) (de_op od_add de_int (de_call (ok_law_draw T) (hr.mono (by decide)) (by rfl) T.m_law_draw T.F_law_draw.kp T.b_law_draw .nil (fun _ _ => rpL_nil) takesB (da_cons (dv 0) (da_cons (dv 2) da_nil)))))
  (db_cons (ds_set 4 sc_law_word.nd rfl (by first | exact .inl rfl | exact .inr rfl) (de_ix (de_lst (da_cons de_int (da_cons de_int (da_cons de_int da_nil)))) (de_call (ok_law_draw T) (hr.mono (by decide)) (by rfl) T.m_law_draw T.F_law_draw.kp T.b_law_draw .nil (fun _ _ => rpL_nil) takesB (da_cons (dv 0) (da_cons de_int da_nil))) (fun _ _ => rfl)))
  (db_cons (ds_set 5 sc_law_word.nd rfl (by first | exact .inl rfl | exact .inr rfl) (de_join de_str (da_cons (de_lc (own := [("_law_k", 11)]) rfl sc_law_word.nd (di_rng1 (by rfl) T.n_range (da_cons (dv 3) da_nil)) (blkOk_by (own := [("_law_k", 11)]) (N := N_law_word) (sc := defScope s_law_word) (by decide +kernel)) (fun _ _ _ _ _ => (dg_name (i := 11) sc_law_word.nd rfl (by first | exact Or.inl rfl | exact Or.inr rfl) (by decide))) (fun _ _ _ _ _ => dts_nil) (fun _ _ _ _ _ => (de_ix de_str (de_callTy cd_int (by rfl) T.n_int (by decide +kernel) (da_cons (de_cmp od_gt (de_call (ok_law_draw T) (hr.mono (by decide)) (by rfl) T.m_law_draw T.F_law_draw.kp T.b_law_draw .nil (fun _ _ => rpL_nil) takes0N (da_cons (dv 0) (da_cons (dv 4) da_nil))) de_int (nomark _)) da_nil)) (fun _ _ => rfl)))) da_nil)))
  (db_cons (ds_set 6 sc_law_word.nd rfl (by first | exact .inl rfl | exact .inr rfl) (de_call (ok_law_draw T) (hr.mono (by decide)) (by rfl) T.m_law_draw T.F_law_draw.kp T.b_law_draw .nil (fun _ _ => rpL_nil) takesB (da_cons (dv 0) (da_cons de_int da_nil))))
  (db_cons (ds_if (dt_cmp od_lt (dv 6) de_int (nomark _)) (db_one (ds_ret (dv 5))) db_nil)
  (db_cons (ds_set 7 sc_law_word.nd rfl (by first | exact .inl rfl | exact .inr rfl) (de_call (ok_law_draw T) (hr.mono (by decide)) (by rfl) T.m_law_draw T.F_law_draw.kp T.b_law_draw .nil (fun _ _ => rpL_nil) takesB (da_cons (dv 0) (da_cons (de_op od_add (dv 3) de_int) da_nil))))
  (db_cons (ds_set 8 sc_law_word.nd rfl (by first | exact .inl rfl | exact .inr rfl) (de_call (ok_law_even_word T) (hr.mono (by decide)) (by rfl) T.m_law_even_word T.F_law_even_word.kp T.b_law_even_word .nil (fun _ _ => rpL_nil) takesB (da_cons (dv 7) (da_cons (de_op od_sub (dv 3) (dv 7)) da_nil))))
  (db_cons (ds_set 9 sc_law_word.nd rfl (by first | exact .inl rfl | exact .inr rfl) (de_call (ok_law_draw T) (hr.mono (by decide)) (by rfl) T.m_law_draw T.F_law_draw.kp T.b_law_draw .nil (fun _ _ => rpL_nil) takesB (da_cons (dv 0) (da_cons (dv 3) da_nil))))
  (db_cons (ds_set 8 sc_law_word.nd rfl (by first | exact .inl rfl | exact .inr rfl) (de_op od_add (de_slice (dv 8) (do_some (dv 9)) do_none) (de_slice (dv 8) do_none (do_some (dv 9)))))
  (db_cons (ds_if (dt_cmp (od_eq hr.units) (dv 6) de_int (nomark _)) (db_one (ds_ret (dv 8))) db_nil)
  (db_cons (ds_set 10 sc_law_word.nd rfl (by first | exact .inl rfl | exact .inr rfl) (de_call (ok_law_draw T) (hr.mono (by decide)) (by rfl) T.m_law_draw T.F_law_draw.kp T.b_law_draw .nil (fun _ _ => rpL_nil) takesB (da_cons (dv 0) (da_cons (dv 3) da_nil))))
  (db_one (ds_ret (de_op od_add (de_op od_add (de_slice (dv 8) do_none (do_some (dv 10))) (de_ix (dv 5) (dv 10) (fun _ _ => rfl))) (de_slice (dv 8) (do_some (de_op od_add (dv 10) de_int)) do_none))))))))))))))))
theorem ok_law_turned (T : Txt w K mg base) : FnG P w K mg base (L2N.CX P w) 1 T.f_law_turned T.fd_law_turned ["_law_parts", "_law_step"] (upF K (sp_law_turned)) := by
  refine okD (k := 0) (t := fun Ed => t_law_turned Ed) T.F_law_turned sc_law_turned (len_law_turned) (fun cdv A outer s H E Ed hr => ?_) (pure_law_turned)
  exact (db_cons (ds_set 2 sc_law_turned.nd rfl (by first | exact .inl rfl | exact .inr rfl) (de_op od_mod (dv 1) (de_callB cd_len (by rfl) T.n_len (by decide +kernel) (da_cons (dv 0) da_nil))))
  (db_one (ds_ret (de_op od_add (de_slice (dv 0) (do_some (dv 2)) do_none) (de_slice (dv 0) do_none (do_some (dv 2)))))))
theorem hok_law_turned (T : Txt w K mg base) : L2H.FnH P w K mg base C8.CX0 1 T.f_law_turned T.fd_law_turned ["_law_parts", "_law_step"] (upF K (spZ (sp_law_turned))) := by
  refine okDH (k := 0) (t := fun Ed => t_law_turned Ed) T.F_law_turned sc_law_turned (len_law_turned) (fun cdv A outer s H p hr hot => ?_) (pure_law_turned)
  exact (db_cons (ds_set 2 sc_law_turned.nd rfl (by first | exact .inl rfl | exact .inr rfl) (de_op od_mod (dv 1) (de_callB cd_len (by rfl) T.n_len (by decide +kernel) (da_cons (dv 0) da_nil))))
  (db_one (ds_ret (de_op od_add (de_slice (dv 0) (do_some (dv 2)) do_none) (de_slice (dv 0) do_none (do_some (dv 2)))))))
theorem ok_law_root (T : Txt w K mg base) : FnG P w K mg base (L2N.CX P w) 1 T.f_law_root T.fd_law_root ["_law_parts"] (upF K (sp_law_root)) := by
  refine okD (k := 0) (t := fun Ed => t_law_root Ed) T.F_law_root sc_law_root (len_law_root) (fun cdv A outer s H E Ed hr => ?_) (pure_law_root)
  exact (db_cons (ds_set 1 sc_law_root.nd rfl (by first | exact .inl rfl | exact .inr rfl) (de_callB cd_len (by rfl) T.n_len (by decide +kernel) (da_cons (dv 0) da_nil)))
  (db_cons (ds_setLc (own := [("_law_size", 3)]) 2 rfl sc_law_root.nd rfl rfl (sw_true rfl rfl rfl (by decide +kernel)) (di_rng2 (by rfl) T.n_range (da_cons de_int (da_cons (de_op od_add (dv 1) de_int) da_nil))) (blkOk_by (own := [("_law_size", 3)]) (N := N_law_root) (sc := defScope s_law_root) (by decide +kernel)) (fun _ _ _ _ _ => (dg_name (i := 3) sc_law_root.nd rfl (by first | exact Or.inl rfl | exact Or.inr rfl) (by decide))) (fun _ _ _ _ _ => (dts_one (DW.pt (dw_and (dt_cmp (od_eq hr.units) (de_op od_mod (dv 1) (dv 3)) de_int (nomark _)) (dw_and1 (dt_cmp (od_eq hr.units) (de_op od_mulA (de_slice (dv 0) do_none (do_some (dv 3))) (de_op od_fdiv (dv 1) (dv 3))) (dv 0) (nomark _))))))) (fun _ _ _ _ _ => (dv 3)))
  (db_one (ds_ret (de_tup (da_cons (de_slice (dv 0) do_none (do_some (de_ix (dv 2) de_int (fun _ _ => rfl)))) (da_cons (de_op od_fdiv (dv 1) (de_ix (dv 2) de_int (fun _ _ => rfl))) da_nil)))))))
theorem ok_law_turn (T : Txt w K mg base) : FnG P w K mg base (L2N.CX P w) 2 T.f_law_turn T.fd_law_turn ["_law_parts", "_law_others"] (upF K (sp_law_turn)) := by
  refine okD (k := 1) (t := fun Ed => t_law_turn Ed) T.F_law_turn sc_law_turn (len_law_turn) (fun cdv A outer s H E Ed hr => ?_) (pure_law_turn)
  exact (db_cons (ds_setLc (own := [("_law_k", 3)]) 2 rfl sc_law_turn.nd rfl rfl (sw_true rfl rfl rfl (by decide +kernel)) (di_rng1 (by rfl) T.n_range (da_cons (de_callB cd_len (by rfl) T.n_len (by decide +kernel) (da_cons (dv 0) da_nil)) da_nil)) (blkOk_by (own := [("_law_k", 3)]) (N := N_law_turn) (sc := defScope s_law_turn) (by decide +kernel)) (fun _ _ _ _ _ => (dg_name (i := 3) sc_law_turn.nd rfl (by first | exact Or.inl rfl | exact Or.inr rfl) (by decide))) (fun _ _ _ _ _ => (dts_one (dt_cmp (od_eq hr.units) (de_callB (cd_repr hr.gd hr.units) (by rfl) T.n_repr (by decide +kernel) (da_cons (de_call (ok_law_turned T) (hr.mono (by decide)) (by rfl) T.m_law_turned T.F_law_turned.kp T.b_law_turned .nil (fun _ _ => rpL_nil) takes0N (da_cons (dv 0) (da_cons (dv 3) da_nil))) da_nil)) (de_callB (cd_repr hr.gd hr.units) (by rfl) T.n_repr (by decide +kernel) (da_cons (dv 1) da_nil)) (nomark _)))) (fun _ _ _ _ _ => (dv 3)))
  (db_one (ds_ret (de_if (dt_cmp (od_ne hr.units) (dv 2) (de_lst da_nil) (nomark _)) (de_ix (dv 2) de_int (fun _ _ => rfl)) de_non))))
theorem hok_law_least_row (T : Txt w K mg base) : L2H.FnH P w K mg base C8.CX0 2 T.f_law_least_row T.fd_law_least_row ["_law_parts"] (upF K (spZ (sp_law_least_row))) := by
  refine okDH (k := 1) (t := fun Ed => t_law_least_row Ed) T.F_law_least_row sc_law_least_row (len_law_least_row) (fun cdv A outer s H p hr hot => ?_) (pure_law_least_row)
  exact (db_one (ds_ret (de_callB (cd_minDH hot (unitsH hr)) (by rfl) T.n_min (by decide +kernel) (da_cons (de_lcH (own := [("_law_k", 1)]) hot sc_law_least_row.nd (dih_rng1 (by rfl) T.n_range (da_cons (de_callB cd_len (by rfl) T.n_len (by decide +kernel) (da_cons (dv 0) da_nil)) da_nil)) (blkOk_by (own := [("_law_k", 1)]) (N := N_law_least_row) (sc := defScope s_law_least_row) (by decide +kernel)) (fun _ _ _ _ _ => (dg_name (i := 1) sc_law_least_row.nd rfl (by first | exact Or.inl rfl | exact Or.inr rfl) (by decide))) (fun _ _ _ _ _ => dts_nil) (fun _ _ _ _ _ => (de_callH (hok_law_turned T) (hr.mono (by decide)) hot (by rfl) T.m_law_turned T.F_law_turned.kp T.b_law_turned (da_cons (dv 0) (da_cons (dv 1) da_nil))))) da_nil))))
theorem ok_law_is_right (T : Txt w K mg base) : FnG P w K mg base (L2N.CX P w) 7 T.f_law_is_right T.fd_law_is_right ["_law_ring_here", "_law_parts", "_law_others"] (upF K (sp_law_is_right)) := by
  refine okD (k := 6) (t := fun Ed => t_law_is_right Ed) T.F_law_is_right sc_law_is_right (len_law_is_right) (fun cdv A outer s H E Ed hr => ?_) (pure_law_is_right)
  exact (db_cons (ds_set 3 sc_law_is_right.nd rfl (by first | exact .inl rfl | exact .inr rfl) (de_call (ok_law_turn T) (hr.mono (by decide)) (by rfl) T.m_law_turn T.F_law_turn.kp T.b_law_turn .nil (fun _ _ => rpL_nil) takesB (da_cons (dv 1) (da_cons (dv 2) da_nil))))
  (db_cons (ds_try (rs := rsX) (tb := fun Wd => (dSet 4 (dMeth "Ring" "turn_to" sp_Ring_turn_to [] Wd (dVar 0) (dCons (dMake "Ring" sp_Ring___init__ [] Wd (dCons (dVar 2) dNil)) dNil)))) rfl rfl takesB (fun n h => (T.wf n h).2) (fun W' pn xe tk' passB => (db_one (ds_set 4 sc_law_is_right.nd rfl (by first | exact .inl rfl | exact .inr rfl) (de_meth T.cl_Ring T.M_Ring_turn_to (dv 0) (ok_Ring_turn_to T) (hr.mono (by decide)) T.b_Ring_turn_to .nil (fun _ _ => rpL_nil) tk' (da_cons (de_make T.cl_Ring (ok_Ring___init__ T) (hr.mono (by decide)) (by rfl) T.gc_Ring T.b_Ring___init__ .nil (fun _ _ => rpL_nil) tk' (da_cons (dv 2) da_nil)) da_nil)))))
  (.cons (m := some ("_law_e", 5)) ⟨rfl, sc_law_is_right.nd, rfl, rfl⟩ (.one (nmO (T.own _ (by decide +kernel)) (by rfl))) (by decide +kernel) (fun a oe od x pn sf => (db_cls fun hx => (db_cons (ds_if (DW.pt (dw_or (dt_cmp od_isNot (dv 3) de_non (nomark _)) (dw_or1 (dt_cmp (od_ne hr.units) (de_which (k := 0) (i := 5) sf (wh_law_which T) T.F_law_which sc_law_which T.b_law_which (L2H.roomH_of (hr.mono (by decide)).rm) (by rfl) T.m_law_which rfl (by first | exact .inl rfl | exact .inr (.inl rfl))) de_str (nomark _))))) (db_one (ds_ret de_bl)) db_nil)
  (db_one (ds_ret (de_and (de_cmp (od_eq hr.units) (de_callB (cd_repr hr.gd hr.units) (by rfl) T.n_repr (by decide +kernel) (da_cons (de_xf (i := 5) T.X_NoTurn (hx ▸ sf) (by decide +kernel) rfl (by first | exact .inl rfl | exact .inr (.inl rfl))) da_nil)) (de_callB (cd_repr hr.gd hr.units) (by rfl) T.n_repr (by decide +kernel) (da_cons (de_callH (hok_law_least_row T) (room_suite (hr.mono (by decide))) (hot_suite sf) (by rfl) T.m_law_least_row T.F_law_least_row.kp T.b_law_least_row (da_cons (dv 1) da_nil)) da_nil)) (nomark _)) (de_one (de_cmp (od_eq hr.units) (de_callB (cd_repr hr.gd hr.units) (by rfl) T.n_repr (by decide +kernel) (da_cons (de_xf (i := 5) T.X_NoTurn (hx ▸ sf) (by decide +kernel) rfl (by first | exact .inl rfl | exact .inr (.inl rfl))) da_nil)) (de_callB (cd_repr hr.gd hr.units) (by rfl) T.n_repr (by decide +kernel) (da_cons (de_callH (hok_law_least_row T) (room_suite (hr.mono (by decide))) (hot_suite sf) (by rfl) T.m_law_least_row T.F_law_least_row.kp T.b_law_least_row (da_cons (dv 2) da_nil)) da_nil)) (nomark _)))))))))
  .nil))
  (db_one (ds_ret (de_and (de_cmp od_isNot (dv 3) de_non (nomark _)) (de_one (de_cmp (od_eq hr.units) (de_callB (cd_repr hr.gd hr.units) (by rfl) T.n_repr (by decide +kernel) (da_cons (dv 4) da_nil)) (de_callB (cd_repr hr.gd hr.units) (by rfl) T.n_repr (by decide +kernel) (da_cons (dv 3) da_nil)) (nomark _))))))))
theorem ok_law_drawn (T : Txt w K mg base) : FnG P w K mg base (L2N.CX P w) 3 T.f_law_drawn T.fd_law_drawn ["_law_urn_here"] (upF K (sp_law_drawn)) := by
  refine okD (k := 2) (t := fun Ed => t_law_drawn Ed) T.F_law_drawn sc_law_drawn (len_law_drawn) (fun cdv A outer s H E Ed hr => ?_) (pure_law_drawn)
  exact (db_cons (ds_set 1 sc_law_drawn.nd rfl (by first | exact .inl rfl | exact .inr rfl) (de_ix (de_lst (da_cons de_int (da_cons de_int da_nil))) (de_call (ok_law_draw T) (hr.mono (by decide)) (by rfl) T.m_law_draw T.F_law_draw.kp T.b_law_draw .nil (fun _ _ => rpL_nil) takesB (da_cons (dv 0) (da_cons de_int da_nil))) (fun _ _ => rfl)))
  (db_cons (ds_set 2 sc_law_drawn.nd rfl (by first | exact .inl rfl | exact .inr rfl) (de_if (dt_cmp (od_eq hr.units) (dv 1) de_int (nomark _)) (de_call (ok_law_word T) (hr.mono (by decide)) (by rfl) T.m_law_word T.F_law_word.kp T.b_law_word .nil (fun _ _ => rpL_nil) takesB (da_cons (dv 0) (da_cons de_int da_nil))) (de_call (ok_law_ring T) (hr.mono (by decide)) (by rfl) T.m_law_ring T.F_law_ring.kp T.b_law_ring .nil (fun _ _ => rpL_nil) takesB (da_cons (dv 0) (da_cons de_int da_nil)))))
  (db_cons (ds_set 3 sc_law_drawn.nd rfl (by first | exact .inl rfl | exact .inr rfl) (de_op od_add de_int (de_call (ok_law_draw T) (hr.mono (by decide)) (by rfl) T.m_law_draw T.F_law_draw.kp T.b_law_draw .nil (fun _ _ => rpL_nil) takesB (da_cons (dv 0) (da_cons (de_op od_fdiv (dv 1) (de_callB cd_len (by rfl) T.n_len (by decide +kernel) (da_cons (dv 2) da_nil))) da_nil)))))
  (db_one (ds_ret (de_tup (da_cons (de_op od_mulA (dv 2) (dv 3)) (da_cons (dv 2) (da_cons (dv 1) da_nil)))))))))
theorem ok_law_beside (T : Txt w K mg base) : FnG P w K mg base (L2N.CX P w) 2 T.f_law_beside T.fd_law_beside ["_law_urn_here", "_law_parts", "_law_part", "_law_most"] (upF K (sp_law_beside)) := by
  refine okD (k := 1) (t := fun Ed => t_law_beside Ed) T.F_law_beside sc_law_beside (len_law_beside) (fun cdv A outer s H E Ed hr => ?_) (pure_law_beside)
  exact (db_cons (ds_set 4 sc_law_beside.nd rfl (by first | exact .inl rfl | exact .inr rfl) (de_call (ok_law_draw T) (hr.mono (by decide)) (by rfl) T.m_law_draw T.F_law_draw.kp T.b_law_draw .nil (fun _ _ => rpL_nil) takesB (da_cons (dv 0) (da_cons (de_callB cd_len (by rfl) T.n_len (by decide +kernel) (da_cons (dv 1) da_nil)) da_nil))))
  (db_cons (ds_set 5 sc_law_beside.nd rfl (by first | exact .inl rfl | exact .inr rfl) (de_call (ok_law_turned T) (hr.mono (by decide)) (by rfl) T.m_law_turned T.F_law_turned.kp T.b_law_turned .nil (fun _ _ => rpL_nil) takesB (da_cons (dv 1) (da_cons (de_call (ok_law_draw T) (hr.mono (by decide)) (by rfl) T.m_law_draw T.F_law_draw.kp T.b_law_draw .nil (fun _ _ => rpL_nil) takesB (da_cons (dv 0) (da_cons (de_callB cd_len (by rfl) T.n_len (by decide +kernel) (da_cons (dv 1) da_nil)) da_nil))) da_nil))))
  (db_cons (ds_set 6 sc_law_beside.nd rfl (by first | exact .inl rfl | exact .inr rfl) (de_op od_add (de_op od_add (de_slice (dv 5) do_none (do_some (dv 4))) (de_slice (dv 1) (do_some (dv 4)) (do_some (de_op od_add (dv 4) de_int)))) (de_slice (dv 5) (do_some (de_op od_add (dv 4) de_int)) do_none)))
  (db_cons (ds_set 7 sc_law_beside.nd rfl (by first | exact .inl rfl | exact .inr rfl) (de_lst (da_cons (dv 5) (da_cons (dv 6) (da_cons (de_rev (dv 5)) (da_cons (de_op od_add (dv 1) (dv 2)) (da_cons (dv 2) (da_cons (de_if (dt_cmp (od_eq hr.units) (dv 3) de_int (nomark _)) (de_tup (da_cons de_int (da_cons de_int da_nil))) de_str) (da_cons (dv 1) da_nil)))))))))
  (db_one (ds_ret (de_lc (own := [("_law_row", 8)]) rfl sc_law_beside.nd (di_any (dv 7)) (blkOk_by (own := [("_law_row", 8)]) (N := N_law_beside) (sc := defScope s_law_beside) (by decide +kernel)) (fun _ _ _ _ _ => (dg_name (i := 8) sc_law_beside.nd rfl (by first | exact Or.inl rfl | exact Or.inr rfl) (by decide))) (fun _ _ _ _ _ => (dts_one (dt_cmp od_le (de_callB cd_len (by rfl) T.n_len (by decide +kernel) (da_cons (dv 8) da_nil)) (dv 3) (nomark _)))) (fun _ _ _ _ _ => (dv 8)))))))))
theorem ok_law (T : Txt w K mg base) : FnG P w K mg base (L2N.CX P w) 8 T.f_law T.fd_law ["_law_script"] (upF K spLawD) := by
  refine okD (k := 7) (t := fun Ed => t_law Ed) T.F_law sc_law (len_law) (fun cdv A outer s H E Ed hr => ?_) (pure_law)
  exact (db_cons (ds_for (vs := [1]) passB rfl (di_rng1 (by rfl) T.n_range (da_cons (de_callB (cd_max2 rfl) (by rfl) T.n_max (by decide +kernel) (da_cons de_int (da_cons (de_callB (cd_min2 rfl) (by rfl) T.n_min (by decide +kernel) (da_cons de_int (da_cons (de_callB cd_len (by rfl) T.n_len (by decide +kernel) (da_cons (dv 0) da_nil)) da_nil))) da_nil))) da_nil)) (dg_name (i := 1) sc_law.nd rfl (by first | exact Or.inl rfl | exact Or.inr rfl) (by decide))
  (db_cons (ds_set 2 sc_law.nd rfl (by first | exact .inl rfl | exact .inr rfl) (de_call (ok_law_urn T) (hr.mono (by decide)) (by rfl) T.m_law_urn T.F_law_urn.kp T.b_law_urn .nil (fun _ _ => rpL_nil) takesB (da_cons (dv 0) (da_cons (dv 1) da_nil))))
  (db_cons (ds_asg (vs := [3, 4, 5]) (de_call (ok_law_drawn T) (hr.mono (by decide)) (by rfl) T.m_law_drawn T.F_law_drawn.kp T.b_law_drawn .nil (fun _ _ => rpL_nil) takesB (da_cons (dv 2) da_nil)) (dg_tup rfl (dgs_cons (dg_name (i := 3) sc_law.nd rfl (by first | exact Or.inl rfl | exact Or.inr rfl) (by decide)) (dgs_cons (dg_name (i := 4) sc_law.nd rfl (by first | exact Or.inl rfl | exact Or.inr rfl) (by decide)) (dgs_cons (dg_name (i := 5) sc_law.nd rfl (by first | exact Or.inl rfl | exact Or.inr rfl) (by decide)) dgs_nil)))))
  (db_cons (ds_set 6 sc_law.nd rfl (by first | exact .inl rfl | exact .inr rfl) (de_make T.cl_Ring (ok_Ring___init__ T) (hr.mono (by decide)) (by rfl) T.gc_Ring T.b_Ring___init__ .nil (fun _ _ => rpL_nil) takesB (da_cons (dv 3) da_nil)))
  (db_cons (ds_if (dt_cmp (od_ne hr.units) (de_callB (cd_repr hr.gd hr.units) (by rfl) T.n_repr (by decide +kernel) (da_cons (de_meth0 T.cl_Ring T.M_Ring_root (dv 6) (ok_Ring_root T) (hr.mono (by decide)) T.b_Ring_root .nil (fun _ _ => rpL_nil) takesB) da_nil)) (de_callB (cd_repr hr.gd hr.units) (by rfl) T.n_repr (by decide +kernel) (da_cons (de_call (ok_law_root T) (hr.mono (by decide)) (by rfl) T.m_law_root T.F_law_root.kp T.b_law_root .nil (fun _ _ => rpL_nil) takesB (da_cons (dv 3) da_nil)) da_nil)) (nomark _)) (db_one (ds_ret de_bl)) db_nil)
  (db_cons (ds_set 7 sc_law.nd rfl (by first | exact .inl rfl | exact .inr rfl) (de_call (ok_law_beside T) (hr.mono (by decide)) (by rfl) T.m_law_beside T.F_law_beside.kp T.b_law_beside .nil (fun _ _ => rpL_nil) takesB (da_cons (dv 2) (da_cons (dv 3) (da_cons (dv 4) (da_cons (dv 5) da_nil))))))
  (db_cons (ds_for (vs := [8]) passB rfl (di_any (de_op od_add (dv 7) (de_slice (dv 7) do_none (do_some de_int)))) (dg_name (i := 8) sc_law.nd rfl (by first | exact Or.inl rfl | exact Or.inr rfl) (by decide))
  (db_one (ds_if (DW.pt (dw_or (dt_not (dt_val (de_call (ok_law_is_right T) (hr.mono (by decide)) (by rfl) T.m_law_is_right T.F_law_is_right.kp T.b_law_is_right .nil (fun _ _ => rpL_nil) takesB (da_cons (dv 6) (da_cons (dv 3) (da_cons (dv 8) da_nil)))))) (dw_or1 (dt_not (dt_val (de_call (ok_law_is_right T) (hr.mono (by decide)) (by rfl) T.m_law_is_right T.F_law_is_right.kp T.b_law_is_right .nil (fun _ _ => rpL_nil) takesB (da_cons (de_make T.cl_Ring (ok_Ring___init__ T) (hr.mono (by decide)) (by rfl) T.gc_Ring T.b_Ring___init__ .nil (fun _ _ => rpL_nil) takesB (da_cons (dv 8) da_nil)) (da_cons (dv 8) (da_cons (dv 3) da_nil))))))))) (db_one (ds_ret de_bl)) db_nil)))
  (db_one (ds_if (DW.pt (dw_or (dt_cmp (od_ne hr.units) (de_callB (cd_repr hr.gd hr.units) (by rfl) T.n_repr (by decide +kernel) (da_cons (de_meth0 T.cl_Ring T.M_Ring_root (dv 6) (ok_Ring_root T) (hr.mono (by decide)) T.b_Ring_root .nil (fun _ _ => rpL_nil) takesB) da_nil)) (de_callB (cd_repr hr.gd hr.units) (by rfl) T.n_repr (by decide +kernel) (da_cons (de_call (ok_law_root T) (hr.mono (by decide)) (by rfl) T.m_law_root T.F_law_root.kp T.b_law_root .nil (fun _ _ => rpL_nil) takesB (da_cons (dv 3) da_nil)) da_nil)) (nomark _)) (dw_or1 (dt_cmp (od_ne hr.units) (de_callB (cd_repr hr.gd hr.units) (by rfl) T.n_repr (by decide +kernel) (da_cons (de_meth0 T.cl_Ring T.M_Ring_parts (dv 6) (ok_Ring_parts T) (hr.mono (by decide)) T.b_Ring_parts .nil (fun _ _ => rpL_nil) takesB) da_nil)) (de_callB (cd_repr hr.gd hr.units) (by rfl) T.n_repr (by decide +kernel) (da_cons (dv 3) da_nil)) (nomark _))))) (db_one (ds_ret de_bl)) db_nil)))))))))
  (db_one (ds_ret de_bl)))
end
theorem all_mk {w : World} {K : PySem.W.Frag} {h : Heap} {mg : Str → Option Value} {fa : Addr} (X : K.In h) (G : h.Ns mainGlobals mg) (hfa : mg "law" = some (.ref fa))
    {f0 f1 f2 f3 f4 f5 f6 f7 f8 f9 f10 f11 f12 f13 f14 f15 f16 f17 f18 f19 f20 f21 f22 f23 f24 f25 f26 : Addr} {od0 an0 od1 an1 od2 an2 od3 an3 od4 an4 od5 an5 od6 an6 od7 an7 od8 an8 od9 an9 od10 an10 od11 an11 od12 an12 od13 an13 od14 an14 od15 an15 od16 an16 od17 an17 od18 an18 od19 an19 od20 an20 od21 an21 od22 an22 od23 an23 od24 an24 od25 an25 od26 an26 : Option Addr} {sl0 sl1 sl2 sl3 sl4 sl5 sl6 sl7 sl8 sl9 sl10 sl11 sl12 sl13 sl14 sl15 sl16 sl17 sl18 sl19 sl20 sl21 sl22 sl23 sl24 sl25 sl26 : Array (Option Value)}
    {oc0 kV0 dc0 pm0 cd0 ct0 oc1 kV1 dc1 pm1 cd1 ct1 oc2 kV2 dc2 pm2 cd2 ct2 oc3 kV3 dc3 pm3 cd3 ct3 oc4 kV4 dc4 pm4 cd4 ct4 oc5 kV5 dc5 pm5 cd5 ct5 oc6 kV6 dc6 pm6 cd6 ct6 oc7 kV7 dc7 pm7 cd7 ct7 oc8 kV8 dc8 pm8 cd8 ct8 oc9 kV9 dc9 pm9 cd9 ct9 oc10 kV10 dc10 pm10 cd10 ct10 oc11 kV11 dc11 pm11 cd11 ct11 oc12 kV12 dc12 pm12 cd12 ct12 oc13 kV13 dc13 pm13 cd13 ct13 oc14 kV14 dc14 pm14 cd14 ct14 oc15 kV15 dc15 pm15 cd15 ct15 oc16 kV16 dc16 pm16 cd16 ct16 oc17 kV17 dc17 pm17 cd17 ct17 oc18 kV18 dc18 pm18 cd18 ct18 oc19 kV19 dc19 pm19 cd19 ct19 oc20 kV20 dc20 pm20 cd20 ct20 oc21 kV21 dc21 pm21 cd21 ct21 oc22 kV22 dc22 pm22 cd22 ct22 oc23 kV23 dc23 pm23 cd23 ct23 oc24 kV24 dc24 pm24 cd24 ct24 oc25 kV25 dc25 pm25 cd25 ct25 oc26 kV26 dc26 pm26 cd26 ct26 : Value}
    {dT22 : Addr} {doc22 : Value} {dod22 : Option Addr} {dn22 : Nat} {dsl22 : Array (Option Value)} {dk22_0 : Tok}
    {tk_LETTERS : Tok}
    {tk_MOST_LETTERS : Tok}
    {tk_MOST_NUMBER : Tok}
    {tk_MOST_RING : Tok}
    {C_Ring : Addr}
    {C_NoTurn fI_NoTurn : Addr} {xod_NoTurn xan_NoTurn : Option Addr} {xsl_NoTurn : Array (Option Value)} {xoc_NoTurn xkV_NoTurn xdc_NoTurn xpm_NoTurn xcd_NoTurn xct_NoTurn : Value}
    (vg_Ring : PySem.W.nsIn K mainGlobals "Ring" = some (some (.ref C_Ring)))
    (a0 : PySem.W.nsIn K mainGlobals "is_whole" = some (some (.ref f0)))
    (l0 : K.lookup f0 = some ⟨oc0, od0, .func (PySem.W.fnOf "is_whole" "is_whole" (defArgs s_is_whole) (defBody s_is_whole) (defScope s_is_whole) .none kV0 dc0 pm0 an0 cd0 ct0), sl0⟩)
    (c0 : PySem.W.codeIn K cd0 "is_whole" = true)
    (k0 : PySem.W.keepIn K (.ref f0) = true)
    (a1 : PySem.W.nsIn K mainGlobals "is_within" = some (some (.ref f1)))
    (l1 : K.lookup f1 = some ⟨oc1, od1, .func (PySem.W.fnOf "is_within" "is_within" (defArgs s_is_within) (defBody s_is_within) (defScope s_is_within) .none kV1 dc1 pm1 an1 cd1 ct1), sl1⟩)
    (c1 : PySem.W.codeIn K cd1 "is_within" = true)
    (k1 : PySem.W.keepIn K (.ref f1) = true)
    (a2 : PySem.W.nsIn K mainGlobals "is_row" = some (some (.ref f2)))
    (l2 : K.lookup f2 = some ⟨oc2, od2, .func (PySem.W.fnOf "is_row" "is_row" (defArgs s_is_row) (defBody s_is_row) (defScope s_is_row) .none kV2 dc2 pm2 an2 cd2 ct2), sl2⟩)
    (c2 : PySem.W.codeIn K cd2 "is_row" = true)
    (k2 : PySem.W.keepIn K (.ref f2) = true)
    (a3 : PySem.W.nsIn K mainGlobals "is_number_ring" = some (some (.ref f3)))
    (l3 : K.lookup f3 = some ⟨oc3, od3, .func (PySem.W.fnOf "is_number_ring" "is_number_ring" (defArgs s_is_number_ring) (defBody s_is_number_ring) (defScope s_is_number_ring) .none kV3 dc3 pm3 an3 cd3 ct3), sl3⟩)
    (c3 : PySem.W.codeIn K cd3 "is_number_ring" = true)
    (k3 : PySem.W.keepIn K (.ref f3) = true)
    (a4 : PySem.W.nsIn K mainGlobals "shortest_part" = some (some (.ref f4)))
    (l4 : K.lookup f4 = some ⟨oc4, od4, .func (PySem.W.fnOf "shortest_part" "shortest_part" (defArgs s_shortest_part) (defBody s_shortest_part) (defScope s_shortest_part) .none kV4 dc4 pm4 an4 cd4 ct4), sl4⟩)
    (c4 : PySem.W.codeIn K cd4 "shortest_part" = true)
    (k4 : PySem.W.keepIn K (.ref f4) = true)
    (a5 : PySem.W.nsIn K mainGlobals "is_word" = some (some (.ref f5)))
    (l5 : K.lookup f5 = some ⟨oc5, od5, .func (PySem.W.fnOf "is_word" "is_word" (defArgs s_is_word) (defBody s_is_word) (defScope s_is_word) .none kV5 dc5 pm5 an5 cd5 ct5), sl5⟩)
    (c5 : PySem.W.codeIn K cd5 "is_word" = true)
    (k5 : PySem.W.keepIn K (.ref f5) = true)
    (a6 : PySem.W.nsIn K mainGlobals "_law_urn" = some (some (.ref f6)))
    (l6 : K.lookup f6 = some ⟨oc6, od6, .func (PySem.W.fnOf "_law_urn" "_law_urn" (defArgs s_law_urn) (defBody s_law_urn) (defScope s_law_urn) .none kV6 dc6 pm6 an6 cd6 ct6), sl6⟩)
    (c6 : PySem.W.codeIn K cd6 "_law_urn" = true)
    (k6 : PySem.W.keepIn K (.ref f6) = true)
    (a7 : PySem.W.nsIn K mainGlobals "_law_draw" = some (some (.ref f7)))
    (l7 : K.lookup f7 = some ⟨oc7, od7, .func (PySem.W.fnOf "_law_draw" "_law_draw" (defArgs s_law_draw) (defBody s_law_draw) (defScope s_law_draw) .none kV7 dc7 pm7 an7 cd7 ct7), sl7⟩)
    (c7 : PySem.W.codeIn K cd7 "_law_draw" = true)
    (k7 : PySem.W.keepIn K (.ref f7) = true)
    (a8 : PySem.W.nsIn K mainGlobals "_law_which" = some (some (.ref f8)))
    (l8 : K.lookup f8 = some ⟨oc8, od8, .func (PySem.W.fnOf "_law_which" "_law_which" (defArgs s_law_which) (defBody s_law_which) (defScope s_law_which) .none kV8 dc8 pm8 an8 cd8 ct8), sl8⟩)
    (c8 : PySem.W.codeIn K cd8 "_law_which" = true)
    (k8 : PySem.W.keepIn K (.ref f8) = true)
    (a9 : PySem.W.nsIn K mainGlobals "_law_ring" = some (some (.ref f9)))
    (l9 : K.lookup f9 = some ⟨oc9, od9, .func (PySem.W.fnOf "_law_ring" "_law_ring" (defArgs s_law_ring) (defBody s_law_ring) (defScope s_law_ring) .none kV9 dc9 pm9 an9 cd9 ct9), sl9⟩)
    (c9 : PySem.W.codeIn K cd9 "_law_ring" = true)
    (k9 : PySem.W.keepIn K (.ref f9) = true)
    (a10 : PySem.W.nsIn K mainGlobals "_law_even_word" = some (some (.ref f10)))
    (l10 : K.lookup f10 = some ⟨oc10, od10, .func (PySem.W.fnOf "_law_even_word" "_law_even_word" (defArgs s_law_even_word) (defBody s_law_even_word) (defScope s_law_even_word) .none kV10 dc10 pm10 an10 cd10 ct10), sl10⟩)
    (c10 : PySem.W.codeIn K cd10 "_law_even_word" = true)
    (k10 : PySem.W.keepIn K (.ref f10) = true)
    (a11 : PySem.W.nsIn K mainGlobals "_law_word" = some (some (.ref f11)))
    (l11 : K.lookup f11 = some ⟨oc11, od11, .func (PySem.W.fnOf "_law_word" "_law_word" (defArgs s_law_word) (defBody s_law_word) (defScope s_law_word) .none kV11 dc11 pm11 an11 cd11 ct11), sl11⟩)
    (c11 : PySem.W.codeIn K cd11 "_law_word" = true)
    (k11 : PySem.W.keepIn K (.ref f11) = true)
    (a12 : PySem.W.nsIn K mainGlobals "_law_turned" = some (some (.ref f12)))
    (l12 : K.lookup f12 = some ⟨oc12, od12, .func (PySem.W.fnOf "_law_turned" "_law_turned" (defArgs s_law_turned) (defBody s_law_turned) (defScope s_law_turned) .none kV12 dc12 pm12 an12 cd12 ct12), sl12⟩)
    (c12 : PySem.W.codeIn K cd12 "_law_turned" = true)
    (k12 : PySem.W.keepIn K (.ref f12) = true)
    (a13 : PySem.W.nsIn K mainGlobals "_law_root" = some (some (.ref f13)))
    (l13 : K.lookup f13 = some ⟨oc13, od13, .func (PySem.W.fnOf "_law_root" "_law_root" (defArgs s_law_root) (defBody s_law_root) (defScope s_law_root) .none kV13 dc13 pm13 an13 cd13 ct13), sl13⟩)
    (c13 : PySem.W.codeIn K cd13 "_law_root" = true)
    (k13 : PySem.W.keepIn K (.ref f13) = true)
    (a14 : PySem.W.nsIn K mainGlobals "_law_turn" = some (some (.ref f14)))
    (l14 : K.lookup f14 = some ⟨oc14, od14, .func (PySem.W.fnOf "_law_turn" "_law_turn" (defArgs s_law_turn) (defBody s_law_turn) (defScope s_law_turn) .none kV14 dc14 pm14 an14 cd14 ct14), sl14⟩)
    (c14 : PySem.W.codeIn K cd14 "_law_turn" = true)
    (k14 : PySem.W.keepIn K (.ref f14) = true)
    (a15 : PySem.W.nsIn K mainGlobals "_law_least_row" = some (some (.ref f15)))
    (l15 : K.lookup f15 = some ⟨oc15, od15, .func (PySem.W.fnOf "_law_least_row" "_law_least_row" (defArgs s_law_least_row) (defBody s_law_least_row) (defScope s_law_least_row) .none kV15 dc15 pm15 an15 cd15 ct15), sl15⟩)
    (c15 : PySem.W.codeIn K cd15 "_law_least_row" = true)
    (k15 : PySem.W.keepIn K (.ref f15) = true)
    (a16 : PySem.W.nsIn K mainGlobals "_law_is_right" = some (some (.ref f16)))
    (l16 : K.lookup f16 = some ⟨oc16, od16, .func (PySem.W.fnOf "_law_is_right" "_law_is_right" (defArgs s_law_is_right) (defBody s_law_is_right) (defScope s_law_is_right) .none kV16 dc16 pm16 an16 cd16 ct16), sl16⟩)
    (c16 : PySem.W.codeIn K cd16 "_law_is_right" = true)
    (k16 : PySem.W.keepIn K (.ref f16) = true)
    (a17 : PySem.W.nsIn K mainGlobals "_law_drawn" = some (some (.ref f17)))
    (l17 : K.lookup f17 = some ⟨oc17, od17, .func (PySem.W.fnOf "_law_drawn" "_law_drawn" (defArgs s_law_drawn) (defBody s_law_drawn) (defScope s_law_drawn) .none kV17 dc17 pm17 an17 cd17 ct17), sl17⟩)
    (c17 : PySem.W.codeIn K cd17 "_law_drawn" = true)
    (k17 : PySem.W.keepIn K (.ref f17) = true)
    (a18 : PySem.W.nsIn K mainGlobals "_law_beside" = some (some (.ref f18)))
    (l18 : K.lookup f18 = some ⟨oc18, od18, .func (PySem.W.fnOf "_law_beside" "_law_beside" (defArgs s_law_beside) (defBody s_law_beside) (defScope s_law_beside) .none kV18 dc18 pm18 an18 cd18 ct18), sl18⟩)
    (c18 : PySem.W.codeIn K cd18 "_law_beside" = true)
    (k18 : PySem.W.keepIn K (.ref f18) = true)
    (a19 : PySem.W.nsIn K mainGlobals "law" = some (some (.ref f19)))
    (l19 : K.lookup f19 = some ⟨oc19, od19, .func (PySem.W.fnOf "law" "law" (defArgs s_law) (defBody s_law) (defScope s_law) .none kV19 dc19 pm19 an19 cd19 ct19), sl19⟩)
    (c19 : PySem.W.codeIn K cd19 "law" = true)
    (k19 : PySem.W.keepIn K (.ref f19) = true)
    (a20 : PySem.W.findIn K (.ref C_Ring) "__init__" = some (some (.ref f20)))
    (l20 : K.lookup f20 = some ⟨oc20, od20, .func (PySem.W.fnOf "__init__" "Ring.__init__" (defArgs s_Ring___init__) (defBody s_Ring___init__) (defScope s_Ring___init__) .none kV20 dc20 pm20 an20 cd20 ct20), sl20⟩)
    (c20 : PySem.W.codeIn K cd20 "Ring.__init__" = true)
    (k20 : PySem.W.keepIn K (.ref f20) = true)
    (vc_Ring : clB K "Ring" C_Ring f20 = true)
    (vn_Ring : noAttrB K C_Ring ["held"] = true)
    (a21 : PySem.W.findIn K (.ref C_Ring) "parts" = some (some (.ref f21)))
    (l21 : K.lookup f21 = some ⟨oc21, od21, .func (PySem.W.fnOf "parts" "Ring.parts" (defArgs s_Ring_parts) (defBody s_Ring_parts) (defScope s_Ring_parts) .none kV21 dc21 pm21 an21 cd21 ct21), sl21⟩)
    (c21 : PySem.W.codeIn K cd21 "Ring.parts" = true)
    (k21 : PySem.W.keepIn K (.ref f21) = true)
    (vm21 : methB K C_Ring "parts" f21 = true)
    (a22 : PySem.W.findIn K (.ref C_Ring) "turned" = some (some (.ref f22)))
    (l22 : K.lookup f22 = some ⟨oc22, od22, .func (PySem.W.fnOf "turned" "Ring.turned" (defArgs s_Ring_turned) (defBody s_Ring_turned) (defScope s_Ring_turned) (.ref dT22) kV22 dc22 pm22 an22 cd22 ct22), sl22⟩)
    (dt22 : K.lookup dT22 = some ⟨doc22, dod22, .seq #[.int 1 dk22_0] dn22, dsl22⟩)
    (c22 : PySem.W.codeIn K cd22 "Ring.turned" = true)
    (k22 : PySem.W.keepIn K (.ref f22) = true)
    (vm22 : methB K C_Ring "turned" f22 = true)
    (vb22 : bmB K C_Ring "turned" f22 = true)
    (a23 : PySem.W.findIn K (.ref C_Ring) "least_turn" = some (some (.ref f23)))
    (l23 : K.lookup f23 = some ⟨oc23, od23, .func (PySem.W.fnOf "least_turn" "Ring.least_turn" (defArgs s_Ring_least_turn) (defBody s_Ring_least_turn) (defScope s_Ring_least_turn) .none kV23 dc23 pm23 an23 cd23 ct23), sl23⟩)
    (c23 : PySem.W.codeIn K cd23 "Ring.least_turn" = true)
    (k23 : PySem.W.keepIn K (.ref f23) = true)
    (vm23 : methB K C_Ring "least_turn" f23 = true)
    (a24 : PySem.W.findIn K (.ref C_Ring) "least" = some (some (.ref f24)))
    (l24 : K.lookup f24 = some ⟨oc24, od24, .func (PySem.W.fnOf "least" "Ring.least" (defArgs s_Ring_least) (defBody s_Ring_least) (defScope s_Ring_least) .none kV24 dc24 pm24 an24 cd24 ct24), sl24⟩)
    (c24 : PySem.W.codeIn K cd24 "Ring.least" = true)
    (k24 : PySem.W.keepIn K (.ref f24) = true)
    (vm24 : methB K C_Ring "least" f24 = true)
    (a25 : PySem.W.findIn K (.ref C_Ring) "root" = some (some (.ref f25)))
    (l25 : K.lookup f25 = some ⟨oc25, od25, .func (PySem.W.fnOf "root" "Ring.root" (defArgs s_Ring_root) (defBody s_Ring_root) (defScope s_Ring_root) .none kV25 dc25 pm25 an25 cd25 ct25), sl25⟩)
    (c25 : PySem.W.codeIn K cd25 "Ring.root" = true)
    (k25 : PySem.W.keepIn K (.ref f25) = true)
    (vm25 : methB K C_Ring "root" f25 = true)
    (a26 : PySem.W.findIn K (.ref C_Ring) "turn_to" = some (some (.ref f26)))
    (l26 : K.lookup f26 = some ⟨oc26, od26, .func (PySem.W.fnOf "turn_to" "Ring.turn_to" (defArgs s_Ring_turn_to) (defBody s_Ring_turn_to) (defScope s_Ring_turn_to) .none kV26 dc26 pm26 an26 cd26 ct26), sl26⟩)
    (c26 : PySem.W.codeIn K cd26 "Ring.turn_to" = true)
    (k26 : PySem.W.keepIn K (.ref f26) = true)
    (vm26 : methB K C_Ring "turn_to" f26 = true)
    (gl : glB K = true)
    (wh : whB K rsX = true)
    (xg_NoTurn : PySem.W.nsIn K mainGlobals "NoTurn" = some (some (.ref C_NoTurn)))
    (xi_NoTurn : PySem.W.findIn K (.ref C_NoTurn) "__init__" = some (some (.ref fI_NoTurn)))
    (xl_NoTurn : K.lookup fI_NoTurn = some ⟨xoc_NoTurn, xod_NoTurn, .func (PySem.W.fnOf "__init__" "NoTurn.__init__" (defArgs sI_NoTurn) (defBody sI_NoTurn) (defScope sI_NoTurn) .none xkV_NoTurn xdc_NoTurn xpm_NoTurn xan_NoTurn xcd_NoTurn xct_NoTurn), xsl_NoTurn⟩)
    (xc_NoTurn : PySem.W.codeIn K xcd_NoTurn "NoTurn.__init__" = true)
    (xk_NoTurn : PySem.W.keepIn K (.ref fI_NoTurn) = true)
    (xf_NoTurn : fxB K "NoTurn" [.type "LookupError", .type "Exception", .type "BaseException", .type "object"] "LookupError.__new__" C_NoTurn fI_NoTurn ["one", "other"] = true)
    (rs_NoRing : rsB K "NoRing" [.type "ValueError", .type "Exception", .type "BaseException", .type "object"] "ValueError.__new__" = true)
    (g_LETTERS : PySem.W.nsIn K mainGlobals "LETTERS" = some (some (.str "ab" tk_LETTERS)))
    (g_MOST_LETTERS : PySem.W.nsIn K mainGlobals "MOST_LETTERS" = some (some (.int 60 tk_MOST_LETTERS)))
    (g_MOST_NUMBER : PySem.W.nsIn K mainGlobals "MOST_NUMBER" = some (some (.int 999999 tk_MOST_NUMBER)))
    (g_MOST_RING : PySem.W.nsIn K mainGlobals "MOST_RING" = some (some (.int 40 tk_MOST_RING)))
    (z_ArithmeticError : PySem.W.nsIn K mainGlobals "ArithmeticError" = some none)
    (z_IndexError : PySem.W.nsIn K mainGlobals "IndexError" = some none)
    (z_KeyError : PySem.W.nsIn K mainGlobals "KeyError" = some none)
    (z_LookupError : PySem.W.nsIn K mainGlobals "LookupError" = some none)
    (z_OverflowError : PySem.W.nsIn K mainGlobals "OverflowError" = some none)
    (z_RuntimeError : PySem.W.nsIn K mainGlobals "RuntimeError" = some none)
    (z_TypeError : PySem.W.nsIn K mainGlobals "TypeError" = some none)
    (z_ValueError : PySem.W.nsIn K mainGlobals "ValueError" = some none)
    (z_ZeroDivisionError : PySem.W.nsIn K mainGlobals "ZeroDivisionError" = some none)
    (z_abs : PySem.W.nsIn K mainGlobals "abs" = some none)
    (z_all : PySem.W.nsIn K mainGlobals "all" = some none)
    (z_bool : PySem.W.nsIn K mainGlobals "bool" = some none)
    (z_int : PySem.W.nsIn K mainGlobals "int" = some none)
    (z_isinstance : PySem.W.nsIn K mainGlobals "isinstance" = some none)
    (z_len : PySem.W.nsIn K mainGlobals "len" = some none)
    (z_max : PySem.W.nsIn K mainGlobals "max" = some none)
    (z_min : PySem.W.nsIn K mainGlobals "min" = some none)
    (z_range : PySem.W.nsIn K mainGlobals "range" = some none)
    (z_repr : PySem.W.nsIn K mainGlobals "repr" = some none)
    (z_str : PySem.W.nsIn K mainGlobals "str" = some none)
    (z_tuple : PySem.W.nsIn K mainGlobals "tuple" = some none)
    : LawG PySem.Challenge.rw_nearthrees_k14_roots_of_rings_and_turns w K (L2N.CX PySem.Challenge.rw_nearthrees_k14_roots_of_rings_and_turns.prog w) 8 63 "_law_script" mg fa h := by
  have e := hfa.symm.trans (PySem.W.mg_of X G a19)
  cases e
  have F0 := fun_mk (st := s_is_whole) l0 c0 k0
  have b0 := F0.binds (ps := ["thing"]) fun _ _ _ _ _ _ us hl => match us, hl with | [_], _ => rfl
  have F1 := fun_mk (st := s_is_within) l1 c1 k1
  have b1 := F1.binds (ps := ["thing", "least", "most"]) fun _ _ _ _ _ _ us hl => match us, hl with | [_, _, _], _ => rfl
  have F2 := fun_mk (st := s_is_row) l2 c2 k2
  have b2 := F2.binds (ps := ["thing", "least", "most"]) fun _ _ _ _ _ _ us hl => match us, hl with | [_, _, _], _ => rfl
  have F3 := fun_mk (st := s_is_number_ring) l3 c3 k3
  have b3 := F3.binds (ps := ["thing"]) fun _ _ _ _ _ _ us hl => match us, hl with | [_], _ => rfl
  have F4 := fun_mk (st := s_shortest_part) l4 c4 k4
  have b4 := F4.binds (ps := ["parts"]) fun _ _ _ _ _ _ us hl => match us, hl with | [_], _ => rfl
  have F5 := fun_mk (st := s_is_word) l5 c5 k5
  have b5 := F5.binds (ps := ["thing"]) fun _ _ _ _ _ _ us hl => match us, hl with | [_], _ => rfl
  have F6 := fun_mk (st := s_law_urn) l6 c6 k6
  have b6 := F6.binds (ps := ["_law_script", "_law_at"]) fun _ _ _ _ _ _ us hl => match us, hl with | [_, _], _ => rfl
  have F7 := fun_mk (st := s_law_draw) l7 c7 k7
  have b7 := F7.binds (ps := ["_law_urn_here", "_law_wide"]) fun _ _ _ _ _ _ us hl => match us, hl with | [_, _], _ => rfl
  have F8 := fun_mk (st := s_law_which) l8 c8 k8
  have b8 := F8.binds (ps := ["_law_e"]) fun _ _ _ _ _ _ us hl => match us, hl with | [_], _ => rfl
  have F9 := fun_mk (st := s_law_ring) l9 c9 k9
  have b9 := F9.binds (ps := ["_law_urn_here", "_law_most"]) fun _ _ _ _ _ _ us hl => match us, hl with | [_, _], _ => rfl
  have F10 := fun_mk (st := s_law_even_word) l10 c10 k10
  have b10 := F10.binds (ps := ["_law_bs", "_law_others"]) fun _ _ _ _ _ _ us hl => match us, hl with | [_, _], _ => rfl
  have F11 := fun_mk (st := s_law_word) l11 c11 k11
  have b11 := F11.binds (ps := ["_law_urn_here", "_law_most"]) fun _ _ _ _ _ _ us hl => match us, hl with | [_, _], _ => rfl
  have F12 := fun_mk (st := s_law_turned) l12 c12 k12
  have b12 := F12.binds (ps := ["_law_parts", "_law_step"]) fun _ _ _ _ _ _ us hl => match us, hl with | [_, _], _ => rfl
  have F13 := fun_mk (st := s_law_root) l13 c13 k13
  have b13 := F13.binds (ps := ["_law_parts"]) fun _ _ _ _ _ _ us hl => match us, hl with | [_], _ => rfl
  have F14 := fun_mk (st := s_law_turn) l14 c14 k14
  have b14 := F14.binds (ps := ["_law_parts", "_law_others"]) fun _ _ _ _ _ _ us hl => match us, hl with | [_, _], _ => rfl
  have F15 := fun_mk (st := s_law_least_row) l15 c15 k15
  have b15 := F15.binds (ps := ["_law_parts"]) fun _ _ _ _ _ _ us hl => match us, hl with | [_], _ => rfl
  have F16 := fun_mk (st := s_law_is_right) l16 c16 k16
  have b16 := F16.binds (ps := ["_law_ring_here", "_law_parts", "_law_others"]) fun _ _ _ _ _ _ us hl => match us, hl with | [_, _, _], _ => rfl
  have F17 := fun_mk (st := s_law_drawn) l17 c17 k17
  have b17 := F17.binds (ps := ["_law_urn_here"]) fun _ _ _ _ _ _ us hl => match us, hl with | [_], _ => rfl
  have F18 := fun_mk (st := s_law_beside) l18 c18 k18
  have b18 := F18.binds (ps := ["_law_urn_here", "_law_parts", "_law_part", "_law_most"]) fun _ _ _ _ _ _ us hl => match us, hl with | [_, _, _, _], _ => rfl
  have F19 := fun_mk (st := s_law) l19 c19 k19
  have b19 := F19.binds (ps := ["_law_script"]) fun _ _ _ _ _ _ us hl => match us, hl with | [_], _ => rfl
  have F20 := fun_mk (st := s_Ring___init__) l20 c20 k20
  have b20 := F20.binds (ps := ["self", "parts"]) fun _ _ _ _ _ _ us hl => match us, hl with | [_, _], _ => rfl
  have F21 := fun_mk (st := s_Ring_parts) l21 c21 k21
  have b21 := F21.binds (ps := ["self"]) fun _ _ _ _ _ _ us hl => match us, hl with | [_], _ => rfl
  have F22 := Hx.funV_mk (st := s_Ring_turned) l22 c22 k22 dt22
  have b22 : Binds K (PySem.W.fnOf "turned" "Ring.turned" (defArgs s_Ring_turned) (defBody s_Ring_turned) (defScope s_Ring_turned) (.ref dT22) kV22 dc22 pm22 an22 cd22 ct22) ["self", "by"] [] := fun s us X hl => F22.to X (match us, (by simp only [List.length_append, List.length_cons, List.length_nil] at hl; omega : us.length = 2) with | [_, _], _ => ⟨_, rfl, rfl⟩)
  have F23 := fun_mk (st := s_Ring_least_turn) l23 c23 k23
  have b23 := F23.binds (ps := ["self"]) fun _ _ _ _ _ _ us hl => match us, hl with | [_], _ => rfl
  have F24 := fun_mk (st := s_Ring_least) l24 c24 k24
  have b24 := F24.binds (ps := ["self"]) fun _ _ _ _ _ _ us hl => match us, hl with | [_], _ => rfl
  have F25 := fun_mk (st := s_Ring_root) l25 c25 k25
  have b25 := F25.binds (ps := ["self"]) fun _ _ _ _ _ _ us hl => match us, hl with | [_], _ => rfl
  have F26 := fun_mk (st := s_Ring_turn_to) l26 c26 k26
  have b26 := F26.binds (ps := ["self", "other"]) fun _ _ _ _ _ _ us hl => match us, hl with | [_, _], _ => rfl
  obtain ⟨C_NoRing, R_NoRing⟩ := rsB_ok rs_NoRing
  have FI_NoTurn := fun_mk (st := sI_NoTurn) xl_NoTurn xc_NoTurn xk_NoTurn
  have bI_NoTurn := FI_NoTurn.binds (ps := ["self", "one", "other"]) fun _ _ _ _ _ _ us hl => match us, hl with | [_, _, _], _ => rfl
  let T : ∀ base : Heap, Txt w K mg base := fun base => {
    C_Ring := C_Ring, gc_Ring := PySem.W.mg_of X G vg_Ring,
    f_is_whole := _, fd_is_whole := _, F_is_whole := F0, m_is_whole := PySem.W.mg_of X G a0, b_is_whole := b0,
    f_is_within := _, fd_is_within := _, F_is_within := F1, m_is_within := PySem.W.mg_of X G a1, b_is_within := b1,
    f_is_row := _, fd_is_row := _, F_is_row := F2, m_is_row := PySem.W.mg_of X G a2, b_is_row := b2,
    f_is_number_ring := _, fd_is_number_ring := _, F_is_number_ring := F3, m_is_number_ring := PySem.W.mg_of X G a3, b_is_number_ring := b3,
    f_shortest_part := _, fd_shortest_part := _, F_shortest_part := F4, m_shortest_part := PySem.W.mg_of X G a4, b_shortest_part := b4,
    f_is_word := _, fd_is_word := _, F_is_word := F5, m_is_word := PySem.W.mg_of X G a5, b_is_word := b5,
    f_law_urn := _, fd_law_urn := _, F_law_urn := F6, m_law_urn := PySem.W.mg_of X G a6, b_law_urn := b6,
    f_law_draw := _, fd_law_draw := _, F_law_draw := F7, m_law_draw := PySem.W.mg_of X G a7, b_law_draw := b7,
    f_law_which := _, fd_law_which := _, F_law_which := F8, m_law_which := PySem.W.mg_of X G a8, b_law_which := b8,
    f_law_ring := _, fd_law_ring := _, F_law_ring := F9, m_law_ring := PySem.W.mg_of X G a9, b_law_ring := b9,
    f_law_even_word := _, fd_law_even_word := _, F_law_even_word := F10, m_law_even_word := PySem.W.mg_of X G a10, b_law_even_word := b10,
    f_law_word := _, fd_law_word := _, F_law_word := F11, m_law_word := PySem.W.mg_of X G a11, b_law_word := b11,
    f_law_turned := _, fd_law_turned := _, F_law_turned := F12, m_law_turned := PySem.W.mg_of X G a12, b_law_turned := b12,
    f_law_root := _, fd_law_root := _, F_law_root := F13, m_law_root := PySem.W.mg_of X G a13, b_law_root := b13,
    f_law_turn := _, fd_law_turn := _, F_law_turn := F14, m_law_turn := PySem.W.mg_of X G a14, b_law_turn := b14,
    f_law_least_row := _, fd_law_least_row := _, F_law_least_row := F15, m_law_least_row := PySem.W.mg_of X G a15, b_law_least_row := b15,
    f_law_is_right := _, fd_law_is_right := _, F_law_is_right := F16, m_law_is_right := PySem.W.mg_of X G a16, b_law_is_right := b16,
    f_law_drawn := _, fd_law_drawn := _, F_law_drawn := F17, m_law_drawn := PySem.W.mg_of X G a17, b_law_drawn := b17,
    f_law_beside := _, fd_law_beside := _, F_law_beside := F18, m_law_beside := PySem.W.mg_of X G a18, b_law_beside := b18,
    f_law := _, fd_law := _, F_law := F19, m_law := PySem.W.mg_of X G a19, b_law := b19,
    f_Ring___init__ := _, fd_Ring___init__ := _, F_Ring___init__ := F20, cl_Ring := clB_ok vc_Ring, na_Ring := vn_Ring, b_Ring___init__ := b20,
    f_Ring_parts := _, fd_Ring_parts := _, F_Ring_parts := F21, M_Ring_parts := methB_ok vm21, b_Ring_parts := b21,
    f_Ring_turned := _, fd_Ring_turned := _, F_Ring_turned := F22, M_Ring_turned := methB_ok vm22, B_Ring_turned := bmB_ok vb22, T_Ring_turned := dT22, its_Ring_turned := #[.int 1 dk22_0], b_Ring_turned := b22,
    f_Ring_least_turn := _, fd_Ring_least_turn := _, F_Ring_least_turn := F23, M_Ring_least_turn := methB_ok vm23, b_Ring_least_turn := b23,
    f_Ring_least := _, fd_Ring_least := _, F_Ring_least := F24, M_Ring_least := methB_ok vm24, b_Ring_least := b24,
    f_Ring_root := _, fd_Ring_root := _, F_Ring_root := F25, M_Ring_root := methB_ok vm25, b_Ring_root := b25,
    f_Ring_turn_to := _, fd_Ring_turn_to := _, F_Ring_turn_to := F26, M_Ring_turn_to := methB_ok vm26, b_Ring_turn_to := b26,
    own := fun c hc => let ⟨Dn, h1, h2⟩ := glB_ok gl hc; ⟨Dn, PySem.W.mg_of X G h1, h2⟩, wf := fun n hn => ⟨(by decide +kernel : ∀ n ∈ rsX, n ∈ ownCls) n hn, whB_ok wh hn⟩,
    C_NoTurn := C_NoTurn, fI_NoTurn := fI_NoTurn, fdI_NoTurn := _, FI_NoTurn := FI_NoTurn, bI_NoTurn := bI_NoTurn, X_NoTurn := fxB_ok pass_LookupError (by decide +kernel) xf_NoTurn, gc_NoTurn := PySem.W.mg_of X G xg_NoTurn,
    C_NoRing := C_NoRing, R_NoRing := R_NoRing, gc_NoRing := PySem.W.mg_of X G R_NoRing.at_,
    zn_ArithmeticError := z_ArithmeticError,
    zn_IndexError := z_IndexError,
    zn_KeyError := z_KeyError,
    zn_LookupError := z_LookupError,
    zn_OverflowError := z_OverflowError,
    zn_RuntimeError := z_RuntimeError,
    zn_TypeError := z_TypeError,
    zn_ValueError := z_ValueError,
    zn_ZeroDivisionError := z_ZeroDivisionError,
    v_LETTERS := .str "ab",
    u_LETTERS := _,
    m_LETTERS := PySem.W.mg_of X G g_LETTERS,
    r_LETTERS := ⟨_, rfl⟩,
    k_LETTERS := fun _ _ => rfl,
    v_MOST_LETTERS := .int 60,
    u_MOST_LETTERS := _,
    m_MOST_LETTERS := PySem.W.mg_of X G g_MOST_LETTERS,
    r_MOST_LETTERS := ⟨_, rfl⟩,
    k_MOST_LETTERS := fun _ _ => rfl,
    v_MOST_NUMBER := .int 999999,
    u_MOST_NUMBER := _,
    m_MOST_NUMBER := PySem.W.mg_of X G g_MOST_NUMBER,
    r_MOST_NUMBER := ⟨_, rfl⟩,
    k_MOST_NUMBER := fun _ _ => rfl,
    v_MOST_RING := .int 40,
    u_MOST_RING := _,
    m_MOST_RING := PySem.W.mg_of X G g_MOST_RING,
    r_MOST_RING := ⟨_, rfl⟩,
    k_MOST_RING := fun _ _ => rfl,
    n_ArithmeticError := PySem.W.mg_none_of X G z_ArithmeticError,
    n_IndexError := PySem.W.mg_none_of X G z_IndexError,
    n_KeyError := PySem.W.mg_none_of X G z_KeyError,
    n_LookupError := PySem.W.mg_none_of X G z_LookupError,
    n_OverflowError := PySem.W.mg_none_of X G z_OverflowError,
    n_RuntimeError := PySem.W.mg_none_of X G z_RuntimeError,
    n_TypeError := PySem.W.mg_none_of X G z_TypeError,
    n_ValueError := PySem.W.mg_none_of X G z_ValueError,
    n_ZeroDivisionError := PySem.W.mg_none_of X G z_ZeroDivisionError,
    n_abs := PySem.W.mg_none_of X G z_abs,
    n_all := PySem.W.mg_none_of X G z_all,
    n_bool := PySem.W.mg_none_of X G z_bool,
    n_int := PySem.W.mg_none_of X G z_int,
    n_isinstance := PySem.W.mg_none_of X G z_isinstance,
    n_len := PySem.W.mg_none_of X G z_len,
    n_max := PySem.W.mg_none_of X G z_max,
    n_min := PySem.W.mg_none_of X G z_min,
    n_range := PySem.W.mg_none_of X G z_range,
    n_repr := PySem.W.mg_none_of X G z_repr,
    n_str := PySem.W.mg_none_of X G z_str,
    n_tuple := PySem.W.mg_none_of X G z_tuple
  }
  exact ⟨(PySem.W.fnOf "law" "law" (defArgs s_law) (defBody s_law) (defScope s_law) .none kV19 dc19 pm19 an19 cd19 ct19), [], upF K spLawD, (fun _ h => nomatch h), (fun _ h => nomatch h), (fun _ h => nomatch h), fun s v => .of_eq rfl, fun H a ns hl _ _ hS => law_start hS hl, fun base _ _ _ => ok_law (T base)⟩

end K14
open PySem PySem.W PyProof.Rows
set_option maxRecDepth 100000 in
set_option maxHeartbeats 0 in
theorem PySem.Challenge.cw_nearthrees_k14_roots_of_rings_and_turns_holds : PySem.Challenge.rw_nearthrees_k14_roots_of_rings_and_turns.Holds := by
  w_on; o_law; k_head; (case hw => w_witness2)
  k_fill
  refine Hx.lawG_end (l := PySem.Challenge.rw_nearthrees_k14_roots_of_rings_and_turns) (n := 63) (k := 8) (x := "_law_script") (CX := fun w => L2N.CX (PySem.Challenge.rw_nearthrees_k14_roots_of_rings_and_turns).prog w) rfl (by decide) rfl ⟨⟨rfl, by decide, by decide⟩, rfl⟩ (fun w h Y => PySem.W.kIn_of Y) ?F fun _ _ _ _ _ z => Dv.CX_no z
  case F =>
    intro w mg fa h Y KX G hmg
    refine' K14.all_mk KX G hmg ?vg_Ring ?a0 ?l0 ?c0 ?k0 ?a1 ?l1 ?c1 ?k1 ?a2 ?l2 ?c2 ?k2 ?a3 ?l3 ?c3 ?k3 ?a4 ?l4 ?c4 ?k4 ?a5 ?l5 ?c5 ?k5 ?a6 ?l6 ?c6 ?k6 ?a7 ?l7 ?c7 ?k7 ?a8 ?l8 ?c8 ?k8 ?a9 ?l9 ?c9 ?k9 ?a10 ?l10 ?c10 ?k10 ?a11 ?l11 ?c11 ?k11 ?a12 ?l12 ?c12 ?k12 ?a13 ?l13 ?c13 ?k13 ?a14 ?l14 ?c14 ?k14 ?a15 ?l15 ?c15 ?k15 ?a16 ?l16 ?c16 ?k16 ?a17 ?l17 ?c17 ?k17 ?a18 ?l18 ?c18 ?k18 ?a19 ?l19 ?c19 ?k19 ?a20 ?l20 ?c20 ?k20 ?vc_Ring ?vn_Ring ?a21 ?l21 ?c21 ?k21 ?vm21 ?a22 ?l22 ?dt22 ?c22 ?k22 ?vm22 ?vb22 ?a23 ?l23 ?c23 ?k23 ?vm23 ?a24 ?l24 ?c24 ?k24 ?vm24 ?a25 ?l25 ?c25 ?k25 ?vm25 ?a26 ?l26 ?c26 ?k26 ?vm26 ?gl ?wh ?xg_NoTurn ?xi_NoTurn ?xl_NoTurn ?xc_NoTurn ?xk_NoTurn ?xf_NoTurn ?rs_NoRing ?g_LETTERS ?g_MOST_LETTERS ?g_MOST_NUMBER ?g_MOST_RING ?z_ArithmeticError ?z_IndexError ?z_KeyError ?z_LookupError ?z_OverflowError ?z_RuntimeError ?z_TypeError ?z_ValueError ?z_ZeroDivisionError ?z_abs ?z_all ?z_bool ?z_int ?z_isinstance ?z_len ?z_max ?z_min ?z_range ?z_repr ?z_str ?z_tuple
    (case vg_Ring => k_is)
    (case a0 => k_is)
    (case l0 => k_is)
    (case c0 => k_is)
    (case k0 => k_is)
    (case a1 => k_is)
    (case l1 => k_is)
    (case c1 => k_is)
    (case k1 => k_is)
    (case a2 => k_is)
    (case l2 => k_is)
    (case c2 => k_is)
    (case k2 => k_is)
    (case a3 => k_is)
    (case l3 => k_is)
    (case c3 => k_is)
    (case k3 => k_is)
    (case a4 => k_is)
    (case l4 => k_is)
    (case c4 => k_is)
    (case k4 => k_is)
    (case a5 => k_is)
    (case l5 => k_is)
    (case c5 => k_is)
    (case k5 => k_is)
    (case a6 => k_is)
    (case l6 => k_is)
    (case c6 => k_is)
    (case k6 => k_is)
    (case a7 => k_is)
    (case l7 => k_is)
    (case c7 => k_is)
    (case k7 => k_is)
    (case a8 => k_is)
    (case l8 => k_is)
    (case c8 => k_is)
    (case k8 => k_is)
    (case a9 => k_is)
    (case l9 => k_is)
    (case c9 => k_is)
    (case k9 => k_is)
    (case a10 => k_is)
    (case l10 => k_is)
    (case c10 => k_is)
    (case k10 => k_is)
    (case a11 => k_is)
    (case l11 => k_is)
    (case c11 => k_is)
    (case k11 => k_is)
    (case a12 => k_is)
    (case l12 => k_is)
    (case c12 => k_is)
    (case k12 => k_is)
    (case a13 => k_is)
    (case l13 => k_is)
    (case c13 => k_is)
    (case k13 => k_is)
    (case a14 => k_is)
    (case l14 => k_is)
    (case c14 => k_is)
    (case k14 => k_is)
    (case a15 => k_is)
    (case l15 => k_is)
    (case c15 => k_is)
    (case k15 => k_is)
    (case a16 => k_is)
    (case l16 => k_is)
    (case c16 => k_is)
    (case k16 => k_is)
    (case a17 => k_is)
    (case l17 => k_is)
    (case c17 => k_is)
    (case k17 => k_is)
    (case a18 => k_is)
    (case l18 => k_is)
    (case c18 => k_is)
    (case k18 => k_is)
    (case a19 => k_is)
    (case l19 => k_is)
    (case c19 => k_is)
    (case k19 => k_is)
    (case a20 => k_is)
    (case l20 => k_is)
    (case c20 => k_is)
    (case k20 => k_is)
    (case vc_Ring => kernel_rfl)
    (case vn_Ring => kernel_rfl)
    (case a21 => k_is)
    (case l21 => k_is)
    (case c21 => k_is)
    (case k21 => k_is)
    (case vm21 => kernel_rfl)
    (case a22 => k_is)
    (case l22 => k_is)
    (case dt22 => k_is)
    (case c22 => k_is)
    (case k22 => k_is)
    (case vm22 => kernel_rfl)
    (case vb22 => kernel_rfl)
    (case a23 => k_is)
    (case l23 => k_is)
    (case c23 => k_is)
    (case k23 => k_is)
    (case vm23 => kernel_rfl)
    (case a24 => k_is)
    (case l24 => k_is)
    (case c24 => k_is)
    (case k24 => k_is)
    (case vm24 => kernel_rfl)
    (case a25 => k_is)
    (case l25 => k_is)
    (case c25 => k_is)
    (case k25 => k_is)
    (case vm25 => kernel_rfl)
    (case a26 => k_is)
    (case l26 => k_is)
    (case c26 => k_is)
    (case k26 => k_is)
    (case vm26 => kernel_rfl)
    (case gl => kernel_rfl)
    (case wh => kernel_rfl)
    (case xg_NoTurn => k_is)
    (case xi_NoTurn => k_is)
    (case xl_NoTurn => k_is)
    (case xc_NoTurn => k_is)
    (case xk_NoTurn => k_is)
    (case xf_NoTurn => kernel_rfl)
    (case rs_NoRing => kernel_rfl)
    (case g_LETTERS => k_is)
    (case g_MOST_LETTERS => k_is)
    (case g_MOST_NUMBER => k_is)
    (case g_MOST_RING => k_is)
    (case z_ArithmeticError => k_is)
    (case z_IndexError => k_is)
    (case z_KeyError => k_is)
    (case z_LookupError => k_is)
    (case z_OverflowError => k_is)
    (case z_RuntimeError => k_is)
    (case z_TypeError => k_is)
    (case z_ValueError => k_is)
    (case z_ZeroDivisionError => k_is)
    (case z_abs => k_is)
    (case z_all => k_is)
    (case z_bool => k_is)
    (case z_int => k_is)
    (case z_isinstance => k_is)
    (case z_len => k_is)
    (case z_max => k_is)
    (case z_min => k_is)
    (case z_range => k_is)
    (case z_repr => k_is)
    (case z_str => k_is)
    (case z_tuple => k_is)
#print axioms PySem.Challenge.cw_nearthrees_k14_roots_of_rings_and_turns_holds
